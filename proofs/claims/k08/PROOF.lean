import PyProof.Rows.All
import Wide.All
import OpenK.AllK
import Wide.FinOn
import HandS.ForMost
import HandS.ForExc
import HandS.IsInst
import HandS.Defaults
import HandS.MakeKw
import HandS.MakeKwOnly
import HandS.Star
import HandS.Zip
import HandS.Flow
import HandS.CallSlots
import HandS.HeadHook1
import HandS.TupAny
import HandS.Wide
import HandS.Style
import HandS.Conv
import HandS.Deep
import PyProof.InstNe
import HandS.OwnEq
import KE.GoesEnum
import KE.KStateDown
import HandS.Words
import HandS.WordsExc
import HandS.Ends
import HandS.More
import HandS.Head0
import HandS.Head1
import HandS.Head2
import HandS.HeadEnd
import HandS.HeadHook2
import HandS.HeadHook4
import HandS.DictTup
import HandS.TupLen
import KE.KDictWalk
import KE.KDictPairs
import KE.KDictZip
import KE.KDictCopyH
import KE.KDictItemsList
import HandS.DictEq
import KE.KOpsOwn
import PyProof.Rows.FactsB_mul
import HandS.Text
import PySem.Challenge.RW_blockshares_k08_whole_sums_of_freed
set_option Elab.async false
set_option linter.all false
section
set_option maxRecDepth 100000
set_option maxHeartbeats 2000000
/-! The data layer, part 1: plain data, its representation in HandS's abstract heap, results, soundness of readings. -/
namespace DL
open PySem L2

/-- plain data -/
inductive D where
  | non | bl (b : Bool) | int (i : Int) | str (x : Str) | ty (n : String)
  | glo (x : Str)
  | lst (xs : List D) | tup (xs : List D) | slst (xs : List D) | stup (xs : List D)
  | dK (kvs : List (Key × D)) | dT (kvs : List (List Key × D))
  | ins (c : Str) (fs : List (Str × D))
  | mref (i : Nat)
/-- a mutable thing -/
inductive MO where
  | lst (xs : List D) | dK (kvs : List (Key × D)) | dT (kvs : List (List Key × D)) | ins (c : Str) (fs : List (Str × D))
  | lkL (xs : List D) | lkK (kvs : List (Key × D)) | lkT (kvs : List (List Key × D)) | gone
abbrev Mem := List MO
structure Exn where
  c : Str
  att : List (Str × D)
inductive Res (α : Type) where
  | ok (a : α) (m : Mem) | exc (x : Exn) (m : Mem) | bad
def Res.bind {α β : Type} : Res α → (α → Mem → Res β) → Res β
  | .ok a m, f => f a m
  | .exc x m, _ => .exc x m
  | .bad, _ => .bad
@[simp] theorem bind_ok {α β : Type} (a : α) (m : Mem) (f : α → Mem → Res β) : (Res.ok a m).bind f = f a m := rfl
@[simp] theorem bind_exc {α β : Type} (x : Exn) (m : Mem) (f : α → Mem → Res β) : (Res.exc x m : Res α).bind f = .exc x m := rfl
@[simp] theorem bind_bad {α β : Type} (f : α → Mem → Res β) : (Res.bad : Res α).bind f = .bad := rfl
abbrev EnvD := List (Option D)
abbrev FE := EnvD → Mem → Res D
abbrev FT := EnvD → Mem → Res Bool
abbrev FA := EnvD → Mem → Res (List D)

/-! ### representation -/
structure Gh where
  H : Hp
  F : Hp
  al : Nat → Addr

/-- a tuple: a frozen one -/
def TupA (K : PySem.W.Frag) (F : Hp) (a : Addr) (vs : List V) : Prop := F a = some (.tup vs)
mutual
inductive Is (K : PySem.W.Frag) (F : Hp) (al : Nat → Addr) (n : Nat) : V → D → Prop
  | non : Is K F al n .non .non
  | bl (b : Bool) : Is K F al n (.bl b) (.bl b)
  | int (i : Int) : Is K F al n (.int i) (.int i)
  | str (x : Str) : Is K F al n (.str x) (.str x)
  | ty (x : String) : Is K F al n (.ty x) (.ty x)
  | glo (x : Str) : Is K F al n (.ref (He.ga K x)) (.glo x)
  | lst {a : Addr} {vs : List V} {ds : List D} : F a = some (.lst vs) → vs.length ≤ sizeLine → IsL K F al n vs ds → Is K F al n (.ref a) (.lst ds)
  | slst {a : Addr} {vs : List V} {ds : List D} : SqL K F a vs → vs.length ≤ sizeLine → IsL K F al n vs ds → Is K F al n (.ref a) (.slst ds)
  | tup {a : Addr} {vs : List V} {ds : List D} : TupA K F a vs → vs.length ≤ sizeLine → IsL K F al n vs ds → Is K F al n (.ref a) (.tup ds)
  | stup {a : Addr} {vs : List V} {ds : List D} : SqT K (fun _ => none) a vs → vs.length ≤ sizeLine → IsL K F al n vs ds → Is K F al n (.ref a) (.stup ds)
  | dK {a : Addr} {vs : List (Key × V)} {ds : List (Key × D)} : F a = some (.dK vs) → vs.map (·.1) = ds.map (·.1) → IsL K F al n (vs.map (·.2)) (ds.map (·.2)) → Is K F al n (.ref a) (.dK ds)
  | dT {a : Addr} {vs : List (List Key × V)} {ds : List (List Key × D)} : F a = some (.dT vs) → vs.map (·.1) = ds.map (·.1) → IsL K F al n (vs.map (·.2)) (ds.map (·.2)) → Is K F al n (.ref a) (.dT ds)
  | ins {a dx : Addr} {c : Str} {vs : List (Str × V)} {ds : List (Str × D)} : F a = some (.ins (He.ga K c) dx vs) → vs.map (·.1) = ds.map (·.1) → IsL K F al n (vs.map (·.2)) (ds.map (·.2)) → Is K F al n (.ref a) (.ins c ds)
  | mref {i : Nat} : i < n → Is K F al n (.ref (al i)) (.mref i)
inductive IsL (K : PySem.W.Frag) (F : Hp) (al : Nat → Addr) (n : Nat) : List V → List D → Prop
  | nil : IsL K F al n [] []
  | cons {v : V} {d : D} {vs : List V} {ds : List D} : Is K F al n v d → IsL K F al n vs ds → IsL K F al n (v :: vs) (d :: ds)
end

theorem sqL_mono {K : PySem.W.Frag} {F F' : Hp} {a : Addr} {xs : List V} (e : ∀ b o, F b = some o → F' b = some o) (h : SqL K F a xs) : SqL K F' a xs := by
  rcases h with (h | ⟨o, h⟩) | h
  · exact .inl (.inl (e _ _ h))
  · exact .inl (.inr ⟨o, e _ _ h⟩)
  · exact .inr h
theorem sqT_mono {K : PySem.W.Frag} {F F' : Hp} {a : Addr} {xs : List V} (e : ∀ b o, F b = some o → F' b = some o) (h : SqT K F a xs) : SqT K F' a xs := by
  rcases h with (h | ⟨o, h⟩) | h
  · exact .inl (.inl (e _ _ h))
  · exact .inl (.inr ⟨o, e _ _ h⟩)
  · exact .inr h
section
variable {K : PySem.W.Frag} {F F' : Hp} {al al' : Nat → Addr} {n n' : Nat}
mutual
theorem Is.mono (e : ∀ b o, F b = some o → F' b = some o) (ea : ∀ i, i < n → al' i = al i) (hn : n ≤ n') : ∀ {v : V} {d : D}, Is K F al n v d → Is K F' al' n' v d
  | _, _, .non => .non
  | _, _, .bl b => .bl b
  | _, _, .int i => .int i
  | _, _, .str x => .str x
  | _, _, .ty x => .ty x
  | _, _, .glo x => .glo x
  | _, _, .lst s z l => .lst (e _ _ s) z (IsL.mono e ea hn l)
  | _, _, .slst s z l => .slst (sqL_mono e s) z (IsL.mono e ea hn l)
  | _, _, .tup s z l => .tup (e _ _ s) z (IsL.mono e ea hn l)
  | _, _, .stup s z l => .stup s z (IsL.mono e ea hn l)
  | _, _, .dK s k l => .dK (e _ _ s) k (IsL.mono e ea hn l)
  | _, _, .dT s k l => .dT (e _ _ s) k (IsL.mono e ea hn l)
  | _, _, .ins s k l => .ins (e _ _ s) k (IsL.mono e ea hn l)
  | _, _, .mref (i := i) h => by rw [← ea i h]; exact .mref (Nat.lt_of_lt_of_le h hn)
theorem IsL.mono (e : ∀ b o, F b = some o → F' b = some o) (ea : ∀ i, i < n → al' i = al i) (hn : n ≤ n') : ∀ {vs : List V} {ds : List D}, IsL K F al n vs ds → IsL K F' al' n' vs ds
  | _, _, .nil => .nil
  | _, _, .cons h t => .cons (Is.mono e ea hn h) (IsL.mono e ea hn t)
end
theorem IsL.length : ∀ {vs : List V} {ds : List D}, IsL K F al n vs ds → vs.length = ds.length
  | _, _, .nil => rfl
  | _, _, .cons _ t => congrArg (· + 1) (IsL.length t)
theorem IsL.get : ∀ {vs : List V} {ds : List D} {i : Nat} {d : D}, IsL K F al n vs ds → ds[i]? = some d → ∃ v, vs[i]? = some v ∧ Is K F al n v d
  | _, _, _, _, .nil, e => by simp at e
  | _, _, 0, _, .cons h _, e => by simp at e; subst e; exact ⟨_, rfl, h⟩
  | _, _, i + 1, d, .cons _ t, e => by
    obtain ⟨v, h1, h2⟩ := IsL.get (i := i) (d := d) t (by simpa using e)
    exact ⟨v, by simpa using h1, h2⟩
theorem IsL.getV : ∀ {vs : List V} {ds : List D} {i : Nat} {v : V}, IsL K F al n vs ds → vs[i]? = some v → ∃ d, ds[i]? = some d ∧ Is K F al n v d
  | _, _, _, _, .nil, e => by simp at e
  | _, _, 0, _, .cons h _, e => by simp at e; subst e; exact ⟨_, rfl, h⟩
  | _, _, i + 1, v, .cons _ t, e => by
    obtain ⟨d, h1, h2⟩ := IsL.getV (i := i) (v := v) t (by simpa using e)
    exact ⟨d, by simpa using h1, h2⟩
theorem IsL.append : ∀ {vs ws : List V} {ds es : List D}, IsL K F al n vs ds → IsL K F al n ws es → IsL K F al n (vs ++ ws) (ds ++ es)
  | _, _, _, _, .nil, s => s
  | _, _, _, _, .cons h t, s => .cons h (IsL.append t s)
theorem IsL.take : ∀ {vs : List V} {ds : List D} (k : Nat), IsL K F al n vs ds → IsL K F al n (vs.take k) (ds.take k)
  | _, _, 0, _ => .nil
  | _, _, _ + 1, .nil => .nil
  | _, _, k + 1, .cons h t => .cons h (IsL.take k t)
theorem IsL.drop : ∀ {vs : List V} {ds : List D} (k : Nat), IsL K F al n vs ds → IsL K F al n (vs.drop k) (ds.drop k)
  | _, _, 0, h => h
  | _, _, _ + 1, .nil => .nil
  | _, _, k + 1, .cons _ t => IsL.drop k t
theorem IsL.set : ∀ {vs : List V} {ds : List D} {v : V} {d : D} (k : Nat), IsL K F al n vs ds → Is K F al n v d → IsL K F al n (vs.set k v) (ds.set k d)
  | _, _, _, _, _, .nil, _ => .nil
  | _, _, _, _, 0, .cons _ t, h => .cons h t
  | _, _, _, _, k + 1, .cons a t, h => .cons a (IsL.set k t h)
theorem IsL.eraseIdx : ∀ {vs : List V} {ds : List D} (k : Nat), IsL K F al n vs ds → IsL K F al n (vs.eraseIdx k) (ds.eraseIdx k)
  | _, _, _, .nil => .nil
  | _, _, 0, .cons _ t => t
  | _, _, k + 1, .cons a t => .cons a (IsL.eraseIdx k t)
theorem IsL.reverse {vs : List V} {ds : List D} (h : IsL K F al n vs ds) : IsL K F al n vs.reverse ds.reverse := by
  have go : ∀ {vs ws : List V} {ds es : List D}, IsL K F al n vs ds → IsL K F al n ws es → IsL K F al n (vs.reverseAux ws) (ds.reverseAux es) := by
    intro vs
    induction vs with
    | nil => intro ws ds es h g; cases h; exact g
    | cons v vs ih => intro ws ds es h g; cases h with | cons a t => (have q := ih t (IsL.cons a g); exact q)
  exact go h .nil
end

/-! ### the state -/
def Live (m : Mem) (i : Nat) : Prop := ∃ o, m[i]? = some o ∧ o ≠ .gone
def MOk (K : PySem.W.Frag) (g : Gh) (n : Nat) (a : Addr) : MO → Prop
  | .lst ds => g.F a = none ∧ ∃ vs, g.H a = some (.lst vs) ∧ vs.length ≤ sizeLine ∧ IsL K g.F g.al n vs ds
  | .lkL ds => g.F a = none ∧ ∃ vs, g.H a = some (.lst vs) ∧ vs.length ≤ sizeLine ∧ IsL K g.F g.al n vs ds
  | .dK ds => g.F a = none ∧ ∃ vs : List (Key × V), g.H a = some (.dK vs) ∧ vs.map (·.1) = ds.map (·.1) ∧ IsL K g.F g.al n (vs.map (·.2)) (ds.map (·.2))
  | .dT ds => g.F a = none ∧ ∃ vs : List (List Key × V), g.H a = some (.dT vs) ∧ vs.map (·.1) = ds.map (·.1) ∧ IsL K g.F g.al n (vs.map (·.2)) (ds.map (·.2))
  | .lkK ds => g.F a = none ∧ ∃ (o : Obj) (vs : List (Key × V)), g.H a = some (.frz o (.dK vs)) ∧ vs.map (·.1) = ds.map (·.1) ∧ IsL K g.F g.al n (vs.map (·.2)) (ds.map (·.2))
  | .lkT ds => g.F a = none ∧ ∃ (o : Obj) (vs : List (List Key × V)), g.H a = some (.frz o (.dT vs)) ∧ vs.map (·.1) = ds.map (·.1) ∧ IsL K g.F g.al n (vs.map (·.2)) (ds.map (·.2))
  | .ins c ds => g.F a = none ∧ ∃ (dx : Addr) (vs : List (Str × V)), g.H a = some (.ins (He.ga K c) dx vs) ∧ vs.map (·.1) = ds.map (·.1) ∧ IsL K g.F g.al n (vs.map (·.2)) (ds.map (·.2))
  | .gone => True
def isDic : HO → Prop
  | .dK _ => True
  | .dT _ => True
  | _ => False
structure Rep (K : PySem.W.Frag) (g : Gh) (m : Mem) : Prop where
  sub : ∀ b o, g.F b = some o → g.H b = some o ∨ (isDic o ∧ ∃ ob, g.H b = some (.frz ob o))
  mem : ∀ (i : Nat) (o : MO), m[i]? = some o → MOk K g m.length (g.al i) o
  inj : ∀ i j, Live m i → Live m j → g.al i = g.al j → i = j
/-- locked while it is walked: it cannot change -/
def isLk : MO → Bool
  | .lkL _ => true
  | .lkK _ => true
  | .lkT _ => true
  | _ => false
/-- no tuple -/
def nT (o : HO) : Prop := ∀ vs, o ≠ .tup vs
structure Le (g : Gh) (m : Mem) (g' : Gh) (m' : Mem) : Prop where
  F : ∀ b o, g.F b = some o → g'.F b = some o
  n : m.length ≤ m'.length
  al : ∀ i, i < m.length → g'.al i = g.al i
  oth : ∀ b o, g.H b = some o → nT o → g.F b = none → (∀ i, Live m i → g.al i ≠ b) → g'.H b = some o ∧ g'.F b = none ∧ ∀ i, Live m' i → g'.al i ≠ b
  frz : ∀ b o u, g.H b = some (.frz o u) → g'.H b = some (.frz o u)
  lk : ∀ (i : Nat) (o : MO), m[i]? = some o → isLk o = true → m'[i]? = some o
theorem Le.refl (g : Gh) (m : Mem) : Le g m g m := ⟨fun _ _ h => h, Nat.le_refl _, fun _ _ => rfl, fun _ _ h _ f l => ⟨h, f, l⟩, fun _ _ _ h => h, fun _ _ h _ => h⟩
theorem Le.trans {g g1 g2 : Gh} {m m1 m2 : Mem} (a : Le g m g1 m1) (b : Le g1 m1 g2 m2) : Le g m g2 m2 where
  F := fun x o h => b.F x o (a.F x o h)
  n := Nat.le_trans a.n b.n
  al := fun i h => (b.al i (Nat.lt_of_lt_of_le h a.n)).trans (a.al i h)
  oth := fun x o h n f l => let ⟨h1, f1, l1⟩ := a.oth x o h n f l; b.oth x o h1 n f1 l1
  frz := fun x o u h => b.frz x o u (a.frz x o u h)
  lk := fun i o h k => b.lk i o (a.lk i o h k) k
/-- the same without what is said of objects in nobody's hands -/
structure Lw (g : Gh) (m : Mem) (g' : Gh) (m' : Mem) : Prop where
  F : ∀ b o, g.F b = some o → g'.F b = some o
  n : m.length ≤ m'.length
  al : ∀ i, i < m.length → g'.al i = g.al i
  frz : ∀ b o u, g.H b = some (.frz o u) → g'.H b = some (.frz o u)
  lk : ∀ (i : Nat) (o : MO), m[i]? = some o → isLk o = true → m'[i]? = some o
theorem Le.w {g g' : Gh} {m m' : Mem} (l : Le g m g' m') : Lw g m g' m' := ⟨l.F, l.n, l.al, l.frz, l.lk⟩
theorem Lw.refl (g : Gh) (m : Mem) : Lw g m g m := (Le.refl g m).w
theorem Lw.trans {g g1 g2 : Gh} {m m1 m2 : Mem} (a : Lw g m g1 m1) (b : Lw g1 m1 g2 m2) : Lw g m g2 m2 where
  F := fun x o h => b.F x o (a.F x o h)
  n := Nat.le_trans a.n b.n
  al := fun i h => (b.al i (Nat.lt_of_lt_of_le h a.n)).trans (a.al i h)
  frz := fun x o u h => b.frz x o u (a.frz x o u h)
  lk := fun i o h k => b.lk i o (a.lk i o h k) k
abbrev IsG (K : PySem.W.Frag) (g : Gh) (m : Mem) : V → D → Prop := Is K g.F g.al m.length
abbrev IsGL (K : PySem.W.Frag) (g : Gh) (m : Mem) : List V → List D → Prop := IsL K g.F g.al m.length
theorem Is.le {K : PySem.W.Frag} {g g' : Gh} {m m' : Mem} {v : V} {d : D} (h : IsG K g m v d) (l : Le g m g' m') : IsG K g' m' v d := Is.mono l.F l.al l.n h
theorem IsL.le {K : PySem.W.Frag} {g g' : Gh} {m m' : Mem} {v : List V} {d : List D} (h : IsGL K g m v d) (l : Le g m g' m') : IsGL K g' m' v d := IsL.mono l.F l.al l.n h

theorem Is.lw {K : PySem.W.Frag} {g g' : Gh} {m m' : Mem} {v : V} {d : D} (h : IsG K g m v d) (l : Lw g m g' m') : IsG K g' m' v d := Is.mono l.F l.al l.n h
theorem IsL.lw {K : PySem.W.Frag} {g g' : Gh} {m m' : Mem} {v : List V} {d : List D} (h : IsGL K g m v d) (l : Lw g m g' m') : IsGL K g' m' v d := IsL.mono l.F l.al l.n h
structure EnvOk (K : PySem.W.Frag) (g : Gh) (m : Mem) (σ : St) (ρ : EnvD) : Prop where
  len : σ.length = ρ.length
  at_ : ∀ (i : Nat) (d : D), ρ[i]? = some (some d) → ∃ v, σ[i]? = some (some v) ∧ IsG K g m v d
theorem EnvOk.le {K : PySem.W.Frag} {g g' : Gh} {m m' : Mem} {σ : St} {ρ : EnvD} (h : EnvOk K g m σ ρ) (l : Le g m g' m') : EnvOk K g' m' σ ρ :=
  ⟨h.len, fun i d e => let ⟨v, h1, h2⟩ := h.at_ i d e; ⟨v, h1, h2.le l⟩⟩
theorem EnvOk.lw {K : PySem.W.Frag} {g g' : Gh} {m m' : Mem} {σ : St} {ρ : EnvD} (h : EnvOk K g m σ ρ) (l : Lw g m g' m') : EnvOk K g' m' σ ρ :=
  ⟨h.len, fun i d e => let ⟨v, h1, h2⟩ := h.at_ i d e; ⟨v, h1, h2.lw l⟩⟩
theorem EnvOk.set {K : PySem.W.Frag} {g : Gh} {m : Mem} {σ : St} {ρ : EnvD} (h : EnvOk K g m σ ρ) (i : Nat) {v : V} {d : D} (iv : IsG K g m v d) : EnvOk K g m (σ.set i (some v)) (ρ.set i (some d)) := by
  refine ⟨by rw [List.length_set, List.length_set, h.len], fun j e q => ?_⟩
  by_cases hj : i = j
  · subst hj
    by_cases hl : i < ρ.length
    · rw [List.getElem?_set_self hl] at q
      cases q
      exact ⟨v, List.getElem?_set_self (by rw [h.len]; exact hl), iv⟩
    · rw [List.getElem?_eq_none (by simpa using Nat.le_of_not_lt hl)] at q
      cases q
  · rw [List.getElem?_set_ne hj] at q ⊢
    exact h.at_ j e q
theorem EnvOk.unset {K : PySem.W.Frag} {g : Gh} {m : Mem} {σ : St} {ρ : EnvD} (h : EnvOk K g m σ ρ) (i : Nat) : EnvOk K g m (σ.set i none) (ρ.set i none) := by
  refine ⟨by rw [List.length_set, List.length_set, h.len], fun j e q => ?_⟩
  by_cases hj : i = j
  · subst hj
    by_cases hl : i < ρ.length
    · rw [List.getElem?_set_self hl] at q
      cases q
    · rw [List.getElem?_eq_none (by simpa using Nat.le_of_not_lt hl)] at q
      cases q
  · rw [List.getElem?_set_ne hj] at q ⊢
    exact h.at_ j e q

/-! ### an exception, as it flies -/
def IsX (K : PySem.W.Frag) (g : Gh) (m : Mem) (cls : Value) (dc : Option Addr) (x : Exn) : Prop :=
  cls = .ref (He.ga K x.c) ∧ (x.att = [] ∨ ∃ d vs, dc = some d ∧ g.F d = some (.xd vs) ∧ vs.map (·.1) = x.att.map (·.1) ∧ IsGL K g m (vs.map (·.2)) (x.att.map (·.2)))
theorem IsX.le {K : PySem.W.Frag} {g g' : Gh} {m m' : Mem} {cls : Value} {dc : Option Addr} {x : Exn} (h : IsX K g m cls dc x) (l : Le g m g' m') : IsX K g' m' cls dc x :=
  ⟨h.1, h.2.imp id fun ⟨d, vs, h1, h2, h3, h4⟩ => ⟨d, vs, h1, l.F _ _ h2, h3, h4.le l⟩⟩

/-! ### what is wanted of a result -/
def Pre {A B : Type} (R : Gh → Mem → A → B → Prop) (K : PySem.W.Frag) (W : WX) (σ : St) (g : Gh) (m : Mem) (Q : A → Hp → Prop) : Res B → Prop
  | .ok b m' => ∀ g' a, Rep K g' m' → Le g m g' m' → R g' m' a b → Q a g'.H
  | .exc x m' => ∀ g' cls dc, Rep K g' m' → Le g m g' m' → IsX K g' m' cls dc x → W cls dc σ g'.H
  | .bad => False
theorem Pre.le {A B : Type} {R : Gh → Mem → A → B → Prop} {K : PySem.W.Frag} {W : WX} {σ : St} {g g1 : Gh} {m m1 : Mem} {Q : A → Hp → Prop} : ∀ {r : Res B}, Pre R K W σ g m Q r → Le g m g1 m1 → Pre R K W σ g1 m1 Q r
  | .ok _ _, h, l => fun g' a rp l' ra => h g' a rp (l.trans l') ra
  | .exc _ _, h, l => fun g' c d rp l' x => h g' c d rp (l.trans l') x
  | .bad, h, _ => h
theorem pre_bind {A B A2 B2 : Type} {R : Gh → Mem → A → B → Prop} {R2 : Gh → Mem → A2 → B2 → Prop} {K : PySem.W.Frag} {W : WX} {σ : St} {g : Gh} {m : Mem} {Q : A2 → Hp → Prop} {Q1 : A → Hp → Prop} {r : Res B} {k : B → Mem → Res B2}
    (h : Pre R2 K W σ g m Q (r.bind k)) (hk : ∀ g1 m1 a b, Rep K g1 m1 → Le g m g1 m1 → R g1 m1 a b → Pre R2 K W σ g1 m1 Q (k b m1) → Q1 a g1.H) : Pre R K W σ g m Q1 r := by
  cases r with
  | ok b m1 => exact fun g1 a rp l ra => hk g1 m1 a b rp l ra (Pre.le h l)
  | exc x m1 => exact h
  | bad => exact h
theorem pre_ok {A B : Type} {R : Gh → Mem → A → B → Prop} {K : PySem.W.Frag} {W : WX} {σ : St} {g g' : Gh} {m m' : Mem} {Q : A → Hp → Prop} {a : A} {b : B} (h : Pre R K W σ g m Q (.ok b m')) (rp : Rep K g' m') (l : Le g m g' m') (ra : R g' m' a b) : Q a g'.H := h g' a rp l ra

abbrev RE (K : PySem.W.Frag) : Gh → Mem → V → D → Prop := IsG K
abbrev RA (K : PySem.W.Frag) : Gh → Mem → List V → List D → Prop := IsGL K
abbrev RB : Gh → Mem → Bool → Bool → Prop := fun _ _ a b => a = b
/-- a reading is served by a function of data -/
def SdE (K : PySem.W.Frag) (W : WX) (t : TE) (f : FE) : Prop := ∀ g m σ ρ Q, Rep K g m → EnvOk K g m σ ρ → Pre (RE K) K W σ g m Q (f ρ m) → t σ g.H Q
def SdA (K : PySem.W.Frag) (W : WX) (t : TA) (f : FA) : Prop := ∀ g m σ ρ Q, Rep K g m → EnvOk K g m σ ρ → Pre (RA K) K W σ g m Q (f ρ m) → t σ g.H Q
def SdT (K : PySem.W.Frag) (W : WX) (t : TT) (f : FT) : Prop := ∀ g m σ ρ Q, Rep K g m → EnvOk K g m σ ρ → Pre RB K W σ g m Q (f ρ m) → t σ g.H Q
structure PD (X : Cx) (W : WX) (e : Expr) (f : FE) : Prop where
  ex : ∃ t, PE X e t ∧ SdE X.K W t f
structure PDA (X : Cx) (W : WX) (e : List Expr) (f : FA) : Prop where
  ex : ∃ t, PA X e t ∧ SdA X.K W t f
structure PDT (X : Cx) (W : WX) (e : Expr) (f : FT) : Prop where
  ex : ∃ t, PT X e t ∧ SdT X.K W t f
end DL
end
section
set_option maxRecDepth 100000
set_option maxHeartbeats 2000000
/-! The data layer, part 2: how the state grows and changes. -/
namespace DL
open PySem L2

/-! ### data that speaks of the first n mutable things alone -/
mutual
inductive Bel (n : Nat) : D → Prop
  | non : Bel n .non
  | bl (b : Bool) : Bel n (.bl b)
  | int (i : Int) : Bel n (.int i)
  | str (x : Str) : Bel n (.str x)
  | ty (x : String) : Bel n (.ty x)
  | glo (x : Str) : Bel n (.glo x)
  | lst {ds : List D} : BelL n ds → Bel n (.lst ds)
  | tup {ds : List D} : BelL n ds → Bel n (.tup ds)
  | slst {ds : List D} : BelL n ds → Bel n (.slst ds)
  | stup {ds : List D} : BelL n ds → Bel n (.stup ds)
  | dK {ds : List (Key × D)} : BelL n (ds.map (·.2)) → Bel n (.dK ds)
  | dT {ds : List (List Key × D)} : BelL n (ds.map (·.2)) → Bel n (.dT ds)
  | ins {c : Str} {ds : List (Str × D)} : BelL n (ds.map (·.2)) → Bel n (.ins c ds)
  | mref {i : Nat} : i < n → Bel n (.mref i)
inductive BelL (n : Nat) : List D → Prop
  | nil : BelL n []
  | cons {d : D} {ds : List D} : Bel n d → BelL n ds → BelL n (d :: ds)
end
theorem belL_iff {n : Nat} : ∀ {ds : List D}, BelL n ds ↔ ∀ d ∈ ds, Bel n d
  | [] => ⟨fun _ _ h => by simp at h, fun _ => .nil⟩
  | d :: ds => by
    constructor
    · intro h
      cases h with
      | cons a t =>
        intro x hx
        rcases List.mem_cons.mp hx with rfl | hx
        · exact a
        · exact belL_iff.mp t x hx
    · intro h
      exact .cons (h d (by simp)) (belL_iff.mpr fun x hx => h x (by simp [hx]))
@[simp] theorem bel_non {n : Nat} : Bel n .non ↔ True := ⟨fun _ => trivial, fun _ => .non⟩
@[simp] theorem bel_bl {n : Nat} {b : Bool} : Bel n (.bl b) ↔ True := ⟨fun _ => trivial, fun _ => .bl b⟩
@[simp] theorem bel_int {n : Nat} {b : Int} : Bel n (.int b) ↔ True := ⟨fun _ => trivial, fun _ => .int b⟩
@[simp] theorem bel_str {n : Nat} {b : Str} : Bel n (.str b) ↔ True := ⟨fun _ => trivial, fun _ => .str b⟩
@[simp] theorem bel_ty {n : Nat} {b : String} : Bel n (.ty b) ↔ True := ⟨fun _ => trivial, fun _ => .ty b⟩
@[simp] theorem bel_glo {n : Nat} {b : Str} : Bel n (.glo b) ↔ True := ⟨fun _ => trivial, fun _ => .glo b⟩
@[simp] theorem bel_lst {n : Nat} {ds : List D} : Bel n (.lst ds) ↔ ∀ d ∈ ds, Bel n d := ⟨fun h => by cases h with | lst h => exact belL_iff.mp h, fun h => .lst (belL_iff.mpr h)⟩
@[simp] theorem bel_tup {n : Nat} {ds : List D} : Bel n (.tup ds) ↔ ∀ d ∈ ds, Bel n d := ⟨fun h => by cases h with | tup h => exact belL_iff.mp h, fun h => .tup (belL_iff.mpr h)⟩
@[simp] theorem bel_slst {n : Nat} {ds : List D} : Bel n (.slst ds) ↔ ∀ d ∈ ds, Bel n d := ⟨fun h => by cases h with | slst h => exact belL_iff.mp h, fun h => .slst (belL_iff.mpr h)⟩
@[simp] theorem bel_stup {n : Nat} {ds : List D} : Bel n (.stup ds) ↔ ∀ d ∈ ds, Bel n d := ⟨fun h => by cases h with | stup h => exact belL_iff.mp h, fun h => .stup (belL_iff.mpr h)⟩
@[simp] theorem bel_dK {n : Nat} {ds : List (Key × D)} : Bel n (.dK ds) ↔ ∀ p ∈ ds, Bel n p.2 :=
  ⟨fun h => by cases h with | dK h => exact fun p hp => belL_iff.mp h p.2 (List.mem_map_of_mem hp), fun h => .dK (belL_iff.mpr fun d hd => by obtain ⟨p, hp, rfl⟩ := List.mem_map.mp hd; exact h p hp)⟩
@[simp] theorem bel_dT {n : Nat} {ds : List (List Key × D)} : Bel n (.dT ds) ↔ ∀ p ∈ ds, Bel n p.2 :=
  ⟨fun h => by cases h with | dT h => exact fun p hp => belL_iff.mp h p.2 (List.mem_map_of_mem hp), fun h => .dT (belL_iff.mpr fun d hd => by obtain ⟨p, hp, rfl⟩ := List.mem_map.mp hd; exact h p hp)⟩
@[simp] theorem bel_ins {n : Nat} {c : Str} {ds : List (Str × D)} : Bel n (.ins c ds) ↔ ∀ p ∈ ds, Bel n p.2 :=
  ⟨fun h => by cases h with | ins h => exact fun p hp => belL_iff.mp h p.2 (List.mem_map_of_mem hp), fun h => .ins (belL_iff.mpr fun d hd => by obtain ⟨p, hp, rfl⟩ := List.mem_map.mp hd; exact h p hp)⟩
@[simp] theorem bel_mref {n i : Nat} : Bel n (.mref i) ↔ i < n := ⟨fun h => by cases h with | mref h => exact h, .mref⟩
def BelM (n : Nat) : MO → Prop
  | .lst ds => ∀ d ∈ ds, Bel n d
  | .lkL ds => ∀ d ∈ ds, Bel n d
  | .dK ds => ∀ p ∈ ds, Bel n p.2
  | .lkK ds => ∀ p ∈ ds, Bel n p.2
  | .dT ds => ∀ p ∈ ds, Bel n p.2
  | .lkT ds => ∀ p ∈ ds, Bel n p.2
  | .ins _ ds => ∀ p ∈ ds, Bel n p.2
  | .gone => True
section
variable {K : PySem.W.Frag} {F : Hp} {al : Nat → Addr} {n n' : Nat}
mutual
theorem Is.bel : ∀ {v : V} {d : D}, Is K F al n v d → Bel n d
  | _, _, .non => .non
  | _, _, .bl b => .bl b
  | _, _, .int i => .int i
  | _, _, .str x => .str x
  | _, _, .ty x => .ty x
  | _, _, .glo x => .glo x
  | _, _, .lst _ _ l => .lst (IsL.bel l)
  | _, _, .tup _ _ l => .tup (IsL.bel l)
  | _, _, .slst _ _ l => .slst (IsL.bel l)
  | _, _, .stup _ _ l => .stup (IsL.bel l)
  | _, _, .dK _ _ l => .dK (IsL.bel l)
  | _, _, .dT _ _ l => .dT (IsL.bel l)
  | _, _, .ins _ _ l => .ins (IsL.bel l)
  | _, _, .mref h => .mref h
theorem IsL.bel : ∀ {vs : List V} {ds : List D}, IsL K F al n vs ds → BelL n ds
  | _, _, .nil => .nil
  | _, _, .cons h t => .cons (Is.bel h) (IsL.bel t)
end
mutual
theorem Is.cut : ∀ {v : V} {d : D}, Is K F al n' v d → Bel n d → Is K F al n v d
  | _, _, .non, _ => .non
  | _, _, .bl b, _ => .bl b
  | _, _, .int i, _ => .int i
  | _, _, .str x, _ => .str x
  | _, _, .ty x, _ => .ty x
  | _, _, .glo x, _ => .glo x
  | _, _, .lst a z l, .lst b => .lst a z (IsL.cut l b)
  | _, _, .tup a z l, .tup b => .tup a z (IsL.cut l b)
  | _, _, .slst a z l, .slst b => .slst a z (IsL.cut l b)
  | _, _, .stup a z l, .stup b => .stup a z (IsL.cut l b)
  | _, _, .dK a z l, .dK b => .dK a z (IsL.cut l b)
  | _, _, .dT a z l, .dT b => .dT a z (IsL.cut l b)
  | _, _, .ins a z l, .ins b => .ins a z (IsL.cut l b)
  | _, _, .mref _, .mref h => .mref h
theorem IsL.cut : ∀ {vs : List V} {ds : List D}, IsL K F al n' vs ds → BelL n ds → IsL K F al n vs ds
  | _, _, .nil, _ => .nil
  | _, _, .cons h t, .cons b c => .cons (Is.cut h b) (IsL.cut t c)
end
end
theorem belP {κ : Type} {n : Nat} {ds : List (κ × D)} : BelL n (ds.map (·.2)) ↔ ∀ p ∈ ds, Bel n p.2 :=
  ⟨fun h p hp => belL_iff.mp h p.2 (List.mem_map_of_mem hp), fun h => belL_iff.mpr fun d hd => by obtain ⟨p, hp, rfl⟩ := List.mem_map.mp hd; exact h p hp⟩
theorem MOk.bel {K : PySem.W.Frag} {g : Gh} {n : Nat} {a : Addr} : ∀ {o : MO}, MOk K g n a o → BelM n o
  | .lst _, ⟨_, _, _, _, l⟩ => belL_iff.mp l.bel
  | .lkL _, ⟨_, _, _, _, l⟩ => belL_iff.mp l.bel
  | .dK _, ⟨_, _, _, _, l⟩ => belP.mp l.bel
  | .dT _, ⟨_, _, _, _, l⟩ => belP.mp l.bel
  | .lkK _, ⟨_, _, _, _, _, l⟩ => belP.mp l.bel
  | .lkT _, ⟨_, _, _, _, _, l⟩ => belP.mp l.bel
  | .ins _ _, ⟨_, _, _, _, _, l⟩ => belP.mp l.bel
  | .gone, _ => trivial
theorem MOk.cut {K : PySem.W.Frag} {g : Gh} {n n' : Nat} {a : Addr} : ∀ {o : MO}, MOk K g n' a o → BelM n o → MOk K g n a o
  | .lst _, ⟨f, vs, h, z, l⟩, b => ⟨f, vs, h, z, l.cut (belL_iff.mpr b)⟩
  | .lkL _, ⟨f, vs, h, z, l⟩, b => ⟨f, vs, h, z, l.cut (belL_iff.mpr b)⟩
  | .dK _, ⟨f, vs, h, z, l⟩, b => ⟨f, vs, h, z, l.cut (belP.mpr b)⟩
  | .dT _, ⟨f, vs, h, z, l⟩, b => ⟨f, vs, h, z, l.cut (belP.mpr b)⟩
  | .lkK _, ⟨f, o, vs, h, z, l⟩, b => ⟨f, o, vs, h, z, l.cut (belP.mpr b)⟩
  | .lkT _, ⟨f, o, vs, h, z, l⟩, b => ⟨f, o, vs, h, z, l.cut (belP.mpr b)⟩
  | .ins _ _, ⟨f, dx, vs, h, z, l⟩, b => ⟨f, dx, vs, h, z, l.cut (belP.mpr b)⟩
  | .gone, _, _ => trivial
/-- a mutable thing stands on: its own object is kept, it is not frozen, what is frozen stays -/
theorem MOk.step {K : PySem.W.Frag} {g g' : Gh} {n n' : Nat} {a : Addr} (hH : g'.H a = g.H a) (hF : g.F a = none → g'.F a = none) (mF : ∀ b o, g.F b = some o → g'.F b = some o) (ea : ∀ i, i < n → g'.al i = g.al i) (hn : n ≤ n') : ∀ {o : MO}, MOk K g n a o → MOk K g' n' a o
  | .lst _, ⟨f, vs, h, z, l⟩ => ⟨hF f, vs, hH.trans h, z, l.mono mF ea hn⟩
  | .lkL _, ⟨f, vs, h, z, l⟩ => ⟨hF f, vs, hH.trans h, z, l.mono mF ea hn⟩
  | .dK _, ⟨f, vs, h, z, l⟩ => ⟨hF f, vs, hH.trans h, z, l.mono mF ea hn⟩
  | .dT _, ⟨f, vs, h, z, l⟩ => ⟨hF f, vs, hH.trans h, z, l.mono mF ea hn⟩
  | .lkK _, ⟨f, o, vs, h, z, l⟩ => ⟨hF f, o, vs, hH.trans h, z, l.mono mF ea hn⟩
  | .lkT _, ⟨f, o, vs, h, z, l⟩ => ⟨hF f, o, vs, hH.trans h, z, l.mono mF ea hn⟩
  | .ins _ _, ⟨f, dx, vs, h, z, l⟩ => ⟨hF f, dx, vs, hH.trans h, z, l.mono mF ea hn⟩
  | .gone, _ => trivial
theorem MOk.there {K : PySem.W.Frag} {g : Gh} {n : Nat} {a : Addr} : ∀ {o : MO}, MOk K g n a o → o ≠ .gone → ∃ u, g.H a = some u ∧ g.F a = none
  | .lst _, ⟨f, vs, h, _⟩, _ => ⟨_, h, f⟩
  | .lkL _, ⟨f, vs, h, _⟩, _ => ⟨_, h, f⟩
  | .dK _, ⟨f, vs, h, _⟩, _ => ⟨_, h, f⟩
  | .dT _, ⟨f, vs, h, _⟩, _ => ⟨_, h, f⟩
  | .lkK _, ⟨f, o, vs, h, _⟩, _ => ⟨_, h, f⟩
  | .lkT _, ⟨f, o, vs, h, _⟩, _ => ⟨_, h, f⟩
  | .ins _ _, ⟨f, dx, vs, h, _⟩, _ => ⟨_, h, f⟩
  | .gone, _, n => absurd rfl n
section
variable {K : PySem.W.Frag} {g : Gh} {m : Mem} {p : Addr}
theorem Rep.live (rp : Rep K g m) {i : Nat} (l : Live m i) : ∃ u, g.H (g.al i) = some u ∧ g.F (g.al i) = none := let ⟨o, h, n⟩ := l; (rp.mem i o h).there n
theorem Live.lt {m : Mem} {i : Nat} (l : Live m i) : i < m.length := let ⟨o, h, _⟩ := l; (List.getElem?_eq_some_iff.mp h).1
theorem Rep.free (rp : Rep K g m) (hp : g.H p = none) : g.F p = none := by
  cases e : g.F p with
  | none => rfl
  | some o =>
    rcases rp.sub p o e with h | ⟨_, _, h⟩ <;> (rw [hp] at h; cases h)
theorem upd_some {H : Hp} {b p : Addr} {o u : HO} (hp : H p = none) (h : H b = some u) : upd H p o b = some u := by rw [upd_ne (ne_of_none h hp)]; exact h
/-- a new frozen thing -/
theorem Rep.newF (rp : Rep K g m) (hp : g.H p = none) (o : HO) : Rep K ⟨upd g.H p o, upd g.F p o, g.al⟩ m ∧ Le g m ⟨upd g.H p o, upd g.F p o, g.al⟩ m := by
  have hF := rp.free hp
  have mF : ∀ b u, g.F b = some u → upd g.F p o b = some u := fun b u h => upd_some hF h
  refine ⟨⟨fun b u h => ?_, fun i u h => ?_, fun i j a b e => rp.inj i j a b e⟩, ⟨mF, Nat.le_refl _, fun _ _ => rfl, fun b u h nt f l => ⟨upd_some hp h, ?_, l⟩, fun b u v h => upd_some hp h, fun _ _ h _ => h⟩⟩
  · by_cases hb : b = p
    · subst hb
      rw [show (⟨upd g.H b o, upd g.F b o, g.al⟩ : Gh).F b = some o from upd_same] at h
      cases h
      exact .inl upd_same
    · rw [show (⟨upd g.H p o, upd g.F p o, g.al⟩ : Gh).F b = g.F b from upd_ne hb] at h
      rcases rp.sub b u h with h | ⟨d, ob, h⟩
      · exact .inl (upd_some hp h)
      · exact .inr ⟨d, ob, upd_some hp h⟩
  · by_cases hn : u = .gone
    · subst hn; trivial
    · obtain ⟨w, hw, hf⟩ := (rp.mem i u h).there hn
      have ne : g.al i ≠ p := ne_of_none hw hp
      exact (rp.mem i u h).step (g' := ⟨upd g.H p o, upd g.F p o, g.al⟩) (upd_ne ne) (fun f => by show upd g.F p o (g.al i) = none; rw [upd_ne ne]; exact f) mF (fun _ _ => rfl) (Nat.le_refl _)
  · show upd g.F p o b = none
    rw [upd_ne (ne_of_none h hp)]
    exact f
/-- a new mutable thing -/
def Gh.add (g : Gh) (n : Nat) (p : Addr) (o : HO) : Gh := ⟨upd g.H p o, g.F, fun i => if i = n then p else g.al i⟩
theorem Rep.newM (rp : Rep K g m) (hp : g.H p = none) {o : HO} {mo : MO} (nf : ∀ ob u, o ≠ .frz ob u) (ok : MOk K (g.add m.length p o) (m.length + 1) p mo) : Rep K (g.add m.length p o) (m ++ [mo]) ∧ Le g m (g.add m.length p o) (m ++ [mo]) := by
  have hF := rp.free hp
  have al1 : ∀ i, i < m.length → (g.add m.length p o).al i = g.al i := fun i h => if_neg (Nat.ne_of_lt h)
  have al2 : (g.add m.length p o).al m.length = p := if_pos rfl
  have lv : ∀ i, Live (m ++ [mo]) i → Live m i ∨ i = m.length := fun i ⟨u, h, n⟩ => by
    by_cases hi : i < m.length
    · rw [List.getElem?_append_left hi] at h; exact .inl ⟨u, h, n⟩
    · have := (List.getElem?_eq_some_iff.mp h).1
      rw [List.length_append] at this
      exact .inr (by simp at this; omega)
  have lne : ∀ i, Live m i → g.al i ≠ p := fun i l => let ⟨u, h, _⟩ := rp.live l; ne_of_none h hp
  refine ⟨⟨fun b u h => ?_, fun i u h => ?_, fun i j a b e => ?_⟩, ⟨fun _ _ h => h, by simp, al1, fun b u h nt f l => ⟨upd_some hp h, f, fun i li => ?_⟩, fun b u v h => upd_some hp h, fun i u h _ => by rw [List.getElem?_append_left (List.getElem?_eq_some_iff.mp h).1]; exact h⟩⟩
  · rcases rp.sub b u h with h | ⟨d, ob, h⟩
    · exact .inl (upd_some hp h)
    · exact .inr ⟨d, ob, upd_some hp h⟩
  · by_cases hi : i < m.length
    · rw [List.getElem?_append_left hi] at h
      rw [al1 i hi, List.length_append]
      by_cases hn : u = .gone
      · subst hn; trivial
      · obtain ⟨w, hw, hf⟩ := (rp.mem i u h).there hn
        exact (rp.mem i u h).step (g' := g.add m.length p o) (upd_ne (ne_of_none hw hp)) (fun f => f) (fun _ _ h => h) al1 (Nat.le_add_right _ _)
    · have hl := (List.getElem?_eq_some_iff.mp h).1
      have e : i = m.length := by rw [List.length_append] at hl; simp at hl; omega
      subst e
      rw [List.getElem?_append_right (Nat.le_refl _), Nat.sub_self] at h
      cases h
      rw [al2, List.length_append]
      exact ok
  · rcases lv i a with a | rfl <;> rcases lv j b with b | rfl
    · rw [al1 i a.lt, al1 j b.lt] at e
      exact rp.inj i j a b e
    · rw [al1 i a.lt, al2] at e
      exact absurd e (lne i a)
    · rw [al2, al1 j b.lt] at e
      exact absurd e.symm (lne j b)
    · rfl
  · rcases lv i li with li | rfl
    · rw [al1 i li.lt]; exact l i li
    · rw [al2]; exact (ne_of_none h hp).symm
/-- a mutable thing is written -/
theorem Rep.write (rp : Rep K g m) {i : Nat} {mo mo' : MO} {o : HO} (h : m[i]? = some mo) (hn : mo ≠ .gone) (hk : isLk mo = false) (nf : ∀ ob u, g.H (g.al i) ≠ some (.frz ob u)) (ok : MOk K ⟨upd g.H (g.al i) o, g.F, g.al⟩ m.length (g.al i) mo') :
    Rep K ⟨upd g.H (g.al i) o, g.F, g.al⟩ (m.set i mo') ∧ Le g m ⟨upd g.H (g.al i) o, g.F, g.al⟩ (m.set i mo') := by
  have li : Live m i := ⟨mo, h, hn⟩
  obtain ⟨w, hw, hf⟩ := rp.live li
  have lv : ∀ j, Live (m.set i mo') j → Live m j := fun j ⟨u, hu, n⟩ => by
    by_cases hj : i = j
    · subst hj; exact li
    · rw [List.getElem?_set_ne hj] at hu; exact ⟨u, hu, n⟩
  refine ⟨⟨fun b u q => ?_, fun j u q => ?_, fun j k a b e => rp.inj j k (lv j a) (lv k b) e⟩, ⟨fun _ _ q => q, by simp, fun _ _ => rfl, fun b u q nt f l => ⟨?_, f, fun j lj => l j (lv j lj)⟩, fun b u v q => ?_, fun j u q k => ?_⟩⟩
  · have ne : b ≠ g.al i := fun e => by rw [e, hf] at q; cases q
    rcases rp.sub b u q with q | ⟨d, ob, q⟩
    · exact .inl (by show upd _ _ _ _ = _; rw [upd_ne ne]; exact q)
    · exact .inr ⟨d, ob, by show upd _ _ _ _ = _; rw [upd_ne ne]; exact q⟩
  · rw [List.length_set]
    by_cases hj : i = j
    · subst hj
      rw [List.getElem?_set_self li.lt] at q
      cases q
      exact ok
    · rw [List.getElem?_set_ne hj] at q
      by_cases hu : u = .gone
      · subst hu; trivial
      · have ne : g.al j ≠ g.al i := fun e => hj (rp.inj j i ⟨u, q, hu⟩ li e).symm
        exact (rp.mem j u q).step (g' := ⟨upd g.H (g.al i) o, g.F, g.al⟩) (upd_ne ne) (fun f => f) (fun _ _ q => q) (fun _ _ => rfl) (Nat.le_refl _)
  · show upd _ _ _ _ = _
    rw [upd_ne (fun e => l i li e.symm)]
    exact q
  · show upd _ _ _ _ = _
    rw [upd_ne (fun e : b = g.al i => nf u v (by rw [← e]; exact q))]
    exact q
  · by_cases hj : i = j
    · subst hj
      rw [h] at q
      cases q
      rw [hk] at k
      cases k
    · rw [List.getElem?_set_ne hj]
      exact q
/-- a mutable thing is frozen -/
theorem Rep.freeze (rp : Rep K g m) {i : Nat} {mo : MO} {o : HO} (h : m[i]? = some mo) (hn : mo ≠ .gone) (hk : isLk mo = false) (ho : g.H (g.al i) = some o) :
    Rep K ⟨g.H, upd g.F (g.al i) o, g.al⟩ (m.set i .gone) ∧ Le g m ⟨g.H, upd g.F (g.al i) o, g.al⟩ (m.set i .gone) := by
  have li : Live m i := ⟨mo, h, hn⟩
  obtain ⟨w, hw, hf⟩ := rp.live li
  have mF : ∀ b u, g.F b = some u → upd g.F (g.al i) o b = some u := fun b u q => upd_some hf q
  have lv : ∀ j, Live (m.set i .gone) j → Live m j ∧ j ≠ i := fun j ⟨u, hu, n⟩ => by
    by_cases hj : i = j
    · subst hj
      rw [List.getElem?_set_self li.lt] at hu
      cases hu
      exact absurd rfl n
    · rw [List.getElem?_set_ne hj] at hu; exact ⟨⟨u, hu, n⟩, Ne.symm hj⟩
  refine ⟨⟨fun b u q => ?_, fun j u q => ?_, fun j k a b e => rp.inj j k (lv j a).1 (lv k b).1 e⟩, ⟨mF, by simp, fun _ _ => rfl, fun b u q nt f l => ⟨q, ?_, fun j lj => l j (lv j lj).1⟩, fun b u v q => q, fun j u q k => by
    by_cases hj : i = j
    · subst hj
      rw [h] at q
      cases q
      rw [hk] at k
      cases k
    · rw [List.getElem?_set_ne hj]
      exact q⟩⟩
  · by_cases hb : b = g.al i
    · subst hb
      rw [show (⟨g.H, upd g.F (g.al i) o, g.al⟩ : Gh).F (g.al i) = some o from upd_same] at q
      cases q
      exact .inl ho
    · rw [show (⟨g.H, upd g.F (g.al i) o, g.al⟩ : Gh).F b = g.F b from upd_ne hb] at q
      exact rp.sub b u q
  · rw [List.length_set]
    by_cases hj : i = j
    · subst hj
      rw [List.getElem?_set_self li.lt] at q
      cases q
      trivial
    · rw [List.getElem?_set_ne hj] at q
      by_cases hu : u = .gone
      · subst hu; trivial
      · have ne : g.al j ≠ g.al i := fun e => hj (rp.inj j i ⟨u, q, hu⟩ li e).symm
        exact (rp.mem j u q).step (g := g) (g' := ⟨g.H, upd g.F (g.al i) o, g.al⟩) rfl (fun f => by show upd g.F (g.al i) o (g.al j) = none; rw [upd_ne ne]; exact f) mF (fun _ _ => rfl) (Nat.le_refl _)
  · show upd g.F (g.al i) o b = none
    rw [upd_ne (fun e => l i li e.symm)]
    exact f
end
/-! ### forgetting what was made since -/
open Classical in
noncomputable def cut (m0 m' : Mem) (d : List D) : Mem :=
  if m'.length ≤ m0.length then m'
  else if (∀ x ∈ d, Bel m0.length x) ∧ ∀ i, i < m0.length → m'[i]? = m0[i]? ∨ ∃ o, m'[i]? = some o ∧ BelM m0.length o then m'.take m0.length else m'
theorem cut_ok {K : PySem.W.Frag} {g g' : Gh} {m m' : Mem} {d : List D} {vs : List V} (rp : Rep K g m) (rp' : Rep K g' m') (l : Le g m g' m') (iv : IsGL K g' m' vs d) : Rep K g' (cut m m' d) ∧ Le g m g' (cut m m' d) ∧ IsGL K g' (cut m m' d) vs d := by
  unfold cut
  split
  · exact ⟨rp', l, iv⟩
  · rename_i hlen
    split
    · rename_i hc
      obtain ⟨hd, hm⟩ := hc
      have tl : (m'.take m.length).length = m.length := by rw [List.length_take]; omega
      have gt : ∀ i, i < m.length → (m'.take m.length)[i]? = m'[i]? := fun i hi => by rw [List.getElem?_take, if_pos hi]
      have lv : ∀ i, Live (m'.take m.length) i → Live m' i := fun i li => by
        have hi : i < m.length := by have := li.lt; omega
        obtain ⟨o, h, n⟩ := li
        rw [gt i hi] at h
        exact ⟨o, h, n⟩
      refine ⟨⟨rp'.sub, fun i o h => ?_, fun i j a b e => rp'.inj i j (lv i a) (lv j b) e⟩, ⟨l.F, by rw [tl]; exact Nat.le_refl _, l.al, fun b o h nt f q => ?_, l.frz, fun i o h k => by rw [gt i (List.getElem?_eq_some_iff.mp h).1]; exact l.lk i o h k⟩, ?_⟩
      · have hi : i < m.length := by have := (List.getElem?_eq_some_iff.mp h).1; omega
        rw [gt i hi] at h
        rw [tl]
        refine (rp'.mem i o h).cut ?_
        rcases hm i hi with e | ⟨u, e, b⟩
        · rw [h] at e
          exact (rp.mem i o e.symm).bel
        · rw [h] at e
          cases e
          exact b
      · obtain ⟨a, b', c⟩ := l.oth b o h nt f q
        exact ⟨a, b', fun i li => c i (lv i li)⟩
      · show IsL K g'.F g'.al (m'.take m.length).length vs d
        rw [tl]
        exact iv.cut (belL_iff.mpr hd)
    · exact ⟨rp', l, iv⟩
theorem cut_same (m m' : Mem) (d : List D) (h : m'.length = m.length) : cut m m' d = m' := by unfold cut; rw [if_pos (Nat.le_of_eq h)]
theorem cut_app (m loc : Mem) (d : List D) (h : ∀ x ∈ d, Bel m.length x) : cut m (m ++ loc) d = m := by
  unfold cut
  cases loc with
  | nil => rw [if_pos (by simp)]; simp
  | cons a r =>
    rw [if_neg (by simp), if_pos ⟨h, fun i hi => .inl (List.getElem?_append_left hi)⟩]
    all_goals simp
theorem cut_two (m m1 loc : Mem) (d : List D) (hl : m1.length = m.length) (h : ∀ x ∈ d, Bel m.length x) (hm : ∀ i, i < m.length → m1[i]? = m[i]? ∨ ∃ o, m1[i]? = some o ∧ BelM m.length o) : cut m (m1 ++ loc) d = m1 := by
  unfold cut
  cases loc with
  | nil => rw [if_pos (by simp [hl])]; simp
  | cons a r =>
    have h2 : ∀ i, i < m.length → (m1 ++ a :: r)[i]? = m[i]? ∨ ∃ o, (m1 ++ a :: r)[i]? = some o ∧ BelM m.length o := fun i hi => by
      rw [List.getElem?_append_left (by omega)]; exact hm i hi
    rw [if_neg (by simp [hl]), if_pos ⟨h, h2⟩, ← hl]
    simp
end DL
end
section
set_option maxRecDepth 100000
set_option maxHeartbeats 2000000
/-! The data layer, part 3: operators, comparisons, names, constants, tests, displays. -/
namespace DL
open PySem L2
open Classical

/-! ### views -/
def lstV (m : Mem) : D → Option (List D)
  | .lst xs => some xs
  | .slst xs => some xs
  | .mref i => match m[i]? with
    | some (.lst xs) => some xs
    | some (.lkL xs) => some xs
    | _ => none
  | _ => none
def lstE (m : Mem) : D → Option (List D)
  | .lst xs => some xs
  | .mref i => match m[i]? with
    | some (.lst xs) => some xs
    | some (.lkL xs) => some xs
    | _ => none
  | _ => none
def seqV (m : Mem) : D → Option (List D)
  | .tup xs => some xs
  | .stup xs => some xs
  | d => lstV m d
section
variable {K : PySem.W.Frag} {g : Gh} {m : Mem} {v : V} {d : D} {xs : List D}
theorem Rep.at_ (rp : Rep K g m) {a : Addr} {o : HO} (h : g.F a = some o) (n : ¬ isDic o) : g.H a = some o := by
  rcases rp.sub a o h with h | ⟨z, _⟩
  · exact h
  · exact absurd z n
theorem Rep.sqL (rp : Rep K g m) {a : Addr} {vs : List V} (h : SqL K g.F a vs) : SqL K g.H a vs := by
  rcases h with (h | ⟨o, h⟩) | h
  · exact .inl (.inl (rp.at_ h (fun z => z)))
  · exact .inl (.inr ⟨o, rp.at_ h (fun z => z)⟩)
  · exact .inr h
theorem Rep.sqT (rp : Rep K g m) {a : Addr} {vs : List V} (h : TupA K g.F a vs) : SqT K g.H a vs := by
  exact .inl (.inl (rp.at_ h (fun z => z)))
theorem sqS {K : PySem.W.Frag} {H : Hp} {a : Addr} {vs : List V} (h : SqT K (fun _ => none) a vs) : SqT K H a vs := by
  rcases h with (h | ⟨o, h⟩) | h
  · cases h
  · cases h
  · exact .inr h
theorem lstE_ok (rp : Rep K g m) (iv : IsG K g m v d) (h : lstE m d = some xs) : ∃ a vs, v = .ref a ∧ g.H a = some (.lst vs) ∧ vs.length ≤ sizeLine ∧ IsGL K g m vs xs := by
  cases iv <;> simp only [lstE] at h <;> try cases h
  · rename_i a vs s z l
    exact ⟨a, vs, rfl, rp.at_ s (fun z => z), z, l⟩
  · rename_i i hi
    split at h
    · rename_i ys e
      cases h
      obtain ⟨_, vs, h1, h2, h3⟩ := rp.mem i _ e
      exact ⟨_, vs, rfl, h1, h2, h3⟩
    · rename_i ys e
      cases h
      obtain ⟨_, vs, h1, h2, h3⟩ := rp.mem i _ e
      exact ⟨_, vs, rfl, h1, h2, h3⟩
    · cases h
theorem lstV_ok (rp : Rep K g m) (iv : IsG K g m v d) (h : lstV m d = some xs) : ∃ a vs, v = .ref a ∧ SqL K g.H a vs ∧ vs.length ≤ sizeLine ∧ IsGL K g m vs xs := by
  by_cases he : lstE m d = some xs
  · obtain ⟨a, vs, h1, h2, h3, h4⟩ := lstE_ok rp iv he
    exact ⟨a, vs, h1, SqL.of h2, h3, h4⟩
  · cases iv <;> simp only [lstV, lstE] at h he <;> try cases h
    · exact absurd rfl he
    · rename_i a vs s z l
      exact ⟨a, vs, rfl, rp.sqL s, z, l⟩
    · exact absurd h he
theorem seqV_ok (rp : Rep K g m) (iv : IsG K g m v d) (h : seqV m d = some xs) : ∃ a vs, v = .ref a ∧ (SqL K g.H a vs ∨ SqT K g.H a vs) ∧ vs.length ≤ sizeLine ∧ IsGL K g m vs xs := by
  cases d with
  | tup ys =>
    cases h
    cases iv with
    | tup s z l => exact ⟨_, _, rfl, .inr (rp.sqT s), z, l⟩
  | stup ys =>
    cases h
    cases iv with
    | stup s z l => exact ⟨_, _, rfl, .inr (sqS s), z, l⟩
  | _ =>
    obtain ⟨a, vs, h1, h2, h3, h4⟩ := lstV_ok rp iv h
    exact ⟨a, vs, h1, .inl h2, h3, h4⟩
end

/-! ### results -/
section
variable {K : PySem.W.Frag} {W : WX} {σ : St} {g : Gh} {m : Mem} {Q : VK}
theorem pre_val {v : V} {d : D} (rp : Rep K g m) (h : Pre (RE K) K W σ g m Q (.ok d m)) (iv : IsG K g m v d) : Q v g.H := h g v rp (Le.refl g m) iv
theorem pre_newL {vs : List V} {ds : List D} (rp : Rep K g m) (h : Pre (RE K) K W σ g m Q (.ok (.lst ds) m)) (hz : vs.length ≤ sizeLine) (il : IsGL K g m vs ds) (p : Addr) (hp : g.H p = none) : Q (.ref p) (upd g.H p (.lst vs)) := by
  obtain ⟨r, l⟩ := rp.newF hp (.lst vs)
  exact h _ (.ref p) r l (.lst upd_same hz (il.le l))
theorem pre_newT {vs : List V} {ds : List D} (rp : Rep K g m) (h : Pre (RE K) K W σ g m Q (.ok (.tup ds) m)) (hz : vs.length ≤ sizeLine) (il : IsGL K g m vs ds) (p : Addr) (hp : g.H p = none) : Q (.ref p) (upd g.H p (.tup vs)) := by
  obtain ⟨r, l⟩ := rp.newF hp (.tup vs)
  exact h _ (.ref p) r l (.tup upd_same hz (il.le l))
end

/-! ### operators by values -/
abbrev H2 := D → D → Mem → Res D
def OpSd (K : PySem.W.Frag) (r : R2) (h : H2) : Prop := ∀ (W : WX) (σ : St) g m x y dx dy (Q : VK), Rep K g m → IsG K g m x dx → IsG K g m y dy → Pre (RE K) K W σ g m Q (h dx dy m) → r x y g.H Q
abbrev H1 := D → Mem → Res D
def UnSd (K : PySem.W.Frag) (r : V → Hp → VK → Prop) (h : H1) : Prop := ∀ (W : WX) (σ : St) g m x dx (Q : VK), Rep K g m → IsG K g m x dx → Pre (RE K) K W σ g m Q (h dx m) → r x g.H Q
abbrev HL := List D → Mem → Res D
def CaSd (K : PySem.W.Frag) (r : List V → Hp → VK → Prop) (h : HL) : Prop := ∀ (W : WX) (σ : St) g m xs ds (Q : VK), Rep K g m → IsGL K g m xs ds → Pre (RE K) K W σ g m Q (h ds m) → r xs g.H Q

def eVar (i : Nat) : FE := fun ρ m => match ρ[i]? with
  | some (some d) => .ok d m
  | _ => .bad
def eC (d : D) : FE := fun _ m => .ok d m
def eOp (h : H2) (a b : FE) : FE := fun ρ m => (a ρ m).bind fun x m1 => (b ρ m1).bind fun y m2 => h x y m2
def eUn (h : H1) (a : FE) : FE := fun ρ m => (a ρ m).bind fun x m1 => h x m1
def eCB (h : HL) (a : FA) : FE := fun ρ m => (a ρ m).bind fun x m1 => h x m1
def aNil : FA := fun _ m => .ok [] m
def aCons (a : FE) (r : FA) : FA := fun ρ m => (a ρ m).bind fun x m1 => (r ρ m1).bind fun xs m2 => .ok (x :: xs) m2
def aStar (a : FE) (r : FA) : FA := fun ρ m => (a ρ m).bind fun x m1 => match seqV m1 x with
  | some ys => (r ρ m1).bind fun xs m2 => .ok (ys ++ xs) m2
  | none => .bad
def eTup (a : FA) : FE := fun ρ m => (a ρ m).bind fun xs m1 => if xs.length ≤ sizeLine then .ok (.tup xs) m1 else .bad
def eLst (a : FA) : FE := fun ρ m => (a ρ m).bind fun xs m1 => if xs.length ≤ sizeLine then .ok (.lst xs) m1 else .bad
/-- a new list, kept mutable -/
def eLstM (a : FA) : FE := fun ρ m => (a ρ m).bind fun xs m1 => if xs.length ≤ sizeLine then .ok (.mref m1.length) (m1 ++ [.lst xs]) else .bad
/-! tests -/
def tTr (a : FE) : FT := fun ρ m => (a ρ m).bind fun x m1 => match x with
  | .bl b => .ok b m1
  | _ => .bad
def tAn (a b : FT) : FT := fun ρ m => (a ρ m).bind fun x m1 => if x = true then b ρ m1 else .ok false m1
def tOr' (a b : FT) : FT := fun ρ m => (a ρ m).bind fun x m1 => if x = true then .ok true m1 else b ρ m1
def tNo (a : FT) : FT := fun ρ m => (a ρ m).bind fun x m1 => .ok (!x) m1
def eAn (a b : FE) : FE := fun ρ m => (a ρ m).bind fun x m1 => match x with
  | .bl c => if c = true then b ρ m1 else .ok (.bl false) m1
  | _ => .bad
def eOr (a b : FE) : FE := fun ρ m => (a ρ m).bind fun x m1 => match x with
  | .bl c => if c = true then .ok (.bl true) m1 else b ρ m1
  | _ => .bad
def eNo (a : FE) : FE := fun ρ m => (a ρ m).bind fun x m1 => match x with
  | .bl c => .ok (.bl (!c)) m1
  | _ => .bad
def eIf (c : FT) (a b : FE) : FE := fun ρ m => (c ρ m).bind fun x m1 => if x = true then a ρ m1 else b ρ m1
def eCh (h h' : H2) (a b c : FE) : FE := fun ρ m => (a ρ m).bind fun x m1 => (b ρ m1).bind fun y m2 => (h x y m2).bind fun z m3 => match z with
  | .bl k => if k = true then (c ρ m3).bind fun w m4 => h' y w m4 else .ok (.bl false) m3
  | _ => .bad

section
variable {X : Cx} {W : WX} {a b c : Expr} {fa fb fc : FE} {pos : Pos}
theorem pd_var (i : Nat) {x : Str} (hN : X.N[i]? = some x := by rfl) (hv : Vis X.env.scope x := by first | exact Or.inl rfl | exact Or.inr (Or.inl rfl) | exact Or.inr (Or.inr rfl)) (hd : (x == ("__debug__" : Str)) = false := by decide)
    (hcd : (x == ("__classdict__" : Str)) = false := by decide) : PD X W (.Name x pos) (eVar i) := by
  refine ⟨⟨_, pe_var hN hv hd hcd, fun g m σ ρ Q rp en h => ?_⟩⟩
  unfold eVar at h
  split at h
  · rename_i d e
    obtain ⟨v, h1, h2⟩ := en.at_ i d e
    exact ⟨v, h1, pre_val rp h h2⟩
  · exact h.elim
theorem sd_c {K : PySem.W.Frag} {v : V} {d : D} (iv : ∀ g m, IsG K g m v d) : SdE K W (tC v) (eC d) := fun g m σ ρ Q rp en h => pre_val rp h (iv g m)
theorem pd_int {i j} : PD X W (.Constant (.int i) j pos) (eC (.int i)) := ⟨⟨_, pe_int, sd_c fun _ _ => .int i⟩⟩
theorem pd_bl {i j} : PD X W (.Constant (.bool i) j pos) (eC (.bl i)) := ⟨⟨_, pe_bl, sd_c fun _ _ => .bl i⟩⟩
theorem pd_non {j} : PD X W (.Constant .none j pos) (eC .non) := ⟨⟨_, pe_non, sd_c fun _ _ => .non⟩⟩
theorem pd_str {i j} : PD X W (.Constant (.str i) j pos) (eC (.str i)) := ⟨⟨_, pe_str, sd_c fun _ _ => .str i⟩⟩
/-- a module's constant -/
theorem pd_glob {x : Str} {v : V} {u : Value} {d : D} (hg : Gl X x) (hm : X.mg x = some u) (r : RelV v u) (iv : ∀ g m, IsG X.K g m v d) (hd : (x == ("__debug__" : Str)) = false := by decide) : PD X W (.Name x pos) (eC d) :=
  ⟨⟨_, pe_glob hg hm r hd, sd_c iv⟩⟩
theorem pd_bltn {x : Str} {n : String} (hg : Gl X x) (hm : X.mg x = none) (hv : bootBuiltins x = some (.type n)) (hn : x ≠ "__name__" := by decide) (hd : (x == ("__debug__" : Str)) = false := by decide) : PD X W (.Name x pos) (eC (.ty n)) :=
  ⟨⟨_, pe_bltn hg hm hv (v := .ty n) rfl hn hd, sd_c fun _ _ => .ty n⟩⟩
theorem sd_op {K : PySem.W.Frag} {ta tb : TE} {r : R2} {h : H2} (ho : OpSd K r h) (ha : SdE K W ta fa) (hb : SdE K W tb fb) : SdE K W (tOp r ta tb) (eOp h fa fb) := fun g m σ ρ Q rp en q =>
  ha g m σ ρ _ rp en (pre_bind q fun g1 m1 x dx rp1 l1 ix q1 => hb g1 m1 σ ρ _ rp1 (en.le l1) (pre_bind q1 fun g2 m2 y dy rp2 l2 iy q2 => ho W σ g2 m2 x y dx dy Q rp2 (ix.le l2) iy q2))
theorem sd_un {K : PySem.W.Frag} {ta : TE} {r : V → Hp → VK → Prop} {h : H1} (ho : UnSd K r h) (ha : SdE K W ta fa) : SdE K W (tUn r ta) (eUn h fa) := fun g m σ ρ Q rp en q =>
  ha g m σ ρ _ rp en (pre_bind q fun g1 m1 x dx rp1 l1 ix q1 => ho W σ g1 m1 x dx Q rp1 ix q1)
theorem pd_op {op : Operator} {r : R2} {h : H2} (ho : OpR X (binaryOp op) r) (hs : OpSd X.K r h) (ha : PD X W a fa) (hb : PD X W b fb) : PD X W (.BinOp a op b pos) (eOp h fa fb) := by
  obtain ⟨ta, pa, sa⟩ := ha.ex
  obtain ⟨tb, pb, sb⟩ := hb.ex
  exact ⟨⟨_, pe_op ho pa pb, sd_op hs sa sb⟩⟩
theorem pd_un {op : UnaryOp} {r : V → Hp → VK → Prop} {h : H1} (ho : UnR X (unaryOp op) r) (hs : UnSd X.K r h) (ha : PD X W a fa) : PD X W (.UnaryOp op a pos) (eUn h fa) := by
  obtain ⟨ta, pa, sa⟩ := ha.ex
  exact ⟨⟨_, pe_un ho pa, sd_un hs sa⟩⟩
theorem pd_cmp {op : CmpOp} {r : R2} {h : H2} (ho : OpR X (compareOp op) r) (hs : OpSd X.K r h) (ha : PD X W a fa) (hb : PD X W b fb) (hm : behindInMarks op b = false := by first | exact nomark _ | rfl) : PD X W (.Compare a [op] [b] pos) (eOp h fa fb) := by
  obtain ⟨ta, pa, sa⟩ := ha.ex
  obtain ⟨tb, pb, sb⟩ := hb.ex
  exact ⟨⟨_, pe_cmpR ho pa pb hm, sd_op hs sa sb⟩⟩
theorem pd_cmpN {op : CmpOp} {r : R2} {h : H2} (ho : OpR X (compareOp op) r) (hs : OpSd X.K r h) (ha : PD X W a fa) (hb : PD X W b fb) (hm : behindInMarks op b = false) : PD X W (.Compare a [op] [b] pos) (eOp h fa fb) := pd_cmp ho hs ha hb hm
theorem pdt_cmp {op : CmpOp} {r : R2} {h : H2} (ho : OpR X (compareOp op) r) (hs : OpSd X.K r h) (ha : PD X W a fa) (hb : PD X W b fb) (hm : behindInMarks op b = false := by first | exact nomark _ | rfl) : PDT X W (.Compare a [op] [b] pos) (tTr (eOp h fa fb)) := by
  obtain ⟨ta, pa, sa⟩ := ha.ex
  obtain ⟨tb, pb, sb⟩ := hb.ex
  refine ⟨⟨_, pt_cmpR ho pa pb hm, fun g m σ ρ Q rp en q => ?_⟩⟩
  refine sd_op hs sa sb g m σ ρ _ rp en (pre_bind q fun g1 m1 x dx rp1 l1 ix q1 => ?_)
  cases ix <;> first | exact q1.elim | exact ⟨_, rfl, q1 g1 _ rp1 (Le.refl _ _) rfl⟩
/-- a value as a test -/
theorem pdt_val (ha : PD X W a fa) (he : ∀ whole, isTrue a X.env whole = (do let v ← whole; standAt a.pos; holding [v] (truthy v)) := by intro _; rfl) : PDT X W a (tTr fa) := by
  obtain ⟨ta, pa, sa⟩ := ha.ex
  refine ⟨⟨_, pt_val pa he, fun g m σ ρ Q rp en q => ?_⟩⟩
  refine sa g m σ ρ _ rp en (pre_bind q fun g1 m1 x dx rp1 l1 ix q1 => ?_)
  cases ix <;> first | exact q1.elim | exact ⟨_, rfl, q1 g1 _ rp1 (Le.refl _ _) rfl⟩
variable {ta tb : FT} {rest : List Expr}
/-- and, or, not as tests -/
structure PDW (X : Cx) (W : WX) (e : Expr) (f : FT) : Prop where
  ex : ∃ t, PW X e t ∧ SdT X.K W t f
theorem pdw_and1 (ha : PDT X W a ta) : PDW X W (.BoolOp .And [a] pos) ta := let ⟨t, p, s⟩ := ha.ex; ⟨⟨t, pw_and1 p, s⟩⟩
theorem pdw_or1 (ha : PDT X W a ta) : PDW X W (.BoolOp .Or [a] pos) ta := let ⟨t, p, s⟩ := ha.ex; ⟨⟨t, pw_or1 p, s⟩⟩
theorem pdw_and (ha : PDT X W a ta) (hb : PDW X W (.BoolOp .And (b :: rest) pos) tb) : PDW X W (.BoolOp .And (a :: b :: rest) pos) (tAn ta tb) := by
  obtain ⟨t, p, s⟩ := ha.ex
  obtain ⟨t', p', s'⟩ := hb.ex
  refine ⟨⟨_, pw_and p p', fun g m σ ρ Q rp en q => s g m σ ρ _ rp en (pre_bind q fun g1 m1 x dx rp1 l1 ix q1 => ?_)⟩⟩
  subst ix
  cases x with
  | true => rw [if_pos rfl] at q1 ⊢; exact s' g1 m1 σ ρ Q rp1 (en.le l1) q1
  | false => rw [if_neg Bool.false_ne_true] at q1 ⊢; exact q1 g1 _ rp1 (Le.refl _ _) rfl
theorem pdw_or (ha : PDT X W a ta) (hb : PDW X W (.BoolOp .Or (b :: rest) pos) tb) : PDW X W (.BoolOp .Or (a :: b :: rest) pos) (tOr' ta tb) := by
  obtain ⟨t, p, s⟩ := ha.ex
  obtain ⟨t', p', s'⟩ := hb.ex
  refine ⟨⟨_, pw_or p p', fun g m σ ρ Q rp en q => s g m σ ρ _ rp en (pre_bind q fun g1 m1 x dx rp1 l1 ix q1 => ?_)⟩⟩
  subst ix
  cases x with
  | true => rw [if_pos rfl] at q1 ⊢; exact q1 g1 _ rp1 (Le.refl _ _) rfl
  | false => rw [if_neg Bool.false_ne_true] at q1 ⊢; exact s' g1 m1 σ ρ Q rp1 (en.le l1) q1
theorem PDW.pdt {e : Expr} {f : FT} (h : PDW X W e f) : PDT X W e f := let ⟨t, p, s⟩ := h.ex; ⟨⟨t, p.pt, s⟩⟩
theorem pdt_not (ha : PDT X W a ta) : PDT X W (.UnaryOp .Not a pos) (tNo ta) := by
  obtain ⟨t, p, s⟩ := ha.ex
  refine ⟨⟨_, pt_not p, fun g m σ ρ Q rp en q => s g m σ ρ _ rp en (pre_bind q fun g1 m1 x dx rp1 l1 ix q1 => ?_)⟩⟩
  subst ix
  exact q1 g1 _ rp1 (Le.refl _ _) rfl
/-- and, or, not as values -/
theorem pd_one {op} (h : PD X W a fa) : PD X W (.BoolOp op [a] pos) fa := let ⟨t, p, s⟩ := h.ex; ⟨⟨t, pe_one p, s⟩⟩
theorem pd_and (ha : PD X W a fa) (hb : PD X W (.BoolOp .And (b :: rest) pos) fb) : PD X W (.BoolOp .And (a :: b :: rest) pos) (eAn fa fb) := by
  obtain ⟨t, p, s⟩ := ha.ex
  obtain ⟨t', p', s'⟩ := hb.ex
  refine ⟨⟨_, pe_and p p', fun g m σ ρ Q rp en q => s g m σ ρ _ rp en (pre_bind q fun g1 m1 x dx rp1 l1 ix q1 => ?_)⟩⟩
  cases ix <;> try exact q1.elim
  rename_i k
  refine ⟨k, rfl, ?_⟩
  cases k with
  | true => rw [if_pos rfl]; simp only [if_true] at q1; exact s' g1 m1 σ ρ Q rp1 (en.le l1) q1
  | false => rw [if_neg Bool.false_ne_true]; simp only [Bool.false_eq_true, if_false] at q1; exact pre_val rp1 q1 (.bl false)
theorem pd_or (ha : PD X W a fa) (hb : PD X W (.BoolOp .Or (b :: rest) pos) fb) : PD X W (.BoolOp .Or (a :: b :: rest) pos) (eOr fa fb) := by
  obtain ⟨t, p, s⟩ := ha.ex
  obtain ⟨t', p', s'⟩ := hb.ex
  refine ⟨⟨_, pe_or p p', fun g m σ ρ Q rp en q => s g m σ ρ _ rp en (pre_bind q fun g1 m1 x dx rp1 l1 ix q1 => ?_)⟩⟩
  cases ix <;> try exact q1.elim
  rename_i k
  refine ⟨k, rfl, ?_⟩
  cases k with
  | true => rw [if_pos rfl]; simp only [if_true] at q1; exact pre_val rp1 q1 (.bl true)
  | false => rw [if_neg Bool.false_ne_true]; simp only [Bool.false_eq_true, if_false] at q1; exact s' g1 m1 σ ρ Q rp1 (en.le l1) q1
theorem pd_not (ha : PD X W a fa) : PD X W (.UnaryOp .Not a pos) (eNo fa) := by
  obtain ⟨t, p, s⟩ := ha.ex
  refine ⟨⟨_, pe_not p, fun g m σ ρ Q rp en q => s g m σ ρ _ rp en (pre_bind q fun g1 m1 x dx rp1 l1 ix q1 => ?_)⟩⟩
  cases ix <;> try exact q1.elim
  exact ⟨_, rfl, pre_val rp1 q1 (.bl _)⟩
theorem pd_if (hc : PDT X W c ta) (ha : PD X W a fa) (hb : PD X W b fb) : PD X W (.IfExp c a b pos) (eIf ta fa fb) := by
  obtain ⟨t, p, s⟩ := hc.ex
  obtain ⟨t1, p1, s1⟩ := ha.ex
  obtain ⟨t2, p2, s2⟩ := hb.ex
  refine ⟨⟨_, pe_ifExp p p1 p2, fun g m σ ρ Q rp en q => s g m σ ρ _ rp en (pre_bind q fun g1 m1 x dx rp1 l1 ix q1 => ?_)⟩⟩
  subst ix
  cases x with
  | true => rw [if_pos rfl] at q1 ⊢; exact s1 g1 m1 σ ρ Q rp1 (en.le l1) q1
  | false => rw [if_neg Bool.false_ne_true] at q1 ⊢; exact s2 g1 m1 σ ρ Q rp1 (en.le l1) q1
end

/-! ### argument lists and displays -/
section
variable {X : Cx} {W : WX} {e : Expr} {es : List Expr} {f : FE} {fr : FA} {pos : Pos}
theorem pda_nil : PDA X W [] aNil := ⟨⟨_, pa_nil, fun g m σ ρ Q rp en q => q g _ rp (Le.refl _ _) .nil⟩⟩
theorem pda_cons (h : PD X W e f) (hr : PDA X W es fr) (hs : starEach (e :: es) X.env = (false, eval e X.env) :: starEach es X.env := by rfl) : PDA X W (e :: es) (aCons f fr) := by
  obtain ⟨t, p, s⟩ := h.ex
  obtain ⟨t', p', s'⟩ := hr.ex
  refine ⟨⟨_, pa_cons p p' hs, fun g m σ ρ Q rp en q => s g m σ ρ _ rp en (pre_bind q fun g1 m1 x dx rp1 l1 ix q1 => s' g1 m1 σ ρ _ rp1 (en.le l1) (pre_bind q1 fun g2 m2 xs ds rp2 l2 ixs q2 => ?_))⟩⟩
  exact q2 g2 _ rp2 (Le.refl _ _) (.cons (ix.le l2) ixs)
theorem pda_star {p : Pos} (h : PD X W e f) (hr : PDA X W es fr) (hs : starEach (.Starred e p :: es) X.env = (true, eval e X.env) :: starEach es X.env := by rfl) : PDA X W (.Starred e p :: es) (aStar f fr) := by
  obtain ⟨t, p1, s⟩ := h.ex
  obtain ⟨t', p', s'⟩ := hr.ex
  refine ⟨⟨_, StX.pa_star p1 p' hs, fun g m σ ρ Q rp en q => s g m σ ρ _ rp en (pre_bind q fun g1 m1 x dx rp1 l1 ix q1 => ?_)⟩⟩
  split at q1
  · rename_i ys e
    obtain ⟨a, vs, rfl, h1, h2, h3⟩ := seqV_ok rp1 ix e
    refine ⟨a, vs, rfl, h1.symm, s' g1 m1 σ ρ _ rp1 (en.le l1) (pre_bind q1 fun g2 m2 xs ds rp2 l2 ixs q2 => ?_)⟩
    exact q2 g2 _ rp2 (Le.refl _ _) ((h3.le l2).append ixs)
  · exact q1.elim
theorem pd_tup {x1} (h : PDA X W es fr) : PD X W (.Tuple es x1 pos) (eTup fr) := by
  obtain ⟨t, p, s⟩ := h.ex
  refine ⟨⟨_, pe_tup p, fun g m σ ρ Q rp en q => s g m σ ρ _ rp en (pre_bind q fun g1 m1 x dx rp1 l1 ix q1 => ?_)⟩⟩
  split at q1
  · rename_i hz
    have hz' : x.length ≤ sizeLine := by rw [ix.length]; exact hz
    exact ⟨hz', pre_newT rp1 q1 hz' ix⟩
  · exact q1.elim
theorem pd_lst (h : PDA X W es fr) : PD X W (.List es pos) (eLst fr) := by
  obtain ⟨t, p, s⟩ := h.ex
  refine ⟨⟨_, pe_lst p, fun g m σ ρ Q rp en q => s g m σ ρ _ rp en (pre_bind q fun g1 m1 x dx rp1 l1 ix q1 => ?_)⟩⟩
  split at q1
  · rename_i hz
    have hz' : x.length ≤ sizeLine := by rw [ix.length]; exact hz
    exact ⟨hz', pre_newL rp1 q1 hz' ix⟩
  · exact q1.elim
theorem pre_newM {K : PySem.W.Frag} {σ : St} {g : Gh} {m : Mem} {Q : VK} {vs : List V} {ds : List D} (rp : Rep K g m) (h : Pre (RE K) K W σ g m Q (.ok (.mref m.length) (m ++ [.lst ds]))) (hz : vs.length ≤ sizeLine) (il : IsGL K g m vs ds) (p : Addr) (hp : g.H p = none) : Q (.ref p) (upd g.H p (.lst vs)) := by
  have ea : ∀ i, i < m.length → (g.add m.length p (.lst vs)).al i = g.al i := fun i h => if_neg (Nat.ne_of_lt h)
  obtain ⟨r, l⟩ := rp.newM (o := .lst vs) (mo := .lst ds) hp (fun _ _ z => by cases z) ⟨rp.free hp, vs, upd_same, hz, il.mono (fun _ _ q => q) ea (Nat.le_succ _)⟩
  have e : (g.add m.length p (.lst vs)).al m.length = p := if_pos rfl
  refine h _ (.ref p) r l ?_
  have q : IsG K (g.add m.length p (.lst vs)) (m ++ [.lst ds]) (.ref ((g.add m.length p (.lst vs)).al m.length)) (.mref m.length) := .mref (by simp)
  rw [e] at q
  exact q
theorem pd_lstM (h : PDA X W es fr) : PD X W (.List es pos) (eLstM fr) := by
  obtain ⟨t, p, s⟩ := h.ex
  refine ⟨⟨_, pe_lst p, fun g m σ ρ Q rp en q => s g m σ ρ _ rp en (pre_bind q fun g1 m1 x dx rp1 l1 ix q1 => ?_)⟩⟩
  split at q1
  · rename_i hz
    have hz' : x.length ≤ sizeLine := by rw [ix.length]; exact hz
    exact ⟨hz', pre_newM rp1 q1 hz' ix⟩
  · exact q1.elim
end
end DL
end
section
set_option maxRecDepth 100000
set_option maxHeartbeats 2000000
/-! The data layer, part 4: the operators, built-in functions, places. -/
namespace DL
open PySem L2
open Classical

/-! ### + - * // % ** -/
def hAdd : H2 := fun x y m => match x, y with
  | .int i, .int j => .ok (.int (i + j)) m
  | .str a, .str b => if a.length + b.length ≤ sizeLine then .ok (.str (a ++ b)) m else .bad
  | .tup xs, .tup ys => if xs.length + ys.length ≤ sizeLine then .ok (.tup (xs ++ ys)) m else .bad
  | x, y => match lstE m x, lstE m y with
    | some xs, some ys => if xs.length + ys.length ≤ sizeLine then .ok (.lst (xs ++ ys)) m else .bad
    | _, _ => .bad
def rAddA (K : PySem.W.Frag) : R2 := fun x y H Q => rI0 (fun i j => .int (i + j)) x y H Q ∨ (∃ i j, x = .str i ∧ y = .str j ∧ i.length + j.length ≤ sizeLine ∧ Q (.str (i ++ j)) H) ∨ rCatA K x y H Q ∨ rCat x y H Q
section
variable {X : Cx}
theorem op_addA : OpR X (binaryOp .Add) (rAddA X.K) := op_add.or (op_add_str.or (op_catA.or op_cat))
theorem sd_catL {K : PySem.W.Frag} {W : WX} {σ : St} {g : Gh} {m : Mem} {x y : V} {dx dy : D} {Q : VK} (rp : Rep K g m) (ix : IsG K g m x dx) (iy : IsG K g m y dy)
    (q : Pre (RE K) K W σ g m Q (match lstE m dx, lstE m dy with
      | some xs, some ys => if xs.length + ys.length ≤ sizeLine then .ok (.lst (xs ++ ys)) m else .bad
      | _, _ => .bad)) : rCat x y g.H Q := by
  split at q
  · rename_i xs ys ex ey
    split at q
    · rename_i hz
      obtain ⟨a, vs, rfl, h1, h2, h3⟩ := lstE_ok rp ix ex
      obtain ⟨b, ws, rfl, k1, k2, k3⟩ := lstE_ok rp iy ey
      have e1 := h3.length
      have e2 := k3.length
      exact ⟨a, b, vs, ws, rfl, rfl, h1, k1, by omega, pre_newL rp q (by rw [List.length_append]; omega) (h3.append k3)⟩
    · exact q.elim
  · exact q.elim
theorem sd_add (K : PySem.W.Frag) : OpSd K (rAddA K) hAdd := by
  intro W σ g m x y dx dy Q rp ix iy q
  unfold hAdd at q
  split at q
  · cases ix; cases iy
    exact .inl ⟨_, _, rfl, rfl, pre_val rp q (.int _)⟩
  · split at q
    · rename_i hz
      cases ix; cases iy
      exact .inr (.inl ⟨_, _, rfl, rfl, hz, pre_val rp q (.str _)⟩)
    · exact q.elim
  · split at q
    · rename_i xs ys hz
      cases ix with
      | tup s1 z1 l1 =>
        cases iy with
        | tup s2 z2 l2 =>
          rename_i a vs b ws
          have e1 := l1.length
          have e2 := l2.length
          refine .inr (.inr (.inl ⟨_, _, _, _, rfl, rfl, rp.sqT s1, rp.sqT s2, by omega, fun e => ?_, fun _ e => ?_, fun _ _ p hp => ?_⟩))
          · subst e
            cases l1
            exact pre_val rp q (.tup s2 z2 l2)
          · subst e
            cases l2
            rw [List.append_nil] at q
            exact pre_val rp q (.tup s1 z1 l1)
          · exact pre_newT rp q (by rw [List.length_append]; omega) (l1.append l2) p hp
    · exact q.elim
  · exact .inr (.inr (.inr (sd_catL rp ix iy q)))
theorem pd_add {W : WX} {a b : Expr} {fa fb : FE} {pos : Pos} (ha : PD X W a fa) (hb : PD X W b fb) : PD X W (.BinOp a .Add b pos) (eOp hAdd fa fb) := pd_op op_addA (sd_add X.K) ha hb

/-- an operator of two ints under a condition -/
noncomputable def hI (C : Int → Int → Prop) (f : Int → Int → D) : H2 := fun x y m => match x, y with
  | .int i, .int j => if C i j then .ok (f i j) m else .bad
  | _, _ => .bad
theorem sd_I (K : PySem.W.Frag) (C : Int → Int → Prop) (f : Int → Int → Int) : OpSd K (rI C fun i j => .int (f i j)) (hI C fun i j => .int (f i j)) := by
  intro W σ g m x y dx dy Q rp ix iy q
  unfold hI at q
  split at q
  · split at q
    · rename_i hc
      cases ix; cases iy
      exact ⟨_, _, rfl, rfl, hc, pre_val rp q (.int _)⟩
    · exact q.elim
  · exact q.elim
noncomputable abbrev hSub : H2 := hI (fun _ _ => True) fun i j => .int (i - j)
theorem op_subT : OpR X (binaryOp .Sub) (rI (fun _ _ => True) fun i j => .int (i - j)) := opI fun _ _ _ _ _ _ _ _ q => PyProof.Rows.sub_int q
theorem pd_sub {W : WX} {a b : Expr} {fa fb : FE} {pos : Pos} (ha : PD X W a fa) (hb : PD X W b fb) : PD X W (.BinOp a .Sub b pos) (eOp hSub fa fb) := pd_op op_subT (sd_I X.K _ _) ha hb
noncomputable abbrev hFdiv : H2 := hI CDivW fun i j => .int (i / j)
theorem pd_fdiv {W : WX} {a b : Expr} {fa fb : FE} {pos : Pos} (ha : PD X W a fa) (hb : PD X W b fb) : PD X W (.BinOp a .FloorDiv b pos) (eOp hFdiv fa fb) := pd_op op_fdivW (sd_I X.K _ _) ha hb
noncomputable abbrev hMod : H2 := hI (fun _ j => 0 < j) fun i j => .int (i % j)
theorem pd_mod {W : WX} {a b : Expr} {fa fb : FE} {pos : Pos} (ha : PD X W a fa) (hb : PD X W b fb) : PD X W (.BinOp a .Mod b pos) (eOp hMod fa fb) := pd_op op_mod (sd_I X.K _ _) ha hb
noncomputable abbrev hPow : H2 := hI CPow fun i j => .int (i ^ j.toNat)
theorem pd_pow {W : WX} {a b : Expr} {fa fb : FE} {pos : Pos} (ha : PD X W a fa) (hb : PD X W b fb) : PD X W (.BinOp a .Pow b pos) (eOp hPow fa fb) := pd_op op_pow (sd_I X.K _ _) ha hb
/-- * of ints, a list times an int -/
noncomputable def hMul : H2 := fun x y m => match x, y with
  | .int i, .int j => if CMul i j ∨ CMulW i j then .ok (.int (i * j)) m else .bad
  | x, .int k => match lstE m x with
    | some xs => if -(2 ^ 63) ≤ k ∧ k < 2 ^ 63 ∧ xs.length * k.toNat ≤ sizeLine then .ok (.lst (List.replicate k.toNat xs).flatten) m else .bad
    | none => .bad
  | _, _ => .bad
def rMulA : R2 := fun x y H Q => rI CMul (fun i j => .int (i * j)) x y H Q ∨ rI CMulW (fun i j => .int (i * j)) x y H Q ∨ rRep x y H Q
theorem op_mulA : OpR X (binaryOp .Mult) rMulA := op_mul.or (op_mulW.or op_rep)
theorem IsL.rep {K : PySem.W.Frag} {F : Hp} {al : Nat → Addr} {n : Nat} {vs : List V} {ds : List D} (h : IsL K F al n vs ds) : ∀ k : Nat, IsL K F al n (List.replicate k vs).flatten (List.replicate k ds).flatten
  | 0 => .nil
  | k + 1 => by rw [List.replicate_succ, List.replicate_succ, List.flatten_cons, List.flatten_cons]; exact h.append (IsL.rep h k)
theorem sd_mul (K : PySem.W.Frag) : OpSd K rMulA hMul := by
  intro W σ g m x y dx dy Q rp ix iy q
  unfold hMul at q
  split at q
  · split at q
    · rename_i hc
      cases ix; cases iy
      rcases hc with hc | hc
      · exact .inl ⟨_, _, rfl, rfl, hc, pre_val rp q (.int _)⟩
      · exact .inr (.inl ⟨_, _, rfl, rfl, hc, pre_val rp q (.int _)⟩)
    · exact q.elim
  · split at q
    · rename_i xs ex
      split at q
      · rename_i hc
        obtain ⟨a, vs, rfl, h1, h2, h3⟩ := lstE_ok rp ix ex
        cases iy
        have e1 := h3.length
        refine .inr (.inr ⟨a, _, vs, rfl, rfl, h1, hc.1, hc.2.1, by rw [e1]; exact hc.2.2, pre_newL rp q ?_ (h3.rep _)⟩)
        rw [PyProof.Rows.lm_len_rep_flat, Nat.mul_comm, e1]
        exact hc.2.2
      · exact q.elim
    · exact q.elim
  · exact q.elim
theorem pd_mul {W : WX} {a b : Expr} {fa fb : FE} {pos : Pos} (ha : PD X W a fa) (hb : PD X W b fb) : PD X W (.BinOp a .Mult b pos) (eOp hMul fa fb) := pd_op op_mulA (sd_mul X.K) ha hb
def hNeg : H1 := fun x m => match x with
  | .int i => .ok (.int (-i)) m
  | _ => .bad
theorem pd_neg {W : WX} {a : Expr} {fa : FE} {pos : Pos} (ha : PD X W a fa) : PD X W (.UnaryOp .USub a pos) (eUn hNeg fa) := by
  refine pd_un un_neg (fun W σ g m x dx Q rp ix q => ?_) ha
  unfold hNeg at q
  split at q
  · cases ix; exact ⟨_, rfl, pre_val rp q (.int _)⟩
  · exact q.elim

/-! ### < <= > >= -/
def hCmp (p : Int → Int → Bool) : H2 := fun x y m => match x, y with
  | .int i, .int j => .ok (.bl (p i j)) m
  | _, _ => .bad
theorem sd_cmp (K : PySem.W.Frag) (p : Int → Int → Bool) : OpSd K (rI0 fun i j => .bl (p i j)) (hCmp p) := by
  intro W σ g m x y dx dy Q rp ix iy q
  unfold hCmp at q
  split at q
  · cases ix; cases iy
    exact ⟨_, _, rfl, rfl, pre_val rp q (.bl _)⟩
  · exact q.elim
abbrev hLt : H2 := hCmp fun i j => decide (i < j)
abbrev hLe : H2 := hCmp fun i j => decide (i ≤ j)
abbrev hGt : H2 := hCmp fun i j => decide (j < i)
abbrev hGe : H2 := hCmp fun i j => decide (j ≤ i)

/-! ### == and != of plain data -/
mutual
def toPy (m : Mem) : D → Option PyData
  | .non => some .none
  | .bl b => some (.bool b)
  | .int i => some (.int i)
  | .str x => some (.str x)
  | .tup xs => (toPyL m xs).map .tuple
  | .stup xs => (toPyL m xs).map .tuple
  | .lst xs => (toPyL m xs).map .list
  | _ => none
def toPyL (m : Mem) : List D → Option (List PyData)
  | [] => some []
  | d :: ds => match toPy m d, toPyL m ds with
    | some a, some r => some (a :: r)
    | _, _ => none
end
section
variable {K : PySem.W.Frag} {g : Gh} {m : Mem}
mutual
theorem toPy_ok (rp : Rep K g m) : ∀ {v : V} {d : D} {a : PyData}, IsG K g m v d → toPy m d = some a → Dp K g.H v a
  | _, _, _, .non, h => by simp only [toPy] at h; cases h; exact .non
  | _, _, _, .bl b, h => by simp only [toPy] at h; cases h; exact .bl b
  | _, _, _, .int b, h => by simp only [toPy] at h; cases h; exact .int b
  | _, _, _, .str b, h => by simp only [toPy] at h; cases h; exact .str b
  | _, _, _, .ty _, h => by simp only [toPy] at h; cases h
  | _, _, _, .glo _, h => by simp only [toPy] at h; cases h
  | _, _, _, .lst s _ l, h => by
    simp only [toPy] at h
    obtain ⟨r, h1, rfl⟩ := Option.map_eq_some_iff.mp h
    exact .lst (SqL.of (rp.at_ s fun z => z)) (toPyL_ok rp l h1)
  | _, _, _, .slst _ _ _, h => by simp only [toPy] at h; cases h
  | _, _, _, .tup s _ l, h => by
    simp only [toPy] at h
    obtain ⟨r, h1, rfl⟩ := Option.map_eq_some_iff.mp h
    exact .tup (rp.sqT s) (toPyL_ok rp l h1)
  | _, _, _, .stup s _ l, h => by
    simp only [toPy] at h
    obtain ⟨r, h1, rfl⟩ := Option.map_eq_some_iff.mp h
    exact .tup (sqS s) (toPyL_ok rp l h1)
  | _, _, _, .dK _ _ _, h => by simp only [toPy] at h; cases h
  | _, _, _, .dT _ _ _, h => by simp only [toPy] at h; cases h
  | _, _, _, .ins _ _ _, h => by simp only [toPy] at h; cases h
  | _, _, _, .mref _, h => by simp only [toPy] at h; cases h
theorem toPyL_ok (rp : Rep K g m) : ∀ {v : List V} {d : List D} {a : List PyData}, IsGL K g m v d → toPyL m d = some a → DpAll K g.H v a
  | _, _, _, .nil, h => by simp only [toPyL] at h; cases h; exact .nil
  | _, _, _, .cons i t, h => by
    simp only [toPyL] at h
    split at h
    · rename_i a r e1 e2
      cases h
      exact .cons (toPy_ok rp i e1) (toPyL_ok rp t e2)
    · cases h
end
end
/-- a value as plain data, a mutable list as what it holds -/
def toPyM (m : Mem) (d : D) : Option PyData := match d with
  | .mref _ => match lstE m d with
    | some xs => (toPyL m xs).map .list
    | none => none
  | d => toPy m d
theorem toPyM_ok {K : PySem.W.Frag} {g : Gh} {m : Mem} (rp : Rep K g m) {v : V} {d : D} {a : PyData} (iv : IsG K g m v d) (h : toPyM m d = some a) : Dp K g.H v a := by
  unfold toPyM at h
  split at h
  · split at h
    · rename_i xs e
      obtain ⟨r, h1, rfl⟩ := Option.map_eq_some_iff.mp h
      obtain ⟨b, vs, rfl, h2, h3, h4⟩ := lstE_ok rp iv e
      exact .lst (SqL.of h2) (toPyL_ok rp h4 h1)
    · cases h
  · exact toPy_ok rp iv h
def hEqP (neg : Bool) : H2 := fun x y m => match toPyM m x, toPyM m y with
  | some a, some b => if SeqAt.shaped a = true ∧ SeqAt.shaped b = true then .ok (.bl (if neg then !PyData.eqv a b else PyData.eqv a b)) m else .bad
  | _, _ => .bad
theorem sd_eqP (K : PySem.W.Frag) : OpSd K (rEqD K) (hEqP false) := by
  intro W σ g m x y dx dy Q rp ix iy q
  unfold hEqP at q
  split at q
  · rename_i a b ea eb
    split at q
    · rename_i hs
      exact ⟨a, b, toPyM_ok rp ix ea, toPyM_ok rp iy eb, hs.1, hs.2, pre_val rp q (.bl _)⟩
    · exact q.elim
  · exact q.elim
theorem sd_neP (K : PySem.W.Frag) : OpSd K (rNeD K) (hEqP true) := by
  intro W σ g m x y dx dy Q rp ix iy q
  unfold hEqP at q
  split at q
  · rename_i a b ea eb
    split at q
    · rename_i hs
      exact ⟨a, b, toPyM_ok rp ix ea, toPyM_ok rp iy eb, hs.1, hs.2, pre_val rp q (.bl _)⟩
    · exact q.elim
  · exact q.elim

/-! ### in, not in: a text in a text; a scalar in a list or tuple of scalars -/
def flatD : D → Bool
  | .non => true
  | .bl _ => true
  | .int _ => true
  | .str _ => true
  | _ => false
def toV : D → V
  | .bl b => .bl b
  | .int i => .int i
  | .str x => .str x
  | _ => .non
def hIn (neg : Bool) : H2 := fun x y m => match x, y with
  | .str a, .str b => .ok (.bl (if neg then !(!(Builtin.Str.occurrences b a 0 b.length 1).isEmpty) else !(Builtin.Str.occurrences b a 0 b.length 1).isEmpty)) m
  | x, y => match seqV m y with
    | some ys => if flatD x = true ∧ ys.all flatD = true then .ok (.bl (if neg then !inV (toV x) (ys.map toV) else inV (toV x) (ys.map toV))) m else .bad
    | none => .bad
def rInA (K : PySem.W.Frag) (neg : Bool) : R2 := fun x y H Q => (∃ i j, x = .str i ∧ y = .str j ∧ Q (.bl (if neg then !(!(Builtin.Str.occurrences j i 0 j.length 1).isEmpty) else !(Builtin.Str.occurrences j i 0 j.length 1).isEmpty)) H) ∨ rIn K neg x y H Q
theorem op_inA : OpR X (compareOp .In) (rInA X.K false) := op_in_str.or op_in_seq
theorem op_notInA : OpR X (compareOp .NotIn) (rInA X.K true) := op_notin_str.or op_notIn_seq
theorem flat_toV {K : PySem.W.Frag} {F : Hp} {al : Nat → Addr} {n : Nat} {v : V} {d : D} (h : Is K F al n v d) (f : flatD d = true) : v = toV d ∧ flatV v = true := by
  cases h <;> simp only [flatD] at f <;> first | (cases f; done) | exact ⟨rfl, rfl⟩
theorem flat_toVL {K : PySem.W.Frag} {F : Hp} {al : Nat → Addr} {n : Nat} : ∀ {vs : List V} {ds : List D}, IsL K F al n vs ds → ds.all flatD = true → vs = ds.map toV ∧ vs.all flatV = true
  | _, _, .nil, _ => ⟨rfl, rfl⟩
  | _, _, .cons h t, f => by
    rw [List.all_cons, Bool.and_eq_true] at f
    obtain ⟨e1, f1⟩ := flat_toV h f.1
    obtain ⟨e2, f2⟩ := flat_toVL t f.2
    exact ⟨by rw [List.map_cons, e1, e2], by rw [List.all_cons, f1, f2]; rfl⟩
theorem sd_in (K : PySem.W.Frag) (neg : Bool) : OpSd K (rInA K neg) (hIn neg) := by
  intro W σ g m x y dx dy Q rp ix iy q
  unfold hIn at q
  split at q
  · cases ix; cases iy
    exact .inl ⟨_, _, rfl, rfl, pre_val rp q (.bl _)⟩
  · split at q
    · rename_i ys e
      split at q
      · rename_i hf
        obtain ⟨a, vs, rfl, h1, h2, h3⟩ := seqV_ok rp iy e
        obtain ⟨e1, f1⟩ := flat_toV ix hf.1
        obtain ⟨e2, f2⟩ := flat_toVL h3 hf.2
        refine .inr ⟨a, vs, rfl, h1, f1, f2, ?_⟩
        rw [e1, e2]
        exact pre_val rp q (.bl _)
      · exact q.elim
    · exact q.elim

/-! ### is -/
def isNon : D → Bool
  | .non => true
  | _ => false
def hIsN (neg : Bool) : H2 := fun x y m => match x, y with
  | x, .non => .ok (.bl (if neg then !isNon x else isNon x)) m
  | .bl a, .bl b => .ok (.bl (if neg then !decide (a = b) else decide (a = b))) m
  | _, _ => .bad
def rIsA (neg : Bool) : R2 := fun x y H Q => (y = .non ∧ Q (.bl (if neg then !decide (x = .non) else decide (x = .non))) H) ∨ (∃ a b, x = .bl a ∧ y = .bl b ∧ Q (.bl (if neg then !decide (a = b) else decide (a = b))) H)
theorem op_isA : OpR X (compareOp .Is) (rIsA false) := op_isN.or op_isBl
theorem op_isNotA : OpR X (compareOp .IsNot) (rIsA true) := op_notN.or op_notBl
theorem non_dec {K : PySem.W.Frag} {F : Hp} {al : Nat → Addr} {n : Nat} {v : V} {d : D} (h : Is K F al n v d) : decide (v = .non) = isNon d := by
  cases h <;> simp [isNon]
theorem sd_is (K : PySem.W.Frag) (neg : Bool) : OpSd K (rIsA neg) (hIsN neg) := by
  intro W σ g m x y dx dy Q rp ix iy q
  unfold hIsN at q
  split at q
  · cases iy
    refine .inl ⟨rfl, ?_⟩
    have e := non_dec ix
    rw [e]
    exact pre_val rp q (.bl _)
  · cases ix; cases iy
    exact .inr ⟨_, _, rfl, rfl, pre_val rp q (.bl _)⟩
  · exact q.elim

/-! ### built-in functions of values -/
theorem pd_cb {W : WX} {id : String} {r : List V → Hp → VK → Prop} {h : HL} {x : Str} {e : Expr} {es : List Expr} {f : FA} {p pos : Pos} (hc : CallR X (.builtin id) r) (hs : CaSd X.K r h) (hg : Gl X x) (hm : X.mg x = none) (hv : bootBuiltins x = some (.builtin id)) (ha : PDA X W (e :: es) f)
    (hn : x ≠ "__name__" := by decide) (hdb : (x == ("__debug__" : Str)) = false := by decide) (he : starEach (e :: es) X.env = (false, eval e X.env) :: starEach es X.env := by rfl) (hpl : (backTo pos (starEach es X.env)).any (·.1) = false := by rfl) :
    PD X W (.Call (.Name x p) (e :: es) [] pos) (eCB h f) := by
  obtain ⟨t, pt, s⟩ := ha.ex
  exact ⟨⟨_, pe_callB hc hg hm hv pt hn hdb he hpl, fun g m σ ρ Q rp en q => s g m σ ρ _ rp en (pre_bind q fun g1 m1 x dx rp1 l1 ix q1 => hs W σ g1 m1 x dx Q rp1 ix q1)⟩⟩
theorem pd_ct {W : WX} {T : String} {r : List V → Hp → VK → Prop} {h : HL} {x : Str} {e : Expr} {es : List Expr} {f : FA} {p pos : Pos} (hc : CallR X (.type T) r) (hs : CaSd X.K r h) (hg : Gl X x) (hm : X.mg x = none) (hv : bootBuiltins x = some (.type T)) (ha : PDA X W (e :: es) f)
    (hn : x ≠ "__name__" := by decide) (hdb : (x == ("__debug__" : Str)) = false := by decide) (he : starEach (e :: es) X.env = (false, eval e X.env) :: starEach es X.env := by rfl) (hpl : (backTo pos (starEach es X.env)).any (·.1) = false := by rfl) :
    PD X W (.Call (.Name x p) (e :: es) [] pos) (eCB h f) := by
  obtain ⟨t, pt, s⟩ := ha.ex
  exact ⟨⟨_, pe_callTy hc hg hm hv pt hn hdb he hpl, fun g m σ ρ Q rp en q => s g m σ ρ _ rp en (pre_bind q fun g1 m1 x dx rp1 l1 ix q1 => hs W σ g1 m1 x dx Q rp1 ix q1)⟩⟩
def dicV (m : Mem) : D → Option Nat
  | .dK kvs => some kvs.length
  | .dT kvs => some kvs.length
  | .mref i => match m[i]? with
    | some (.dK kvs) => some kvs.length
    | some (.lkK kvs) => some kvs.length
    | some (.dT kvs) => some kvs.length
    | some (.lkT kvs) => some kvs.length
    | _ => none
  | _ => none
/-- len of a list, a tuple, a text -/
def hLen : HL := fun ds m => match ds with
  | [.str x] => if x.length ≤ sizeLine then .ok (.int x.length) m else .bad
  | [d] => match seqV m d with
    | some xs => .ok (.int xs.length) m
    | none => .bad
  | _ => .bad
theorem call_lenA : CallR X (.builtin "len") (fun xs H Q => (∃ p ys, xs = [.ref p] ∧ (SqL X.K H p ys ∨ SqT X.K H p ys) ∧ Q (.int ys.length) H) ∨ (∃ z, xs = [.str z] ∧ z.length ≤ sizeLine ∧ Q (.int z.length) H)) := call_len_seq.or call_len_str
theorem sd_len (K : PySem.W.Frag) : CaSd K (fun xs H Q => (∃ p ys, xs = [.ref p] ∧ (SqL K H p ys ∨ SqT K H p ys) ∧ Q (.int ys.length) H) ∨ (∃ z, xs = [.str z] ∧ z.length ≤ sizeLine ∧ Q (.int z.length) H)) hLen := by
  intro W σ g m xs ds Q rp ix q
  unfold hLen at q
  split at q
  · split at q
    · rename_i hz
      cases ix with
      | cons h t => cases t; cases h; exact .inr ⟨_, rfl, hz, pre_val rp q (.int _)⟩
    · exact q.elim
  · split at q
    · rename_i ys e
      cases ix with
      | cons h t =>
        cases t
        obtain ⟨a, vs, rfl, h1, h2, h3⟩ := seqV_ok rp h e
        refine .inl ⟨a, vs, rfl, h1, ?_⟩
        rw [h3.length]
        exact pre_val rp q (.int _)
    · exact q.elim
  · exact q.elim
/-- list(..) and tuple(..) of a list or tuple; the list frozen or kept mutable -/
def hList : HL := fun ds m => match ds with
  | [d] => match seqV m d with
    | some xs => .ok (.lst xs) m
    | none => .bad
  | _ => .bad
def hListM : HL := fun ds m => match ds with
  | [d] => match seqV m d with
    | some xs => .ok (.mref m.length) (m ++ [.lst xs])
    | none => .bad
  | _ => .bad
theorem sd_list (K : PySem.W.Frag) : CaSd K (fun xs H Q => ∃ p ys, xs = [.ref p] ∧ (SqL K H p ys ∨ SqT K H p ys) ∧ ∀ l, H l = none → Q (.ref l) (upd H l (.lst ys))) hList := by
  intro W σ g m xs ds Q rp ix q
  unfold hList at q
  split at q
  · split at q
    · rename_i ys e
      cases ix with
      | cons h t =>
        cases t
        obtain ⟨a, vs, rfl, h1, h2, h3⟩ := seqV_ok rp h e
        exact ⟨a, vs, rfl, h1, pre_newL rp q h2 h3⟩
    · exact q.elim
  · exact q.elim
theorem sd_listM (K : PySem.W.Frag) : CaSd K (fun xs H Q => ∃ p ys, xs = [.ref p] ∧ (SqL K H p ys ∨ SqT K H p ys) ∧ ∀ l, H l = none → Q (.ref l) (upd H l (.lst ys))) hListM := by
  intro W σ g m xs ds Q rp ix q
  unfold hListM at q
  split at q
  · split at q
    · rename_i ys e
      cases ix with
      | cons h t =>
        cases t
        obtain ⟨a, vs, rfl, h1, h2, h3⟩ := seqV_ok rp h e
        exact ⟨a, vs, rfl, h1, pre_newM rp q h2 h3⟩
    · exact q.elim
  · exact q.elim
def hTuple : HL := fun ds m => match ds with
  | [.tup xs] => .ok (.tup xs) m
  | [d] => match lstV m d with
    | some xs => .ok (.tup xs) m
    | none => .bad
  | _ => .bad
theorem sd_tuple (K : PySem.W.Frag) : CaSd K (fun xs H Q => ∃ p ys, xs = [.ref p] ∧ ((SqL K H p ys ∧ ∀ l, H l = none → Q (.ref l) (upd H l (.tup ys))) ∨ (SqT K H p ys ∧ Q (.ref p) H))) hTuple := by
  intro W σ g m xs ds Q rp ix q
  unfold hTuple at q
  split at q
  · cases ix with
    | cons h t =>
      cases t
      cases h with
      | tup s z l => exact ⟨_, _, rfl, .inr ⟨rp.sqT s, pre_val rp q (.tup s z l)⟩⟩
  · split at q
    · rename_i ys e
      cases ix with
      | cons h t =>
        cases t
        obtain ⟨a, vs, rfl, h1, h2, h3⟩ := lstV_ok rp h e
        exact ⟨a, vs, rfl, .inl ⟨h1, pre_newT rp q h2 h3⟩⟩
    · exact q.elim
  · exact q.elim
def hInt : HL := fun ds m => match ds with
  | [.int i] => .ok (.int i) m
  | [.bl b] => .ok (.int (if b then 1 else 0)) m
  | _ => .bad
theorem sd_int (K : PySem.W.Frag) : CaSd K (fun xs H Q => (∃ i, xs = [.int i] ∧ Q (.int i) H) ∨ ∃ k, xs = [.bl k] ∧ Q (.int (if k then 1 else 0)) H) hInt := by
  intro W σ g m xs ds Q rp ix q
  unfold hInt at q
  split at q
  · cases ix with | cons h t => cases t; cases h; exact .inl ⟨_, rfl, pre_val rp q (.int _)⟩
  · cases ix with | cons h t => cases t; cases h; exact .inr ⟨_, rfl, pre_val rp q (.int _)⟩
  · exact q.elim
def hAbs : HL := fun ds m => match ds with
  | [.int i] => .ok (.int (if i < 0 then -i else i)) m
  | _ => .bad
theorem sd_abs (K : PySem.W.Frag) : CaSd K (fun xs H Q => ∃ i, xs = [.int i] ∧ Q (.int (if i < 0 then -i else i)) H) hAbs := by
  intro W σ g m xs ds Q rp ix q
  unfold hAbs at q
  split at q
  · cases ix with | cons h t => cases t; cases h; exact ⟨_, rfl, pre_val rp q (.int _)⟩
  · exact q.elim
/-- all, any of a list of truth values; sum of ints -/
def blsV : List D → Option (List Bool)
  | [] => some []
  | .bl b :: r => (blsV r).map (b :: ·)
  | _ :: _ => none
def intsV : List D → Option (List Int)
  | [] => some []
  | .int b :: r => (intsV r).map (b :: ·)
  | _ :: _ => none
theorem blsV_ok {K : PySem.W.Frag} {F : Hp} {al : Nat → Addr} {n : Nat} : ∀ {vs : List V} {ds : List D} {bs : List Bool}, IsL K F al n vs ds → blsV ds = some bs → vs = bs.map V.bl
  | _, _, _, .nil, h => by simp only [blsV] at h; cases h; rfl
  | _, _, _, .cons i t, h => by
    cases i <;> simp only [blsV] at h <;> try (cases h; done)
    obtain ⟨r, h1, rfl⟩ := Option.map_eq_some_iff.mp h
    rw [blsV_ok t h1]
    rfl
theorem intsV_ok {K : PySem.W.Frag} {F : Hp} {al : Nat → Addr} {n : Nat} : ∀ {vs : List V} {ds : List D} {bs : List Int}, IsL K F al n vs ds → intsV ds = some bs → vs = bs.map V.int
  | _, _, _, .nil, h => by simp only [intsV] at h; cases h; rfl
  | _, _, _, .cons i t, h => by
    cases i <;> simp only [intsV] at h <;> try (cases h; done)
    obtain ⟨r, h1, rfl⟩ := Option.map_eq_some_iff.mp h
    rw [intsV_ok t h1]
    rfl
def hBls (f : List Bool → Bool) : HL := fun ds m => match ds with
  | [d] => match lstV m d with
    | some xs => match blsV xs with
      | some bs => .ok (.bl (f bs)) m
      | none => .bad
    | none => .bad
  | _ => .bad
theorem sd_bls (K : PySem.W.Frag) (f : List Bool → Bool) : CaSd K (fun vs H Q => ∃ (a : Addr) (bs : List Bool), vs = [V.ref a] ∧ SqL K H a (bs.map V.bl) ∧ Q (.bl (f bs)) H) (hBls f) := by
  intro W σ g m xs ds Q rp ix q
  unfold hBls at q
  split at q
  · split at q
    · rename_i ys e
      split at q
      · rename_i bs eb
        cases ix with
        | cons h t =>
          cases t
          obtain ⟨a, vs, rfl, h1, h2, h3⟩ := lstV_ok rp h e
          have ev := blsV_ok h3 eb
          subst ev
          exact ⟨a, bs, rfl, h1, pre_val rp q (.bl _)⟩
      · exact q.elim
    · exact q.elim
  · exact q.elim
def hSum : HL := fun ds m => match ds with
  | [d] => match lstV m d with
    | some xs => match intsV xs with
      | some bs => .ok (.int bs.sum) m
      | none => .bad
    | none => .bad
  | _ => .bad
theorem sd_sum (K : PySem.W.Frag) : CaSd K (rSum K) hSum := by
  intro W σ g m xs ds Q rp ix q
  unfold hSum at q
  split at q
  · split at q
    · rename_i ys e
      split at q
      · rename_i bs eb
        cases ix with
        | cons h t =>
          cases t
          obtain ⟨a, vs, rfl, h1, h2, h3⟩ := lstV_ok rp h e
          have ev := intsV_ok h3 eb
          subst ev
          exact ⟨a, bs, rfl, h1, pre_val rp q (.int _)⟩
      · exact q.elim
    · exact q.elim
  · exact q.elim

/-! ### places and slices -/
def hIx : H2 := fun x y m => match x, y with
  | .str z, .int i => if z.length ≤ sizeLine then (match atI z.cps.toList i with
    | some c => .ok (.str ⟨#[c]⟩) m
    | none => .bad) else .bad
  | x, .int i => match seqV m x with
    | some xs => (match atI xs i with
      | some d => .ok d m
      | none => .bad)
    | none => .bad
  | _, _ => .bad
theorem atI_is {K : PySem.W.Frag} {F : Hp} {al : Nat → Addr} {n : Nat} {vs : List V} {ds : List D} {i : Int} {d : D} (l : IsL K F al n vs ds) (h : atI ds i = some d) : ∃ v, atI vs i = some v ∧ Is K F al n v d := by
  unfold atI at h ⊢
  rw [l.length]
  cases e : ixN ds.length i with
  | none => rw [e] at h; cases h
  | some j =>
    rw [e] at h
    exact l.get h
theorem sd_ix (K : PySem.W.Frag) : OpSd K (rIx K) hIx := by
  intro W σ g m x y dx dy Q rp ix iy q
  unfold hIx at q
  split at q
  · split at q
    · rename_i hz
      split at q
      · rename_i c e
        cases ix; cases iy
        exact .inr (.inr ⟨_, _, _, rfl, rfl, hz, e, pre_val rp q (.str _)⟩)
      · exact q.elim
    · exact q.elim
  · split at q
    · rename_i xs e
      split at q
      · rename_i d ed
        obtain ⟨a, vs, rfl, h1, h2, h3⟩ := seqV_ok rp ix e
        cases iy
        obtain ⟨v, ev, iv⟩ := atI_is h3 ed
        rcases h1 with h1 | h1
        · exact .inl ⟨a, vs, _, v, rfl, rfl, h1, ev, pre_val rp q iv⟩
        · exact .inr (.inl ⟨a, vs, _, v, rfl, rfl, h1, ev, pre_val rp q iv⟩)
      · exact q.elim
    · exact q.elim
  · exact q.elim
theorem pd_ix {W : WX} {a b : Expr} {fa fb : FE} {pos : Pos} (ha : PD X W a fa) (hb : PD X W b fb) (hs : PlainIx b := by exact fun _ _ => rfl) : PD X W (.Subscript a b pos) (eOp hIx fa fb) := by
  obtain ⟨ta, pa, sa⟩ := ha.ex
  obtain ⟨tb, pb, sb⟩ := hb.ex
  exact ⟨⟨_, pe_ix ix_seq pa pb hs, sd_op (sd_ix X.K) sa sb⟩⟩
abbrev FO := EnvD → Mem → Res (Option Int)
def oNo : FO := fun _ m => .ok none m
def oSo (a : FE) : FO := fun ρ m => (a ρ m).bind fun x m1 => match x with
  | .int i => .ok (some i) m1
  | _ => .bad
abbrev RO : Gh → Mem → Option Int → Option Int → Prop := fun _ _ a b => a = b
structure PDO (X : Cx) (W : WX) (e : Option Expr) (f : FO) : Prop where
  ex : ∃ t, PO X e t ∧ ∀ g m σ ρ Q, Rep X.K g m → EnvOk X.K g m σ ρ → Pre RO X.K W σ g m Q (f ρ m) → t σ g.H Q
theorem pdo_no {W : WX} : PDO X W none oNo := ⟨⟨_, po_none, fun g m σ ρ Q rp en q => q g _ rp (Le.refl _ _) rfl⟩⟩
theorem pdo_so {W : WX} {e : Expr} {f : FE} (h : PD X W e f) : PDO X W (some e) (oSo f) := by
  obtain ⟨t, p, s⟩ := h.ex
  refine ⟨⟨_, po_some p, fun g m σ ρ Q rp en q => s g m σ ρ _ rp en (pre_bind q fun g1 m1 x dx rp1 l1 ix q1 => ?_)⟩⟩
  cases ix <;> first | exact q1.elim | exact ⟨_, rfl, q1 g1 _ rp1 (Le.refl _ _) rfl⟩
def cutD (xs : List D) (lo hi : Option Int) : List D := (xs.drop (HT.sIx xs.length 0 lo)).take (HT.sIx xs.length xs.length hi - HT.sIx xs.length 0 lo)
theorem cutD_is {K : PySem.W.Frag} {F : Hp} {al : Nat → Addr} {n : Nat} {vs : List V} {ds : List D} (l : IsL K F al n vs ds) (lo hi : Option Int) : IsL K F al n (cutV vs lo hi) (cutD ds lo hi) := by
  unfold cutV cutD
  rw [l.length]
  exact (l.drop _).take _
/-- x[lo:hi] of a tuple, of a list (frozen, or kept mutable) -/
def hSl (mu : Bool) (x : D) (lo hi : Option Int) (m : Mem) : Res D := match x with
  | .tup xs => .ok (.tup (cutD xs lo hi)) m
  | x => match lstV m x with
    | some xs => if mu then .ok (.mref m.length) (m ++ [.lst (cutD xs lo hi)]) else .ok (.lst (cutD xs lo hi)) m
    | none => .bad
def eSl (mu : Bool) (a : FE) (l h : FO) : FE := fun ρ m => (a ρ m).bind fun x m1 => (l ρ m1).bind fun lo m2 => (h ρ m2).bind fun hi m3 => hSl mu x lo hi m3
theorem whole_cut (xs : List D) (lo hi : Option Int) (h : HT.sIx xs.length 0 lo = 0 ∧ HT.sIx xs.length xs.length hi = xs.length) : cutD xs lo hi = xs := by
  unfold cutD
  rw [h.1, h.2, List.drop_zero, Nat.sub_zero, List.take_length]
theorem pd_slice {W : WX} (mu : Bool) {e : Expr} {f : FE} {lo hi : Option Expr} {fl fh : FO} {p2 pos : Pos} (he : PD X W e f) (hl : PDO X W lo fl) (hh : PDO X W hi fh) : PD X W (.Subscript e (.Slice lo hi none p2) pos) (eSl mu f fl fh) := by
  obtain ⟨t, p, s⟩ := he.ex
  obtain ⟨tl, pl, sl⟩ := hl.ex
  obtain ⟨th, ph, sh⟩ := hh.ex
  refine ⟨⟨_, pe_slice (sl_tupA.or sl_list) p pl ph, fun g m σ ρ Q rp en q => s g m σ ρ _ rp en (pre_bind q fun g1 m1 x dx rp1 l1 ix q1 => sl g1 m1 σ ρ _ rp1 (en.le l1) (pre_bind q1 fun g2 m2 lo lo' rp2 l2 el q2 =>
    sh g2 m2 σ ρ _ rp2 (en.le (l1.trans l2)) (pre_bind q2 fun g3 m3 hi hi' rp3 l3 eh q3 => ?_)))⟩⟩
  subst el
  subst eh
  have ix3 := (ix.le l2).le l3
  unfold hSl at q3
  split at q3
  · cases ix3 with
    | tup s z l =>
      rename_i a vs
      refine .inl ⟨_, _, rfl, rp3.sqT s, fun hw => ?_, fun _ p hp => ?_⟩
      · rw [l.length] at hw
        rw [whole_cut _ _ _ hw] at q3
        exact pre_val rp3 q3 (.tup s z l)
      · exact pre_newT rp3 q3 (Nat.le_trans (cutV_length _ _ _) z) (cutD_is l _ _) p hp
  · split at q3
    · rename_i xs ex
      obtain ⟨a, vs, rfl, h1, h2, h3⟩ := lstV_ok rp3 ix3 ex
      refine .inr ⟨a, vs, rfl, h1, fun p hp => ?_⟩
      split at q3
      · exact pre_newM rp3 q3 (Nat.le_trans (cutV_length _ _ _) h2) (cutD_is h3 _ _) p hp
      · exact pre_newL rp3 q3 (Nat.le_trans (cutV_length _ _ _) h2) (cutD_is h3 _ _) p hp
    · exact q3.elim
/-- x[::-1] -/
def hRev : H1 := fun x m => match lstV m x with
  | some xs => .ok (.lst xs.reverse) m
  | none => .bad
theorem pd_rev {W : WX} {e : Expr} {f : FE} {k : Nat} {p1 p2 p3 pos : Pos} (he : PD X W e f) : PD X W (.Subscript e (.Slice none none (some (.UnaryOp .USub (.Constant (.int 1) k p1) p2)) p3) pos) (eUn hRev f) := by
  obtain ⟨t, p, s⟩ := he.ex
  refine ⟨⟨_, pe_revL p, fun g m σ ρ Q rp en q => s g m σ ρ _ rp en (pre_bind q fun g1 m1 x dx rp1 l1 ix q1 => ?_)⟩⟩
  unfold hRev at q1
  split at q1
  · rename_i xs ex
    obtain ⟨a, vs, rfl, h1, h2, h3⟩ := lstV_ok rp1 ix ex
    exact ⟨a, vs, rfl, h1, pre_newL rp1 q1 (by rw [List.length_reverse]; exact h2) h3.reverse⟩
  · exact q1.elim
end
end DL
end
section
set_option maxRecDepth 100000
set_option maxHeartbeats 2000000
/-! The data layer, part 5: what is walked, targets, list comprehensions. -/
namespace DL
open PySem L2
open Classical

/-! ### the reading of a function of data -/
def cE (K : PySem.W.Frag) (W : WX) (f : FE) : TE := fun σ H Q => ∃ g m ρ, g.H = H ∧ Rep K g m ∧ EnvOk K g m σ ρ ∧ Pre (RE K) K W σ g m Q (f ρ m)
def cT (K : PySem.W.Frag) (W : WX) (f : FT) : TT := fun σ H Q => ∃ g m ρ, g.H = H ∧ Rep K g m ∧ EnvOk K g m σ ρ ∧ Pre RB K W σ g m Q (f ρ m)
theorem PD.can {X : Cx} {W : WX} {e : Expr} {f : FE} (h : PD X W e f) : PE X e (cE X.K W f) := by
  obtain ⟨t, p, s⟩ := h.ex
  refine ⟨fun pins s0 σ H Q I q => ?_⟩
  obtain ⟨g, m, ρ, rfl, rp, en, q⟩ := q
  exact p.run pins s0 σ g.H Q I (s g m σ ρ Q rp en q)
theorem sd_cE {K : PySem.W.Frag} {W : WX} {f : FE} : SdE K W (cE K W f) f := fun g m σ ρ Q rp en q => ⟨g, m, ρ, rfl, rp, en, q⟩
theorem PDT.can {X : Cx} {W : WX} {e : Expr} {f : FT} (h : PDT X W e f) : PT X e (cT X.K W f) := by
  obtain ⟨t, p, s⟩ := h.ex
  refine ⟨fun pins s0 σ H Q I q => ?_⟩
  obtain ⟨g, m, ρ, rfl, rp, en, q⟩ := q
  exact p.run pins s0 σ g.H Q I (s g m σ ρ Q rp en q)
theorem sd_cT {K : PySem.W.Frag} {W : WX} {f : FT} : SdT K W (cT K W f) f := fun g m σ ρ Q rp en q => ⟨g, m, ρ, rfl, rp, en, q⟩
theorem PE.or {X : Cx} {e : Expr} {t u : TE} (h : PE X e t) (h' : PE X e u) : PE X e (fun σ H Q => t σ H Q ∨ u σ H Q) := ⟨fun pins s σ H Q I q => q.elim (h.run pins s σ H Q I) (h'.run pins s σ H Q I)⟩
theorem PI.or {X : Cx} {tg e : Expr} {t u : TI} (h : PI X tg e t) (h' : PI X tg e u) : PI X tg e (fun σ H Q => t σ H Q ∨ u σ H Q) := ⟨fun pins s σ H Q I q => q.elim (h.run pins s σ H Q I) (h'.run pins s σ H Q I)⟩
theorem PS.or {X : Cx} {e : Stmt} {t u : TS} (h : PS X e t) (h' : PS X e u) : PS X e (fun D σ H => t D σ H ∨ u D σ H) := ⟨fun pins s σ H D I q => q.elim (h.run pins s σ H D I) (h'.run pins s σ H D I)⟩

/-! ### targets -/
abbrev FG := D → EnvD → Mem → Res EnvD
abbrev FGs := List D → EnvD → Mem → Res EnvD
/-- the slots outside of is are kept -/
def Sl (is : List Nat) (σ σ' : St) : Prop := σ'.length = σ.length ∧ ∀ j, j ∉ is → σ'[j]? = σ[j]?
theorem Sl.refl (is : List Nat) (σ : St) : Sl is σ σ := ⟨rfl, fun _ _ => rfl⟩
theorem Sl.trans {is js : List Nat} {σ σ1 σ2 : St} (a : Sl is σ σ1) (b : Sl js σ1 σ2) : Sl (is ++ js) σ σ2 :=
  ⟨b.1.trans a.1, fun j h => by rw [List.mem_append, not_or] at h; exact (b.2 j h.2).trans (a.2 j h.1)⟩
theorem wipe_get (σ : St) : ∀ (vs : List Nat) (j : Nat), (wipe σ vs)[j]? = if j ∈ vs ∧ j < σ.length then some none else σ[j]?
  | [], j => by simp [wipe]
  | v :: vs, j => by
    unfold wipe
    by_cases hj : v = j
    · subst hj
      by_cases hl : v < σ.length
      · rw [List.getElem?_set_self (by rw [wipe_length]; exact hl), if_pos ⟨by simp, hl⟩]
      · rw [if_neg (fun z => hl z.2), List.getElem?_eq_none (by rw [List.length_set, wipe_length]; omega), List.getElem?_eq_none (by omega)]
    · rw [List.getElem?_set_ne hj, wipe_get σ vs j]
      have e : (j ∈ v :: vs) ↔ j ∈ vs := by rw [List.mem_cons]; exact ⟨fun z => z.resolve_left (fun q => hj q.symm), .inr⟩
      simp only [e]
theorem Sl.wipe {is vs : List Nat} {σ σ' : St} (h : Sl is σ σ') (hs : ∀ i ∈ is, i ∈ vs) : wipe σ' vs = wipe σ vs := by
  apply List.ext_getElem?
  intro j
  rw [wipe_get, wipe_get, h.1]
  by_cases hj : j ∈ vs
  · by_cases hl : j < σ.length
    · rw [if_pos ⟨hj, hl⟩, if_pos ⟨hj, hl⟩]
    · rw [if_neg (fun z => hl z.2), if_neg (fun z => hl z.2), List.getElem?_eq_none (by rw [h.1]; omega), List.getElem?_eq_none (by omega)]
  · rw [if_neg (fun z => hj z.1), if_neg (fun z => hj z.1)]
    exact h.2 j fun z => hj (hs j z)
theorem wipe_wipe (σ : St) (vs : List Nat) : wipe (wipe σ vs) vs = wipe σ vs := by
  apply List.ext_getElem?
  intro j
  rw [wipe_get, wipe_get, wipe_length]
  split <;> rfl
abbrev RG (K : PySem.W.Frag) (is : List Nat) (σ : St) : Gh → Mem → St → EnvD → Prop := fun g m σ' ρ' => EnvOk K g m σ' ρ' ∧ Sl is σ σ'
def SdG (K : PySem.W.Frag) (W : WX) (t : TG) (f : FG) (is : List Nat) : Prop := ∀ g m σ ρ v d (Q : St → Hp → Prop), Rep K g m → EnvOk K g m σ ρ → IsG K g m v d → Pre (RG K is σ) K W σ g m Q (f d ρ m) → t v σ g.H Q
def SdGs (K : PySem.W.Frag) (W : WX) (t : TGs) (f : FGs) (is : List Nat) : Prop := ∀ g m σ ρ v d (Q : St → Hp → Prop), Rep K g m → EnvOk K g m σ ρ → IsGL K g m v d → Pre (RG K is σ) K W σ g m Q (f d ρ m) → t v σ g.H Q
structure PDG (X : Cx) (W : WX) (tg : Expr) (f : FG) (is : List Nat) : Prop where
  ex : ∃ t, PG X tg t ∧ SdG X.K W t f is
structure PDGs (X : Cx) (W : WX) (tg : List Expr) (f : FGs) (is : List Nat) : Prop where
  ex : ∃ t, PGs X tg t ∧ SdGs X.K W t f is
def gN (i : Nat) : FG := fun d ρ m => .ok (ρ.set i (some d)) m
def gsNil : FGs := fun ds ρ m => match ds with
  | [] => .ok ρ m
  | _ => .bad
def gsCons (f : FG) (r : FGs) : FGs := fun ds ρ m => match ds with
  | d :: ds => (f d ρ m).bind fun ρ1 m1 => r ds ρ1 m1
  | [] => .bad
def gT (n : Nat) (f : FGs) : FG := fun d ρ m => match d with
  | .tup xs => if xs.length = n then f xs ρ m else .bad
  | _ => .bad
section
variable {X : Cx} {W : WX} {pos : Pos}
theorem pdg_name (i : Nat) {x : Str} (hN : X.N.Nodup) (hi : X.N[i]? = some x := by rfl) (hx : Loc X.env.scope x := by first | exact Or.inl rfl | exact Or.inr rfl) (hf : X.fn x = true ∨ X.env.scope.names.lookup x = some .local := by first | exact .inl rfl | exact .inr rfl | assumption) : PDG X W (.Name x pos) (gN i) [i] := by
  refine ⟨⟨_, pg_name hN hi hx hf, fun g m σ ρ v d Q rp en iv q => ?_⟩⟩
  exact q g (σ.set i (some v)) rp (Le.refl _ _) ⟨en.set i iv, by rw [List.length_set], fun j h => List.getElem?_set_ne (fun e => h (by simp [e]))⟩
theorem pdgs_nil : PDGs X W [] gsNil [] := by
  refine ⟨⟨_, pgs_nil, fun g m σ ρ v d Q rp en iv q => ?_⟩⟩
  cases iv with
  | nil => exact ⟨rfl, q g σ rp (Le.refl _ _) ⟨en, Sl.refl _ _⟩⟩
  | cons _ _ => exact q.elim
theorem Pre.mapR {A B : Type} {R R' : Gh → Mem → A → B → Prop} {K : PySem.W.Frag} {σ : St} {g : Gh} {m : Mem} {Q : A → Hp → Prop} (h : ∀ g m a b, R' g m a b → R g m a b) : ∀ {r : Res B}, Pre R K W σ g m Q r → Pre R' K W σ g m Q r
  | .ok _ _, q => fun g' a rp l ra => q g' a rp l (h _ _ _ _ ra)
  | .exc _ _, q => q
  | .bad, q => q
theorem pre_bindG {A B A2 B2 : Type} {R : Gh → Mem → A → B → Prop} {R2 : Gh → Mem → A2 → B2 → Prop} {K : PySem.W.Frag} {σ σ1 : St} {g : Gh} {m : Mem} {Q : A2 → Hp → Prop} {Q1 : A → Hp → Prop} {r : Res B} {k : B → Mem → Res B2}
    (h : Pre R2 K W σ g m Q (r.bind k)) (hk : ∀ g1 m1 a b, Rep K g1 m1 → Le g m g1 m1 → R g1 m1 a b → Pre R2 K W σ g1 m1 Q (k b m1) → Q1 a g1.H) : Pre R K W σ g m Q1 r := pre_bind h hk
/-- the exception part of what is wanted does not look at the slots -/
def Flat (W : WX) : Prop := ∀ c d σ σ' H, W c d σ H → W c d σ' H
theorem Pre.flat {A B : Type} {R : Gh → Mem → A → B → Prop} {K : PySem.W.Frag} {σ σ' : St} {g : Gh} {m : Mem} {Q : A → Hp → Prop} (hW : Flat W) : ∀ {r : Res B}, Pre R K W σ g m Q r → Pre R K W σ' g m Q r
  | .ok _ _, q => q
  | .exc _ _, q => fun g' c d rp l x => hW _ _ _ _ _ (q g' c d rp l x)
  | .bad, q => q
/-- binding names raises nothing of its own: results that are no exception -/
def NoX {B : Type} (r : Res B) : Prop := ∀ x m, r ≠ .exc x m
theorem Pre.nox {A B : Type} {R : Gh → Mem → A → B → Prop} {K : PySem.W.Frag} {W' : WX} {σ σ' : St} {g : Gh} {m : Mem} {Q : A → Hp → Prop} : ∀ {r : Res B}, NoX r → Pre R K W σ g m Q r → Pre R K W' σ' g m Q r
  | .ok _ _, _, q => q
  | .exc _ _, n, _ => absurd rfl (n _ _)
  | .bad, _, q => q
theorem pdgs_cons {e : Expr} {es : List Expr} {f : FG} {r : FGs} {is js : List Nat} (h1 : PDG X W e f is) (h2 : PDGs X W es r js) (n2 : ∀ ds ρ m, NoX (r ds ρ m)) (hs : (assignEach (e :: es) X.env).map (·.2) = assign e X.env :: (assignEach es X.env).map (·.2) := by rfl) : PDGs X W (e :: es) (gsCons f r) (is ++ js) := by
  obtain ⟨t, p, s⟩ := h1.ex
  obtain ⟨t', p', s'⟩ := h2.ex
  refine ⟨⟨_, pgs_cons p p' hs, fun g m σ ρ v d Q rp en iv q => ?_⟩⟩
  cases iv with
  | nil => exact q.elim
  | cons iv il =>
    refine ⟨_, _, rfl, s g m σ ρ _ _ _ rp en iv (pre_bind q fun g1 m1 σ1 ρ1 rp1 l1 r1 q1 => ?_)⟩
    refine s' g1 m1 σ1 ρ1 _ _ _ rp1 r1.1 (il.le l1) (Pre.mapR ?_ (Pre.nox (n2 _ _ _) q1))
    exact fun g2 m2 σ2 ρ2 r2 => ⟨r2.1, r1.2.trans r2.2⟩
theorem pdg_tup {es : List Expr} {k n : Nat} {f : FGs} {is : List Nat} (hc : X.calm = true) (h : PDGs X W es f is) (hn : (assignEach es X.env).length = n := by rfl) (hst : (assignEach es X.env).findIdx? (·.1) = none := by rfl) : PDG X W (.Tuple es k pos) (gT n f) is := by
  obtain ⟨t, p, s⟩ := h.ex
  refine ⟨⟨_, pg_tup hc p hn hst, fun g m σ ρ v d Q rp en iv q => ?_⟩⟩
  unfold gT at q
  split at q
  · split at q
    · rename_i hl
      cases iv with
      | tup z1 z2 z3 => exact ⟨_, _, rfl, rp.sqT z1, by rw [z3.length]; exact hl, s g m σ ρ _ _ Q rp en z3 q⟩
    · exact q.elim
  · exact q.elim
end
theorem nox_gN (i : Nat) (d : D) (ρ : EnvD) (m : Mem) : NoX (gN i d ρ m) := fun _ _ h => by cases h
theorem nox_nil (ds : List D) (ρ : EnvD) (m : Mem) : NoX (gsNil ds ρ m) := fun _ _ h => by unfold gsNil at h; split at h <;> cases h
theorem nox_cons {f : FG} {r : FGs} (h1 : ∀ d ρ m, NoX (f d ρ m)) (h2 : ∀ ds ρ m, NoX (r ds ρ m)) (ds : List D) (ρ : EnvD) (m : Mem) : NoX (gsCons f r ds ρ m) := fun x m' h => by
  unfold gsCons at h
  split at h
  · rename_i d ds
    cases e : f d ρ m with
    | ok a m1 => rw [e] at h; exact h2 _ _ _ _ _ h
    | exc y m1 => exact h1 d ρ m y m1 e
    | bad => rw [e] at h; cases h
  · cases h
theorem nox_tup {n : Nat} {f : FGs} (h : ∀ ds ρ m, NoX (f ds ρ m)) (d : D) (ρ : EnvD) (m : Mem) : NoX (gT n f d ρ m) := fun x m' q => by
  unfold gT at q
  split at q
  · split at q
    · exact h _ _ _ _ _ q
    · cases q
  · cases q

/-! ### what is walked -/
abbrev FI := EnvD → Mem → Res (List D)
structure IterOk (K : PySem.W.Frag) (J : It) (g1 : Gh) (m1 : Mem) (ds : List D) : Prop where
  sz : ds.length ≤ sizeLine
  go : ∀ g m, Rep K g m → Lw g1 m1 g m → ∀ i d, ds[i]? = some d → J.go i g.H ∧ ∀ x H', J.yld i g.H x H' → ∃ g', g'.H = H' ∧ Rep K g' m ∧ Le g m g' m ∧ IsG K g' m x d
  stop : ∀ g m, Rep K g m → Lw g1 m1 g m → J.stop ds.length g.H
theorem IterOk.le {K : PySem.W.Frag} {J : It} {g1 g2 : Gh} {m1 m2 : Mem} {ds : List D} (h : IterOk K J g1 m1 ds) (l : Lw g1 m1 g2 m2) : IterOk K J g2 m2 ds :=
  ⟨h.sz, fun g m rp l' => h.go g m rp (l.trans l'), fun g m rp l' => h.stop g m rp (l.trans l')⟩
structure PDI (X : Cx) (W : WX) (tg it : Expr) (f : FI) : Prop where
  ex : ∃ w, PI X tg it w ∧ ∀ g m σ ρ R, Rep X.K g m → EnvOk X.K g m σ ρ → Pre (fun g m J ds => IterOk X.K J g m ds) X.K W σ g m R (f ρ m) → w σ g.H R
/-- frozen, or locked -/
def lstK (m : Mem) : D → Option (List D)
  | .lst xs => some xs
  | .slst xs => some xs
  | .mref i => match m[i]? with
    | some (.lkL xs) => some xs
    | _ => none
  | _ => none
def iSeq (a : FE) : FI := fun ρ m => (a ρ m).bind fun x m1 => match x with
  | .tup xs => .ok xs m1
  | .str z => if z.length ≤ sizeLine then .ok (z.cps.toList.map fun c => .str ⟨#[c]⟩) m1 else .bad
  | x => match lstK m1 x with
    | some xs => .ok xs m1
    | none => .bad
section
variable {K : PySem.W.Frag} {g : Gh} {m : Mem}
/-- a list that is frozen or locked stays as it is -/
theorem lstK_stays (rp : Rep K g m) {v : V} {d : D} {xs : List D} (iv : IsG K g m v d) (h : lstK m d = some xs) : ∃ a, v = .ref a ∧ xs.length ≤ sizeLine ∧ ∀ g' m', Rep K g' m' → Lw g m g' m' → ∃ vs, SqL K g'.H a vs ∧ IsGL K g' m' vs xs := by
  cases iv with
  | lst s z l =>
    cases h
    exact ⟨_, rfl, by rw [← l.length]; exact z, fun g' m' rp' le => ⟨_, SqL.of (rp'.at_ (le.F _ _ s) fun z => z), l.lw le⟩⟩
  | slst s z l =>
    cases h
    exact ⟨_, rfl, by rw [← l.length]; exact z, fun g' m' rp' le => ⟨_, rp'.sqL (sqL_mono le.F s), l.lw le⟩⟩
  | mref hi =>
    rename_i i
    simp only [lstK] at h
    split at h
    · rename_i ys e
      cases h
      refine ⟨g.al i, rfl, ?_, fun g' m' rp' le => ?_⟩
      · obtain ⟨_, vs, h1, h2, h3⟩ := rp.mem i _ e
        rw [← h3.length]
        exact h2
      · have e' := le.lk i _ e rfl
        obtain ⟨_, vs, h1, h2, h3⟩ := rp'.mem i _ e'
        rw [le.al i hi] at h1
        exact ⟨vs, SqL.of h1, h3⟩
    · cases h
  | _ => cases h
theorem iter_list {a : Addr} {xs : List D} (hz : xs.length ≤ sizeLine) (h : ∀ g' m', Rep K g' m' → Lw g m g' m' → ∃ vs, SqL K g'.H a vs ∧ IsGL K g' m' vs xs) : IterOk K (Itl K a) g m xs where
  sz := hz
  go := fun g' m' rp le i d e => by
    obtain ⟨vs, h1, h2⟩ := h g' m' rp le
    obtain ⟨v, ev, iv⟩ := h2.get e
    refine ⟨⟨vs, v, h1, ev⟩, fun x H' y => ?_⟩
    obtain ⟨rfl, hy⟩ := y
    have := hy vs h1
    rw [ev] at this
    cases this
    exact ⟨g', rfl, rp, Le.refl _ _, iv⟩
  stop := fun g' m' rp le => by
    obtain ⟨vs, h1, h2⟩ := h g' m' rp le
    exact ⟨vs, h1, by rw [h2.length]; exact Nat.le_refl _⟩
theorem iter_tup {a : Addr} {xs : List D} {vs : List V} (hz : vs.length ≤ sizeLine) (s : TupA K g.F a vs) (il : IsGL K g m vs xs) : IterOk K (Itt K a) g m xs where
  sz := by rw [← il.length]; exact hz
  go := fun g' m' rp le i d e => by
    have h1 : SqT K g'.H a vs := rp.sqT (le.F _ _ s)
    obtain ⟨v, ev, iv⟩ := (il.lw le).get e
    refine ⟨⟨vs, v, h1, ev⟩, fun x H' y => ?_⟩
    obtain ⟨rfl, hy⟩ := y
    have := hy vs h1
    rw [ev] at this
    cases this
    exact ⟨g', rfl, rp, Le.refl _ _, iv⟩
  stop := fun g' m' rp le => ⟨vs, rp.sqT (le.F _ _ s), by rw [il.length]; exact Nat.le_refl _⟩
theorem iter_str {x : Str} (hz : x.length ≤ sizeLine) : IterOk K (Its x) g m (x.cps.toList.map fun c => D.str ⟨#[c]⟩) where
  sz := by rw [List.length_map, Array.length_toList]; exact hz
  go := fun g' m' rp le i d e => by
    rw [List.getElem?_map] at e
    obtain ⟨c, hc, rfl⟩ := Option.map_eq_some_iff.mp e
    rw [Array.getElem?_toList] at hc
    refine ⟨(Array.getElem?_eq_some_iff.mp hc).1, fun v H' y => ?_⟩
    obtain ⟨rfl, c', hc', rfl⟩ := y
    rw [hc] at hc'
    cases hc'
    exact ⟨g', rfl, rp, Le.refl _ _, .str _⟩
  stop := fun g' m' rp le => by
    show x.cps.size ≤ _
    rw [List.length_map, Array.length_toList]
    exact Nat.le_refl _
theorem iter_range {lo : Int} {n : Nat} (hz : n ≤ sizeLine) : IterOk K (Itr lo n) g m ((List.range n).map fun i => D.int (lo + (i : Nat))) where
  sz := by rw [List.length_map, List.length_range]; exact hz
  go := fun g' m' rp le i d e => by
    rw [List.getElem?_map] at e
    obtain ⟨c, hc, rfl⟩ := Option.map_eq_some_iff.mp e
    obtain ⟨hi, rfl⟩ := List.getElem?_eq_some_iff.mp hc
    rw [List.length_range] at hi
    refine ⟨hi, fun v H' y => ?_⟩
    obtain ⟨rfl, rfl⟩ := y
    refine ⟨g', rfl, rp, Le.refl _ _, ?_⟩
    rw [List.getElem_range]
    exact .int _
  stop := fun g' m' rp le => by
    show n ≤ _
    rw [List.length_map, List.length_range]
    exact Nat.le_refl _
end
section
variable {X : Cx} {W : WX} {tg : Expr} {pos : Pos}
theorem pdi_seq {e : Expr} {f : FE} (h : PD X W e f) : PDI X W tg e (iSeq f) := by
  obtain ⟨t, p, s⟩ := h.ex
  refine ⟨⟨_, PI.or (pi_tup p) (PI.or (pi_list p) (pi_str p)), fun g m σ ρ R rp en q => ?_⟩⟩
  unfold iSeq at q
  have s' := s g m σ ρ
  cases hf : f ρ m with
  | bad => rw [hf] at q; exact q.elim
  | exc x m1 =>
    rw [hf] at q s'
    exact .inl (s' _ rp en q)
  | ok d m1 =>
    rw [hf] at q s'
    rw [bind_ok] at q
    split at q
    · refine .inl (s' _ rp en fun g1 v rp1 l1 iv => ?_)
      cases iv with
      | tup a b c => exact ⟨_, rfl, ⟨_, rp1.sqT a⟩, q g1 _ rp1 l1 (iter_tup b a c)⟩
    · split at q
      · rename_i hz
        refine .inr (.inr (s' _ rp en fun g1 v rp1 l1 iv => ?_))
        cases iv
        exact ⟨_, rfl, q g1 _ rp1 l1 (iter_str hz)⟩
      · exact q.elim
    · split at q
      · rename_i xs e
        refine .inr (.inl (s' _ rp en fun g1 v rp1 l1 iv => ?_))
        obtain ⟨a, rfl, hz, hs⟩ := lstK_stays rp1 iv e
        obtain ⟨vs, h1, h2⟩ := hs g1 m1 rp1 (Lw.refl _ _)
        exact ⟨a, rfl, ⟨vs, h1⟩, q g1 _ rp1 l1 (iter_list hz hs)⟩
      · exact q.elim
/-- range(n), range(a, b) -/
def iRg1 (a : FE) : FI := fun ρ m => (a ρ m).bind fun x m1 => match x with
  | .int j => if -(2 ^ 62) ≤ j ∧ j < 2 ^ 62 ∧ j.toNat ≤ sizeLine then .ok ((List.range j.toNat).map fun i => D.int (0 + (i : Nat))) m1 else .bad
  | _ => .bad
def iRg2 (a b : FE) : FI := fun ρ m => (a ρ m).bind fun x m1 => (b ρ m1).bind fun y m2 => match x, y with
  | .int i, .int j => if (-(2 ^ 62) ≤ i ∧ i < 2 ^ 62 ∧ -(2 ^ 62) ≤ j ∧ j < 2 ^ 62) ∧ (j - i).toNat ≤ sizeLine then .ok ((List.range (j - i).toNat).map fun k => D.int (i + (k : Nat))) m2 else .bad
  | _, _ => .bad
theorem pdi_range1 {a : Expr} {f : FE} {p : Pos} (hg : Gl X "range") (hm : X.mg "range" = none) (h : PD X W a f) (hs : starEach [a] X.env = [(false, eval a X.env)] := by rfl) (hs1 : starEach (a :: []) X.env = (false, eval a X.env) :: starEach [] X.env := by rfl) : PDI X W tg (.Call (.Name "range" p) [a] [] pos) (iRg1 f) := by
  obtain ⟨t, pt, s⟩ := h.ex
  refine ⟨⟨_, pi_range1 hg hm (pa_cons pt pa_nil hs1) hs, fun g m σ ρ R rp en q => s g m σ ρ _ rp en (pre_bind q fun g1 m1 x dx rp1 l1 ix q1 => ?_)⟩⟩
  cases ix <;> try exact q1.elim
  simp only at q1
  split at q1
  · rename_i hc
    exact ⟨_, rfl, hc.1, hc.2.1, q1 g1 _ rp1 (Le.refl _ _) (iter_range hc.2.2)⟩
  · exact q1.elim
theorem pdi_range2 {a b : Expr} {f f2 : FE} {p : Pos} (hg : Gl X "range") (hm : X.mg "range" = none) (h : PD X W a f) (h2 : PD X W b f2) (hs : starEach [a, b] X.env = [(false, eval a X.env), (false, eval b X.env)] := by rfl) (hs2 : starEach [b] X.env = [(false, eval b X.env)] := by rfl)
    (hs1 : starEach (a :: [b]) X.env = (false, eval a X.env) :: starEach [b] X.env := by rfl) (hs3 : starEach (b :: []) X.env = (false, eval b X.env) :: starEach [] X.env := by rfl) : PDI X W tg (.Call (.Name "range" p) [a, b] [] pos) (iRg2 f f2) := by
  obtain ⟨t, pt, s⟩ := h.ex
  obtain ⟨t', pt', s'⟩ := h2.ex
  refine ⟨⟨_, pi_range2 hg hm (pa_cons pt (pa_cons pt' pa_nil hs3) hs1) hs hs2, fun g m σ ρ R rp en q => s g m σ ρ _ rp en (pre_bind q fun g1 m1 x dx rp1 l1 ix q1 => s' g1 m1 σ ρ _ rp1 (en.le l1) (pre_bind q1 fun g2 m2 y dy rp2 l2 iy q2 => ?_))⟩⟩
  cases ix <;> try exact q2.elim
  cases iy <;> try exact q2.elim
  simp only at q2
  split at q2
  · rename_i hc
    exact ⟨_, _, rfl, hc.1, q2 g2 _ rp2 (Le.refl _ _) (iter_range hc.2)⟩
  · exact q2.elim
end
end DL
end
section
set_option maxRecDepth 100000
set_option maxHeartbeats 2000000
/-! The data layer, part 6: list comprehensions. -/
namespace DL
open PySem L2
open Classical

/-! ### an object that is in nobody's hands yet -/
section
variable {K : PySem.W.Frag} {g : Gh} {m : Mem} {p : Addr} {o o' : HO}
theorem Rep.other (rp : Rep K g m) (hp : g.H p = none) (o : HO) : Rep K ⟨upd g.H p o, g.F, g.al⟩ m ∧ Le g m ⟨upd g.H p o, g.F, g.al⟩ m := by
  have hF := rp.free hp
  refine ⟨⟨fun b u h => ?_, fun i u h => ?_, rp.inj⟩, ⟨fun _ _ h => h, Nat.le_refl _, fun _ _ => rfl, fun b u h nt f l => ⟨upd_some hp h, f, l⟩, fun b u v h => upd_some hp h, fun _ _ h _ => h⟩⟩
  · rcases rp.sub b u h with h | ⟨d, ob, h⟩
    · exact .inl (upd_some hp h)
    · exact .inr ⟨d, ob, upd_some hp h⟩
  · by_cases hn : u = .gone
    · subst hn; trivial
    · obtain ⟨w, hw, hf⟩ := (rp.mem i u h).there hn
      exact (rp.mem i u h).step (g' := ⟨upd g.H p o, g.F, g.al⟩) (upd_ne (ne_of_none hw hp)) (fun f => f) (fun _ _ h => h) (fun _ _ => rfl) (Nat.le_refl _)
/-- in nobody's hands: neither frozen nor mutable -/
structure Oth (g : Gh) (m : Mem) (p : Addr) (o : HO) : Prop where
  h : g.H p = some o
  f : g.F p = none
  l : ∀ i, Live m i → g.al i ≠ p
theorem Oth.le {g' : Gh} {m' : Mem} (x : Oth g m p o) (l : Le g m g' m') (nt : nT o := by intro _ z; cases z) : Oth g' m' p o := let ⟨a, b, c⟩ := l.oth p o x.h nt x.f x.l; ⟨a, b, c⟩
theorem Oth.write (x : Oth g m p o) (rp : Rep K g m) (nf : ∀ ob u, o ≠ .frz ob u) (o' : HO) : Rep K ⟨upd g.H p o', g.F, g.al⟩ m ∧ Oth ⟨upd g.H p o', g.F, g.al⟩ m p o' := by
  refine ⟨⟨fun b u h => ?_, fun i u h => ?_, rp.inj⟩, ⟨upd_same, x.f, x.l⟩⟩
  · have ne : b ≠ p := fun e => by rw [e, x.f] at h; cases h
    rcases rp.sub b u h with h | ⟨d, ob, h⟩
    · exact .inl ((upd_ne ne).trans h)
    · exact .inr ⟨d, ob, (upd_ne ne).trans h⟩
  · by_cases hn : u = .gone
    · subst hn; trivial
    · exact (rp.mem i u h).step (g' := ⟨upd g.H p o', g.F, g.al⟩) (upd_ne (x.l i ⟨u, h, hn⟩)) (fun f => f) (fun _ _ h => h) (fun _ _ => rfl) (Nat.le_refl _)
theorem Oth.leW {g1 : Gh} {m1 : Mem} (l : Le g1 m1 g m) (hp : g1.H p = none) (o' : HO) : Le g1 m1 ⟨upd g.H p o', g.F, g.al⟩ m :=
  ⟨l.F, l.n, l.al, fun b u h nt f q => let ⟨a, b', c⟩ := l.oth b u h nt f q; ⟨(upd_ne (ne_of_none h hp)).trans a, b', c⟩, fun b u v h => (upd_ne (ne_of_none h hp)).trans (l.frz b u v h), l.lk⟩
/-- it is frozen -/
theorem Oth.freeze {g1 : Gh} {m1 : Mem} (x : Oth g m p o) (rp : Rep K g m) (l : Le g1 m1 g m) (hp : g1.H p = none) : Rep K ⟨g.H, upd g.F p o, g.al⟩ m ∧ Le g1 m1 ⟨g.H, upd g.F p o, g.al⟩ m := by
  have mF : ∀ b u, g.F b = some u → upd g.F p o b = some u := fun b u h => upd_some x.f h
  refine ⟨⟨fun b u h => ?_, fun i u h => ?_, rp.inj⟩, ⟨fun b u h => mF b u (l.F b u h), l.n, l.al, fun b u h nt f q => ?_, l.frz, l.lk⟩⟩
  · by_cases hb : b = p
    · subst hb
      rw [show (⟨g.H, upd g.F b o, g.al⟩ : Gh).F b = some o from upd_same] at h
      cases h
      exact .inl x.h
    · rw [show (⟨g.H, upd g.F p o, g.al⟩ : Gh).F b = g.F b from upd_ne hb] at h
      exact rp.sub b u h
  · by_cases hn : u = .gone
    · subst hn; trivial
    · exact (rp.mem i u h).step (g := g) (g' := ⟨g.H, upd g.F p o, g.al⟩) rfl (fun f => by show upd g.F p o (g.al i) = none; rw [upd_ne (x.l i ⟨u, h, hn⟩)]; exact f) mF (fun _ _ => rfl) (Nat.le_refl _)
  · obtain ⟨a, b', c⟩ := l.oth b u h nt f q
    exact ⟨a, by show upd g.F p o b = none; rw [upd_ne (ne_of_none h hp)]; exact b', c⟩
/-- it is a mutable thing from now on -/
def Gh.tag (g : Gh) (n : Nat) (p : Addr) : Gh := ⟨g.H, g.F, fun i => if i = n then p else g.al i⟩
theorem Oth.adopt {g1 : Gh} {m1 : Mem} (x : Oth g m p o) (rp : Rep K g m) (l : Le g1 m1 g m) (hp : g1.H p = none) {mo : MO} (ok : MOk K (g.tag m.length p) (m.length + 1) p mo) : Rep K (g.tag m.length p) (m ++ [mo]) ∧ Le g1 m1 (g.tag m.length p) (m ++ [mo]) := by
  have al1 : ∀ i, i < m.length → (g.tag m.length p).al i = g.al i := fun i h => if_neg (Nat.ne_of_lt h)
  have al2 : (g.tag m.length p).al m.length = p := if_pos rfl
  have lv : ∀ i, Live (m ++ [mo]) i → Live m i ∨ i = m.length := fun i ⟨u, h, n⟩ => by
    by_cases hi : i < m.length
    · rw [List.getElem?_append_left hi] at h; exact .inl ⟨u, h, n⟩
    · have := (List.getElem?_eq_some_iff.mp h).1
      rw [List.length_append] at this
      exact .inr (by simp at this; omega)
  refine ⟨⟨rp.sub, fun i u h => ?_, fun i j a b e => ?_⟩, ⟨l.F, by rw [List.length_append]; exact Nat.le_trans l.n (Nat.le_add_right _ _), fun i h => (al1 i (Nat.lt_of_lt_of_le h l.n)).trans (l.al i h), fun b u h nt f q => ?_, l.frz, fun i u h k => ?_⟩⟩
  · by_cases hi : i < m.length
    · rw [List.getElem?_append_left hi] at h
      rw [al1 i hi, List.length_append]
      exact (rp.mem i u h).step (g := g) (g' := g.tag m.length p) rfl (fun f => f) (fun _ _ h => h) al1 (Nat.le_add_right _ _)
    · have hl := (List.getElem?_eq_some_iff.mp h).1
      have e : i = m.length := by rw [List.length_append] at hl; simp at hl; omega
      subst e
      rw [List.getElem?_append_right (Nat.le_refl _), Nat.sub_self] at h
      cases h
      rw [al2, List.length_append]
      exact ok
  · rcases lv i a with a | rfl <;> rcases lv j b with b | rfl
    · rw [al1 i a.lt, al1 j b.lt] at e
      exact rp.inj i j a b e
    · rw [al1 i a.lt, al2] at e
      exact absurd e (x.l i a)
    · rw [al2, al1 j b.lt] at e
      exact absurd e.symm (x.l j b)
    · rfl
  · obtain ⟨a, b', c⟩ := l.oth b u h nt f q
    refine ⟨a, b', fun i li => ?_⟩
    rcases lv i li with li | rfl
    · rw [al1 i li.lt]; exact c i li
    · rw [al2]; exact (ne_of_none h hp).symm
  · have := l.lk i u h k
    rw [List.getElem?_append_left (List.getElem?_eq_some_iff.mp this).1]
    exact this
end

/-! ### results that must not be exceptions -/
def bindN {α β : Type} : Res α → (α → Mem → Res β) → Res β
  | .ok a m, f => f a m
  | _, _ => .bad
@[simp] theorem bindN_ok {α β : Type} (a : α) (m : Mem) (f : α → Mem → Res β) : bindN (Res.ok a m) f = f a m := rfl
abbrev W0 : WX := fun _ _ _ _ => False
/-- a step towards what is wanted at a fixed base -/
theorem pre_stepN {A B A2 B2 : Type} {R : Gh → Mem → A → B → Prop} {R2 : Gh → Mem → A2 → B2 → Prop} {K : PySem.W.Frag} {W W' : WX} {σ σ' : St} {g1 g : Gh} {m1 m : Mem} {Q : A2 → Hp → Prop} {Q1 : A → Hp → Prop} {r : Res B} {k : B → Mem → Res B2}
    (h : Pre R2 K W σ g1 m1 Q (bindN r k)) (hk : ∀ g2 m2 a b, Rep K g2 m2 → Le g m g2 m2 → R g2 m2 a b → Pre R2 K W σ g1 m1 Q (k b m2) → Q1 a g2.H) : Pre R K W' σ' g m Q1 r := by
  cases r with
  | ok b m2 => exact fun g2 a rp l ra => hk g2 m2 a b rp l ra h
  | exc x m2 => exact h.elim
  | bad => exact h.elim

def lcGo (fg : FG) (ft : FT) (fe : FE) (ρ : EnvD) : List D → List D → Mem → Res (List D)
  | [], acc, m => .ok acc m
  | x :: xs, acc, m => bindN (fg x ρ m) fun ρ2 m2 => bindN (ft ρ2 m2) fun b m3 => if b = true then bindN (fe ρ2 m3) fun y m4 => lcGo fg ft fe ρ xs (acc ++ [y]) m4 else lcGo fg ft fe ρ xs acc m3
def wipeD (ρ : EnvD) : List Nat → EnvD
  | [] => ρ
  | v :: vs => (wipeD ρ vs).set v none
theorem wipeD_ok {K : PySem.W.Frag} {g : Gh} {m : Mem} {σ : St} {ρ : EnvD} (en : EnvOk K g m σ ρ) : ∀ vs : List Nat, EnvOk K g m (wipe σ vs) (wipeD ρ vs)
  | [] => en
  | v :: vs => (wipeD_ok en vs).unset v
/-- the made list at the end: frozen, or kept mutable -/
def finL (mu : Bool) (ys : List D) (m : Mem) : Res D := if mu then .ok (.mref m.length) (m ++ [.lst ys]) else .ok (.lst ys) m
theorem fin_ok {K : PySem.W.Frag} {W : WX} {σ : St} {g1 g : Gh} {m1 m : Mem} {p : Addr} {vs : List V} {ys : List D} {Q : VK} {mu : Bool} (rp : Rep K g m) (l : Le g1 m1 g m) (hp : g1.H p = none) (x : Oth g m p (.lst vs)) (hz : vs.length ≤ sizeLine) (il : IsGL K g m vs ys)
    (q : Pre (RE K) K W σ g1 m1 Q (finL mu ys m)) : Q (.ref p) g.H := by
  unfold finL at q
  split at q
  · have al2 : (g.tag m.length p).al m.length = p := if_pos rfl
    obtain ⟨rp', l'⟩ := x.adopt rp l hp (mo := .lst ys) ⟨x.f, vs, x.h, hz, il.mono (fun _ _ h => h) (fun i h => if_neg (Nat.ne_of_lt h)) (Nat.le_succ _)⟩
    refine q (g.tag m.length p) (.ref p) rp' l' ?_
    have z : IsG K (g.tag m.length p) (m ++ [.lst ys]) (.ref ((g.tag m.length p).al m.length)) (.mref m.length) := .mref (by simp)
    rw [al2] at z
    exact z
  · obtain ⟨rp', l'⟩ := x.freeze rp l hp
    exact q ⟨g.H, upd g.F p (.lst vs), g.al⟩ (.ref p) rp' l' (.lst upd_same hz (il.mono (fun b u h => upd_some x.f h) (fun _ _ => rfl) (Nat.le_refl _)))
def eLc (mu : Bool) (vs : List Nat) (fi : FI) (fg : FG) (ft : FT) (fe : FE) : FE := fun ρ m => (fi ρ m).bind fun ds m1 => bindN (lcGo fg ft fe (wipeD ρ vs) ds [] m1) fun ys m2 => finL mu ys m2
/-- the loop of a comprehension, over an iterator that stands -/
theorem lc_loop {K : PySem.W.Frag} {W : WX} {J : It} {tg : TG} {tt : TT} {te : TE} {fg : FG} {ft : FT} {fe : FE} {is vs : List Nat} {σ : St} {ρ : EnvD} {g1 : Gh} {m1 : Mem} {ds : List D} {Q : VK} {mu : Bool}
    (hg : SdG K W0 tg fg is) (his : ∀ i ∈ is, i ∈ vs) (ht : SdT K W0 tt ft) (he : SdE K W0 te fe) (rp : Rep K g1 m1) (en : EnvOk K g1 m1 σ ρ) (ok : IterOk K J g1 m1 ds)
    (q : Pre (RE K) K W σ g1 m1 Q (bindN (lcGo fg ft fe (wipeD ρ vs) ds [] m1) fun ys m2 => finL mu ys m2)) (p : Addr) (hp : g1.H p = none) :
    ∃ Wd : Nat → Nat → Hp → Prop, (∃ m, Wd 0 m (upd g1.H p (.lst []))) ∧ ∀ i m H, Wd i m H →
      (J.stop i H ∧ Q (.ref p) H) ∨ (J.go i H ∧ ∃ Nx : Hp → Prop, (∀ H', Nx H' → ∃ m', m' < m ∧ Wd (i + 1) m' H') ∧ ∀ x H', J.yld i H x H' → tg x (wipe σ vs) H' fun σ2 H2 => wipe σ2 vs = wipe σ vs ∧ tt σ2 H2 fun b H3 =>
        if b = true then te σ2 H3 fun y H4 => ∃ acc, H4 p = some (.lst acc) ∧ acc.length < sizeLine ∧ Nx (upd H4 p (.lst (acc ++ [y]))) else Nx H3) := by
  refine ⟨fun i k H => k = ds.length - i ∧ i ≤ ds.length ∧ ∃ g m vsA acc, g.H = H ∧ Rep K g m ∧ Le g1 m1 g m ∧ Oth g m p (.lst vsA) ∧ IsGL K g m vsA acc ∧ acc.length ≤ i ∧
    Pre (RE K) K W σ g1 m1 Q (bindN (lcGo fg ft fe (wipeD ρ vs) (ds.drop i) acc m) fun ys m2 => finL mu ys m2), ⟨ds.length, ?_⟩, ?_⟩
  · obtain ⟨rp', l'⟩ := rp.other hp (.lst [])
    refine ⟨by simp, Nat.zero_le _, ⟨upd g1.H p (.lst []), g1.F, g1.al⟩, m1, [], [], rfl, rp', l', ⟨upd_same, rp.free hp, fun i li => ?_⟩, .nil, Nat.le_refl _, by simpa using q⟩
    obtain ⟨u, hu, _⟩ := rp.live li
    exact ne_of_none hu hp
  · rintro i k H ⟨rfl, hi, g, m, vsA, acc, rfl, rpg, le, ox, ia, hla, qi⟩
    by_cases hlt : i < ds.length
    · obtain ⟨d, ed⟩ : ∃ d, ds[i]? = some d := ⟨ds[i], by simp [hlt]⟩
      have hdrop : ds.drop i = d :: ds.drop (i + 1) := by
        rw [List.drop_eq_getElem_cons hlt]
        congr 1
        have := List.getElem?_eq_getElem hlt
        rw [ed] at this
        exact (Option.some.inj this).symm
      rw [hdrop] at qi
      obtain ⟨hgo, hy⟩ := ok.go g m rpg le.w i d ed
      refine .inr ⟨hgo, _, fun H' n => n, fun x H' y => ?_⟩
      obtain ⟨g2, rfl, rp2, l2, ix⟩ := hy x H' y
      have fin : ∀ (g4 : Gh) (m4 : Mem) (vs4 : List V) (acc4 : List D), Rep K g4 m4 → Le g1 m1 g4 m4 → Oth g4 m4 p (.lst vs4) → IsGL K g4 m4 vs4 acc4 → acc4.length ≤ i + 1 → Pre (RE K) K W σ g1 m1 Q (bindN (lcGo fg ft fe (wipeD ρ vs) (ds.drop (i + 1)) acc4 m4) fun ys m2 => finL mu ys m2) →
          ∃ m', m' < ds.length - i ∧ (m' = ds.length - (i + 1) ∧ i + 1 ≤ ds.length ∧ ∃ g m vsA acc, g.H = g4.H ∧ Rep K g m ∧ Le g1 m1 g m ∧ Oth g m p (.lst vsA) ∧ IsGL K g m vsA acc ∧ acc.length ≤ i + 1 ∧
            Pre (RE K) K W σ g1 m1 Q (bindN (lcGo fg ft fe (wipeD ρ vs) (ds.drop (i + 1)) acc m) fun ys m2 => finL mu ys m2)) := fun g4 m4 vs4 acc4 a b c d e f =>
        ⟨ds.length - (i + 1), by omega, rfl, hlt, g4, m4, vs4, acc4, rfl, a, b, c, d, e, f⟩
      have en2 : EnvOk K g2 m (wipe σ vs) (wipeD ρ vs) := wipeD_ok (en.le (le.trans l2)) vs
      have qi' : Pre (RE K) K W σ g1 m1 Q (bindN (fg d (wipeD ρ vs) m) fun ρ2 m2 => bindN (bindN (ft ρ2 m2) fun b m3 => if b = true then bindN (fe ρ2 m3) fun y m4 => lcGo fg ft fe (wipeD ρ vs) (ds.drop (i + 1)) (acc ++ [y]) m4 else lcGo fg ft fe (wipeD ρ vs) (ds.drop (i + 1)) acc m3) fun ys m2 => finL mu ys m2) := by
        cases hf : fg d (wipeD ρ vs) m with
        | ok a b => rw [lcGo, hf] at qi; exact qi
        | exc a b => rw [lcGo, hf] at qi; exact qi
        | bad => rw [lcGo, hf] at qi; exact qi
      refine hg g2 m (wipe σ vs) (wipeD ρ vs) x d _ rp2 en2 ix (pre_stepN qi' fun g3 m3 σ3 ρ3 rp3 l3 r3 q3 => ?_)
      refine ⟨(r3.2.wipe his).trans (wipe_wipe _ _), ?_⟩
      have q3' : Pre (RE K) K W σ g1 m1 Q (bindN (ft ρ3 m3) fun b m4 => bindN (if b = true then bindN (fe ρ3 m4) fun y m5 => lcGo fg ft fe (wipeD ρ vs) (ds.drop (i + 1)) (acc ++ [y]) m5 else lcGo fg ft fe (wipeD ρ vs) (ds.drop (i + 1)) acc m4) fun ys m2 => finL mu ys m2) := by
        cases hf : ft ρ3 m3 with
        | ok a b => rw [hf] at q3; exact q3
        | exc a b => rw [hf] at q3; exact q3
        | bad => rw [hf] at q3; exact q3
      refine ht g3 m3 σ3 ρ3 _ rp3 r3.1 (pre_stepN q3' fun g4 m4 b b' rp4 l4 eb q4 => ?_)
      have eb' : b = b' := eb
      subst eb'
      have l14 : Le g1 m1 g4 m4 := ((le.trans l2).trans l3).trans l4
      have lg4 : Le g m g4 m4 := (l2.trans l3).trans l4
      cases b with
      | false =>
        rw [if_neg Bool.false_ne_true]
        rw [if_neg Bool.false_ne_true] at q4
        exact fin g4 m4 vsA acc rp4 l14 (ox.le lg4) (ia.le lg4) (by omega) q4
      | true =>
        rw [if_pos rfl]
        rw [if_pos rfl] at q4
        have q4' : Pre (RE K) K W σ g1 m1 Q (bindN (fe ρ3 m4) fun y m5 => bindN (lcGo fg ft fe (wipeD ρ vs) (ds.drop (i + 1)) (acc ++ [y]) m5) fun ys m2 => finL mu ys m2) := by
          cases hf : fe ρ3 m4 with
          | ok a b => rw [hf] at q4; exact q4
          | exc a b => rw [hf] at q4; exact q4
          | bad => rw [hf] at q4; exact q4
        refine he g4 m4 σ3 ρ3 _ rp4 (r3.1.le l4) (pre_stepN q4' fun g5 m5 v y rp5 l5 iy q5 => ?_)
        have ox5 := ox.le (lg4.trans l5)
        have ia5 := ia.le (lg4.trans l5)
        have el := ia5.length
        have hz := ok.sz
        refine ⟨vsA, ox5.h, by omega, ?_⟩
        obtain ⟨rp6, ox6⟩ := ox5.write rp5 (fun _ _ z => by cases z) (.lst (vsA ++ [v]))
        refine fin ⟨upd g5.H p (.lst (vsA ++ [v])), g5.F, g5.al⟩ m5 (vsA ++ [v]) (acc ++ [y]) rp6 (Oth.leW (l14.trans l5) hp _) ox6 (ia5.append (.cons iy .nil)) ?_ q5
        rw [List.length_append, List.length_singleton]
        omega
    · have e : i = ds.length := by omega
      subst e
      rw [List.drop_length] at qi
      refine .inl ⟨ok.stop g m rpg le.w, ?_⟩
      have el := ia.length
      have hz := ok.sz
      exact fin_ok rpg le hp ox (by omega) ia qi

/-! ### the rule -/
structure PDTs (X : Cx) (W : WX) (ifs : List Expr) (f : FT) : Prop where
  ex : ∃ t, PTs X ifs t ∧ SdT X.K W t f
def tY : FT := fun _ m => .ok true m
section
variable {X : Cx} {W : WX}
theorem pdts_nil : PDTs X W [] tY := ⟨⟨_, pts_nil, fun g m σ ρ Q rp en q => q g _ rp (Le.refl _ _) rfl⟩⟩
theorem pdts_one {c : Expr} {f : FT} (h : PDT X W c f) : PDTs X W [c] f := let ⟨t, p, s⟩ := h.ex; ⟨⟨t, pts_one p, s⟩⟩
theorem PDTs.can {e : List Expr} {f : FT} (h : PDTs X W e f) : PTs X e (cT X.K W f) := by
  obtain ⟨t, p, s⟩ := h.ex
  refine ⟨fun pins s0 σ H Q I q => ?_⟩
  obtain ⟨g, m, ρ, rfl, rp, en, q⟩ := q
  exact p.run pins s0 σ g.H Q I (s g m σ ρ Q rp en q)
def cG (K : PySem.W.Frag) (W : WX) (f : FG) (is : List Nat) : TG := fun v σ H Q => ∃ g m ρ d, g.H = H ∧ Rep K g m ∧ EnvOk K g m σ ρ ∧ IsG K g m v d ∧ Pre (RG K is σ) K W σ g m Q (f d ρ m)
theorem PDG.can {e : Expr} {f : FG} {is : List Nat} (h : PDG X W e f is) : PG X e (cG X.K W f is) := by
  obtain ⟨t, p, s⟩ := h.ex
  refine ⟨fun pins s0 σ H v u Q I r q => ?_⟩
  obtain ⟨g, m, ρ, d, rfl, rp, en, iv, q⟩ := q
  exact p.run pins s0 σ g.H v u Q I r (s g m σ ρ v d Q rp en iv q)
theorem sd_cG {K : PySem.W.Frag} {f : FG} {is : List Nat} : SdG K W (cG K W f is) f is := fun g m σ ρ v d Q rp en iv q => ⟨g, m, ρ, d, rfl, rp, en, iv, q⟩
/-- contexts of a comprehension's block -/
abbrev Blk (X : Cx) (scope : Scope) (P : Cx → Prop) : Prop := ∀ (s : Shared) (H : Hp) (C : Addr) (cl : List (Str × Addr)) (fp : List Addr), P (X.blk s H scope (compEnvC scope cl C X.env) fp)
theorem pd_lc (mu : Bool) {elt tg iter : Expr} {ifs : List Expr} {scope : Scope} {own : List (Str × Nat)} {pos : Pos} {fi : FI} {fg : FG} {ft : FT} {fe : FE} {is : List Nat} (hc : X.calm = true) (hN : X.N.Nodup) (ok : BlkOk X.N X.env.scope scope own) (hi : PDI X W tg iter fi)
    (hg : Blk X scope fun Y => PDG Y W0 tg fg is) (his : ∀ i ∈ is, i ∈ own.map (·.2)) (ht : Blk X scope fun Y => PDTs Y W0 ifs ft) (he : Blk X scope fun Y => PD Y W0 elt fe) (hs : ∀ x, foldedSetIterable iter X.env x = pure x := by intro _; rfl) :
    PD X W (.ListComp elt [⟨tg, iter, ifs, 0⟩] scope pos) (eLc mu (own.map (·.2)) fi fg ft fe) := by
  obtain ⟨w, pi, si⟩ := hi.ex
  refine ⟨⟨_, pe_lc (own := own) (g := cG X.K W0 fg is) (tt := cT X.K W0 ft) (te := cE X.K W0 fe) hc hN pi ok (fun s H C cl fp => (hg s H C cl fp).can) (fun s H C cl fp => (ht s H C cl fp).can) (fun s H C cl fp => (he s H C cl fp).can) hs, fun g m σ ρ Q rp en q => ?_⟩⟩
  refine si g m σ ρ _ rp en (pre_bind q fun g1 m1 J ds rp1 l1 ok1 q1 => ?_)
  exact fun p hp => lc_loop sd_cG his sd_cT sd_cE rp1 (en.le l1) ok1 q1 p hp
end
end DL
end
section
set_option maxRecDepth 100000
set_option maxHeartbeats 2000000
/-! The data layer, part 7: statements. -/
namespace DL
open PySem L2
open Classical

inductive RS where
  | nx (ρ : EnvD) (m : Mem) | rt (d : D) (m : Mem) | bk (ρ : EnvD) (m : Mem) | ct (ρ : EnvD) (m : Mem) | exc (x : Exn) (ρ : EnvD) (m : Mem) | bad
abbrev FS := EnvD → Mem → RS
def PreS (K : PySem.W.Frag) (W : WX) (g : Gh) (m : Mem) (D : Ends) : RS → Prop
  | .nx ρ' m' => ∀ g' σ', Rep K g' m' → Le g m g' m' → EnvOk K g' m' σ' ρ' → D.nx σ' g'.H
  | .rt d m' => ∀ g' v, Rep K g' m' → Le g m g' m' → IsG K g' m' v d → D.rt v g'.H
  | .bk ρ' m' => ∀ g' σ', Rep K g' m' → Le g m g' m' → EnvOk K g' m' σ' ρ' → D.bk σ' g'.H
  | .ct ρ' m' => ∀ g' σ', Rep K g' m' → Le g m g' m' → EnvOk K g' m' σ' ρ' → D.ct σ' g'.H
  | .exc x ρ' m' => ∀ g' σ' cls dc, Rep K g' m' → Le g m g' m' → EnvOk K g' m' σ' ρ' → IsX K g' m' cls dc x → W cls dc σ' g'.H
  | .bad => False
theorem PreS.le {K : PySem.W.Frag} {W : WX} {g g1 : Gh} {m m1 : Mem} {D : Ends} : ∀ {r : RS}, PreS K W g m D r → Le g m g1 m1 → PreS K W g1 m1 D r
  | .nx _ _, h, l => fun g' s rp l' e => h g' s rp (l.trans l') e
  | .rt _ _, h, l => fun g' s rp l' e => h g' s rp (l.trans l') e
  | .bk _ _, h, l => fun g' s rp l' e => h g' s rp (l.trans l') e
  | .ct _ _, h, l => fun g' s rp l' e => h g' s rp (l.trans l') e
  | .exc _ _ _, h, l => fun g' s c d rp l' e x => h g' s c d rp (l.trans l') e x
  | .bad, h, _ => h
def SdS (K : PySem.W.Frag) (W : WX) (t : TS) (f : FS) : Prop := ∀ g m σ ρ D, Rep K g m → EnvOk K g m σ ρ → PreS K W g m D (f ρ m) → t D σ g.H
structure PDS (X : Cx) (W : WX) (st : Stmt) (f : FS) : Prop where
  ex : ∃ t, PS X st t ∧ SdS X.K W t f
structure PDSs (X : Cx) (W : WX) (st : List Stmt) (f : FS) : Prop where
  ex : ∃ t, PSs X st t ∧ SdS X.K W t f
/-- an expression's result, and what follows -/
def onE {B : Type} (r : Res B) (ρ : EnvD) (k : B → Mem → RS) : RS := match r with
  | .ok d m => k d m
  | .exc x m => .exc x ρ m
  | .bad => .bad
@[simp] theorem onE_ok {B : Type} (d : B) (m : Mem) (ρ : EnvD) (k : B → Mem → RS) : onE (.ok d m) ρ k = k d m := rfl
@[simp] theorem onE_exc {B : Type} (x : Exn) (m : Mem) (ρ : EnvD) (k : B → Mem → RS) : onE (.exc x m) ρ k = .exc x ρ m := rfl
@[simp] theorem onE_bad {B : Type} (ρ : EnvD) (k : B → Mem → RS) : onE .bad ρ k = .bad := rfl
theorem preS_on {A B : Type} {R : Gh → Mem → A → B → Prop} {K : PySem.W.Frag} {W : WX} {σ : St} {ρ : EnvD} {g : Gh} {m : Mem} {D : Ends} {Q : A → Hp → Prop} {r : Res B} {k : B → Mem → RS} (en : EnvOk K g m σ ρ) (h : PreS K W g m D (onE r ρ k))
    (hk : ∀ g1 m1 a b, Rep K g1 m1 → Le g m g1 m1 → R g1 m1 a b → PreS K W g1 m1 D (k b m1) → Q a g1.H) : Pre R K W σ g m Q r := by
  cases r with
  | ok b m1 => exact fun g1 a rp l ra => hk g1 m1 a b rp l ra (PreS.le h l)
  | exc x m1 => exact fun g1 c d rp l ix => h g1 σ c d rp l (en.le l) ix
  | bad => exact h
def sSeq (a b : FS) : FS := fun ρ m => match a ρ m with
  | .nx ρ1 m1 => b ρ1 m1
  | r => r
def sNx : FS := fun ρ m => .nx ρ m
def sBk : FS := fun ρ m => .bk ρ m
def sCt : FS := fun ρ m => .ct ρ m
def sBad : FS := fun _ _ => .bad
def sEx (a : FE) : FS := fun ρ m => onE (a ρ m) ρ fun _ m1 => .nx ρ m1
def sRt (a : FE) : FS := fun ρ m => onE (a ρ m) ρ fun d m1 => .rt d m1
def sRtN : FS := fun _ m => .rt .non m
def sIf (c : FT) (a b : FS) : FS := fun ρ m => onE (c ρ m) ρ fun x m1 => if x = true then a ρ m1 else b ρ m1
def sSet (i : Nat) (a : FE) : FS := fun ρ m => onE (a ρ m) ρ fun d m1 => .nx (ρ.set i (some d)) m1
def sAsg (a : FE) (g : FG) : FS := fun ρ m => onE (a ρ m) ρ fun d m1 => onE (g d ρ m1) ρ fun ρ1 m2 => .nx ρ1 m2
def sPar (i j : Nat) (a : FA) : FS := fun ρ m => onE (a ρ m) ρ fun ds m1 => match ds with
  | [x, y] => .nx ((ρ.set i (some x)).set j (some y)) m1
  | _ => .bad
def sPar3 (i j k : Nat) (a : FA) : FS := fun ρ m => onE (a ρ m) ρ fun ds m1 => match ds with
  | [x, y, z] => .nx (((ρ.set i (some x)).set j (some y)).set k (some z)) m1
  | _ => .bad
section
variable {X : Cx} {W : WX} {pos : Pos} {e : Expr} {f : FE} {st : Stmt} {sts : List Stmt} {a b : FS}
theorem pdss_nil : PDSs X W [] sNx := ⟨⟨_, pss_nil, fun g m σ ρ D rp en q => q g σ rp (Le.refl _ _) en⟩⟩
theorem sd_seq {K : PySem.W.Frag} {t u : TS} (h1 : SdS K W t a) (h2 : SdS K W u b) : SdS K W (tSeq t u) (sSeq a b) := fun g m σ ρ D rp en q => by
  refine h1 g m σ ρ _ rp en ?_
  unfold sSeq at q
  cases hf : a ρ m with
  | nx ρ1 m1 =>
    rw [hf] at q
    exact fun g1 σ1 rp1 l1 en1 => h2 g1 m1 σ1 ρ1 D rp1 en1 (PreS.le q l1)
  | rt d m1 => rw [hf] at q; exact q
  | bk ρ1 m1 => rw [hf] at q; exact q
  | ct ρ1 m1 => rw [hf] at q; exact q
  | exc x ρ1 m1 => rw [hf] at q; exact q
  | bad => rw [hf] at q; exact q
theorem pdss_cons (h1 : PDS X W st a) (h2 : PDSs X W sts b) : PDSs X W (st :: sts) (sSeq a b) := by
  obtain ⟨t, p, s⟩ := h1.ex
  obtain ⟨t', p', s'⟩ := h2.ex
  exact ⟨⟨_, pss_cons p p', sd_seq s s'⟩⟩
theorem pdss_one (h1 : PDS X W st a) : PDSs X W [st] a := let ⟨t, p, s⟩ := h1.ex; ⟨⟨t, pss_one p, s⟩⟩
theorem pds_never : PDS X W st sBad := ⟨⟨_, ps_never, fun g m σ ρ D rp en q => q⟩⟩
theorem pdss_never : PDSs X W sts sBad := ⟨⟨_, pss_never, fun g m σ ρ D rp en q => q⟩⟩
theorem pds_pass : PDS X W (.Pass pos) sNx := ⟨⟨_, ps_pass, fun g m σ ρ D rp en q => q g σ rp (Le.refl _ _) en⟩⟩
theorem pds_break : PDS X W (.Break pos) sBk := ⟨⟨_, ps_break, fun g m σ ρ D rp en q => q g σ rp (Le.refl _ _) en⟩⟩
theorem pds_continue : PDS X W (.Continue pos) sCt := ⟨⟨_, ps_continue, fun g m σ ρ D rp en q => q g σ rp (Le.refl _ _) en⟩⟩
theorem pds_expr (h : PD X W e f) (hs : swapsWith e none pos.line X.env = pure false := by rfl) : PDS X W (.Expr e pos) (sEx f) := by
  obtain ⟨t, p, s⟩ := h.ex
  exact ⟨⟨_, ps_expr p hs, fun g m σ ρ D rp en q => s g m σ ρ _ rp en (preS_on en q fun g1 m1 v d rp1 l1 iv q1 => q1 g1 σ rp1 (Le.refl _ _) (en.le l1))⟩⟩
theorem pds_ret (h : PD X W e f) : PDS X W (.Return (some e) pos) (sRt f) := by
  obtain ⟨t, p, s⟩ := h.ex
  exact ⟨⟨_, ps_ret p, fun g m σ ρ D rp en q => s g m σ ρ _ rp en (preS_on en q fun g1 m1 v d rp1 l1 iv q1 => q1 g1 v rp1 (Le.refl _ _) iv)⟩⟩
theorem pds_retN : PDS X W (.Return none pos) sRtN := ⟨⟨_, ps_retN, fun g m σ ρ D rp en q => q g .non rp (Le.refl _ _) .non⟩⟩
theorem pds_if {c : Expr} {sa sb : List Stmt} {fc : FT} (hc : PDT X W c fc) (ha : PDSs X W sa a) (hb : PDSs X W sb b) : PDS X W (.If c sa sb pos) (sIf fc a b) := by
  obtain ⟨t, p, s⟩ := hc.ex
  obtain ⟨t1, p1, s1⟩ := ha.ex
  obtain ⟨t2, p2, s2⟩ := hb.ex
  refine ⟨⟨_, ps_if p p1 p2, fun g m σ ρ D rp en q => s g m σ ρ _ rp en (preS_on en q fun g1 m1 x x' rp1 l1 ix q1 => ?_)⟩⟩
  have ex : x = x' := ix
  subst ex
  cases x with
  | true => rw [if_pos rfl] at q1 ⊢; exact s1 g1 m1 σ ρ D rp1 (en.le l1) q1
  | false => rw [if_neg Bool.false_ne_true] at q1 ⊢; exact s2 g1 m1 σ ρ D rp1 (en.le l1) q1
theorem pds_set (i : Nat) {x : Str} {pos' : Pos} (hN : X.N.Nodup) (he : PD X W e f) (hi : X.N[i]? = some x := by rfl) (hx : Loc X.env.scope x := by first | exact Or.inl rfl | exact Or.inr rfl) (hs : swapsWith e (some (.Name x pos')) pos.line X.env = pure false := by rfl)
    (hf : X.fn x = true ∨ X.env.scope.names.lookup x = some .local := by first | exact .inl rfl | exact .inr rfl | assumption) : PDS X W (.Assign [.Name x pos'] e pos) (sSet i f) := by
  obtain ⟨t, p, s⟩ := he.ex
  exact ⟨⟨_, ps_set hN hi hx p hs hf, fun g m σ ρ D rp en q => s g m σ ρ _ rp en (preS_on en q fun g1 m1 v d rp1 l1 iv q1 => q1 g1 (σ.set i (some v)) rp1 (Le.refl _ _) ((en.le l1).set i iv))⟩⟩
theorem pds_asg {tg : Expr} {fg : FG} {is : List Nat} (he : PD X W e f) (hg : PDG X W tg fg is) (hs : swapsWithSole [tg] e pos.line X.env = pure false := by rfl) (hw : swappedStores [tg] e X.env = pure none := by rfl)
    (h1 : (assignEach [tg] X.env).map (·.2) = [assign tg X.env] := by rfl) : PDS X W (.Assign [tg] e pos) (sAsg f fg) := by
  obtain ⟨t, p, s⟩ := he.ex
  obtain ⟨t', p', s'⟩ := hg.ex
  refine ⟨⟨_, ps_asg p p' hs hw h1, fun g m σ ρ D rp en q => s g m σ ρ _ rp en (preS_on en q fun g1 m1 v d rp1 l1 iv q1 => ?_)⟩⟩
  exact s' g1 m1 σ ρ v d _ rp1 (en.le l1) iv (preS_on (en.le l1) q1 fun g2 m2 σ2 ρ2 rp2 l2 r2 q2 => q2 g2 σ2 rp2 (Le.refl _ _) r2.1)
theorem pds_par (i j : Nat) {x y : Str} {a b : Expr} {fa : FA} {px py pt : Pos} {kt k2 pt2} (hc : X.calm = true) (hN : X.N.Nodup) (ha : PDA X W [a, b] fa) (hi : X.N[i]? = some x := by rfl) (hj : X.N[j]? = some y := by rfl) (hij : i ≠ j := by decide)
    (hx : X.env.scope.names.lookup x = some .local := by rfl) (hy : X.env.scope.names.lookup y = some .local := by rfl)
    (hw : swappedStores [.Tuple [.Name x px, .Name y py] kt pt] (.Tuple [a, b] k2 pt2) X.env = pure (some [x, y]) := by rfl)
    (hs : swapsWithSole [.Tuple [.Name x px, .Name y py] kt pt] (.Tuple [a, b] k2 pt2) pos.line X.env = pure false := by rfl) :
    PDS X W (.Assign [.Tuple [.Name x px, .Name y py] kt pt] (.Tuple [a, b] k2 pt2) pos) (sPar i j fa) := by
  obtain ⟨t, p, s⟩ := ha.ex
  refine ⟨⟨_, ps_par hc hN hi hj hij hx hy p hw hs, fun g m σ ρ D rp en q => s g m σ ρ _ rp en (preS_on en q fun g1 m1 vs ds rp1 l1 il q1 => ?_)⟩⟩
  cases il with
  | nil => exact q1.elim
  | cons i1 il =>
    cases il with
    | nil => exact q1.elim
    | cons i2 il =>
      cases il with
      | cons _ _ => exact q1.elim
      | nil => exact ⟨_, _, rfl, q1 g1 _ rp1 (Le.refl _ _) (((en.le l1).set i i1).set j i2)⟩
/-- name = [..] on one line -/
theorem pds_setLc (mu : Bool) (i : Nat) {y : Str} {py : Pos} {elt tg iter : Expr} {ifs : List Expr} {scope : Scope} {own : List (Str × Nat)} {lpos : Pos} {fi : FI} {fg : FG} {ft : FT} {fe : FE} {is : List Nat} (hc : X.calm = true) (hN : X.N.Nodup)
    (ok : BlkOk X.N X.env.scope scope own) (hi : PDI X W tg iter fi)
    (hg : Blk X scope fun Y => PDG Y W0 tg fg is) (his : ∀ i ∈ is, i ∈ own.map (·.2)) (ht : Blk X scope fun Y => PDTs Y W0 ifs ft) (he : Blk X scope fun Y => PD Y W0 elt fe)
    (hy : X.N[i]? = some y := by rfl) (hyl : X.env.scope.names.lookup y = some .local := by rfl)
    (hsw : swapsWith (.ListComp elt [⟨tg, iter, ifs, 0⟩] scope lpos) (some (.Name y py)) pos.line X.env = pure true := by exact sw_true rfl rfl rfl (by decide +kernel)) (hs : ∀ x, foldedSetIterable iter X.env x = pure x := by intro _; rfl) :
    PDS X W (.Assign [.Name y py] (.ListComp elt [⟨tg, iter, ifs, 0⟩] scope lpos) pos) (sSet i (eLc mu (own.map (·.2)) fi fg ft fe)) := by
  obtain ⟨w, pi, si⟩ := hi.ex
  refine ⟨⟨_, ps_setLc (own := own) (g := cG X.K W0 fg is) (tt := cT X.K W0 ft) (te := cE X.K W0 fe) hc hN hy hyl hsw pi ok (fun s H C cl fp => (hg s H C cl fp).can) (fun s H C cl fp => (ht s H C cl fp).can) (fun s H C cl fp => (he s H C cl fp).can) hs, fun g m σ ρ D rp en q => ?_⟩⟩
  have z : SdE X.K W (tLc w (cG X.K W0 fg is) (cT X.K W0 ft) (cE X.K W0 fe) (own.map (·.2))) (eLc mu (own.map (·.2)) fi fg ft fe) := fun g m σ ρ Q rp en q =>
    si g m σ ρ _ rp en (pre_bind q fun g1 m1 J ds rp1 l1 ok1 q1 => fun p hp => lc_loop sd_cG his sd_cT sd_cE rp1 (en.le l1) ok1 q1 p hp)
  exact z g m σ ρ _ rp en (preS_on en q fun g1 m1 v d rp1 l1 iv q1 => q1 g1 (σ.set i (some v)) rp1 (Le.refl _ _) ((en.le l1).set i iv))
end

/-! ### for -/
def forGo (fg : FG) (fb : FS) : List D → EnvD → Mem → RS
  | [], ρ, m => .nx ρ m
  | x :: xs, ρ, m => match fg x ρ m with
    | .ok ρ2 m2 => (match fb ρ2 m2 with
      | .nx ρ3 m3 => forGo fg fb xs ρ3 m3
      | .ct ρ3 m3 => forGo fg fb xs ρ3 m3
      | .bk ρ3 m3 => .nx ρ3 m3
      | .rt d m3 => .rt d m3
      | .exc x ρ3 m3 => .exc x ρ3 m3
      | .bad => .bad)
    | _ => .bad
def sFor (fi : FI) (fg : FG) (fb : FS) : FS := fun ρ m => onE (fi ρ m) ρ fun ds m1 => forGo fg fb ds ρ m1
theorem for_loop {K : PySem.W.Frag} {W : WX} {J : It} {tg : TG} {tb : TS} {fg : FG} {fb : FS} {is : List Nat} {σ : St} {ρ : EnvD} {g1 : Gh} {m1 : Mem} {ds : List D} {D : Ends} (hg : SdG K W tg fg is) (hb : SdS K W tb fb) (rp : Rep K g1 m1) (en : EnvOk K g1 m1 σ ρ) (ok : IterOk K J g1 m1 ds)
    (q : PreS K W g1 m1 D (forGo fg fb ds ρ m1)) :
    ∃ Wd : Nat → Nat → St → Hp → Prop, (∃ m, Wd 0 m σ g1.H) ∧ ∀ i m σ H, Wd i m σ H →
      (J.stop i H ∧ D.nx σ H) ∨ (J.go i H ∧ ∃ N : St → Hp → Prop, (∀ σ' H', N σ' H' → ∃ m', m' < m ∧ Wd (i + 1) m' σ' H') ∧ ∀ x H', J.yld i H x H' → tg x σ H' fun σ2 H2 => tb { D with nx := N, ct := N, bk := D.nx } σ2 H2) := by
  refine ⟨fun i k σ H => k = ds.length - i ∧ i ≤ ds.length ∧ ∃ g m ρ, g.H = H ∧ Rep K g m ∧ Le g1 m1 g m ∧ EnvOk K g m σ ρ ∧ PreS K W g1 m1 D (forGo fg fb (ds.drop i) ρ m), ⟨ds.length, by simp, Nat.zero_le _, g1, m1, ρ, rfl, rp, Le.refl _ _, en, by simpa using q⟩, ?_⟩
  rintro i k σ H ⟨rfl, hi, g, m, ρ, rfl, rpg, le, en, qi⟩
  by_cases hlt : i < ds.length
  · obtain ⟨d, ed⟩ : ∃ d, ds[i]? = some d := ⟨ds[i], by simp [hlt]⟩
    have hdrop : ds.drop i = d :: ds.drop (i + 1) := by
      rw [List.drop_eq_getElem_cons hlt]
      congr 1
      have := List.getElem?_eq_getElem hlt
      rw [ed] at this
      exact (Option.some.inj this).symm
    rw [hdrop] at qi
    obtain ⟨hgo, hy⟩ := ok.go g m rpg le.w i d ed
    refine .inr ⟨hgo, _, fun σ' H' n => n, fun x H' y => ?_⟩
    obtain ⟨g2, rfl, rp2, l2, ix⟩ := hy x H' y
    have fin : ∀ (g4 : Gh) (m4 : Mem) (σ4 : St) (ρ4 : EnvD), Rep K g4 m4 → Le g1 m1 g4 m4 → EnvOk K g4 m4 σ4 ρ4 → PreS K W g1 m1 D (forGo fg fb (ds.drop (i + 1)) ρ4 m4) →
        ∃ m', m' < ds.length - i ∧ (m' = ds.length - (i + 1) ∧ i + 1 ≤ ds.length ∧ ∃ g m ρ, g.H = g4.H ∧ Rep K g m ∧ Le g1 m1 g m ∧ EnvOk K g m σ4 ρ ∧ PreS K W g1 m1 D (forGo fg fb (ds.drop (i + 1)) ρ m)) := fun g4 m4 σ4 ρ4 a b c d =>
      ⟨ds.length - (i + 1), by omega, rfl, hlt, g4, m4, ρ4, rfl, a, b, c, d⟩
    rw [forGo] at qi
    cases hf : fg d ρ m with
    | exc x m3 => rw [hf] at qi; exact qi.elim
    | bad => rw [hf] at qi; exact qi.elim
    | ok ρ3 m3 =>
      rw [hf] at qi
      refine hg g2 m σ ρ x d _ rp2 (en.le l2) ix ?_
      rw [hf]
      intro g3 σ3 rp3 l3 r3
      refine hb g3 m3 σ3 ρ3 _ rp3 r3.1 ?_
      have l13 : Le g1 m1 g3 m3 := (le.trans l2).trans l3
      simp only at qi
      cases hb2 : fb ρ3 m3 with
      | nx ρ4 m4 => rw [hb2] at qi; exact fun g4 σ4 rp4 l4 e4 => fin g4 m4 σ4 ρ4 rp4 (l13.trans l4) e4 qi
      | ct ρ4 m4 => rw [hb2] at qi; exact fun g4 σ4 rp4 l4 e4 => fin g4 m4 σ4 ρ4 rp4 (l13.trans l4) e4 qi
      | bk ρ4 m4 => rw [hb2] at qi; exact fun g4 σ4 rp4 l4 e4 => qi g4 σ4 rp4 (l13.trans l4) e4
      | rt v m4 => rw [hb2] at qi; exact fun g4 σ4 rp4 l4 e4 => qi g4 σ4 rp4 (l13.trans l4) e4
      | exc v ρ4 m4 => rw [hb2] at qi; exact fun g4 σ4 c d rp4 l4 e4 x4 => qi g4 σ4 c d rp4 (l13.trans l4) e4 x4
      | bad => rw [hb2] at qi; exact qi.elim
  · have e : i = ds.length := by omega
    subst e
    rw [List.drop_length] at qi
    exact .inl ⟨ok.stop g m rpg le.w, qi g σ rpg le en⟩
theorem pds_for {X : Cx} {W : WX} {tg iter : Expr} {body : List Stmt} {fi : FI} {fg : FG} {fb : FS} {is : List Nat} {pos : Pos} (hp : PassesOwn (model X.prog X.w) X.A X.env X.xe) (hc : X.calm = true) (hi : PDI X W tg iter fi) (hg : PDG X W tg fg is) (hb : PDSs X W body fb)
    (hs : ∀ x, foldedSetIterable iter X.env x = pure x := by intro _; rfl) : PDS X W (.For tg iter body [] pos) (sFor fi fg fb) := by
  obtain ⟨w, pi, si⟩ := hi.ex
  obtain ⟨t, pt, st⟩ := hg.ex
  obtain ⟨t', pt', st'⟩ := hb.ex
  refine ⟨⟨_, ps_for hp hc pi pt pt' hs, fun g m σ ρ D rp en q => si g m σ ρ _ rp en (preS_on en q fun g1 m1 J ds rp1 l1 ok1 q1 => ?_)⟩⟩
  exact for_loop st st' rp1 (en.le l1) ok1 q1
end DL
end
section
set_option maxRecDepth 100000
set_option maxHeartbeats 2000000
/-! The data layer, part 8: defs and their calls, instances, mutable lists, freezing. -/
namespace DL
open PySem L2
open Classical

/-! ### one of two readings, by what the data say -/
def orR {B : Type} : Res B → Res B → Res B
  | .bad, r => r
  | r, _ => r
def eOrE (a b : FE) : FE := fun ρ m => orR (a ρ m) (b ρ m)
theorem PD.or {X : Cx} {W : WX} {e : Expr} {f f' : FE} (h : PD X W e f) (h' : PD X W e f') : PD X W e (eOrE f f') := by
  obtain ⟨t, p, s⟩ := h.ex
  obtain ⟨t', p', s'⟩ := h'.ex
  refine ⟨⟨_, PE.or p p', fun g m σ ρ Q rp en q => ?_⟩⟩
  unfold eOrE at q
  have s1 := s g m σ ρ Q rp en
  cases hf : f ρ m with
  | ok d m1 => rw [hf] at q s1; exact .inl (s1 q)
  | exc x m1 => rw [hf] at q s1; exact .inl (s1 q)
  | bad => rw [hf] at q; exact .inr (s' g m σ ρ Q rp en q)

/-! ### freezing -/
noncomputable def frzR (m0 : Mem) (d : D) (m1 : Mem) : Res D := match d with
  | .mref i => match m1[i]? with
    | some (.lst xs) => .ok (.lst xs) (cut m0 (m1.set i .gone) [.lst xs])
    | some (.dK xs) => .ok (.dK xs) (cut m0 (m1.set i .gone) [.dK xs])
    | some (.dT xs) => .ok (.dT xs) (cut m0 (m1.set i .gone) [.dT xs])
    | some (.ins c xs) => .ok (.ins c xs) (cut m0 (m1.set i .gone) [.ins c xs])
    | _ => .bad
  | d => .ok d m1
noncomputable def eFrz (a : FE) : FE := fun ρ m => (a ρ m).bind fun d m1 => frzR m d m1
theorem frz_ok {K : PySem.W.Frag} {W : WX} {σ : St} {g g1 : Gh} {m m1 : Mem} {Q : VK} {v : V} {d : D} (rp : Rep K g m) (rp1 : Rep K g1 m1) (l1 : Le g m g1 m1) (iv : IsG K g1 m1 v d) (q : Pre (RE K) K W σ g m Q (frzR m d m1)) : Q v g1.H := by
  cases iv <;> try exact q g1 _ rp1 l1 (by first | exact .non | exact .bl _ | exact .int _ | exact .str _ | exact .ty _ | exact .glo _ | (constructor <;> assumption))
  rename_i i hi
  simp only [frzR] at q
  have fin : ∀ (o : HO) (d' : D) (mo : MO), m1[i]? = some mo → mo ≠ .gone → isLk mo = false → g1.H (g1.al i) = some o → (∀ F', (∀ b u, g1.F b = some u → F' b = some u) → F' (g1.al i) = some o → Is K F' g1.al m1.length (.ref (g1.al i)) d') →
      Pre (RE K) K W σ g m Q (.ok d' (cut m (m1.set i .gone) [d'])) → Q (.ref (g1.al i)) g1.H := fun o d' mo e n k ho is q => by
    obtain ⟨rp2, l2⟩ := rp1.freeze e n k ho
    have hf : g1.F (g1.al i) = none := ((rp1.live ⟨mo, e, n⟩).elim fun _ h => h.2)
    have i2 : IsG K ⟨g1.H, upd g1.F (g1.al i) o, g1.al⟩ (m1.set i .gone) (.ref (g1.al i)) d' := by
      show Is K _ _ _ _ _
      rw [List.length_set]
      exact is _ (fun b u h => upd_some hf h) upd_same
    obtain ⟨rp3, l3, i3⟩ := cut_ok rp rp2 (l1.trans l2) (.cons i2 .nil)
    cases i3 with
    | cons i3 _ => exact q ⟨g1.H, upd g1.F (g1.al i) o, g1.al⟩ _ rp3 l3 i3
  split at q
  · rename_i xs e
    obtain ⟨_, vs, h1, h2, h3⟩ := rp1.mem i _ e
    exact fin (.lst vs) _ _ e (fun z => by cases z) rfl h1 (fun F' mF hF => .lst hF h2 (h3.mono mF (fun _ _ => rfl) (Nat.le_refl _))) q
  · rename_i xs e
    obtain ⟨_, vs, h1, h2, h3⟩ := rp1.mem i _ e
    exact fin (.dK vs) _ _ e (fun z => by cases z) rfl h1 (fun F' mF hF => .dK hF h2 (h3.mono mF (fun _ _ => rfl) (Nat.le_refl _))) q
  · rename_i xs e
    obtain ⟨_, vs, h1, h2, h3⟩ := rp1.mem i _ e
    exact fin (.dT vs) _ _ e (fun z => by cases z) rfl h1 (fun F' mF hF => .dT hF h2 (h3.mono mF (fun _ _ => rfl) (Nat.le_refl _))) q
  · rename_i c xs e
    obtain ⟨_, dx, vs, h1, h2, h3⟩ := rp1.mem i _ e
    exact fin (.ins _ dx vs) _ _ e (fun z => by cases z) rfl h1 (fun F' mF hF => .ins hF h2 (h3.mono mF (fun _ _ => rfl) (Nat.le_refl _))) q
  · exact q.elim
theorem pd_frz {X : Cx} {W : WX} {e : Expr} {f : FE} (h : PD X W e f) : PD X W e (eFrz f) := by
  obtain ⟨t, p, s⟩ := h.ex
  refine ⟨⟨t, p, fun g m σ ρ Q rp en q => ?_⟩⟩
  refine s g m σ ρ Q rp en ?_
  unfold eFrz at q
  cases hf : f ρ m with
  | bad => rw [hf] at q; exact q
  | exc x m1 => rw [hf] at q; exact q
  | ok d m1 =>
    rw [hf] at q
    exact fun g1 v rp1 l1 iv => frz_ok rp rp1 l1 iv q

/-! ### instances -/
def insV (m : Mem) : D → Option (Str × List (Str × D))
  | .ins c fs => some (c, fs)
  | .mref i => match m[i]? with
    | some (.ins c fs) => some (c, fs)
    | _ => none
  | _ => none
theorem insV_ok {K : PySem.W.Frag} {g : Gh} {m : Mem} {v : V} {d : D} {c : Str} {fs : List (Str × D)} (rp : Rep K g m) (iv : IsG K g m v d) (h : insV m d = some (c, fs)) :
    ∃ a dx vs, v = .ref a ∧ g.H a = some (.ins (He.ga K c) dx vs) ∧ vs.map (·.1) = fs.map (·.1) ∧ IsGL K g m (vs.map (·.2)) (fs.map (·.2)) := by
  cases iv <;> simp only [insV] at h <;> try (cases h; done)
  · rename_i a dx c' vs ds s k l
    cases h
    exact ⟨_, _, _, rfl, rp.at_ s (fun z => z), k, l⟩
  · rename_i i hi
    split at h
    · rename_i c' fs' e
      cases h
      obtain ⟨_, dx, vs, h1, h2, h3⟩ := rp.mem i _ e
      exact ⟨_, dx, vs, rfl, h1, h2, h3⟩
    · cases h
theorem lookup_is {K : PySem.W.Frag} {F : Hp} {al : Nat → Addr} {n : Nat} {f : Str} : ∀ {vs : List (Str × V)} {ds : List (Str × D)} {d : D}, vs.map (·.1) = ds.map (·.1) → IsL K F al n (vs.map (·.2)) (ds.map (·.2)) → ds.lookup f = some d → ∃ v, vs.lookup f = some v ∧ Is K F al n v d
  | [], [], _, _, _, h => by cases h
  | [], _ :: _, _, e, _, _ => by cases e
  | _ :: _, [], _, e, _, _ => by cases e
  | (a, x) :: vs, (b, y) :: ds, d, e, l, h => by
    rw [List.map_cons, List.map_cons] at e
    injection e with e1 e2
    simp only at e1
    subst e1
    cases l with
    | cons i t =>
      rw [List.lookup_cons] at h ⊢
      split at h
      · cases h
        exact ⟨_, rfl, i⟩
      · exact lookup_is e2 t h
theorem lookup_no {f : Str} : ∀ {vs : List (Str × V)} {ds : List (Str × D)}, vs.map (·.1) = ds.map (·.1) → ds.lookup f = none → vs.lookup f = none
  | [], [], _, _ => rfl
  | [], _ :: _, e, _ => by cases e
  | _ :: _, [], e, _ => by cases e
  | (a, x) :: vs, (b, y) :: ds, e, h => by
    rw [List.map_cons, List.map_cons] at e
    injection e with e1 e2
    simp only at e1
    subst e1
    rw [List.lookup_cons] at h ⊢
    split at h
    · cases h
    · exact lookup_no e2 h
/-- e.f, of an instance of one of the classes cs -/
def eAt (cs : List Str) (f : Str) (o : FE) : FE := fun ρ m => (o ρ m).bind fun x m1 => match insV m1 x with
  | some (c, fs) => if c ∈ cs then (match fs.lookup f with
    | some d => .ok d m1
    | none => .bad) else .bad
  | none => .bad
theorem pd_at {X : Cx} {W : WX} {e : Expr} {fo : FE} {f : Str} {cs : List Str} {pos : Pos} (ha : ∀ c ∈ cs, Cls X.K (He.ga X.K c) ∧ NoAttr X.K (He.ga X.K c) f) (h : PD X W e fo) (hb : attributeBase e f X.env (eval e X.env) = eval e X.env := by rfl) : PD X W (.Attribute e f pos) (eAt cs f fo) := by
  obtain ⟨t, p, s⟩ := h.ex
  refine ⟨⟨_, pe_fld p hb, fun g m σ ρ Q rp en q => s g m σ ρ _ rp en (pre_bind q fun g1 m1 x dx rp1 l1 ix q1 => ?_)⟩⟩
  split at q1
  · rename_i c fs e1
    split at q1
    · rename_i hc
      split at q1
      · rename_i d e2
        obtain ⟨a, dx', vs, rfl, h1, h2, h3⟩ := insV_ok rp1 ix e1
        obtain ⟨v, e3, iv⟩ := lookup_is h2 h3 e2
        exact ⟨a, _, dx', vs, v, rfl, h1, (ha c hc).1, (ha c hc).2, e3, pre_val rp1 q1 iv⟩
      · exact q1.elim
    · exact q1.elim
  · exact q1.elim
/-- o.f = e, o a mutable instance -/
def putD (f : Str) (d : D) : List (Str × D) → List (Str × D)
  | [] => [(f, d)]
  | (a, x) :: r => if a = f then (a, d) :: r else (a, x) :: putD f d r
theorem put_is {K : PySem.W.Frag} {F : Hp} {al : Nat → Addr} {n : Nat} {f : Str} {v : V} {d : D} (iv : Is K F al n v d) : ∀ {vs : List (Str × V)} {ds : List (Str × D)}, vs.map (·.1) = ds.map (·.1) → IsL K F al n (vs.map (·.2)) (ds.map (·.2)) →
    (putF f v vs).map (·.1) = (putD f d ds).map (·.1) ∧ IsL K F al n ((putF f v vs).map (·.2)) ((putD f d ds).map (·.2))
  | [], [], _, _ => ⟨rfl, .cons iv .nil⟩
  | [], _ :: _, e, _ => by cases e
  | _ :: _, [], e, _ => by cases e
  | (a, x) :: vs, (b, y) :: ds, e, l => by
    rw [List.map_cons, List.map_cons] at e
    injection e with e1 e2
    simp only at e1
    subst e1
    cases l with
    | cons i t =>
      unfold putF putD
      split
      · rename_i hb
        exact ⟨by simp [e2], .cons iv t⟩
      · obtain ⟨h1, h2⟩ := put_is iv e2 t
        exact ⟨by simp [h1], .cons i h2⟩
def sFl (cs : List Str) (f : Str) (o e : FE) : FS := fun ρ m => onE (e ρ m) ρ fun d m1 => onE (o ρ m1) ρ fun x m2 => match x with
  | .mref i => (match m2[i]? with
    | some (.ins c fs) => if c ∈ cs ∧ fs.length < 1000 then .nx ρ (m2.set i (.ins c (putD f d fs))) else .bad
    | _ => .bad)
  | _ => .bad
theorem pds_fld {X : Cx} {W : WX} {o e : Expr} {fo fe : FE} {f : Str} {cs : List Str} {pos pos' : Pos} (ha : ∀ c ∈ cs, Cls X.K (He.ga X.K c) ∧ NoAttr X.K (He.ga X.K c) f) (ho : PD X W o fo) (he : PD X W e fe) (hs : swapsWith e (some (.Attribute o f pos')) pos.line X.env = pure false := by rfl) :
    PDS X W (.Assign [.Attribute o f pos'] e pos) (sFl cs f fo fe) := by
  obtain ⟨t, p, s⟩ := ho.ex
  obtain ⟨t', p', s'⟩ := he.ex
  refine ⟨⟨_, ps_fld p p' hs, fun g m σ ρ D rp en q => s' g m σ ρ _ rp en (preS_on en q fun g1 m1 v d rp1 l1 iv q1 => s g1 m1 σ ρ _ rp1 (en.le l1) (preS_on (en.le l1) q1 fun g2 m2 x dx rp2 l2 ix q2 => ?_))⟩⟩
  cases ix <;> try exact q2.elim
  rename_i i hi
  simp only at q2
  split at q2
  · rename_i c fs e1
    split at q2
    · rename_i hc
      obtain ⟨_, dx', vs, h1, h2, h3⟩ := rp2.mem i _ e1
      have el : vs.length = fs.length := by
        have := congrArg List.length h2
        simpa using this
      refine ⟨g2.al i, _, dx', vs, rfl, h1, (ha c hc.1).1, (ha c hc.1).2, by rw [el]; exact hc.2, ?_⟩
      obtain ⟨k1, k2⟩ := put_is (f := f) (iv.le l2) h2 h3
      obtain ⟨rp3, l3⟩ := rp2.write (o := .ins (He.ga X.K c) dx' (putF f v vs)) (mo' := .ins c (putD f d fs)) e1 (fun z => by cases z) rfl (fun ob u z => by rw [h1] at z; cases z) ⟨((rp2.live ⟨_, e1, fun z => by cases z⟩).elim fun _ h => h.2), dx', _, upd_same, k1, k2⟩
      exact q2 _ σ rp3 l3 (((en.le l1).le l2).le l3)
    · exact q2.elim
  · exact q2.elim

/-! ### mutable lists -/
/-- xs.append(e) -/
def eApp (o e : FE) : FE := fun ρ m => (o ρ m).bind fun x m1 => (match lstE m1 x with
  | some _ => (e ρ m1).bind fun d m2 => (match x with
    | .mref i => (match m2[i]? with
      | some (.lst xs) => if xs.length < sizeLine then .ok .non (m2.set i (.lst (xs ++ [d]))) else .bad
      | _ => .bad)
    | _ => .bad)
  | none => .bad)
/-- a mutable list is written -/
theorem lst_write {K : PySem.W.Frag} {g : Gh} {m : Mem} (rp : Rep K g m) {i : Nat} {xs ys : List D} {vs : List V} (e : m[i]? = some (.lst xs)) (hz : vs.length ≤ sizeLine) (il : IsGL K g m vs ys) :
    Rep K ⟨upd g.H (g.al i) (.lst vs), g.F, g.al⟩ (m.set i (.lst ys)) ∧ Le g m ⟨upd g.H (g.al i) (.lst vs), g.F, g.al⟩ (m.set i (.lst ys)) := by
  obtain ⟨hF, us, h1, h2, h3⟩ := rp.mem i _ e
  exact rp.write e (fun z => by cases z) rfl (fun ob u z => by rw [h1] at z; cases z) ⟨hF, vs, upd_same, hz, il⟩
theorem pd_append {X : Cx} {W : WX} {o e : Expr} {fo fe : FE} {apos pos : Pos} (ho : PD X W o fo) (he : PD X W e fe) (hb : attributeBase o "append" X.env (eval o X.env) = eval o X.env := by rfl) (hst : starEach (e :: []) X.env = (false, eval e X.env) :: starEach [] X.env := by rfl)
    (hfew : ((backTo pos (starEach [e] X.env)).all (fun x => !x.1) && (backToKw pos (keywordEach [] X.env)).all (fun x => x.1.isSome)
      && decide ([e].length + ([] : List Keyword).length + (if ([] : List Keyword).isEmpty then 0 else 1) < 30)) = true := by rfl)
    (hline : (apos.endLine == pos.line) = true := by rfl) (hpl : (backTo pos (starEach [] X.env)).any (·.1) = false := by rfl) : PD X W (.Call (.Attribute o "append" apos) [e] [] pos) (eApp fo fe) := by
  obtain ⟨t, p, s⟩ := ho.ex
  obtain ⟨t', p', s'⟩ := he.ex
  refine ⟨⟨_, pe_bm PySem.F.plainAttrs_list PySem.F.slot_list_append PySem.F.type_list_append mt_append p (pa_cons p' pa_nil hst) hb hfew hline hst hpl, fun g m σ ρ Q rp en q => s g m σ ρ _ rp en (pre_bind q fun g1 m1 x dx rp1 l1 ix q1 => ?_)⟩⟩
  split at q1
  · rename_i xs0 e0
    obtain ⟨a, vs0, rfl, h1, h2, h3⟩ := lstE_ok rp1 ix e0
    refine ⟨.inl ⟨rfl, _, SqL.of h1⟩, s' g1 m1 σ ρ _ rp1 (en.le l1) (pre_bind q1 fun g2 m2 v d rp2 l2 iv q2 => ?_)⟩
    have ix2 := ix.le l2
    cases ix2 <;> try exact q2.elim
    rename_i i hi
    simp only at q2
    split at q2
    · rename_i xs e1
      split at q2
      · rename_i hz
        obtain ⟨_, vs, k1, k2, k3⟩ := rp2.mem i _ e1
        have el := k3.length
        obtain ⟨rp3, l3⟩ := lst_write rp2 e1 (vs := vs ++ [v]) (by rw [List.length_append, List.length_singleton]; omega) (k3.append (.cons iv .nil))
        exact ⟨_, vs, v, rfl, rfl, k1, by omega, q2 _ .non rp3 l3 .non⟩
      · exact q2.elim
    · exact q2.elim
  · exact q1.elim
end DL
end
section
set_option maxRecDepth 100000
set_option maxHeartbeats 2000000
/-! The data layer, part 9: defs and their calls. -/
namespace DL
open PySem L2
open Classical

/-- what a def promises: it does what F says of data -/
def spD (K : PySem.W.Frag) (n : Nat) (F : HL) : Sp := fun vs H Q E => vs.length = n ∧ ∃ g m ds, g.H = H ∧ Rep K g m ∧ IsGL K g m vs ds ∧ Pre (RE K) K (fun c d _ H' => E c d H') [] g m Q (F ds m)
abbrev FnD (P : Program) (w : World) (K : PySem.W.Frag) (mg : Str → Option Value) (base : Heap) (k : Nat) (f : Addr) (fd : FuncData) (ps : List Str) (F : HL) : Prop := FnOk P w K mg base (L2.CX P w) k f fd ps (spD K ps.length F)
def startD (n : Nat) (ds : List D) : EnvD := ds.map some ++ List.replicate (n - ds.length) none
noncomputable def runF (n : Nat) (body : FS) : HL := fun ds m => match body (startD n ds) m with
  | .rt d m' => .ok d (cut m m' [d])
  | .nx _ m' => .ok .non (cut m m' [])
  | .exc x _ m' => .exc x (cut m m' (x.att.map (·.2)))
  | _ => .bad
theorem start_ok {K : PySem.W.Frag} {g : Gh} {m : Mem} {N : List Str} {vs : List V} {ds : List D} (il : IsGL K g m vs ds) : EnvOk K g m (L2.start N vs) (startD N.length ds) := by
  have el := il.length
  refine ⟨by unfold L2.start startD; simp [el], fun i d h => ?_⟩
  unfold startD at h
  by_cases hi : i < ds.length
  · rw [List.getElem?_append_left (by simpa using hi), List.getElem?_map] at h
    obtain ⟨d', e, q⟩ := Option.map_eq_some_iff.mp h
    cases q
    obtain ⟨v, ev, iv⟩ := il.get e
    refine ⟨v, ?_, iv⟩
    unfold L2.start
    rw [List.getElem?_append_left (by rw [List.length_map, el]; exact hi), List.getElem?_map, ev]
    rfl
  · rw [List.getElem?_append_right (by simpa using hi)] at h
    rw [List.getElem?_replicate] at h
    split at h
    · cases h
    · cases h
abbrev WD (E : XK) : WX := fun c d _ H => E c d H
section
variable {P : Program} {w : World} {K : PySem.W.Frag} {mg : Str → Option Value} {base : Heap}
/-- THE RULE for a def -/
theorem fn_ok {x qual : Str} {params : Arguments} {body : List Stmt} {scope : Scope} {dvs : List V} {kws : List (Str × V)} {f : Addr} {fd : FuncData} {N ps : List Str} {k : Nat} {fs : FS} (Fd : FunD K x qual params body scope dvs kws f fd) (S : FnScope N ps scope)
    (hb : ∀ (cdv : Value) (A : Around) (outer : List Env) (s : Shared) (H : Hp) (E : XK), Room k (A.deeper (PyProof.Rows.envOfC qual scope s.heap.objs.size f cdv)) → PDSs (cxOf (L2.CX P w) P w K mg base N qual scope f cdv A outer s H E) (WD E) body fs) :
    FnD P w K mg base (k + 1) f fd ps (runF N.length fs) := by
  refine Fd.ok S (fun vs H Q E h => h.1) (fun cdv A outer s H vs Q E hr h => ?_)
  obtain ⟨hl, g, m, ds, rfl, rp, il, q⟩ := h
  obtain ⟨t, p, sd⟩ := (hb cdv A outer s g.H E hr).ex
  refine ⟨t, p, sd g m (L2.start N vs) (startD N.length ds) _ rp (start_ok il) ?_⟩
  unfold runF at q
  cases hf : fs (startD N.length ds) m with
  | rt d m' =>
    rw [hf] at q
    intro g' v rp' l' iv
    obtain ⟨r3, l3, i3⟩ := cut_ok rp rp' l' (.cons iv .nil)
    cases i3 with
    | cons i3 _ => exact q g' v r3 l3 i3
  | nx ρ' m' =>
    rw [hf] at q
    intro g' σ' rp' l' en
    obtain ⟨r3, l3, i3⟩ := cut_ok rp rp' l' .nil
    exact q g' .non r3 l3 .non
  | exc x ρ' m' =>
    rw [hf] at q
    intro g' σ' cls dc rp' l' en ix
    obtain ⟨e1, e2⟩ := ix
    rcases e2 with e2 | ⟨dd, vs', h1, h2, h3, h4⟩
    · obtain ⟨r3, l3, i3⟩ := cut_ok (d := x.att.map (·.2)) rp rp' l' (by rw [e2]; exact .nil)
      exact q g' cls dc r3 l3 ⟨e1, .inl e2⟩
    · obtain ⟨r3, l3, i3⟩ := cut_ok rp rp' l' h4
      exact q g' cls dc r3 l3 ⟨e1, .inr ⟨dd, vs', h1, h2, h3, i3⟩⟩
  | bk ρ' m' => rw [hf] at q; exact q.elim
  | ct ρ' m' => rw [hf] at q; exact q.elim
  | bad => rw [hf] at q; exact q.elim
end
/-- what a call lets out at these slots -/
theorem Pre.at {A B : Type} {R : Gh → Mem → A → B → Prop} {K : PySem.W.Frag} {W : WX} {σ : St} {g : Gh} {m : Mem} {Q : A → Hp → Prop} : ∀ {r : Res B}, Pre R K W σ g m Q r → Pre R K (fun c d _ H' => W c d σ H') [] g m Q r
  | .ok _ _, q => q
  | .exc _ _, q => q
  | .bad, q => q
def eCall (n : Nat) (F : HL) (dds : List D) (a : FA) : FE := fun ρ m => (a ρ m).bind fun ds m1 => if (ds ++ dds).length = n then F (ds ++ dds) m1 else .bad
section
variable {X : Cx} {W : WX} {k : Nat} {f : Addr} {fd : FuncData} {ps : List Str} {F : HL} {x : Str} {p pos apos : Pos} {e o : Expr} {es : List Expr} {fa : FA} {dvs : List V} {dus : List Value} {dds : List D}
theorem sd_call {t : TA} (sa : SdA X.K W t fa) (hdd : ∀ g m, IsGL X.K g m dvs dds) : SdE X.K W (tCallSD (spD X.K ps.length F) dvs (WE W) t) (eCall ps.length F dds fa) := fun g m σ ρ Q rp en q =>
  sa g m σ ρ _ rp en (pre_bind q fun g1 m1 vs ds rp1 l1 il q1 => by
    split at q1
    · rename_i hl
      have il2 := il.append (hdd g1 m1)
      exact ⟨by rw [il2.length]; exact hl, g1, m1, _, rfl, rp1, il2, q1.at⟩
    · exact q1.elim)
theorem pd_call (G : FnD X.prog X.w X.K X.mg X.base k f fd ps F) (hr : Room k X.A) (tk : Takes X W) (hm : X.mg x = some (.ref f)) (hk : PySem.W.keepIn X.K (.ref f) = true) (hb : Binds X.K fd ps dus) (hd : Vals dvs dus) (hdd : ∀ g m, IsGL X.K g m dvs dds)
    (ha : PDA X W (e :: es) fa) (hg : Gl X x := by rfl) (hdb : (x == ("__debug__" : Str)) = false := by decide) (he : starEach (e :: es) X.env = (false, eval e X.env) :: starEach es X.env := by rfl) (hpl : (backTo pos (starEach es X.env)).any (·.1) = false := by rfl) :
    PD X W (.Call (.Name x p) (e :: es) [] pos) (eCall ps.length F dds fa) := by
  obtain ⟨t, pa, sa⟩ := ha.ex
  exact ⟨⟨_, pe_callSD G hr hg hm hk hb hd (fun σ => passAt tk σ) pa hdb he hpl, sd_call sa hdd⟩⟩
/-- the exception part does not look at slots: Passes -/
theorem passes_flat (tk : Takes X W) {σ0 : St} (hW : Flat W) : Passes (L2.CX X.prog X.w) X (WE W σ0) := passes_call tk fun c d σ H h => hW c d σ0 σ H h
theorem pd_call0 (G : FnD X.prog X.w X.K X.mg X.base k f fd ps F) (hr : Room k X.A) (tk : Takes X W) (hW : Flat W) (hm : X.mg x = some (.ref f)) (hk : PySem.W.keepIn X.K (.ref f) = true) (hb : Binds X.K fd ps dus) (hd : Vals dvs dus) (hdd : ∀ g m, IsGL X.K g m dvs dds)
    (hg : Gl X x := by rfl) (hdb : (x == ("__debug__" : Str)) = false := by decide) : PD X W (.Call (.Name x p) [] [] pos) (eCall ps.length F dds aNil) := by
  refine ⟨⟨_, pe_call0 (E := WE W []) G hr hg hm hk hb hd (passes_flat tk hW) hdb, fun g m σ ρ Q rp en q => ?_⟩⟩
  unfold eCall aNil at q
  simp only [bind_ok, List.nil_append] at q
  split at q
  · rename_i hl
    exact ⟨by rw [List.nil_append, (hdd g m).length]; exact hl, g, m, dds, rfl, rp, hdd g m, (Pre.flat (σ' := []) hW q).at⟩
  · exact q.elim
/-- o.m(..) of an instance of the class c -/
def eMeth (c mn : Str) (n : Nat) (F : HL) (dds : List D) (o : FE) (a : FA) : FE := fun ρ m => (o ρ m).bind fun x m1 => (match insV m1 x with
  | some (c', fs) => if c' = c ∧ fs.lookup mn = none then (a ρ m1).bind fun ds m2 => if (x :: (ds ++ dds)).length = n then F (x :: (ds ++ dds)) m2 else .bad else .bad
  | none => .bad)
theorem sd_meth {c mn : Str} {fo : FE} {ta : TE} {t : TA} {σ0 : St} (hW : Flat W) (so : SdE X.K W ta fo) (sa : SdA X.K W t fa) (hdd : ∀ g m, IsGL X.K g m dvs dds) : SdE X.K W (tMeth (He.ga X.K c) mn (spD X.K ps.length F) dvs (WE W σ0) ta t) (eMeth c mn ps.length F dds fo fa) := fun g m σ ρ Q rp en q =>
  so g m σ ρ _ rp en (pre_bind q fun g1 m1 x d rp1 l1 ix q1 => by
    split at q1
    · rename_i c' fs e1
      split at q1
      · rename_i hc
        obtain ⟨hc, hl⟩ := hc
        subst hc
        obtain ⟨a, dx, vs, rfl, h1, h2, h3⟩ := insV_ok rp1 ix e1
        refine ⟨a, dx, vs, rfl, h1, lookup_no h2 hl, sa g1 m1 σ ρ _ rp1 (en.le l1) (pre_bind q1 fun g2 m2 ws ds rp2 l2 il q2 => ?_)⟩
        split at q2
        · rename_i hn
          have il2 : IsGL X.K g2 m2 (V.ref a :: (ws ++ dvs)) (d :: (ds ++ dds)) := .cons (ix.le l2) (il.append (hdd g2 m2))
          exact ⟨by rw [il2.length]; exact hn, g2, m2, _, rfl, rp2, il2, (Pre.flat (σ' := σ0) hW q2).at⟩
        · exact q2.elim
      · exact q1.elim
    · exact q1.elim)
theorem pd_meth {c mn : Str} {fo : FE} {pl : Sem Bool} (G : FnD X.prog X.w X.K X.mg X.base k f fd ps F) (hr : Room k X.A) (tk : Takes X W) (hW : Flat W) (cl : Cls X.K (He.ga X.K c)) (hm : Meth X.K (He.ga X.K c) mn f) (hb : Binds X.K fd ps dus) (hd : Vals dvs dus) (hdd : ∀ g m, IsGL X.K g m dvs dds)
    (ho : PD X W o fo) (ha : PDA X W (e :: es) fa)
    (hst : starEach (e :: es) X.env = (false, eval e X.env) :: starEach es X.env := by rfl) (hpl : (backTo pos (starEach es X.env)).any (·.1) = false := by rfl)
    (ht : eval (.Call (.Attribute o mn apos) (e :: es) [] pos) X.env = (do
      let ov ← eval o X.env
      standAt apos.atName
      let (f, first) ← holding [ov] (getMethod ov mn pl)
      callWith pos f first (backTo pos (starEach (e :: es) X.env)) (backToKw pos (keywordEach [] X.env))) := by rfl) :
    PD X W (.Call (.Attribute o mn apos) (e :: es) [] pos) (eMeth c mn ps.length F dds fo fa) := by
  obtain ⟨t, p, s⟩ := ho.ex
  obtain ⟨t', p', s'⟩ := ha.ex
  exact ⟨⟨_, pe_meth (E := WE W []) p cl hm G hr hb hd (passes_flat tk hW) p' hst hpl ht, sd_meth hW s s' hdd⟩⟩
theorem pd_meth0 {c mn : Str} {fo : FE} {pl : Sem Bool} (G : FnD X.prog X.w X.K X.mg X.base k f fd ps F) (hr : Room k X.A) (tk : Takes X W) (hW : Flat W) (cl : Cls X.K (He.ga X.K c)) (hm : Meth X.K (He.ga X.K c) mn f) (hb : Binds X.K fd ps dus) (hd : Vals dvs dus) (hdd : ∀ g m, IsGL X.K g m dvs dds)
    (ho : PD X W o fo)
    (ht : eval (.Call (.Attribute o mn apos) [] [] pos) X.env = (do
      let ov ← eval o X.env
      standAt apos.atName
      let (f, first) ← holding [ov] (getMethod ov mn pl)
      callWith pos f first (backTo pos (starEach [] X.env)) (backToKw pos (keywordEach [] X.env))) := by rfl) :
    PD X W (.Call (.Attribute o mn apos) [] [] pos) (eMeth c mn ps.length F dds fo aNil) := by
  obtain ⟨t, p, s⟩ := ho.ex
  exact ⟨⟨_, pe_meth0 (E := WE W []) p cl hm G hr hb hd (passes_flat tk hW) ht, sd_meth (t := tNil) hW s (fun g m σ ρ Q rp en q => q g _ rp (Le.refl _ _) .nil) hdd⟩⟩
/-- C(..): a new instance, kept mutable; g: how positional and keyword values become parameters -/
def mkR (c : Str) (n : Nat) (F : HL) (ds : List D) (m1 : Mem) : Res D := if (ds.length + 1) = n then (F (.mref m1.length :: ds) (m1 ++ [.ins c []])).bind fun d m2 => (match d with
  | .non => .ok (.mref m1.length) m2
  | _ => .bad) else .bad
def eMake (c : Str) (n : Nat) (F : HL) (dds : List D) (a : FA) : FE := fun ρ m => (a ρ m).bind fun ds m1 => mkR c n F (ds ++ dds) m1
theorem mk_ok {c : Str} {σ σ0 : St} {g1 : Gh} {m1 : Mem} {Q : VK} {vs : List V} {ds : List D} (hW : Flat W) (rp1 : Rep X.K g1 m1) (il : IsGL X.K g1 m1 vs ds) (q : Pre (RE X.K) X.K W σ g1 m1 Q (mkR c ps.length F ds m1)) :
    ∀ y dx, g1.H y = none → g1.H dx = none → dx ≠ y → spD X.K ps.length F (.ref y :: vs) (upd (upd g1.H dx (.own y)) y (.ins (He.ga X.K c) dx [])) (fun v H2 => v = .non ∧ Q (.ref y) H2) (WE W σ0) := by
  intro y dx hy hdx ne
  unfold mkR at q
  split at q
  · rename_i hl
    obtain ⟨rpA, lA⟩ := rp1.other hdx (.own y)
    have hy2 : upd g1.H dx (.own y) y = none := by rw [upd_ne (Ne.symm ne)]; exact hy
    have gA : (⟨upd g1.H dx (.own y), g1.F, g1.al⟩ : Gh).H y = none := hy2
    obtain ⟨rpB, lB⟩ := rpA.newM (mo := .ins c []) gA (o := .ins (He.ga X.K c) dx []) (fun _ _ z => by cases z) ⟨rpA.free gA, dx, [], upd_same, rfl, .nil⟩
    have lAB := lA.trans lB
    have al2 : ((⟨upd g1.H dx (.own y), g1.F, g1.al⟩ : Gh).add m1.length y (.ins (He.ga X.K c) dx [])).al m1.length = y := if_pos rfl
    have iy : IsG X.K ((⟨upd g1.H dx (.own y), g1.F, g1.al⟩ : Gh).add m1.length y (.ins (He.ga X.K c) dx [])) (m1 ++ [.ins c []]) (.ref y) (.mref m1.length) := by
      have z : IsG X.K ((⟨upd g1.H dx (.own y), g1.F, g1.al⟩ : Gh).add m1.length y (.ins (He.ga X.K c) dx [])) (m1 ++ [.ins c []]) (.ref (((⟨upd g1.H dx (.own y), g1.F, g1.al⟩ : Gh).add m1.length y (.ins (He.ga X.K c) dx [])).al m1.length)) (.mref m1.length) := .mref (by simp)
      rw [al2] at z
      exact z
    have il2 : IsGL X.K ((⟨upd g1.H dx (.own y), g1.F, g1.al⟩ : Gh).add m1.length y (.ins (He.ga X.K c) dx [])) (m1 ++ [.ins c []]) (V.ref y :: vs) (.mref m1.length :: ds) := .cons iy (il.le lAB)
    refine ⟨by rw [il2.length]; exact hl, _, _, _, rfl, rpB, il2, Pre.at (σ := σ0) (pre_bind (Pre.flat (σ' := σ0) hW (Pre.le q lAB)) fun g3 m3 v d rp3 l3 iv q3 => ?_)⟩
    cases iv <;> try exact q3.elim
    refine ⟨rfl, q3 g3 _ rp3 (Le.refl _ _) (iy.le l3)⟩
  · exact q.elim
theorem pd_make {c : Str} (M : Mk X.K (He.ga X.K c) f) (G : FnD X.prog X.w X.K X.mg X.base k f fd ps F) (hr : Room (k + 1) X.A) (tk : Takes X W) (hW : Flat W) (hm : X.mg c = some (.ref (He.ga X.K c))) (hb : Binds X.K fd ps dus) (hd : Vals dvs dus) (hdd : ∀ g m, IsGL X.K g m dvs dds)
    (ha : PDA X W (e :: es) fa) (hg : Gl X c := by rfl) (hdb : (c == ("__debug__" : Str)) = false := by decide) (he : starEach (e :: es) X.env = (false, eval e X.env) :: starEach es X.env := by rfl) (hpl : (backTo pos (starEach es X.env)).any (·.1) = false := by rfl) :
    PD X W (.Call (.Name c p) (e :: es) [] pos) (eMake c ps.length F dds fa) := by
  obtain ⟨t, pa, sa⟩ := ha.ex
  exact ⟨⟨_, pe_make (E := WE W []) M G hr hg hm hb hd (passes_flat tk hW) pa hdb he hpl, fun g m σ ρ Q rp en q => sa g m σ ρ _ rp en (pre_bind q fun g1 m1 vs ds rp1 l1 il q1 => mk_ok hW rp1 (il.append (hdd g1 m1)) q1)⟩⟩
/-- keywords -/
structure PDK (X : Cx) (W : WX) (kws : List Keyword) (f : FA) : Prop where
  ex : ∃ t, PK X kws t ∧ SdA X.K W t f
/-- C(e, .., k = v, ..): the keywords' values behind the positional ones -/
def eMakeK (c : Str) (n np nk : Nat) (F : HL) (a b : FA) : FE := fun ρ m => (a ρ m).bind fun ds m1 => (b ρ m1).bind fun es m2 => if ds.length = np ∧ es.length = nk then mkR c n F (ds ++ es) m2 else .bad
theorem pd_makeK {c : Str} {n : Nat} {ks : List Str} {kws : List Keyword} {fk : FA} {gA : List Value → List Value → List Value} {gV : List V → List V → List V} (M : Mk X.K (He.ga X.K c) f) (G : FnD X.prog X.w X.K X.mg X.base k f fd ps F) (hr : Room (k + 1) X.A) (tk : Takes X W) (hW : Flat W)
    (hm : X.mg c = some (.ref (He.ga X.K c))) (hb : KBn X.K fd ps (n + 1) ks gA gV) (hgv : ∀ x vs zs, gV (x :: vs) zs = x :: (vs ++ zs)) (ha : PDA X W (e :: es) fa) (hkw : PDK X W kws fk) (hg : Gl X c := by rfl)
    (hall : (backToKw pos (keywordEach kws X.env)).all (·.1.isSome) = true := by rfl) (hks : (backToKw pos (keywordEach kws X.env)).filterMap (·.1) = ks := by rfl) (hdb : (c == ("__debug__" : Str)) = false := by decide)
    (he : starEach (e :: es) X.env = (false, eval e X.env) :: starEach es X.env := by rfl) (hpl : ((backTo pos (starEach (e :: es) X.env)).any (·.1) || (backToKw pos (keywordEach kws X.env)).any (·.1.isNone)) = false := by rfl) :
    PD X W (.Call (.Name c p) (e :: es) kws pos) (eMakeK c ps.length n ks.length F fa fk) := by
  obtain ⟨t, pa, sa⟩ := ha.ex
  obtain ⟨t', pk, sk⟩ := hkw.ex
  refine ⟨⟨_, pe_makeK (E := WE W []) M G hr hg hm hb (passes_flat tk hW) pa pk hall hks hdb he hpl, fun g m σ ρ Q rp en q => sa g m σ ρ _ rp en (pre_bind q fun g1 m1 vs ds rp1 l1 il q1 => sk g1 m1 σ ρ _ rp1 (en.le l1) (pre_bind q1 fun g2 m2 zs es rp2 l2 il2 q2 => ?_))⟩⟩
  split at q2
  · rename_i hl
    refine ⟨by rw [il.length]; exact hl.1, by rw [il2.length]; exact hl.2, ?_⟩
    intro y dx hy hdx ne
    rw [hgv]
    exact mk_ok hW rp2 ((il.le l2).append il2) q2 y dx hy hdx ne
  · exact q2.elim
theorem pdk_nil : PDK X W [] aNil := ⟨⟨_, pk_nil, fun g m σ ρ Q rp en q => q g _ rp (Le.refl _ _) .nil⟩⟩
theorem pdk_cons {nm : Option Str} {kpos : Pos} {kws : List Keyword} {fe : FE} {fr : FA} (h : PD X W e fe) (hr : PDK X W kws fr) : PDK X W (⟨nm, e, kpos⟩ :: kws) (aCons fe fr) := by
  obtain ⟨t, p, s⟩ := h.ex
  obtain ⟨t', p', s'⟩ := hr.ex
  refine ⟨⟨_, pk_cons p p', fun g m σ ρ Q rp en q => s g m σ ρ _ rp en (pre_bind q fun g1 m1 x dx rp1 l1 ix q1 => s' g1 m1 σ ρ _ rp1 (en.le l1) (pre_bind q1 fun g2 m2 xs ds rp2 l2 ixs q2 => ?_))⟩⟩
  exact q2 g2 _ rp2 (Le.refl _ _) (.cons (ix.le l2) ixs)
end
end DL
end
section
set_option maxRecDepth 100000
set_option maxHeartbeats 2000000
/-! The data layer, part 10: isinstance; more of lists; two-clause comprehensions; zip, enumerate; locks. -/
namespace DL
open PySem L2
open Classical

/-! ### isinstance -/
inductive Tag where
  | b (n : String) | o (c : Str)
  deriving DecidableEq
def Tag.val (K : PySem.W.Frag) : Tag → Value
  | .b n => .type n
  | .o c => .ref (He.ga K c)
def bTys : List String := ["NoneType", "bool", "int", "str", "list", "tuple", "dict"]
/-- the answer of isinstance, by type and class -/
def kit (own : List Str) : Tag → Tag → Option Bool
  | .b a, .b c => if a ∈ bTys ∧ c ∈ bTys then some (decide (a = c) || (decide (a = "bool") && decide (c = "int"))) else none
  | .o a, .o c => if a ∈ own ∧ c ∈ own then some (decide (a = c)) else none
  | .o a, .b c => if a ∈ own ∧ c ∈ bTys then some false else none
  | .b a, .o c => if a ∈ bTys ∧ c ∈ own then some false else none
structure OwnOk (K : PySem.W.Frag) (c : Str) : Prop where
  cl : Cls K (He.ga K c)
  ha : PySem.W.findIn K (.ref (He.ga K c)) "__class__" = some (some (.builtin "object.__class__"))
  hn : PySem.W.specialIn K (.builtin "object.__class__") "__get__" = some (some (.builtin "getset_descriptor.__get__"))
  ht : PySem.W.takesIn K (.builtin "object.__class__") = some true
  hm : PySem.W.mroIn K (He.ga K c) (.type "object") = some true
structure KitOk (K : PySem.W.Frag) (own : List Str) : Prop where
  ow : ∀ c ∈ own, OwnOk K c
  oo : ∀ a ∈ own, ∀ c ∈ own, PySem.W.kitOne K (.ref (He.ga K a)) (.ref (He.ga K c)) = some (decide (a = c))
  ob : ∀ a ∈ own, ∀ c ∈ bTys, PySem.W.kitOne K (.ref (He.ga K a)) (.type c) = some false
  bo : ∀ a ∈ bTys, ∀ c ∈ own, PySem.W.kitOne K (.type a) (.ref (He.ga K c)) = some false
theorem kit_bb : ∀ a ∈ bTys, ∀ c ∈ bTys, kitB a c = some (decide (a = c) || (decide (a = "bool") && decide (c = "int"))) := by decide +kernel
theorem kit_ok {K : PySem.W.Frag} {own : List Str} (k : KitOk K own) : ∀ {t u : Tag} {r : Bool}, kit own t u = some r → PySem.W.kitOne K (t.val K) (u.val K) = some r
  | .b a, .b c, r, h => by
    simp only [kit] at h
    split at h
    · rename_i hc; cases h; exact kit_ty (kit_bb a hc.1 c hc.2)
    · cases h
  | .o a, .o c, r, h => by
    simp only [kit] at h
    split at h
    · rename_i hc; cases h; exact k.oo a hc.1 c hc.2
    · cases h
  | .o a, .b c, r, h => by
    simp only [kit] at h
    split at h
    · rename_i hc; cases h; exact k.ob a hc.1 c hc.2
    · cases h
  | .b a, .o c, r, h => by
    simp only [kit] at h
    split at h
    · rename_i hc; cases h; exact k.bo a hc.1 c hc.2
    · cases h
/-- a value's type, a locked dict with tuple keys too -/
def TyY (K : PySem.W.Frag) (H : Hp) (v : V) (t : Value) : Prop := TyX K H v t ∨ ∃ a o kvs, v = .ref a ∧ H a = some (.frz o (.dT kvs)) ∧ t = .type "dict"
theorem kit_ofY {X : Cx} {pins : List (Addr × Obj)} {σ : St} {H : Hp} {s : Shared} {x : V} {u t : Value} (I : Inv X pins σ H s) (rx : RelV x u) (ty : TyY X.K H x t) : ∃ P : Heap → Prop, PySem.W.KitX X.K u t P ∧ P s.heap ∧ u ≠ .builtin "__main__.__loader__#opaque" := by
  rcases ty with ty | ⟨a, o, kvs, rfl, h, rfl⟩
  · exact kit_of I rx ty
  · cases (show u = Value.ref a from rx)
    obtain ⟨e, q⟩ := I.hok a _ h
    obtain ⟨_, _, xs, _, o', es, ep, h1, h2, _⟩ := q
    exact ⟨_, PySem.W.kitx_dict, ⟨o', h1, h2.1⟩, fun z => nomatch z⟩
def rIsiY (K : PySem.W.Frag) : List V → Hp → VK → Prop := fun xs H Q => (∃ (x c : V) (t u : Value) (b : Bool), xs = [x, c] ∧ ClsV c u ∧ TyY K H x t ∧ PySem.W.kitOne K t u = some b ∧ Q (.bl b) H) ∨
  (∃ (x : V) (tp : Addr) (cs : List V) (t : Value) (us : List Value) (b : Bool), xs = [x, .ref tp] ∧ TupA K H tp cs ∧ Paired ClsV cs us ∧ TyY K H x t ∧ PySem.W.kitAny K t us = some b ∧ Q (.bl b) H)
theorem call_isiY {X : Cx} : CallR X (.builtin "isinstance") (rIsiY X.K) := by
  intro pins s σ H xs us Q I r h
  rcases h with ⟨x, c, t, u, b, rfl, k, ty, e, q⟩ | ⟨x, tp, cs, t, ws, b, rfl, hT, k, ty, e, q⟩
  · obtain ⟨u1, u2, rfl, r1, r2⟩ := vals2 r
    have e2 := k.eq r2
    subst e2
    obtain ⟨P, Z, p, hx⟩ := kit_ofY I r1 ty
    exact PySem.W.kia_one Z I.kIn p e hx fun tk => ⟨.bl b, H, I.tok tk, rfl, q⟩
  · obtain ⟨u1, u2, rfl, r1, r2⟩ := vals2 r
    cases (show u2 = Value.ref tp from r2)
    obtain ⟨P, Z, p, hx⟩ := kit_ofY I r1 ty
    obtain ⟨_, its, rv, o, h1, h2, n, h3⟩ := (show ObjOk X.prog X.w H s.heap tp (.tup cs) from I.hok tp _ hT)
    have e3 := ClsV.all k rv
    subst e3
    obtain ⟨oc, od, dt, sl⟩ := o
    simp only at h2 h3
    subst h2 h3
    exact PySem.W.kia_tup Z I.kIn p h1 e hx fun tk => ⟨.bl b, H, I.tok tk, rfl, q⟩
def tagD (own : List Str) (m : Mem) : D → Option Tag
  | .non => some (.b "NoneType")
  | .bl _ => some (.b "bool")
  | .int _ => some (.b "int")
  | .str _ => some (.b "str")
  | .lst _ => some (.b "list")
  | .tup _ => some (.b "tuple")
  | .stup _ => some (.b "tuple")
  | .dK _ => some (.b "dict")
  | .dT _ => some (.b "dict")
  | .ins c _ => if c ∈ own then some (.o c) else none
  | .mref i => match m[i]? with
    | some (.lst _) => some (.b "list")
    | some (.lkL _) => some (.b "list")
    | some (.dK _) => some (.b "dict")
    | some (.dT _) => some (.b "dict")
    | some (.ins c _) => if c ∈ own then some (.o c) else none
    | _ => none
  | _ => none
theorem tagD_ok {K : PySem.W.Frag} {own : List Str} (k : KitOk K own) {g : Gh} {m : Mem} (rp : Rep K g m) {v : V} {d : D} {t : Tag} (iv : IsG K g m v d) (h : tagD own m d = some t) : TyY K g.H v (t.val K) := by
  cases iv with
  | non => cases h; exact .inl (.base .non)
  | bl b => cases h; exact .inl (.base (.bl b))
  | int b => cases h; exact .inl (.base (.int b))
  | str b => cases h; exact .inl (.base (.str b))
  | ty _ => cases h
  | glo _ => cases h
  | slst _ _ _ => cases h
  | lst s _ _ => cases h; exact .inl (.base (.lst (rp.at_ s fun z => z)))
  | tup s _ _ =>
    cases h
    exact .inl (.base (.tup (rp.at_ s fun z => z)))
  | stup s _ _ =>
    cases h
    rcases s with (s | ⟨o, s⟩) | ⟨o, its, n, h1, h2, h3⟩
    · cases s
    · cases s
    · exact .inl (.kTuple h1 h2)
  | dK s _ _ =>
    cases h
    rcases rp.sub _ _ s with h | ⟨_, ob, h⟩
    · exact .inl (.base (.dK h))
    · exact .inl (.fDict h)
  | dT s _ _ =>
    cases h
    rcases rp.sub _ _ s with h | ⟨_, ob, h⟩
    · exact .inl (.base (.dT h))
    · exact .inr ⟨_, _, _, rfl, h, rfl⟩
  | ins s _ _ =>
    simp only [tagD] at h
    split at h
    · rename_i hc
      cases h
      have o := k.ow _ hc
      exact .inl (.base (.ins (rp.at_ s fun z => z) o.cl o.ha o.hn o.ht o.hm))
    · cases h
  | mref hi =>
    rename_i i
    simp only [tagD] at h
    split at h
    · rename_i xs e; cases h; obtain ⟨_, vs, h1, _⟩ := rp.mem i _ e; exact .inl (.base (.lst h1))
    · rename_i xs e; cases h; obtain ⟨_, vs, h1, _⟩ := rp.mem i _ e; exact .inl (.base (.lst h1))
    · rename_i xs e; cases h; obtain ⟨_, vs, h1, _⟩ := rp.mem i _ e; exact .inl (.base (.dK h1))
    · rename_i xs e; cases h; obtain ⟨_, vs, h1, _⟩ := rp.mem i _ e; exact .inl (.base (.dT h1))
    · rename_i c xs e
      split at h
      · rename_i hc
        cases h
        obtain ⟨_, dx, vs, h1, _⟩ := rp.mem i _ e
        have o := k.ow _ hc
        exact .inl (.base (.ins h1 o.cl o.ha o.hn o.ht o.hm))
      · cases h
    · cases h
/-- a class as data -/
def clsD : D → Option Tag
  | .ty n => some (.b n)
  | .glo c => some (.o c)
  | _ => none
def clsDs : List D → Option (List Tag)
  | [] => some []
  | d :: r => match clsD d, clsDs r with
    | some t, some ts => some (t :: ts)
    | _, _ => none
def kitL (own : List Str) (t : Tag) : List Tag → Option Bool
  | [] => some false
  | u :: r => match kit own t u with
    | some true => some true
    | some false => kitL own t r
    | none => none
theorem clsD_ok {K : PySem.W.Frag} {F : Hp} {al : Nat → Addr} {n : Nat} {v : V} {d : D} {t : Tag} (iv : Is K F al n v d) (h : clsD d = some t) : ClsV v (t.val K) := by
  cases iv <;> simp only [clsD] at h <;> try (cases h; done)
  · cases h; exact .ty _
  · cases h; exact .own _
theorem clsDs_ok {K : PySem.W.Frag} {F : Hp} {al : Nat → Addr} {n : Nat} : ∀ {vs : List V} {ds : List D} {ts : List Tag}, IsL K F al n vs ds → clsDs ds = some ts → Paired ClsV vs (ts.map (·.val K))
  | _, _, _, .nil, h => by simp only [clsDs] at h; cases h; exact .nil
  | _, _, _, .cons i t, h => by
    simp only [clsDs] at h
    split at h
    · rename_i a b e1 e2; cases h; exact .cons (clsD_ok i e1) (clsDs_ok t e2)
    · cases h
theorem kitL_ok {K : PySem.W.Frag} {own : List Str} (k : KitOk K own) {t : Tag} : ∀ {ts : List Tag} {r : Bool}, kitL own t ts = some r → PySem.W.kitAny K (t.val K) (ts.map (·.val K)) = some r
  | [], r, h => by simp only [kitL] at h; cases h; rfl
  | u :: us, r, h => by
    simp only [kitL] at h
    split at h
    · rename_i e; cases h; exact kitAny_cons (kit_ok k e) (fun z => by cases z) (fun _ => rfl)
    · rename_i e; exact kitAny_cons (kit_ok k e) (fun _ => kitL_ok k h) (fun z => by cases z)
    · cases h
def hIsi (own : List Str) : HL := fun ds m => match ds with
  | [x, .tup cs] => (match tagD own m x, clsDs cs with
    | some t, some ts => (match kitL own t ts with
      | some b => .ok (.bl b) m
      | none => .bad)
    | _, _ => .bad)
  | [x, c] => (match tagD own m x, clsD c with
    | some t, some u => (match kit own t u with
      | some b => .ok (.bl b) m
      | none => .bad)
    | _, _ => .bad)
  | _ => .bad
theorem sd_isi {K : PySem.W.Frag} {own : List Str} (k : KitOk K own) : CaSd K (rIsiY K) (hIsi own) := by
  intro W σ g m xs ds Q rp ix q
  unfold hIsi at q
  split at q
  · split at q
    · rename_i t ts e1 e2
      split at q
      · rename_i b e3
        cases ix with
        | cons i1 r1 =>
          cases r1 with
          | cons i2 r2 =>
            cases r2
            cases i2 with
            | tup s z l =>
              have s' : TupA K g.H _ _ := rp.at_ s fun z => z
              exact .inr ⟨_, _, _, _, _, b, rfl, s', clsDs_ok l e2, tagD_ok k rp i1 e1, kitL_ok k e3, pre_val rp q (.bl _)⟩
      · exact q.elim
    · exact q.elim
  · split at q
    · rename_i t u e1 e2
      split at q
      · rename_i b e3
        cases ix with
        | cons i1 r1 =>
          cases r1 with
          | cons i2 r2 =>
            cases r2
            exact .inl ⟨_, _, _, _, b, rfl, clsD_ok i2 e2, tagD_ok k rp i1 e1, kit_ok k e3, pre_val rp q (.bl _)⟩
      · exact q.elim
    · exact q.elim
  · exact q.elim
end DL
end
section
set_option maxRecDepth 100000
set_option maxHeartbeats 2000000
/-! The data layer, part 11: more of lists; zip, enumerate; two-clause comprehensions; locks. -/
namespace DL
open PySem L2
open Classical

/-! ### methods of mutable lists -/
/-- a built-in method of one argument -/
def eM1 (T : D → Mem → Bool) (h : D → D → Mem → Res D) (o e : FE) : FE := fun ρ m => (o ρ m).bind fun x m1 => if T x m1 = true then (e ρ m1).bind fun d m2 => h x d m2 else .bad
def eM0 (T : D → Mem → Bool) (h : D → Mem → Res D) (o : FE) : FE := fun ρ m => (o ρ m).bind fun x m1 => if T x m1 = true then h x m1 else .bad
def isLst (d : D) (m : Mem) : Bool := (lstE m d).isSome
def isStr : D → Mem → Bool
  | .str _, _ => true
  | _, _ => false
theorem isLst_ty {K : PySem.W.Frag} {g : Gh} {m : Mem} {v : V} {d : D} (rp : Rep K g m) (iv : IsG K g m v d) (h : isLst d m = true) : tyV K "list" v g.H := by
  unfold isLst at h
  obtain ⟨xs, e⟩ := Option.isSome_iff_exists.mp h
  obtain ⟨a, vs, rfl, h1, _⟩ := lstE_ok rp iv e
  exact .inl ⟨rfl, _, SqL.of h1⟩
theorem isStr_ty {K : PySem.W.Frag} {g : Gh} {m : Mem} {v : V} {d : D} (rp : Rep K g m) (iv : IsG K g m v d) (h : isStr d m = true) : tyV K "str" v g.H := by
  cases iv <;> simp only [isStr] at h <;> first | (cases h; done) | rfl
section
variable {X : Cx} {W : WX} {o e : Expr} {fo fe : FE} {apos pos : Pos} {name : Str} {T id : String} {r : V → List V → Hp → VK → Prop} {tt : D → Mem → Bool}
theorem pd_m1 {h : D → D → Mem → Res D} (pa : PlainAttrs T) (slot : Slot T name id) (hty : typeOf (.builtin id) = pure (.type "method_descriptor")) (hm : MtR X id r)
    (hT : ∀ g m v d, Rep X.K g m → IsG X.K g m v d → tt d m = true → tyV X.K T v g.H)
    (hs : ∀ (W : WX) (σ : St) g m x y dx dy (Q : VK), Rep X.K g m → IsG X.K g m x dx → IsG X.K g m y dy → Pre (RE X.K) X.K W σ g m Q (h dx dy m) → r x [y] g.H Q)
    (ho : PD X W o fo) (he : PD X W e fe) (hb : attributeBase o name X.env (eval o X.env) = eval o X.env := by rfl) (hst : starEach (e :: []) X.env = (false, eval e X.env) :: starEach [] X.env := by rfl)
    (hfew : ((backTo pos (starEach [e] X.env)).all (fun x => !x.1) && (backToKw pos (keywordEach [] X.env)).all (fun x => x.1.isSome)
      && decide ([e].length + ([] : List Keyword).length + (if ([] : List Keyword).isEmpty then 0 else 1) < 30)) = true := by rfl)
    (hline : (apos.endLine == pos.line) = true := by rfl) (hpl : (backTo pos (starEach [] X.env)).any (·.1) = false := by rfl) : PD X W (.Call (.Attribute o name apos) [e] [] pos) (eM1 tt h fo fe) := by
  obtain ⟨t, p, s⟩ := ho.ex
  obtain ⟨t', p', s'⟩ := he.ex
  refine ⟨⟨_, pe_bm pa slot hty hm p (pa_cons p' pa_nil hst) hb hfew hline hst hpl, fun g m σ ρ Q rp en q => s g m σ ρ _ rp en (pre_bind q fun g1 m1 x dx rp1 l1 ix q1 => ?_)⟩⟩
  split at q1
  · rename_i ht
    refine ⟨hT g1 m1 x dx rp1 ix ht, s' g1 m1 σ ρ _ rp1 (en.le l1) (pre_bind q1 fun g2 m2 y dy rp2 l2 iy q2 => ?_)⟩
    exact hs W σ g2 m2 x y dx dy Q rp2 (ix.le l2) iy q2
  · exact q1.elim
theorem pd_m0 {h : D → Mem → Res D} (pa : PlainAttrs T) (slot : Slot T name id) (hty : typeOf (.builtin id) = pure (.type "method_descriptor")) (hm : MtR X id r)
    (hT : ∀ g m v d, Rep X.K g m → IsG X.K g m v d → tt d m = true → tyV X.K T v g.H)
    (hs : ∀ (W : WX) (σ : St) g m x dx (Q : VK), Rep X.K g m → IsG X.K g m x dx → Pre (RE X.K) X.K W σ g m Q (h dx m) → r x [] g.H Q)
    (ho : PD X W o fo) (hb : attributeBase o name X.env (eval o X.env) = eval o X.env := by rfl) (hline : (apos.endLine == pos.line) = true := by rfl) : PD X W (.Call (.Attribute o name apos) [] [] pos) (eM0 tt h fo) := by
  obtain ⟨t, p, s⟩ := ho.ex
  refine ⟨⟨_, pe_bm0 pa slot hty hm p hb hline, fun g m σ ρ Q rp en q => s g m σ ρ _ rp en (pre_bind q fun g1 m1 x dx rp1 l1 ix q1 => ?_)⟩⟩
  split at q1
  · rename_i ht
    exact ⟨hT g1 m1 x dx rp1 ix ht, hs W σ g1 m1 x dx Q rp1 ix q1⟩
  · exact q1.elim
/-- xs.pop(i) -/
def hPop : D → D → Mem → Res D := fun x y m => match x, y with
  | .mref i, .int k => (match m[i]? with
    | some (.lst xs) => if -(2 ^ 63) ≤ k ∧ k < 2 ^ 63 then (match seqIndex? k xs.length with
      | some j => (match xs[j]? with
        | some d => .ok d (m.set i (.lst (xs.eraseIdx j)))
        | none => .bad)
      | none => .bad) else .bad
    | _ => .bad)
  | _, _ => .bad
theorem pd_pop (ho : PD X W o fo) (he : PD X W e fe) (hb : attributeBase o "pop" X.env (eval o X.env) = eval o X.env := by rfl) (hst : starEach (e :: []) X.env = (false, eval e X.env) :: starEach [] X.env := by rfl)
    (hfew : ((backTo pos (starEach [e] X.env)).all (fun x => !x.1) && (backToKw pos (keywordEach [] X.env)).all (fun x => x.1.isSome)
      && decide ([e].length + ([] : List Keyword).length + (if ([] : List Keyword).isEmpty then 0 else 1) < 30)) = true := by rfl)
    (hline : (apos.endLine == pos.line) = true := by rfl) (hpl : (backTo pos (starEach [] X.env)).any (·.1) = false := by rfl) : PD X W (.Call (.Attribute o "pop" apos) [e] [] pos) (eM1 isLst hPop fo fe) := by
  refine pd_m1 PySem.F.plainAttrs_list PySem.F.slot_list_pop PySem.F.type_list_pop (r := rPopAt) mt_popAt (fun g m v d => isLst_ty) (fun W σ g m x y dx dy Q rp ix iy q => ?_) ho he hb hst hfew hline hpl
  unfold hPop at q
  split at q
  · rename_i i k
    split at q
    · rename_i xs e1
      split at q
      · rename_i hk
        split at q
        · rename_i j ej
          split at q
          · rename_i d ed
            cases iy
            obtain ⟨_, vs, h1, h2, h3⟩ := rp.mem i _ e1
            obtain ⟨v, ev, iv⟩ := h3.get ed
            cases ix
            obtain ⟨rp3, l3⟩ := lst_write rp e1 (vs := vs.eraseIdx j) (Nat.le_trans (len_erase vs j) h2) (h3.eraseIdx j)
            exact ⟨g.al i, vs, k, j, v, rfl, rfl, h1, hk.1, hk.2, by rw [h3.length]; exact ej, ev, q _ v rp3 l3 (iv.le l3)⟩
          · exact q.elim
        · exact q.elim
      · exact q.elim
    · exact q.elim
  · exact q.elim
/-- xs.extend(ys) -/
def hExt : D → D → Mem → Res D := fun x y m => match x with
  | .mref i => (match m[i]?, lstE m y with
    | some (.lst xs), some ys => if xs.length + ys.length ≤ sizeLine then .ok .non (m.set i (.lst (xs ++ ys))) else .bad
    | _, _ => .bad)
  | _ => .bad
theorem pd_extend (ho : PD X W o fo) (he : PD X W e fe) (hb : attributeBase o "extend" X.env (eval o X.env) = eval o X.env := by rfl) (hst : starEach (e :: []) X.env = (false, eval e X.env) :: starEach [] X.env := by rfl)
    (hfew : ((backTo pos (starEach [e] X.env)).all (fun x => !x.1) && (backToKw pos (keywordEach [] X.env)).all (fun x => x.1.isSome)
      && decide ([e].length + ([] : List Keyword).length + (if ([] : List Keyword).isEmpty then 0 else 1) < 30)) = true := by rfl)
    (hline : (apos.endLine == pos.line) = true := by rfl) (hpl : (backTo pos (starEach [] X.env)).any (·.1) = false := by rfl) : PD X W (.Call (.Attribute o "extend" apos) [e] [] pos) (eM1 isLst hExt fo fe) := by
  refine pd_m1 PySem.F.plainAttrs_list PySem.F.slot_list_extend PySem.F.type_list_extend (r := rExtend) mt_extend (fun g m v d => isLst_ty) (fun W σ g m x y dx dy Q rp ix iy q => ?_) ho he hb hst hfew hline hpl
  unfold hExt at q
  split at q
  · rename_i i
    split at q
    · rename_i xs ys e1 e2
      split at q
      · rename_i hz
        obtain ⟨_, vs, h1, h2, h3⟩ := rp.mem i _ e1
        obtain ⟨b, ws, rfl, k1, k2, k3⟩ := lstE_ok rp iy e2
        cases ix
        have el := h3.length
        have el2 := k3.length
        obtain ⟨rp3, l3⟩ := lst_write rp e1 (vs := vs ++ ws) (by rw [List.length_append]; omega) (h3.append k3)
        exact ⟨g.al i, b, vs, ws, rfl, rfl, h1, k1, by omega, q _ .non rp3 l3 .non⟩
      · exact q.elim
    · exact q.elim
  · exact q.elim
/-- sep.join(texts) -/
def strsV : List D → Option (List Str)
  | [] => some []
  | .str b :: r => (strsV r).map (b :: ·)
  | _ :: _ => none
theorem strsV_ok {K : PySem.W.Frag} {F : Hp} {al : Nat → Addr} {n : Nat} : ∀ {vs : List V} {ds : List D} {bs : List Str}, IsL K F al n vs ds → strsV ds = some bs → vs = bs.map V.str
  | _, _, _, .nil, h => by simp only [strsV] at h; cases h; rfl
  | _, _, _, .cons i t, h => by
    cases i <;> simp only [strsV] at h <;> try (cases h; done)
    obtain ⟨r, h1, rfl⟩ := Option.map_eq_some_iff.mp h
    rw [strsV_ok t h1]
    rfl
def hJoin : D → D → Mem → Res D := fun x y m => match x with
  | .str a => (match seqV m y with
    | some ys => (match strsV ys with
      | some ts => if (ts.map (·.length)).sum + ts.length * a.length ≤ 16777216 then .ok (.str (Txt.join a ts)) m else .bad
      | none => .bad)
    | none => .bad)
  | _ => .bad
theorem pd_join (ho : PD X W o fo) (he : PD X W e fe) (hb : attributeBase o "join" X.env (eval o X.env) = eval o X.env := by rfl) (hst : starEach (e :: []) X.env = (false, eval e X.env) :: starEach [] X.env := by rfl) (hst2 : starEach [e] X.env = [(false, eval e X.env)] := by rfl)
    (hline : (apos.endLine == pos.line) = true := by rfl) : PD X W (.Call (.Attribute o "join" apos) [e] [] pos) (eM1 isStr hJoin fo fe) := by
  obtain ⟨t, p, s⟩ := ho.ex
  obtain ⟨t', p', s'⟩ := he.ex
  refine ⟨⟨_, pe_join p p' hst2 hb hline, fun g m σ ρ Q rp en q => s g m σ ρ _ rp en (pre_bind q fun g1 m1 x dx rp1 l1 ix q1 => ?_)⟩⟩
  split at q1
  · rename_i ht
    cases ix <;> simp only [isStr] at ht <;> try (cases ht; done)
    refine ⟨⟨_, rfl⟩, s' g1 m1 σ ρ _ rp1 (en.le l1) (pre_bind q1 fun g2 m2 y dy rp2 l2 iy q2 => ?_)⟩
    unfold hJoin at q2
    simp only at q2
    split at q2
    · rename_i ys ey
      split at q2
      · rename_i ts et
        split at q2
        · rename_i hz
          obtain ⟨a, vs, rfl, h1, h2, h3⟩ := seqV_ok rp2 iy ey
          have ev := strsV_ok h3 et
          subst ev
          exact ⟨_, a, ts, rfl, rfl, h1, hz, pre_val rp2 q2 (.str _)⟩
        · exact q2.elim
      · exact q2.elim
    · exact q2.elim
  · exact q1.elim
/-- o[i] = v -/
def gIx (fo fi : FE) : FG := fun d ρ m => (fo ρ m).bind fun x m1 => (fi ρ m1).bind fun y m2 => match x, y with
  | .mref i, .int k => (match m2[i]? with
    | some (.lst xs) => (match ixN xs.length k with
      | some j => .ok ρ (m2.set i (.lst (xs.set j d)))
      | none => .bad)
    | _ => .bad)
  | _, _ => .bad
theorem pdg_ix {tpos : Pos} (ho : PD X W o fo) (hi : PD X W e fe) (ha : ∀ v, assign (.Subscript o e tpos) X.env v = (do
      let ov ← holding [v] (eval o X.env)
      let iv ← holding [v, ov] (eval e X.env)
      standAt tpos
      holding [v, ov, iv] (setItem ov iv v)
      release [v, ov, iv] []) := by intro _; rfl) : PDG X W (.Subscript o e tpos) (gIx fo fe) [] := by
  obtain ⟨t, p, s⟩ := ho.ex
  obtain ⟨t', p', s'⟩ := hi.ex
  refine ⟨⟨_, pg_sub p p' set_list ha, fun g m σ ρ v d Q rp en iv q => s g m σ ρ _ rp en (pre_bind q fun g1 m1 x dx rp1 l1 ix q1 => s' g1 m1 σ ρ _ rp1 (en.le l1) (pre_bind q1 fun g2 m2 y dy rp2 l2 iy q2 => ?_))⟩⟩
  have ix2 := ix.le l2
  cases ix2 <;> try exact q2.elim
  rename_i i hi
  cases iy <;> try exact q2.elim
  rename_i k
  simp only at q2
  split at q2
  · rename_i xs e1
    split at q2
    · rename_i j ej
      obtain ⟨_, vs, h1, h2, h3⟩ := rp2.mem i _ e1
      obtain ⟨rp3, l3⟩ := lst_write rp2 e1 (vs := vs.set j v) (by rw [List.length_set]; exact h2) (h3.set j ((iv.le l1).le l2))
      exact ⟨_, vs, k, j, rfl, rfl, h1, by rw [h3.length]; exact ej, q2 _ σ rp3 l3 ⟨((en.le l1).le l2).le l3, Sl.refl _ _⟩⟩
    · exact q2.elim
  · exact q2.elim
end

/-! ### zip of two lists (two tuples), enumerate of a list -/
def pairsD : List D → List D → List D
  | x :: xs, y :: ys => .tup [x, y] :: pairsD xs ys
  | _, _ => []
theorem pairsD_get : ∀ (xs ys : List D) (i : Nat), (pairsD xs ys)[i]? = (match xs[i]?, ys[i]? with | some x, some y => some (D.tup [x, y]) | _, _ => none)
  | [], ys, i => by simp [pairsD]
  | x :: xs, [], i => by cases i <;> simp [pairsD]
  | x :: xs, y :: ys, 0 => by simp [pairsD]
  | x :: xs, y :: ys, i + 1 => by simp [pairsD, pairsD_get xs ys i]
theorem pairsD_length (xs ys : List D) : (pairsD xs ys).length = min xs.length ys.length := by
  induction xs generalizing ys with
  | nil => simp [pairsD]
  | cons x xs ih => cases ys with
    | nil => simp [pairsD]
    | cons y ys => simp [pairsD, ih]
def enumD (k : Nat) : List D → List D
  | [] => []
  | x :: xs => .tup [.int k, x] :: enumD (k + 1) xs
theorem enumD_get : ∀ (xs : List D) (k i : Nat), (enumD k xs)[i]? = (xs[i]?).map fun x => D.tup [.int ((k + i : Nat) : Int), x]
  | [], k, i => by simp [enumD]
  | x :: xs, k, 0 => by simp [enumD]
  | x :: xs, k, i + 1 => by
    simp only [enumD, List.getElem?_cons_succ, enumD_get xs (k + 1) i]
    congr 1
    funext z
    have e : k + 1 + i = k + (i + 1) := by omega
    rw [e]
theorem enumD_length (xs : List D) : ∀ k, (enumD k xs).length = xs.length := by
  induction xs with
  | nil => intro k; rfl
  | cons x xs ih => intro k; simp [enumD, ih]
section
variable {K : PySem.W.Frag} {g : Gh} {m : Mem}
theorem new_pair {g' : Gh} {m' : Mem} (rp : Rep K g' m') {T : Addr} {x y : V} {dx dy : D} (hT : g'.H T = none) (ix : IsG K g' m' x dx) (iy : IsG K g' m' y dy) : ∃ g2, g2.H = upd g'.H T (.tup [x, y]) ∧ Rep K g2 m' ∧ Le g' m' g2 m' ∧ IsG K g2 m' (.ref T) (.tup [dx, dy]) := by
  obtain ⟨r, l⟩ := rp.newF hT (.tup [x, y])
  exact ⟨_, rfl, r, l, .tup upd_same (by show 2 ≤ sizeLine; decide) (.cons (ix.le l) (.cons (iy.le l) .nil))⟩
theorem iter_zipL {a b : Addr} {xs ys : List D} (hz : xs.length ≤ sizeLine) (h : ∀ g' m', Rep K g' m' → Lw g m g' m' → ∃ vs, SqL K g'.H a vs ∧ IsGL K g' m' vs xs) (h2 : ∀ g' m', Rep K g' m' → Lw g m g' m' → ∃ vs, SqL K g'.H b vs ∧ IsGL K g' m' vs ys) : IterOk K (Itz K a b) g m (pairsD xs ys) where
  sz := by rw [pairsD_length]; omega
  go := fun g' m' rp le i d e => by
    obtain ⟨vs, h1, k1⟩ := h g' m' rp le
    obtain ⟨ws, h3, k3⟩ := h2 g' m' rp le
    rw [pairsD_get] at e
    split at e
    · rename_i x y ex ey
      cases e
      obtain ⟨v, ev, iv⟩ := k1.get ex
      obtain ⟨w, ew, iw⟩ := k3.get ey
      refine ⟨⟨vs, ws, v, w, h1, h3, ev, ew⟩, fun z H' yy => ?_⟩
      obtain ⟨T, x', y', rfl, hT, rfl, q1, q2⟩ := yy
      have e1 := q1 vs h1
      have e2 := q2 ws h3
      rw [ev] at e1
      rw [ew] at e2
      cases e1
      cases e2
      exact new_pair rp hT iv iw
    · cases e
  stop := fun g' m' rp le => by
    obtain ⟨vs, h1, k1⟩ := h g' m' rp le
    obtain ⟨ws, h3, k3⟩ := h2 g' m' rp le
    refine ⟨vs, ws, h1, h3, ?_⟩
    rw [pairsD_length, k1.length, k3.length]
    omega
theorem iter_enum {a : Addr} {xs : List D} (hz : xs.length ≤ sizeLine) (h : ∀ g' m', Rep K g' m' → Lw g m g' m' → ∃ vs, SqL K g'.H a vs ∧ IsGL K g' m' vs xs) : IterOk K (Ite K a) g m (enumD 0 xs) where
  sz := by rw [enumD_length]; exact hz
  go := fun g' m' rp le i d e => by
    obtain ⟨vs, h1, k1⟩ := h g' m' rp le
    rw [enumD_get, Nat.zero_add] at e
    obtain ⟨x, ex, rfl⟩ := Option.map_eq_some_iff.mp e
    obtain ⟨v, ev, iv⟩ := k1.get ex
    refine ⟨⟨vs, v, h1, ev⟩, fun z H' yy => ?_⟩
    obtain ⟨T, x', rfl, hT, rfl, q1⟩ := yy
    have e1 := q1 vs h1
    rw [ev] at e1
    cases e1
    exact new_pair rp hT (.int _) iv
  stop := fun g' m' rp le => by
    obtain ⟨vs, h1, k1⟩ := h g' m' rp le
    exact ⟨vs, h1, by rw [enumD_length, k1.length]; exact Nat.le_refl _⟩
end
def iZp (a b : FE) : FI := fun ρ m => (a ρ m).bind fun x m1 => (b ρ m1).bind fun y m2 => match lstK m2 x, lstK m2 y with
  | some xs, some ys => .ok (pairsD xs ys) m2
  | _, _ => .bad
def iEn (a : FE) : FI := fun ρ m => (a ρ m).bind fun x m1 => match lstK m1 x with
  | some xs => .ok (enumD 0 xs) m1
  | none => .bad
section
variable {X : Cx} {W : WX} {pos p tpos : Pos} {elts : List Expr} {kk : Nat} {e e2 : Expr} {f f2 : FE}
theorem pdi_zip (hg : Gl X "zip") (hm : X.mg "zip" = none) (h : PD X W e f) (h2 : PD X W e2 f2) (hs : starEach [e, e2] X.env = (false, eval e X.env) :: starEach [e2] X.env := by rfl) (hpl : (backTo pos (starEach [e2] X.env)).any (·.1) = false := by rfl)
    (hs3 : starEach (e2 :: []) X.env = (false, eval e2 X.env) :: starEach [] X.env := by rfl) : PDI X W (.Tuple elts kk tpos) (.Call (.Name "zip" p) [e, e2] [] pos) (iZp f f2) := by
  obtain ⟨t, pt, s⟩ := h.ex
  obtain ⟨t', pt', s'⟩ := h2.ex
  refine ⟨⟨_, pi_zip hg hm (pa_cons pt (pa_cons pt' pa_nil hs3) hs) hs hpl, fun g m σ ρ R rp en q => s g m σ ρ _ rp en (pre_bind q fun g1 m1 x dx rp1 l1 ix q1 => s' g1 m1 σ ρ _ rp1 (en.le l1) (pre_bind q1 fun g2 m2 y dy rp2 l2 iy q2 => ?_))⟩⟩
  split at q2
  · rename_i xs ys ex ey
    obtain ⟨a, rfl, hz, hs⟩ := lstK_stays rp2 (ix.le l2) ex
    obtain ⟨b, rfl, hz2, hs2⟩ := lstK_stays rp2 iy ey
    obtain ⟨vs, h1, _⟩ := hs g2 m2 rp2 (Lw.refl _ _)
    obtain ⟨ws, h3, _⟩ := hs2 g2 m2 rp2 (Lw.refl _ _)
    exact ⟨a, b, vs, ws, rfl, h1, h3, q2 g2 _ rp2 (Le.refl _ _) (iter_zipL hz hs hs2)⟩
  · exact q2.elim
theorem pdi_enum (hg : Gl X "enumerate") (hm : X.mg "enumerate" = none) (h : PD X W e f) (hs : starEach [e] X.env = [(false, eval e X.env)] := by rfl) (hs3 : starEach (e :: []) X.env = (false, eval e X.env) :: starEach [] X.env := by rfl) :
    PDI X W (.Tuple elts kk tpos) (.Call (.Name "enumerate" p) [e] [] pos) (iEn f) := by
  obtain ⟨t, pt, s⟩ := h.ex
  refine ⟨⟨_, pi_enum hg hm (pa_cons pt pa_nil hs3) hs, fun g m σ ρ R rp en q => s g m σ ρ _ rp en (pre_bind q fun g1 m1 x dx rp1 l1 ix q1 => ?_)⟩⟩
  split at q1
  · rename_i xs ex
    obtain ⟨a, rfl, hz, hs⟩ := lstK_stays rp1 ix ex
    obtain ⟨vs, h1, _⟩ := hs g1 m1 rp1 (Lw.refl _ _)
    exact ⟨a, vs, rfl, h1, q1 g1 _ rp1 (Le.refl _ _) (iter_enum hz hs)⟩
  · exact q1.elim
end

/-! ### a mutable list locked while an expression or a statement runs -/
def lkAt (ρ : EnvD) (m : Mem) (i : Nat) : Option (Nat × List D) := match ρ[i]? with
  | some (some (.mref j)) => (match m[j]? with
    | some (.lst xs) => some (j, xs)
    | _ => none)
  | _ => none
def unlk {B : Type} (j : Nat) (xs : List D) : Res B → Res B
  | .ok d m => .ok d (m.set j (.lst xs))
  | .exc x m => .exc x (m.set j (.lst xs))
  | .bad => .bad
def eLk (i : Nat) (f : FE) : FE := fun ρ m => match lkAt ρ m i with
  | some (j, xs) => unlk j xs (f ρ (m.set j (.lkL xs)))
  | none => .bad
section
variable {K : PySem.W.Frag} {g : Gh} {m : Mem} {j : Nat} {xs : List D}
theorem Rep.relab (rp : Rep K g m) {o o' : MO} (e : m[j]? = some o) (hn : o ≠ .gone) (hn' : o' ≠ .gone) (h : MOk K g m.length (g.al j) o → MOk K g m.length (g.al j) o') : Rep K g (m.set j o') := by
  have hj : j < m.length := (List.getElem?_eq_some_iff.mp e).1
  have lv : ∀ i, Live (m.set j o') i → Live m i := fun i ⟨u, hu, n⟩ => by
    by_cases hi : j = i
    · subst hi; exact ⟨o, e, hn⟩
    · rw [List.getElem?_set_ne hi] at hu; exact ⟨u, hu, n⟩
  refine ⟨rp.sub, fun i u hu => ?_, fun a b la lb => rp.inj a b (lv a la) (lv b lb)⟩
  rw [List.length_set]
  by_cases hi : j = i
  · subst hi
    rw [List.getElem?_set_self hj] at hu
    cases hu
    exact h (rp.mem j o e)
  · rw [List.getElem?_set_ne hi] at hu
    exact rp.mem i u hu
theorem live_set {o : MO} (hj : ∃ u, m[j]? = some u ∧ u ≠ .gone) (hn : o ≠ .gone) (i : Nat) : Live (m.set j o) i ↔ Live m i := by
  obtain ⟨w, hw, hn'⟩ := hj
  have hl : j < m.length := (List.getElem?_eq_some_iff.mp hw).1
  constructor
  · rintro ⟨u, hu, n⟩
    by_cases hi : j = i
    · subst hi; exact ⟨w, hw, hn'⟩
    · rw [List.getElem?_set_ne hi] at hu; exact ⟨u, hu, n⟩
  · rintro ⟨u, hu, n⟩
    by_cases hi : j = i
    · subst hi; exact ⟨o, List.getElem?_set_self hl, hn⟩
    · exact ⟨u, by rw [List.getElem?_set_ne hi]; exact hu, n⟩
/-- locked, then unlocked: seen from before -/
theorem lk_le {g' : Gh} {m' : Mem} (e : m[j]? = some (.lst xs)) (l : Le g (m.set j (.lkL xs)) g' m') : m'[j]? = some (.lkL xs) ∧ Le g m g' (m'.set j (.lst xs)) := by
  have hj : j < m.length := (List.getElem?_eq_some_iff.mp e).1
  have e' : m'[j]? = some (.lkL xs) := l.lk j _ (List.getElem?_set_self hj) rfl
  have n1 := l.n
  rw [List.length_set] at n1
  have lv := live_set (m := m) (j := j) (o := .lkL xs) ⟨_, e, fun z => by cases z⟩ (fun z => by cases z)
  have lv' := live_set (m := m') (j := j) (o := .lst xs) ⟨_, e', fun z => by cases z⟩ (fun z => by cases z)
  refine ⟨e', ⟨l.F, by rw [List.length_set]; exact n1, fun i h => l.al i (by rw [List.length_set]; exact h), fun b o h nt f q => ?_, l.frz, fun i o h k => ?_⟩⟩
  · obtain ⟨a, b', c⟩ := l.oth b o h nt f fun i li => q i ((lv i).mp li)
    exact ⟨a, b', fun i li => c i ((lv' i).mp li)⟩
  · by_cases hi : j = i
    · subst hi
      rw [e] at h
      cases h
      cases k
    · rw [List.getElem?_set_ne hi]
      exact l.lk i o (by rw [List.getElem?_set_ne hi]; exact h) k
theorem lk_start (rp : Rep K g m) (e : m[j]? = some (.lst xs)) : Rep K g (m.set j (.lkL xs)) := rp.relab e (fun z => by cases z) (fun z => by cases z) fun h => h
theorem lk_end {g' : Gh} {m' : Mem} (rp : Rep K g' m') (e : m'[j]? = some (.lkL xs)) : Rep K g' (m'.set j (.lst xs)) := rp.relab e (fun z => by cases z) (fun z => by cases z) fun h => h
theorem Is.len {F : Hp} {al : Nat → Addr} {n n' : Nat} {v : V} {d : D} (h : Is K F al n v d) (e : n = n') : Is K F al n' v d := e ▸ h
theorem EnvOk.len' {σ : St} {ρ : EnvD} {m' : Mem} (h : EnvOk K g m σ ρ) (e : m.length = m'.length) : EnvOk K g m' σ ρ := ⟨h.len, fun i d q => let ⟨v, a, b⟩ := h.at_ i d q; ⟨v, a, b.len e⟩⟩
end
theorem pd_lk {X : Cx} {W : WX} {e : Expr} {f : FE} (i : Nat) (h : PD X W e f) : PD X W e (eLk i f) := by
  obtain ⟨t, p, s⟩ := h.ex
  refine ⟨⟨t, p, fun g m σ ρ Q rp en q => ?_⟩⟩
  unfold eLk at q
  split at q
  · rename_i j xs el
    have ej : m[j]? = some (.lst xs) := by
      unfold lkAt at el
      split at el
      · split at el
        · cases el; assumption
        · cases el
      · cases el
    refine s g (m.set j (.lkL xs)) σ ρ Q (lk_start rp ej) (en.len' (by rw [List.length_set])) ?_
    cases hf : f ρ (m.set j (.lkL xs)) with
    | bad => rw [hf] at q; exact q
    | ok d m' =>
      rw [hf] at q
      intro g' v rp' l' iv
      obtain ⟨e', l2⟩ := lk_le ej l'
      exact q g' v (lk_end rp' e') l2 (iv.len (by rw [List.length_set]))
    | exc x m' =>
      rw [hf] at q
      intro g' c d rp' l' ix
      obtain ⟨e', l2⟩ := lk_le ej l'
      refine q g' c d (lk_end rp' e') l2 ⟨ix.1, ix.2.imp id fun ⟨d', vs, h1, h2, h3, h4⟩ => ⟨d', vs, h1, h2, h3, ?_⟩⟩
      show IsL X.K g'.F g'.al (m'.set j (.lst xs)).length _ _
      rw [List.length_set]
      exact h4
  · exact q.elim
end DL
end
section
set_option maxRecDepth 100000
set_option maxHeartbeats 2000000
/-! The data layer, part 12: packages for the printed derivations. -/
namespace DL
open PySem L2
open Classical

/-- a def of the module, by its name -/
structure Def1 (P : Program) (w : World) (K : PySem.W.Frag) (mg : Str → Option Value) (base : Heap) (k : Nat) (x : Str) (ps : List Str) (dds : List D) (F : HL) : Prop where
  ex : ∃ f fd dvs dus, mg x = some (.ref f) ∧ PySem.W.keepIn K (.ref f) = true ∧ FnD P w K mg base k f fd ps F ∧ Binds K fd ps dus ∧ Vals dvs dus ∧ ∀ g m, IsGL K g m dvs dds
/-- a method of a class -/
structure Met1 (P : Program) (w : World) (K : PySem.W.Frag) (mg : Str → Option Value) (base : Heap) (k : Nat) (c x : Str) (ps : List Str) (dds : List D) (F : HL) : Prop where
  ex : ∃ f fd dvs dus, Cls K (He.ga K c) ∧ Meth K (He.ga K c) x f ∧ FnD P w K mg base k f fd ps F ∧ Binds K fd ps dus ∧ Vals dvs dus ∧ ∀ g m, IsGL K g m dvs dds
/-- a class that is made -/
structure Mak1 (P : Program) (w : World) (K : PySem.W.Frag) (mg : Str → Option Value) (base : Heap) (k : Nat) (c : Str) (ps : List Str) (dds : List D) (F : HL) : Prop where
  ex : ∃ f fd dvs dus, mg c = some (.ref (He.ga K c)) ∧ Mk K (He.ga K c) f ∧ FnD P w K mg base k f fd ps F ∧ Binds K fd ps dus ∧ Vals dvs dus ∧ ∀ g m, IsGL K g m dvs dds
structure MakK (P : Program) (w : World) (K : PySem.W.Frag) (mg : Str → Option Value) (base : Heap) (k : Nat) (c : Str) (ps ks : List Str) (n : Nat) (F : HL) : Prop where
  ex : ∃ f fd gA gV, mg c = some (.ref (He.ga K c)) ∧ Mk K (He.ga K c) f ∧ FnD P w K mg base k f fd ps F ∧ KBn K fd ps (n + 1) ks gA gV ∧ ∀ x vs zs, gV (x :: vs) zs = x :: (vs ++ zs)
theorem flatD0 (E : XK) : Flat (WD E) := fun _ _ _ _ _ h => h
theorem flat00 : Flat W0 := fun _ _ _ _ _ h => h
section
variable {X : Cx} {W : WX} {k : Nat} {x c mn : Str} {ps : List Str} {dds : List D} {F : HL} {p pos apos : Pos} {e o : Expr} {es : List Expr} {fa : FA} {fo : FE}
theorem pc_def (G : Def1 X.prog X.w X.K X.mg X.base k x ps dds F) (hr : Room k X.A) (tk : Takes X W) (ha : PDA X W (e :: es) fa) (hg : Gl X x := by rfl) (hdb : (x == ("__debug__" : Str)) = false := by decide) (he : starEach (e :: es) X.env = (false, eval e X.env) :: starEach es X.env := by rfl) (hpl : (backTo pos (starEach es X.env)).any (·.1) = false := by rfl) :
    PD X W (.Call (.Name x p) (e :: es) [] pos) (eCall ps.length F dds fa) :=
  let ⟨_, _, _, _, h1, h2, h3, h4, h5, h6⟩ := G.ex; pd_call h3 hr tk h1 h2 h4 h5 h6 ha hg hdb he hpl
theorem pc_def0 (G : Def1 X.prog X.w X.K X.mg X.base k x ps dds F) (hr : Room k X.A) (tk : Takes X W) (hW : Flat W) (hg : Gl X x := by rfl) (hdb : (x == ("__debug__" : Str)) = false := by decide) : PD X W (.Call (.Name x p) [] [] pos) (eCall ps.length F dds aNil) :=
  let ⟨_, _, _, _, h1, h2, h3, h4, h5, h6⟩ := G.ex; pd_call0 h3 hr tk hW h1 h2 h4 h5 h6 hg hdb
theorem pc_met {pl : Sem Bool} (G : Met1 X.prog X.w X.K X.mg X.base k c mn ps dds F) (hr : Room k X.A) (tk : Takes X W) (hW : Flat W) (ho : PD X W o fo) (ha : PDA X W (e :: es) fa)
    (hst : starEach (e :: es) X.env = (false, eval e X.env) :: starEach es X.env := by rfl) (hpl : (backTo pos (starEach es X.env)).any (·.1) = false := by rfl)
    (ht : eval (.Call (.Attribute o mn apos) (e :: es) [] pos) X.env = (do
      let ov ← eval o X.env
      standAt apos.atName
      let (f, first) ← holding [ov] (getMethod ov mn pl)
      callWith pos f first (backTo pos (starEach (e :: es) X.env)) (backToKw pos (keywordEach [] X.env))) := by rfl) :
    PD X W (.Call (.Attribute o mn apos) (e :: es) [] pos) (eMeth c mn ps.length F dds fo fa) :=
  let ⟨_, _, _, _, h1, h2, h3, h4, h5, h6⟩ := G.ex; pd_meth h3 hr tk hW h1 h2 h4 h5 h6 ho ha hst hpl ht
theorem pc_met0 {pl : Sem Bool} (G : Met1 X.prog X.w X.K X.mg X.base k c mn ps dds F) (hr : Room k X.A) (tk : Takes X W) (hW : Flat W) (ho : PD X W o fo)
    (ht : eval (.Call (.Attribute o mn apos) [] [] pos) X.env = (do
      let ov ← eval o X.env
      standAt apos.atName
      let (f, first) ← holding [ov] (getMethod ov mn pl)
      callWith pos f first (backTo pos (starEach [] X.env)) (backToKw pos (keywordEach [] X.env))) := by rfl) :
    PD X W (.Call (.Attribute o mn apos) [] [] pos) (eMeth c mn ps.length F dds fo aNil) :=
  let ⟨_, _, _, _, h1, h2, h3, h4, h5, h6⟩ := G.ex; pd_meth0 h3 hr tk hW h1 h2 h4 h5 h6 ho ht
theorem pc_mak (G : Mak1 X.prog X.w X.K X.mg X.base k c ps dds F) (hr : Room (k + 1) X.A) (tk : Takes X W) (hW : Flat W) (ha : PDA X W (e :: es) fa) (hg : Gl X c := by rfl) (hdb : (c == ("__debug__" : Str)) = false := by decide) (he : starEach (e :: es) X.env = (false, eval e X.env) :: starEach es X.env := by rfl) (hpl : (backTo pos (starEach es X.env)).any (·.1) = false := by rfl) :
    PD X W (.Call (.Name c p) (e :: es) [] pos) (eMake c ps.length F dds fa) :=
  let ⟨_, _, _, _, h1, h2, h3, h4, h5, h6⟩ := G.ex; pd_make h2 h3 hr tk hW h1 h4 h5 h6 ha hg hdb he hpl
theorem pc_makK {n : Nat} {ks : List Str} {kws : List Keyword} {fk : FA} (G : MakK X.prog X.w X.K X.mg X.base k c ps ks n F) (hr : Room (k + 1) X.A) (tk : Takes X W) (hW : Flat W) (ha : PDA X W (e :: es) fa) (hkw : PDK X W kws fk) (hg : Gl X c := by rfl)
    (hall : (backToKw pos (keywordEach kws X.env)).all (·.1.isSome) = true := by rfl) (hks : (backToKw pos (keywordEach kws X.env)).filterMap (·.1) = ks := by rfl) (hdb : (c == ("__debug__" : Str)) = false := by decide)
    (he : starEach (e :: es) X.env = (false, eval e X.env) :: starEach es X.env := by rfl) (hpl : ((backTo pos (starEach (e :: es) X.env)).any (·.1) || (backToKw pos (keywordEach kws X.env)).any (·.1.isNone)) = false := by rfl) :
    PD X W (.Call (.Name c p) (e :: es) kws pos) (eMakeK c ps.length n ks.length F fa fk) :=
  let ⟨_, _, _, _, h1, h2, h3, h4, h5⟩ := G.ex; pd_makeK h2 h3 hr tk hW h1 h4 h5 ha hkw hg hall hks hdb he hpl
/-- names of the module -/
theorem pg_i {i : Int} (h : ∃ t, X.mg x = some (.int i t)) (hg : Gl X x := by rfl) (hd : (x == ("__debug__" : Str)) = false := by decide) : PD X W (.Name x p) (eC (.int i)) := let ⟨t, h⟩ := h; pd_glob hg h (v := .int i) ⟨t, rfl⟩ (fun _ _ => .int i) hd
theorem pg_s {i : Str} (h : ∃ t, X.mg x = some (.str i t)) (hg : Gl X x := by rfl) (hd : (x == ("__debug__" : Str)) = false := by decide) : PD X W (.Name x p) (eC (.str i)) := let ⟨t, h⟩ := h; pd_glob hg h (v := .str i) ⟨t, rfl⟩ (fun _ _ => .str i) hd
theorem pg_c (h : X.mg x = some (.ref (He.ga X.K x))) (hg : Gl X x := by rfl) (hd : (x == ("__debug__" : Str)) = false := by decide) : PD X W (.Name x p) (eC (.glo x)) := pd_glob hg h (v := .ref (He.ga X.K x)) rfl (fun _ _ => .glo x) hd
/-- a chain a op b op' c -/
theorem pd_ch {a b c : Expr} {fa fb fc : FE} {op op' : CmpOp} {r r' : R2} {h h' : H2} (ho : OpR X (compareOp op) r) (ho' : OpR X (compareOp op') r') (hs : OpSd X.K r h) (hs' : OpSd X.K r' h') (ha : PD X W a fa) (hb : PD X W b fb) (hc : PD X W c fc)
    (hm : lastMarks [op, op'] [b, c] = false := by with_unfolding_all rfl) : PD X W (.Compare a [op, op'] [b, c] pos) (eCh h h' fa fb fc) := by
  obtain ⟨t1, p1, s1⟩ := ha.ex
  obtain ⟨t2, p2, s2⟩ := hb.ex
  obtain ⟨t3, p3, s3⟩ := hc.ex
  refine ⟨⟨_, pe_chain ho ho' p1 p2 p3 hm, fun g m σ ρ Q rp en q => s1 g m σ ρ _ rp en (pre_bind q fun g1 m1 x dx rp1 l1 ix q1 => s2 g1 m1 σ ρ _ rp1 (en.le l1) (pre_bind q1 fun g2 m2 y dy rp2 l2 iy q2 => ?_))⟩⟩
  refine hs W σ g2 m2 x y dx dy _ rp2 (ix.le l2) iy (pre_bind q2 fun g3 m3 z dz rp3 l3 iz q3 => ?_)
  cases iz <;> try exact q3.elim
  rename_i k
  refine ⟨k, rfl, ?_⟩
  cases k with
  | true =>
    simp only [if_true] at q3 ⊢
    exact s3 g3 m3 σ ρ _ rp3 (((en.le l1).le l2).le l3) (pre_bind q3 fun g4 m4 w dw rp4 l4 iw q4 => hs' W σ g4 m4 y w dy dw Q rp4 ((iy.le l3).le l4) iw q4)
  | false =>
    simp only [Bool.false_eq_true, if_false] at q3 ⊢
    exact pre_val rp3 q3 (.bl false)
theorem pdt_ch {a b c : Expr} {fa fb fc : FE} {op op' : CmpOp} {r r' : R2} {h h' : H2} (ho : OpR X (compareOp op) r) (ho' : OpR X (compareOp op') r') (hs : OpSd X.K r h) (hs' : OpSd X.K r' h') (ha : PD X W a fa) (hb : PD X W b fb) (hc : PD X W c fc)
    (hm : lastMarks [op, op'] [b, c] = false := by with_unfolding_all rfl) : PDT X W (.Compare a [op, op'] [b, c] pos) (tTr (eCh h h' fa fb fc)) := by
  obtain ⟨t1, p1, s1⟩ := ha.ex
  obtain ⟨t2, p2, s2⟩ := hb.ex
  obtain ⟨t3, p3, s3⟩ := hc.ex
  refine ⟨⟨_, pt_chain ho ho' p1 p2 p3 hm, fun g m σ ρ Q rp en q => ?_⟩⟩
  have z : SdE X.K W (tChain r r' t1 t2 t3) (eCh h h' fa fb fc) := fun g m σ ρ Q rp en q => by
    refine s1 g m σ ρ _ rp en (pre_bind q fun g1 m1 x dx rp1 l1 ix q1 => s2 g1 m1 σ ρ _ rp1 (en.le l1) (pre_bind q1 fun g2 m2 y dy rp2 l2 iy q2 => ?_))
    refine hs W σ g2 m2 x y dx dy _ rp2 (ix.le l2) iy (pre_bind q2 fun g3 m3 z dz rp3 l3 iz q3 => ?_)
    cases iz <;> try exact q3.elim
    rename_i k
    refine ⟨k, rfl, ?_⟩
    cases k with
    | true =>
      simp only [if_true] at q3 ⊢
      exact s3 g3 m3 σ ρ _ rp3 (((en.le l1).le l2).le l3) (pre_bind q3 fun g4 m4 w dw rp4 l4 iw q4 => hs' W σ g4 m4 y w dy dw Q rp4 ((iy.le l3).le l4) iw q4)
    | false =>
      simp only [Bool.false_eq_true, if_false] at q3 ⊢
      exact pre_val rp3 q3 (.bl false)
  refine z g m σ ρ _ rp en (pre_bind q fun g1 m1 x dx rp1 l1 ix q1 => ?_)
  cases ix <;> first | exact q1.elim | exact ⟨_, rfl, q1 g1 _ rp1 (Le.refl _ _) rfl⟩
end
/-! ### comparisons by their names -/
section
variable {X : Cx} {W : WX} {a b : Expr} {fa fb : FE} {pos : Pos}
theorem cm_lt (ha : PD X W a fa) (hb : PD X W b fb) : PD X W (.Compare a [.Lt] [b] pos) (eOp hLt fa fb) := pd_cmp op_lt (sd_cmp X.K _) ha hb
theorem cm_le (ha : PD X W a fa) (hb : PD X W b fb) : PD X W (.Compare a [.LtE] [b] pos) (eOp hLe fa fb) := pd_cmp op_le (sd_cmp X.K _) ha hb
theorem cm_gt (ha : PD X W a fa) (hb : PD X W b fb) : PD X W (.Compare a [.Gt] [b] pos) (eOp hGt fa fb) := pd_cmp op_gt (sd_cmp X.K _) ha hb
theorem cm_ge (ha : PD X W a fa) (hb : PD X W b fb) : PD X W (.Compare a [.GtE] [b] pos) (eOp hGe fa fb) := pd_cmp op_ge (sd_cmp X.K _) ha hb
theorem cm_eq {k : Nat} (hr : Room k X.A) (ha : PD X W a fa) (hb : PD X W b fb) : PD X W (.Compare a [.Eq] [b] pos) (eOp (hEqP false) fa fb) := pd_cmp (op_eqD hr.units) (sd_eqP X.K) ha hb
theorem cm_ne {k : Nat} (hr : Room k X.A) (ha : PD X W a fa) (hb : PD X W b fb) : PD X W (.Compare a [.NotEq] [b] pos) (eOp (hEqP true) fa fb) := pd_cmp (op_neD hr.units) (sd_neP X.K) ha hb
theorem cm_in (ha : PD X W a fa) (hb : PD X W b fb) (hm : behindInMarks .In b = false := by rfl) : PD X W (.Compare a [.In] [b] pos) (eOp (hIn false) fa fb) := pd_cmp op_inA (sd_in X.K false) ha hb hm
theorem cm_nin (ha : PD X W a fa) (hb : PD X W b fb) (hm : behindInMarks .NotIn b = false := by rfl) : PD X W (.Compare a [.NotIn] [b] pos) (eOp (hIn true) fa fb) := pd_cmp op_notInA (sd_in X.K true) ha hb hm
theorem cm_is (ha : PD X W a fa) (hb : PD X W b fb) : PD X W (.Compare a [.Is] [b] pos) (eOp (hIsN false) fa fb) := pd_cmp op_isA (sd_is X.K false) ha hb
theorem cm_isn (ha : PD X W a fa) (hb : PD X W b fb) : PD X W (.Compare a [.IsNot] [b] pos) (eOp (hIsN true) fa fb) := pd_cmp op_isNotA (sd_is X.K true) ha hb
theorem ct_lt (ha : PD X W a fa) (hb : PD X W b fb) : PDT X W (.Compare a [.Lt] [b] pos) (tTr (eOp hLt fa fb)) := pdt_cmp op_lt (sd_cmp X.K _) ha hb
theorem ct_le (ha : PD X W a fa) (hb : PD X W b fb) : PDT X W (.Compare a [.LtE] [b] pos) (tTr (eOp hLe fa fb)) := pdt_cmp op_le (sd_cmp X.K _) ha hb
theorem ct_gt (ha : PD X W a fa) (hb : PD X W b fb) : PDT X W (.Compare a [.Gt] [b] pos) (tTr (eOp hGt fa fb)) := pdt_cmp op_gt (sd_cmp X.K _) ha hb
theorem ct_ge (ha : PD X W a fa) (hb : PD X W b fb) : PDT X W (.Compare a [.GtE] [b] pos) (tTr (eOp hGe fa fb)) := pdt_cmp op_ge (sd_cmp X.K _) ha hb
theorem ct_eq {k : Nat} (hr : Room k X.A) (ha : PD X W a fa) (hb : PD X W b fb) : PDT X W (.Compare a [.Eq] [b] pos) (tTr (eOp (hEqP false) fa fb)) := pdt_cmp (op_eqD hr.units) (sd_eqP X.K) ha hb
theorem ct_ne {k : Nat} (hr : Room k X.A) (ha : PD X W a fa) (hb : PD X W b fb) : PDT X W (.Compare a [.NotEq] [b] pos) (tTr (eOp (hEqP true) fa fb)) := pdt_cmp (op_neD hr.units) (sd_neP X.K) ha hb
theorem ct_in (ha : PD X W a fa) (hb : PD X W b fb) (hm : behindInMarks .In b = false := by rfl) : PDT X W (.Compare a [.In] [b] pos) (tTr (eOp (hIn false) fa fb)) := pdt_cmp op_inA (sd_in X.K false) ha hb hm
theorem ct_nin (ha : PD X W a fa) (hb : PD X W b fb) (hm : behindInMarks .NotIn b = false := by rfl) : PDT X W (.Compare a [.NotIn] [b] pos) (tTr (eOp (hIn true) fa fb)) := pdt_cmp op_notInA (sd_in X.K true) ha hb hm
theorem ct_is (ha : PD X W a fa) (hb : PD X W b fb) : PDT X W (.Compare a [.Is] [b] pos) (tTr (eOp (hIsN false) fa fb)) := pdt_cmp op_isA (sd_is X.K false) ha hb
theorem ct_isn (ha : PD X W a fa) (hb : PD X W b fb) : PDT X W (.Compare a [.IsNot] [b] pos) (tTr (eOp (hIsN true) fa fb)) := pdt_cmp op_isNotA (sd_is X.K true) ha hb
end
/-! ### built-in functions by their names -/
section
variable {X : Cx} {W : WX} {e : Expr} {es : List Expr} {f : FA} {p pos : Pos}
theorem bf_len (hm : X.mg "len" = none) (ha : PDA X W (e :: es) f) (hg : Gl X "len" := by rfl) (he : starEach (e :: es) X.env = (false, eval e X.env) :: starEach es X.env := by rfl) (hpl : (backTo pos (starEach es X.env)).any (·.1) = false := by rfl) : PD X W (.Call (.Name "len" p) (e :: es) [] pos) (eCB hLen f) := pd_cb call_lenA (sd_len X.K) hg hm PySem.boot_len ha (by decide) (by decide) he hpl
theorem bf_isi {own : List Str} (k : KitOk X.K own) (hm : X.mg "isinstance" = none) (ha : PDA X W (e :: es) f) (hg : Gl X "isinstance" := by rfl) (he : starEach (e :: es) X.env = (false, eval e X.env) :: starEach es X.env := by rfl) (hpl : (backTo pos (starEach es X.env)).any (·.1) = false := by rfl) : PD X W (.Call (.Name "isinstance" p) (e :: es) [] pos) (eCB (hIsi own) f) := pd_cb call_isiY (sd_isi k) hg hm (by decide +kernel) ha (by decide) (by decide) he hpl
theorem bf_list (hm : X.mg "list" = none) (ha : PDA X W (e :: es) f) (hg : Gl X "list" := by rfl) (he : starEach (e :: es) X.env = (false, eval e X.env) :: starEach es X.env := by rfl) (hpl : (backTo pos (starEach es X.env)).any (·.1) = false := by rfl) : PD X W (.Call (.Name "list" p) (e :: es) [] pos) (eCB hList f) := pd_ct call_list_of (sd_list X.K) hg hm (by decide +kernel) ha (by decide) (by decide) he hpl
theorem bf_listM (hm : X.mg "list" = none) (ha : PDA X W (e :: es) f) (hg : Gl X "list" := by rfl) (he : starEach (e :: es) X.env = (false, eval e X.env) :: starEach es X.env := by rfl) (hpl : (backTo pos (starEach es X.env)).any (·.1) = false := by rfl) : PD X W (.Call (.Name "list" p) (e :: es) [] pos) (eCB hListM f) := pd_ct call_list_of (sd_listM X.K) hg hm (by decide +kernel) ha (by decide) (by decide) he hpl
theorem bf_tuple (hm : X.mg "tuple" = none) (ha : PDA X W (e :: es) f) (hg : Gl X "tuple" := by rfl) (he : starEach (e :: es) X.env = (false, eval e X.env) :: starEach es X.env := by rfl) (hpl : (backTo pos (starEach es X.env)).any (·.1) = false := by rfl) : PD X W (.Call (.Name "tuple" p) (e :: es) [] pos) (eCB hTuple f) := pd_ct call_tuple_of (sd_tuple X.K) hg hm (by decide +kernel) ha (by decide) (by decide) he hpl
theorem bf_int (hm : X.mg "int" = none) (ha : PDA X W (e :: es) f) (hg : Gl X "int" := by rfl) (he : starEach (e :: es) X.env = (false, eval e X.env) :: starEach es X.env := by rfl) (hpl : (backTo pos (starEach es X.env)).any (·.1) = false := by rfl) : PD X W (.Call (.Name "int" p) (e :: es) [] pos) (eCB hInt f) := pd_ct call_int1 (sd_int X.K) hg hm (by decide +kernel) ha (by decide) (by decide) he hpl
theorem bf_abs (hm : X.mg "abs" = none) (ha : PDA X W (e :: es) f) (hg : Gl X "abs" := by rfl) (he : starEach (e :: es) X.env = (false, eval e X.env) :: starEach es X.env := by rfl) (hpl : (backTo pos (starEach es X.env)).any (·.1) = false := by rfl) : PD X W (.Call (.Name "abs" p) (e :: es) [] pos) (eCB hAbs f) := pd_cb call_abs (sd_abs X.K) hg hm (by decide +kernel) ha (by decide) (by decide) he hpl
theorem bf_all (hc : X.calm = true) (hm : X.mg "all" = none) (ha : PDA X W (e :: es) f) (hg : Gl X "all" := by rfl) (he : starEach (e :: es) X.env = (false, eval e X.env) :: starEach es X.env := by rfl) (hpl : (backTo pos (starEach es X.env)).any (·.1) = false := by rfl) : PD X W (.Call (.Name "all" p) (e :: es) [] pos) (eCB (hBls (·.all id)) f) := pd_cb (cr_all hc) (sd_bls X.K _) hg hm (by decide +kernel) ha (by decide) (by decide) he hpl
theorem bf_any (hc : X.calm = true) (hm : X.mg "any" = none) (ha : PDA X W (e :: es) f) (hg : Gl X "any" := by rfl) (he : starEach (e :: es) X.env = (false, eval e X.env) :: starEach es X.env := by rfl) (hpl : (backTo pos (starEach es X.env)).any (·.1) = false := by rfl) : PD X W (.Call (.Name "any" p) (e :: es) [] pos) (eCB (hBls (·.any id)) f) := pd_cb (cr_any hc) (sd_bls X.K _) hg hm (by decide +kernel) ha (by decide) (by decide) he hpl
theorem bf_sum (hc : X.calm = true) (hm : X.mg "sum" = none) (ha : PDA X W (e :: es) f) (hg : Gl X "sum" := by rfl) (he : starEach (e :: es) X.env = (false, eval e X.env) :: starEach es X.env := by rfl) (hpl : (backTo pos (starEach es X.env)).any (·.1) = false := by rfl) : PD X W (.Call (.Name "sum" p) (e :: es) [] pos) (eCB hSum f) := pd_cb (cr_sum hc) (sd_sum X.K) hg hm (by decide +kernel) ha (by decide) (by decide) he hpl
end
end DL
end
section
set_option maxRecDepth 100000
set_option maxHeartbeats 2000000
/-! The data layer, part 13: comprehensions of two clauses; a def that never gives an answer. -/
namespace DL
open PySem L2
open Classical

theorem fn_bad {P : Program} {w : World} {K : PySem.W.Frag} {mg : Str → Option Value} {base : Heap} {k : Nat} {f : Addr} {fd : FuncData} {ps : List Str} : FnD P w K mg base k f fd ps (fun _ _ => .bad) :=
  ⟨fun vs H Q E h => h.1, fun A outer s H args us vs Q E hr e0 hb hv h => by obtain ⟨_, g, m, ds, _, _, _, q⟩ := h; exact q.elim⟩
theorem Oth.lwW {g g1 : Gh} {m m1 : Mem} {p : Addr} (l : Lw g1 m1 g m) (o o' : HO) (h : g.H p = some o) (nf : ∀ ob u, o ≠ .frz ob u) : Lw g1 m1 ⟨upd g.H p o', g.F, g.al⟩ m :=
  ⟨l.F, l.n, l.al, fun b u v q => by
    have z := l.frz b u v q
    have ne : b ≠ p := fun e => by rw [e, h] at z; cases z; exact nf _ _ rfl
    exact (upd_ne ne).trans z, l.lk⟩
/-- a loop that adds to the list at p -/
theorem in_loop {K : PySem.W.Frag} {W : WX} {J : It} {tg : TG} {tt : TT} {te : TE} {fg : FG} {ft : FT} {fe : FE} {is vs : List Nat} {σ σ0 : St} {ρ : EnvD} {g1 gB : Gh} {m1 mB : Mem} {ds acc0 : List D} {vs0 : List V} {Q : VK} {p : Addr} {Nx : Hp → Prop} {k : List D → Mem → Res D}
    (hg : SdG K W0 tg fg is) (his : ∀ i ∈ is, i ∈ vs) (ht : SdT K W0 tt ft) (he : SdE K W0 te fe) (rp : Rep K g1 m1) (en : EnvOk K g1 m1 σ ρ) (ok : IterOk K J g1 m1 ds)
    (hp : gB.H p = none) (leB : Le gB mB g1 m1) (ox0 : Oth g1 m1 p (.lst vs0)) (ia0 : IsGL K g1 m1 vs0 acc0) (hz : acc0.length + ds.length ≤ sizeLine)
    (q : Pre (RE K) K W σ0 gB mB Q (bindN (lcGo fg ft fe (wipeD ρ vs) ds acc0 m1) k))
    (fin : ∀ g m vs' acc', Rep K g m → Le gB mB g m → Lw g1 m1 g m → Oth g m p (.lst vs') → IsGL K g m vs' acc' → Pre (RE K) K W σ0 gB mB Q (k acc' m) → acc'.length ≤ acc0.length + ds.length → Nx g.H) :
    ∃ Wd : Nat → Nat → Hp → Prop, (∃ m, Wd 0 m g1.H) ∧ ∀ i m H, Wd i m H →
      (J.stop i H ∧ Nx H) ∨ (J.go i H ∧ ∃ Nx1 : Hp → Prop, (∀ H', Nx1 H' → ∃ m', m' < m ∧ Wd (i + 1) m' H') ∧ ∀ x H', J.yld i H x H' → tg x (wipe σ vs) H' fun σ2 H2 => wipe σ2 vs = wipe σ vs ∧ tt σ2 H2 fun b H3 =>
        if b = true then te σ2 H3 fun y H4 => ∃ acc, H4 p = some (.lst acc) ∧ acc.length < sizeLine ∧ Nx1 (upd H4 p (.lst (acc ++ [y]))) else Nx1 H3) := by
  refine ⟨fun i n H => n = ds.length - i ∧ i ≤ ds.length ∧ ∃ g m vsA acc, g.H = H ∧ Rep K g m ∧ Le gB mB g m ∧ Lw g1 m1 g m ∧ Oth g m p (.lst vsA) ∧ IsGL K g m vsA acc ∧ acc.length ≤ acc0.length + i ∧
    Pre (RE K) K W σ0 gB mB Q (bindN (lcGo fg ft fe (wipeD ρ vs) (ds.drop i) acc m) k), ⟨ds.length, by simp, Nat.zero_le _, g1, m1, vs0, acc0, rfl, rp, leB, Lw.refl _ _, ox0, ia0, Nat.le_refl _, by simpa using q⟩, ?_⟩
  rintro i n H ⟨rfl, hi, g, m, vsA, acc, rfl, rpg, leg, lw, ox, ia, hla, qi⟩
  by_cases hlt : i < ds.length
  · obtain ⟨d, ed⟩ : ∃ d, ds[i]? = some d := ⟨ds[i], by simp [hlt]⟩
    have hdrop : ds.drop i = d :: ds.drop (i + 1) := by
      rw [List.drop_eq_getElem_cons hlt]
      congr 1
      have := List.getElem?_eq_getElem hlt
      rw [ed] at this
      exact (Option.some.inj this).symm
    rw [hdrop] at qi
    obtain ⟨hgo, hy⟩ := ok.go g m rpg lw i d ed
    refine .inr ⟨hgo, _, fun H' n => n, fun x H' y => ?_⟩
    obtain ⟨g2, rfl, rp2, l2, ix⟩ := hy x H' y
    have fin2 : ∀ (g4 : Gh) (m4 : Mem) (vs4 : List V) (acc4 : List D), Rep K g4 m4 → Le gB mB g4 m4 → Lw g1 m1 g4 m4 → Oth g4 m4 p (.lst vs4) → IsGL K g4 m4 vs4 acc4 → acc4.length ≤ acc0.length + (i + 1) → Pre (RE K) K W σ0 gB mB Q (bindN (lcGo fg ft fe (wipeD ρ vs) (ds.drop (i + 1)) acc4 m4) k) →
        ∃ m', m' < ds.length - i ∧ (m' = ds.length - (i + 1) ∧ i + 1 ≤ ds.length ∧ ∃ g m vsA acc, g.H = g4.H ∧ Rep K g m ∧ Le gB mB g m ∧ Lw g1 m1 g m ∧ Oth g m p (.lst vsA) ∧ IsGL K g m vsA acc ∧ acc.length ≤ acc0.length + (i + 1) ∧
          Pre (RE K) K W σ0 gB mB Q (bindN (lcGo fg ft fe (wipeD ρ vs) (ds.drop (i + 1)) acc m) k)) := fun g4 m4 vs4 acc4 a b b' c d e f =>
      ⟨ds.length - (i + 1), by omega, rfl, hlt, g4, m4, vs4, acc4, rfl, a, b, b', c, d, e, f⟩
    have en2 : EnvOk K g2 m (wipe σ vs) (wipeD ρ vs) := wipeD_ok (en.lw (lw.trans l2.w)) vs
    have qi' : Pre (RE K) K W σ0 gB mB Q (bindN (fg d (wipeD ρ vs) m) fun ρ2 m2 => bindN (bindN (ft ρ2 m2) fun b m3 => if b = true then bindN (fe ρ2 m3) fun y m4 => lcGo fg ft fe (wipeD ρ vs) (ds.drop (i + 1)) (acc ++ [y]) m4 else lcGo fg ft fe (wipeD ρ vs) (ds.drop (i + 1)) acc m3) k) := by
      cases hf : fg d (wipeD ρ vs) m with
      | ok a b => rw [lcGo, hf] at qi; exact qi
      | exc a b => rw [lcGo, hf] at qi; exact qi
      | bad => rw [lcGo, hf] at qi; exact qi
    refine hg g2 m (wipe σ vs) (wipeD ρ vs) x d _ rp2 en2 ix (pre_stepN qi' fun g3 m3 σ3 ρ3 rp3 l3 r3 q3 => ?_)
    refine ⟨(r3.2.wipe his).trans (wipe_wipe _ _), ?_⟩
    have q3' : Pre (RE K) K W σ0 gB mB Q (bindN (ft ρ3 m3) fun b m4 => bindN (if b = true then bindN (fe ρ3 m4) fun y m5 => lcGo fg ft fe (wipeD ρ vs) (ds.drop (i + 1)) (acc ++ [y]) m5 else lcGo fg ft fe (wipeD ρ vs) (ds.drop (i + 1)) acc m4) k) := by
      cases hf : ft ρ3 m3 with
      | ok a b => rw [hf] at q3; exact q3
      | exc a b => rw [hf] at q3; exact q3
      | bad => rw [hf] at q3; exact q3
    refine ht g3 m3 σ3 ρ3 _ rp3 r3.1 (pre_stepN q3' fun g4 m4 b b' rp4 l4 eb q4 => ?_)
    have eb' : b = b' := eb
    subst eb'
    have lg4 : Le g m g4 m4 := (l2.trans l3).trans l4
    have lB4 : Le gB mB g4 m4 := leg.trans lg4
    have lw4 : Lw g1 m1 g4 m4 := lw.trans lg4.w
    cases b with
    | false =>
      rw [if_neg Bool.false_ne_true]
      rw [if_neg Bool.false_ne_true] at q4
      exact fin2 g4 m4 vsA acc rp4 lB4 lw4 (ox.le lg4) (ia.le lg4) (by omega) q4
    | true =>
      rw [if_pos rfl]
      rw [if_pos rfl] at q4
      have q4' : Pre (RE K) K W σ0 gB mB Q (bindN (fe ρ3 m4) fun y m5 => bindN (lcGo fg ft fe (wipeD ρ vs) (ds.drop (i + 1)) (acc ++ [y]) m5) k) := by
        cases hf : fe ρ3 m4 with
        | ok a b => rw [hf] at q4; exact q4
        | exc a b => rw [hf] at q4; exact q4
        | bad => rw [hf] at q4; exact q4
      refine he g4 m4 σ3 ρ3 _ rp4 (r3.1.le l4) (pre_stepN q4' fun g5 m5 v y rp5 l5 iy q5 => ?_)
      have ox5 := ox.le (lg4.trans l5)
      have ia5 := ia.le (lg4.trans l5)
      have el := ia5.length
      refine ⟨vsA, ox5.h, by omega, ?_⟩
      obtain ⟨rp6, ox6⟩ := ox5.write rp5 (fun _ _ z => by cases z) (.lst (vsA ++ [v]))
      refine fin2 ⟨upd g5.H p (.lst (vsA ++ [v])), g5.F, g5.al⟩ m5 (vsA ++ [v]) (acc ++ [y]) rp6 (Oth.leW (lB4.trans l5) hp _) (Oth.lwW (lw4.trans l5.w) _ _ ox5.h (fun _ _ z => by cases z)) ox6 (ia5.append (.cons iy .nil)) ?_ q5
      rw [List.length_append, List.length_singleton]
      omega
  · have e : i = ds.length := by omega
    subst e
    rw [List.drop_length] at qi
    exact .inl ⟨ok.stop g m rpg lw, fin g m vsA acc rpg leg lw ox ia qi (by omega)⟩

/-! ### two clauses -/
noncomputable def lc2Go (fg : FG) (ft : FT) (fi1 : FI) (fg1 : FG) (ft1 : FT) (fe : FE) (vs1 : List Nat) (ρ : EnvD) : List D → List D → Mem → Res (List D)
  | [], acc, m => .ok acc m
  | x :: xs, acc, m => bindN (fg x ρ m) fun ρ2 m2 => bindN (ft ρ2 m2) fun b m3 => if b = true then bindN (fi1 ρ2 m3) fun ds1 m4 => if acc.length + ds1.length ≤ sizeLine then bindN (lcGo fg1 ft1 fe (wipeD ρ2 vs1) ds1 acc m4) fun acc' m5 => lc2Go fg ft fi1 fg1 ft1 fe vs1 ρ xs acc' m5 else .bad
    else lc2Go fg ft fi1 fg1 ft1 fe vs1 ρ xs acc m3
noncomputable def eLc2 (mu : Bool) (vs vs1 : List Nat) (fi : FI) (fg : FG) (ft : FT) (fi1 : FI) (fg1 : FG) (ft1 : FT) (fe : FE) : FE := fun ρ m => (fi ρ m).bind fun ds m1 => bindN (lc2Go fg ft fi1 fg1 ft1 fe vs1 (wipeD ρ vs) ds [] m1) fun ys m2 => finL mu ys m2
def SdI (K : PySem.W.Frag) (W : WX) (w : TI) (f : FI) : Prop := ∀ g m σ ρ R, Rep K g m → EnvOk K g m σ ρ → Pre (fun g m J ds => IterOk K J g m ds) K W σ g m R (f ρ m) → w σ g.H R
def cI (K : PySem.W.Frag) (W : WX) (f : FI) : TI := fun σ H R => ∃ g m ρ, g.H = H ∧ Rep K g m ∧ EnvOk K g m σ ρ ∧ Pre (fun g m J ds => IterOk K J g m ds) K W σ g m R (f ρ m)
theorem PDI.can {X : Cx} {W : WX} {tg it : Expr} {f : FI} (h : PDI X W tg it f) : PI X tg it (cI X.K W f) := by
  obtain ⟨t, p, s⟩ := h.ex
  refine ⟨fun pins s0 σ H R I q => ?_⟩
  obtain ⟨g, m, ρ, rfl, rp, en, q⟩ := q
  exact p.run pins s0 σ g.H R I (s g m σ ρ R rp en q)
theorem sd_cI {K : PySem.W.Frag} {W : WX} {f : FI} : SdI K W (cI K W f) f := fun g m σ ρ R rp en q => ⟨g, m, ρ, rfl, rp, en, q⟩
theorem bindN_assoc {α β γ : Type} (r : Res α) (f : α → Mem → Res β) (k : β → Mem → Res γ) : bindN (bindN r f) k = bindN r fun a m => bindN (f a m) k := by
  cases r <;> rfl
theorem lc2_loop {K : PySem.W.Frag} {W : WX} {J : It} {tg tg1 : TG} {tt tt1 : TT} {wi1 : TI} {te : TE} {fg fg1 : FG} {ft ft1 : FT} {fi1 : FI} {fe : FE} {is is1 vs vs1 : List Nat} {σ : St} {ρ : EnvD} {g1 : Gh} {m1 : Mem} {ds : List D} {Q : VK} {mu : Bool}
    (hg : SdG K W0 tg fg is) (his : ∀ i ∈ is, i ∈ vs) (ht : SdT K W0 tt ft) (hi1 : SdI K W0 wi1 fi1) (hg1 : SdG K W0 tg1 fg1 is1) (his1 : ∀ i ∈ is1, i ∈ vs1) (ht1 : SdT K W0 tt1 ft1) (he : SdE K W0 te fe) (rp : Rep K g1 m1) (en : EnvOk K g1 m1 σ ρ) (ok : IterOk K J g1 m1 ds)
    (q : Pre (RE K) K W σ g1 m1 Q (bindN (lc2Go fg ft fi1 fg1 ft1 fe vs1 (wipeD ρ vs) ds [] m1) fun ys m2 => finL mu ys m2)) (p : Addr) (hp : g1.H p = none) :
    ∃ Wd : Nat → Nat → Hp → Prop, (∃ m, Wd 0 m (upd g1.H p (.lst []))) ∧ ∀ i m H, Wd i m H →
      (J.stop i H ∧ Q (.ref p) H) ∨ (J.go i H ∧ ∃ Nx : Hp → Prop, (∀ H', Nx H' → ∃ m', m' < m ∧ Wd (i + 1) m' H') ∧ ∀ x H', J.yld i H x H' → tg x (wipe σ vs) H' fun σ2 H2 => wipe σ2 vs = wipe σ vs ∧ tt σ2 H2 fun b H3 =>
        if b = true then wi1 σ2 H3 fun J1 H4 => ∃ W1 : Nat → Nat → Hp → Prop, (∃ m, W1 0 m H4) ∧ ∀ j k H, W1 j k H →
          (J1.stop j H ∧ Nx H) ∨ (J1.go j H ∧ ∃ Nx1 : Hp → Prop, (∀ H', Nx1 H' → ∃ k', k' < k ∧ W1 (j + 1) k' H') ∧ ∀ x H', J1.yld j H x H' → tg1 x (wipe σ2 vs1) H' fun σ3 H5 => wipe σ3 vs1 = wipe σ2 vs1 ∧ tt1 σ3 H5 fun b H6 =>
            if b = true then te σ3 H6 fun y H7 => ∃ acc, H7 p = some (.lst acc) ∧ acc.length < sizeLine ∧ Nx1 (upd H7 p (.lst (acc ++ [y]))) else Nx1 H6)
        else Nx H3) := by
  refine ⟨fun i k H => k = ds.length - i ∧ i ≤ ds.length ∧ ∃ g m vsA acc, g.H = H ∧ Rep K g m ∧ Le g1 m1 g m ∧ Oth g m p (.lst vsA) ∧ IsGL K g m vsA acc ∧ acc.length ≤ sizeLine ∧
    Pre (RE K) K W σ g1 m1 Q (bindN (lc2Go fg ft fi1 fg1 ft1 fe vs1 (wipeD ρ vs) (ds.drop i) acc m) fun ys m2 => finL mu ys m2), ⟨ds.length, ?_⟩, ?_⟩
  · obtain ⟨rp', l'⟩ := rp.other hp (.lst [])
    refine ⟨by simp, Nat.zero_le _, ⟨upd g1.H p (.lst []), g1.F, g1.al⟩, m1, [], [], rfl, rp', l', ⟨upd_same, rp.free hp, fun i li => ?_⟩, .nil, Nat.zero_le _, by simpa using q⟩
    obtain ⟨u, hu, _⟩ := rp.live li
    exact ne_of_none hu hp
  · rintro i k H ⟨rfl, hi, g, m, vsA, acc, rfl, rpg, le, ox, ia, hla, qi⟩
    by_cases hlt : i < ds.length
    · obtain ⟨d, ed⟩ : ∃ d, ds[i]? = some d := ⟨ds[i], by simp [hlt]⟩
      have hdrop : ds.drop i = d :: ds.drop (i + 1) := by
        rw [List.drop_eq_getElem_cons hlt]
        congr 1
        have := List.getElem?_eq_getElem hlt
        rw [ed] at this
        exact (Option.some.inj this).symm
      rw [hdrop] at qi
      obtain ⟨hgo, hy⟩ := ok.go g m rpg le.w i d ed
      refine .inr ⟨hgo, _, fun H' n => n, fun x H' y => ?_⟩
      obtain ⟨g2, rfl, rp2, l2, ix⟩ := hy x H' y
      have fin : ∀ (g4 : Gh) (m4 : Mem) (vs4 : List V) (acc4 : List D), Rep K g4 m4 → Le g1 m1 g4 m4 → Oth g4 m4 p (.lst vs4) → IsGL K g4 m4 vs4 acc4 → acc4.length ≤ sizeLine → Pre (RE K) K W σ g1 m1 Q (bindN (lc2Go fg ft fi1 fg1 ft1 fe vs1 (wipeD ρ vs) (ds.drop (i + 1)) acc4 m4) fun ys m2 => finL mu ys m2) →
          ∃ m', m' < ds.length - i ∧ (m' = ds.length - (i + 1) ∧ i + 1 ≤ ds.length ∧ ∃ g m vsA acc, g.H = g4.H ∧ Rep K g m ∧ Le g1 m1 g m ∧ Oth g m p (.lst vsA) ∧ IsGL K g m vsA acc ∧ acc.length ≤ sizeLine ∧
            Pre (RE K) K W σ g1 m1 Q (bindN (lc2Go fg ft fi1 fg1 ft1 fe vs1 (wipeD ρ vs) (ds.drop (i + 1)) acc m) fun ys m2 => finL mu ys m2)) := fun g4 m4 vs4 acc4 a b c d e f =>
        ⟨ds.length - (i + 1), by omega, rfl, hlt, g4, m4, vs4, acc4, rfl, a, b, c, d, e, f⟩
      have en2 : EnvOk K g2 m (wipe σ vs) (wipeD ρ vs) := wipeD_ok (en.le (le.trans l2)) vs
      rw [lc2Go, bindN_assoc] at qi
      refine hg g2 m (wipe σ vs) (wipeD ρ vs) x d _ rp2 en2 ix (pre_stepN qi fun g3 m3 σ3 ρ3 rp3 l3 r3 q3 => ?_)
      refine ⟨(r3.2.wipe his).trans (wipe_wipe _ _), ?_⟩
      rw [bindN_assoc] at q3
      refine ht g3 m3 σ3 ρ3 _ rp3 r3.1 (pre_stepN q3 fun g4 m4 b b' rp4 l4 eb q4 => ?_)
      have eb' : b = b' := eb
      subst eb'
      have l14 : Le g1 m1 g4 m4 := ((le.trans l2).trans l3).trans l4
      have lg4 : Le g m g4 m4 := (l2.trans l3).trans l4
      cases b with
      | false =>
        rw [if_neg Bool.false_ne_true]
        rw [if_neg Bool.false_ne_true] at q4
        exact fin g4 m4 vsA acc rp4 l14 (ox.le lg4) (ia.le lg4) hla q4
      | true =>
        rw [if_pos rfl]
        rw [if_pos rfl, bindN_assoc] at q4
        refine hi1 g4 m4 σ3 ρ3 _ rp4 (r3.1.le l4) (pre_stepN q4 fun g5 m5 J1 ds1 rp5 l5 ok5 q5 => ?_)
        split at q5
        · rename_i hz
          rw [bindN_assoc] at q5
          refine in_loop (σ := σ3) (ρ := ρ3) hg1 his1 ht1 he rp5 ((r3.1.le l4).le l5) ok5 hp (l14.trans l5) (ox.le (lg4.trans l5)) (ia.le (lg4.trans l5)) hz q5 fun g6 m6 vs6 acc6 rp6 l16 lw6 ox6 ia6 q6 hl6 => ?_
          exact fin g6 m6 vs6 acc6 rp6 l16 ox6 ia6 (by omega) q6
        · exact q5.elim
    · have e : i = ds.length := by omega
      subst e
      rw [List.drop_length] at qi
      refine .inl ⟨ok.stop g m rpg le.w, ?_⟩
      have el := ia.length
      exact fin_ok rpg le hp ox (by omega) ia qi
section
variable {X : Cx} {W : WX}
theorem pd_lc2 (mu : Bool) {elt tg iter tg1 iter1 : Expr} {ifs ifs1 : List Expr} {scope : Scope} {own : List (Str × Nat)} {vs1 : List Nat} {pos : Pos} {fi fi1 : FI} {fg fg1 : FG} {ft ft1 : FT} {fe : FE} {is is1 : List Nat} (hc : X.calm = true) (hN : X.N.Nodup) (ok : BlkOk X.N X.env.scope scope own) (hv : ∀ i ∈ vs1, i ∈ own.map (·.2)) (hi : PDI X W tg iter fi)
    (hg : Blk X scope fun Y => PDG Y W0 tg fg is) (his : ∀ i ∈ is, i ∈ own.map (·.2)) (ht : Blk X scope fun Y => PDTs Y W0 ifs ft) (hi1 : Blk X scope fun Y => PDI Y W0 tg1 iter1 fi1) (hg1 : Blk X scope fun Y => PDG Y W0 tg1 fg1 is1) (his1 : ∀ i ∈ is1, i ∈ vs1) (ht1 : Blk X scope fun Y => PDTs Y W0 ifs1 ft1) (he : Blk X scope fun Y => PD Y W0 elt fe)
    (hs : ∀ x, foldedSetIterable iter X.env x = pure x := by intro _; rfl) (hs1 : ∀ env x, foldedSetIterable iter1 env x = pure x := by intro _ _; rfl) :
    PD X W (.ListComp elt [⟨tg, iter, ifs, 0⟩, ⟨tg1, iter1, ifs1, 0⟩] scope pos) (eLc2 mu (own.map (·.2)) vs1 fi fg ft fi1 fg1 ft1 fe) := by
  obtain ⟨w, pi, si⟩ := hi.ex
  refine ⟨⟨_, pe_lc2 (own := own) (vs1 := vs1) (g := cG X.K W0 fg is) (tt := cT X.K W0 ft) (wi1 := cI X.K W0 fi1) (g1 := cG X.K W0 fg1 is1) (tt1 := cT X.K W0 ft1) (te := cE X.K W0 fe) hc hN pi ok hv (fun s H C cl fp => (hg s H C cl fp).can) (fun s H C cl fp => (ht s H C cl fp).can)
    (fun s H C cl fp => (hi1 s H C cl fp).can) (fun s H C cl fp => (hg1 s H C cl fp).can) (fun s H C cl fp => (ht1 s H C cl fp).can) (fun s H C cl fp => (he s H C cl fp).can) hs hs1, fun g m σ ρ Q rp en q => ?_⟩⟩
  refine si g m σ ρ _ rp en (pre_bind q fun g1 m1 J ds rp1 l1 ok1 q1 => ?_)
  exact fun p hp => lc2_loop sd_cG his sd_cT sd_cI sd_cG his1 sd_cT sd_cE rp1 (en.le l1) ok1 q1 p hp
theorem pds_setLc2 (mu : Bool) (i : Nat) {y : Str} {py : Pos} {elt tg iter tg1 iter1 : Expr} {ifs ifs1 : List Expr} {scope : Scope} {own : List (Str × Nat)} {vs1 : List Nat} {lpos pos : Pos} {fi fi1 : FI} {fg fg1 : FG} {ft ft1 : FT} {fe : FE} {is is1 : List Nat} (hc : X.calm = true) (hN : X.N.Nodup) (ok : BlkOk X.N X.env.scope scope own) (hv : ∀ i ∈ vs1, i ∈ own.map (·.2)) (hi : PDI X W tg iter fi)
    (hg : Blk X scope fun Y => PDG Y W0 tg fg is) (his : ∀ i ∈ is, i ∈ own.map (·.2)) (ht : Blk X scope fun Y => PDTs Y W0 ifs ft) (hi1 : Blk X scope fun Y => PDI Y W0 tg1 iter1 fi1) (hg1 : Blk X scope fun Y => PDG Y W0 tg1 fg1 is1) (his1 : ∀ i ∈ is1, i ∈ vs1) (ht1 : Blk X scope fun Y => PDTs Y W0 ifs1 ft1) (he : Blk X scope fun Y => PD Y W0 elt fe)
    (hy : X.N[i]? = some y := by rfl) (hyl : X.env.scope.names.lookup y = some .local := by rfl)
    (hsw : swapsWith (.ListComp elt [⟨tg, iter, ifs, 0⟩, ⟨tg1, iter1, ifs1, 0⟩] scope lpos) (some (.Name y py)) pos.line X.env = pure true := by exact sw_true rfl rfl rfl (by decide +kernel))
    (hs : ∀ x, foldedSetIterable iter X.env x = pure x := by intro _; rfl) (hs1 : ∀ env x, foldedSetIterable iter1 env x = pure x := by intro _ _; rfl) :
    PDS X W (.Assign [.Name y py] (.ListComp elt [⟨tg, iter, ifs, 0⟩, ⟨tg1, iter1, ifs1, 0⟩] scope lpos) pos) (sSet i (eLc2 mu (own.map (·.2)) vs1 fi fg ft fi1 fg1 ft1 fe)) := by
  obtain ⟨w, pi, si⟩ := hi.ex
  refine ⟨⟨_, ps_setLc2 (own := own) (vs1 := vs1) (g := cG X.K W0 fg is) (tt := cT X.K W0 ft) (wi1 := cI X.K W0 fi1) (g1 := cG X.K W0 fg1 is1) (tt1 := cT X.K W0 ft1) (te := cE X.K W0 fe) hc hN hy hyl hsw pi ok hv (fun s H C cl fp => (hg s H C cl fp).can) (fun s H C cl fp => (ht s H C cl fp).can)
    (fun s H C cl fp => (hi1 s H C cl fp).can) (fun s H C cl fp => (hg1 s H C cl fp).can) (fun s H C cl fp => (ht1 s H C cl fp).can) (fun s H C cl fp => (he s H C cl fp).can) hs hs1, fun g m σ ρ D rp en q => ?_⟩⟩
  have z : SdE X.K W (tLc2 w (cG X.K W0 fg is) (cT X.K W0 ft) (cI X.K W0 fi1) (cG X.K W0 fg1 is1) (cT X.K W0 ft1) (cE X.K W0 fe) (own.map (·.2)) vs1) (eLc2 mu (own.map (·.2)) vs1 fi fg ft fi1 fg1 ft1 fe) := fun g m σ ρ Q rp en q =>
    si g m σ ρ _ rp en (pre_bind q fun g1 m1 J ds rp1 l1 ok1 q1 => fun p hp => lc2_loop sd_cG his sd_cT sd_cI sd_cG his1 sd_cT sd_cE rp1 (en.le l1) ok1 q1 p hp)
  exact z g m σ ρ _ rp en (preS_on en q fun g1 m1 v d rp1 l1 iv q1 => q1 g1 (σ.set i (some v)) rp1 (Le.refl _ _) ((en.le l1).set i iv))
end
end DL
end
section
set_option maxRecDepth 100000
set_option maxHeartbeats 2000000
/-! The data layer, part 14: operators of own classes. -/
namespace DL
open PySem PySem.W PySem.Calls PyProof.Rows Builtin
section
variable {prog : Program} {w : World} {A : Around} {E : Value → Shared → Prop} {s : Shared} {K : Frag} {x C L f : Addr} {h₀ : Heap} {m : Str → Option Value} {ox : Obj} {od : Option Obj} {b tb : Value}
theorem ifBoundNe {M : Model} {args : List Value} {Q : Option Value → Shared → Prop} (X : K.In s.heap) (I : InstAt s.heap x ox C od) (hs : findIn K (.ref C) "__ne__" = some (some (.builtin "object.__ne__")))
    (h : wpAny M A (call (.builtin "object.__ne__") (.ref x :: args)) (fun v => Q (some v)) E s) : wpAny M A (callSpecialIfBound? (.ref x) "__ne__" args) Q E s := by
  simp only [callSpecialIfBound?, bindSpecialIfBound?]
  refine wpAny_holding (wpAny_bind (wpAny_bind (wpAny_bind (I.type.here ((looks_findIn X hs).here ?_)))))
  simp only [PySem.F.cmp_object.ne.bind]
  refine wpAny_bind (wpAny_askSetting (wpAny_ite ?_))
  have fin : wpAny M A (call (.builtin "object.__ne__") ([.ref x] ++ args) >>= fun v => pure (some v)) Q E s := wpAny_bind (wpAny_mono h (fun v s' h' => wpAny_pure h') fun _ _ h' => h')
  split
  · exact wpAny_bind (wpAny_pure (wpAny_pure fin))
  · exact wpAny_tryCatch (wpAny_bind (wpAny_pure (wpAny_pure fin)))
def BlBack (Q : Bool → Shared → Prop) (v : Value) (s' : Shared) : Prop := match v with
  | .bool c => Q c s'
  | _ => False
theorem checkNe {M : Model} {Q : Unit → Shared → Prop} (X : K.In s.heap) (I : InstAt s.heap x ox C od) (hob : subIn K (.ref C) (.type "object") = some true) (hq : Q () s) : wpAny M A (checkBuiltinCall "object.__ne__" ⟨[.ref x, b], []⟩) Q E s := by
  have ha := PySem.F.cmpArgs_ne (.ref x) b
  simp only [checkBuiltinCall, PySem.F.cmpKind_ne, PySem.F.cmpSplit_ne]
  refine wpAny_bind ?_
  unfold isInstance
  refine wpAny_bind (I.type.here ((looks_subIn X hob).here ?_))
  simp only [Bool.not_true, Bool.false_eq_true, if_false]
  cases hsig : Manifest.signature? "object.__ne__" with
  | none => exact wpAny_pure hq
  | some sig =>
    simp only [argsOk, hsig] at ha
    have h2 : Bind.checkArgs "object.__ne__" sig ⟨[.ref x, b], []⟩ = pure () := ha
    show wpAny M A (Bind.checkArgs "object.__ne__" sig ⟨[.ref x, b], []⟩) Q E _
    rw [h2]
    exact wpAny_pure hq
theorem callNe {Q : Value → Shared → Prop} (hu : A.units + 1 < cLine) (X : K.In s.heap) (I : InstAt s.heap x ox C od) (hob : subIn K (.ref C) (.type "object") = some true) (hs : findIn K (.ref C) "__eq__" = some (some (.ref f))) (hf : isFn K (.ref f) = true)
    (h : wpAny (model prog w) A.in1 (call (.ref f) [.ref x, b]) (BlBack fun c s' => Q (.bool (!c)) s') E s) : wpAny (model prog w) A (call (.builtin "object.__ne__") [.ref x, b]) Q E s := by
  refine wpAny_call (codeAny_call_builtin PySem.F.cmp_object.ne.plain PySem.F.cmpEntry_ne (checkNe X I hob ?_))
  unfold Builtin.«object.__ne__»
  have hin : A.in1.units = A.units + 1 := by first | rfl | simp [Around.in1]
  refine wpAny_bind (m := slotArgs "__ne__" 1 ⟨[.ref x, b], []⟩) (wpAny_pure ?_)
  refine wpAny_bind (wpAny_cRoomFor (by rw [hin]; exact hu) ?_)
  refine wpAny_bind (m := callSpecialIfBound? (.ref x) (Str.ofString "__eq__") [b]) (ifBound_K X I hs hf (wpAny_mono h (fun v s' hv => ?_) fun _ _ e => e))
  cases v <;> first | exact hv.elim | skip
  rename_i c
  refine wpAny_bind (m := truthy (.bool c)) (wpAny_truthy_bool ?_)
  exact wpAny_pure hv
theorem ne_K {Q : Value → Shared → Prop} (hu : A.units + 1 < cLine) (F : Fr h₀ L s.heap m) (X₀ : K.In h₀) (I : InstAt s.heap x ox C od) (hb : Looks (model prog w) s.heap (typeOf b) tb) (hn : notFirst K C tb = true)
    (hne : findIn K (.ref C) "__ne__" = some (some (.builtin "object.__ne__"))) (hob : subIn K (.ref C) (.type "object") = some true) (hs : findIn K (.ref C) "__eq__" = some (some (.ref f))) (hf : isFn K (.ref f) = true)
    (h : wpAny (model prog w) A.in1 (call (.ref f) [.ref x, b]) (BlBack fun c s' => Q (.bool (!c)) s') E s) : wpAny (model prog w) A (richCompare .NotEq (.ref x) b) Q E s := by
  have X := X₀.keeps F.keep
  have one : wpAny (model prog w) A (tryCompare (.ref x) "__ne__" b) (fun r s' => ∃ v, r = some v ∧ Q v s') E s := by
    unfold tryCompare
    refine wpAny_bind (ifBoundNe X I hne (callNe hu X I hob hs hf (wpAny_mono h (fun v s' hv => ?_) fun _ _ e => e)))
    cases v <;> first | exact hv.elim | exact wpAny_pure ⟨_, rfl, hv⟩
  unfold richCompare
  simp only [oneThing_ref]
  refine wpAny_holding (wpAny_bind (wpAny_cRoomFor (by omega) ?_))
  rw [cmpInfo_NotEq]
  dsimp only
  refine wpAny_bind (I.type.here (wpAny_bind (hb.here ?_)))
  split
  · rename_i q
    have e : subIn K tb (.ref C) = some false := by
      rcases Bool.or_eq_true_iff.mp hn with e | e
      · rw [beq_iff_eq.mp e] at q; simp at q
      · exact beq_iff_eq.mp e
    refine wpAny_bind ((looks_subIn X e).here ?_)
    simp only [Bool.false_eq_true, if_false]
    refine wpAny_bind (wpAny_mono one (fun r s' z => ?_) fun _ _ e => e)
    obtain ⟨v, rfl, hq⟩ := z
    exact wpAny_pure hq
  · refine wpAny_bind (wpAny_pure ?_)
    simp only [Bool.false_eq_true, if_false]
    refine wpAny_bind (wpAny_mono one (fun r s' z => ?_) fun _ _ e => e)
    obtain ⟨v, rfl, hq⟩ := z
    exact wpAny_pure hq
/-- built-in == own -/
theorem eqR_K {a : Value} {Ta ida : String} {Q : Value → Shared → Prop} (hu : A.units < cLine) (F : Fr h₀ L s.heap m) (X₀ : K.In h₀) (I : InstAt s.heap x ox C od) (ha : s.TypeIs a Ta) (hsub : subIn K (.ref C) (.type Ta) = some false)
    (h1 : Slot Ta "__eq__" ida) (hc1 : ∀ Q' : Value → Shared → Prop, Q' .notImplemented s → wpAny (model prog w) A (call (.builtin ida) [a, .ref x]) Q' E s)
    (hs : findIn K (.ref C) "__eq__" = some (some (.ref f))) (hf : isFn K (.ref f) = true)
    (h : wpAny (model prog w) A (call (.ref f) [.ref x, a]) (PySem.W.CmpBack Q) E s) : wpAny (model prog w) A (richCompare .Eq a (.ref x)) Q E s := by
  have X := X₀.keeps F.keep
  unfold richCompare
  simp only [ha.oneThing_none]
  refine wpAny_holding (wpAny_bind (wpAny_cRoomFor hu ?_))
  rw [show cmpInfo CmpOp.Eq = ("==", ("__eq__" : Str), ("__eq__" : Str)) from rfl]
  dsimp only
  refine wpAny_bind (wpAny_typeOf ha (wpAny_bind (I.type.here ?_)))
  rw [if_pos (show (Value.type Ta != Value.ref C) = true from rfl)]
  refine wpAny_bind ((looks_subIn X hsub).here ?_)
  simp only [Bool.false_eq_true, if_false, Bool.not_false, if_true]
  refine wpAny_bind (m := tryCompare a _ (.ref x)) (wpAny_tryCompare_declines ha h1 (hc1 _ ⟨rfl, ?_⟩))
  refine wpAny_bind (m := tryCompare (.ref x) _ a) ?_
  unfold tryCompare
  refine wpAny_bind (ifBound_K X I hs hf (wpAny_mono h (fun v s' hv => ?_) fun _ _ e => e))
  cases v <;> first | exact hv.elim | exact wpAny_pure (wpAny_pure hv)
end
end DL
namespace DL
open PySem L2
open Classical
/-- a promise runs somewhere below the body -/
theorem run_at {X : Cx} {W : WX} {A : Around} {k : Nat} {f : Addr} {fd : FuncData} {ps : List Str} {F : HL} {σ0 : St} {pins : List (Addr × Obj)} {s : Shared} {σ : St} {H : Hp} {vs : List V} {us : List Value} {Q : VK} (G : FnD X.prog X.w X.K X.mg X.base k f fd ps F) (sb : L2.Sub X k A) (hb : Binds X.K fd ps []) (tk : Takes X W) (hW : Flat W)
    (I : Inv X pins σ H s) (r : Vals vs us) (hsp : spD X.K ps.length F vs H Q (WE W σ0)) : wpAny (model X.prog X.w) A (call (.ref f) us) (EP X pins σ Q) X.xe s := by
  have e0 : Env0 X.prog X.w X.K X.mg X.base A X.stack s H := by
    have e := I.env0
    exact ⟨by rw [sb.fr]; exact e.frames, e.mod, e.bs, e.bsz, e.funs, e.frf, e.hok, e.bare⟩
  have hl := G.len _ _ _ _ hsp
  refine wpAny_call (codeAny_mono (G.run A X.stack s H ⟨us, []⟩ us vs _ _ sb.room e0 (by
    have := hb s us I.kIn (by rw [List.append_nil, ← r.length]; exact hl)
    simpa using this) r hsp) fun z s' hq => ?_)
  cases z with
  | error e => exact passes_flat tk hW pins σ H s e s' I hq
  | ok fl =>
    cases fl with
    | ret w => exact I.after hq
    | next => exact False.elim hq
    | brk => exact False.elim hq
    | cont => exact False.elim hq
theorem ep_cmp {X : Cx} {pins : List (Addr × Obj)} {σ : St} {Q : VK} {w : Value} {s' : Shared} (z : EP X pins σ Q w s') : PySem.W.CmpBack (EP X pins σ Q) w s' := by
  cases w <;> first | exact z | skip
  obtain ⟨v, H', I', rz, qz⟩ := z
  cases v <;> first | cases rz; done | (obtain ⟨tt, e⟩ := rz; cases e)
def OpSdW (K : PySem.W.Frag) (W : WX) (r : R2) (h : H2) : Prop := ∀ (σ : St) g m x y dx dy (Q : VK), Rep K g m → IsG K g m x dx → IsG K g m y dy → Pre (RE K) K W σ g m Q (h dx dy m) → r x y g.H Q
/-- an operation does to data what h says -/
structure OW (X : Cx) (W : WX) (op : Value → Value → Sem Value) (h : H2) : Prop where
  ex : ∃ r, OpR X op r ∧ OpSdW X.K W r h
structure CW (X : Cx) (W : WX) (f : Value) (h : HL) : Prop where
  ex : ∃ r, CallR X f r ∧ ∀ (σ : St) g m xs ds (Q : VK), Rep X.K g m → IsGL X.K g m xs ds → Pre (RE X.K) X.K W σ g m Q (h ds m) → r xs g.H Q
section
variable {X : Cx} {W : WX} {a b : Expr} {fa fb : FE} {pos : Pos}
theorem ow_pl {op : Value → Value → Sem Value} {r : R2} {h : H2} (ho : OpR X op r) (hs : OpSd X.K r h) : OW X W op h := ⟨⟨r, ho, fun σ g m x y dx dy Q rp ix iy q => hs W σ g m x y dx dy Q rp ix iy q⟩⟩
noncomputable def hIt (P : D → D → Mem → Prop) (h h' : H2) : H2 := fun x y m => if P x y m then h x y m else h' x y m
theorem ow_ite {op : Value → Value → Sem Value} (P : D → D → Mem → Prop) {h h' : H2} (o : OW X W op h) (o' : OW X W op h') : OW X W op (hIt P h h') := by
  obtain ⟨r, p, s⟩ := o.ex
  obtain ⟨r', p', s'⟩ := o'.ex
  refine ⟨⟨_, p.or p', fun σ g m x y dx dy Q rp ix iy q => ?_⟩⟩
  unfold hIt at q
  split at q
  · exact .inl (s σ g m x y dx dy Q rp ix iy q)
  · exact .inr (s' σ g m x y dx dy Q rp ix iy q)
theorem sd_opW {K : PySem.W.Frag} {ta tb : TE} {r : R2} {h : H2} (ho : OpSdW K W r h) (ha : SdE K W ta fa) (hb : SdE K W tb fb) : SdE K W (tOp r ta tb) (eOp h fa fb) := fun g m σ ρ Q rp en q =>
  ha g m σ ρ _ rp en (pre_bind q fun g1 m1 x dx rp1 l1 ix q1 => hb g1 m1 σ ρ _ rp1 (en.le l1) (pre_bind q1 fun g2 m2 y dy rp2 l2 iy q2 => ho σ g2 m2 x y dx dy Q rp2 (ix.le l2) iy q2))
theorem pd_cmpW {op : CmpOp} {h : H2} (o : OW X W (compareOp op) h) (ha : PD X W a fa) (hb : PD X W b fb) (hm : behindInMarks op b = false := by first | exact nomark _ | rfl) : PD X W (.Compare a [op] [b] pos) (eOp h fa fb) := by
  obtain ⟨r, ho, hs⟩ := o.ex
  obtain ⟨ta, pa, sa⟩ := ha.ex
  obtain ⟨tb, pb, sb⟩ := hb.ex
  exact ⟨⟨_, pe_cmpR ho pa pb hm, sd_opW hs sa sb⟩⟩
theorem pd_opW {op : Operator} {h : H2} (o : OW X W (binaryOp op) h) (ha : PD X W a fa) (hb : PD X W b fb) : PD X W (.BinOp a op b pos) (eOp h fa fb) := by
  obtain ⟨r, ho, hs⟩ := o.ex
  obtain ⟨ta, pa, sa⟩ := ha.ex
  obtain ⟨tb, pb, sb⟩ := hb.ex
  exact ⟨⟨_, pe_op ho pa pb, sd_opW hs sa sb⟩⟩
theorem pdt_cmpW {op : CmpOp} {h : H2} (o : OW X W (compareOp op) h) (ha : PD X W a fa) (hb : PD X W b fb) (hm : behindInMarks op b = false := by first | exact nomark _ | rfl) : PDT X W (.Compare a [op] [b] pos) (tTr (eOp h fa fb)) := by
  obtain ⟨r, ho, hs⟩ := o.ex
  obtain ⟨ta, pa, sa⟩ := ha.ex
  obtain ⟨tb, pb, sb⟩ := hb.ex
  refine ⟨⟨_, pt_cmpR ho pa pb hm, fun g m σ ρ Q rp en q => ?_⟩⟩
  refine sd_opW hs sa sb g m σ ρ _ rp en (pre_bind q fun g1 m1 x dx rp1 l1 ix q1 => ?_)
  cases ix <;> first | exact q1.elim | exact ⟨_, rfl, q1 g1 _ rp1 (Le.refl _ _) rfl⟩
theorem pd_cbW {id : String} {h : HL} {x : Str} {e : Expr} {es : List Expr} {f : FA} {p pos : Pos} (hc : CW X W (.builtin id) h) (hg : Gl X x) (hm : X.mg x = none) (hv : bootBuiltins x = some (.builtin id)) (ha : PDA X W (e :: es) f)
    (hn : x ≠ "__name__" := by decide) (hdb : (x == ("__debug__" : Str)) = false := by decide) (he : starEach (e :: es) X.env = (false, eval e X.env) :: starEach es X.env := by rfl) (hpl : (backTo pos (starEach es X.env)).any (·.1) = false := by rfl) :
    PD X W (.Call (.Name x p) (e :: es) [] pos) (eCB h f) := by
  obtain ⟨r, hc, hs⟩ := hc.ex
  obtain ⟨t, pt, s⟩ := ha.ex
  exact ⟨⟨_, pe_callB hc hg hm hv pt hn hdb he hpl, fun g m σ ρ Q rp en q => s g m σ ρ _ rp en (pre_bind q fun g1 m1 x dx rp1 l1 ix q1 => hs σ g1 m1 x dx Q rp1 ix q1)⟩⟩
end
/-! ### types of data, and who is asked first -/
theorem tag_in {own : List Str} {m : Mem} {d : D} {t : Tag} (h : tagD own m d = some t) : (∃ n, t = .b n ∧ n ∈ bTys) ∨ ∃ c, t = .o c ∧ c ∈ own := by
  have ob : ∀ n, n ∈ bTys → some (Tag.b n) = some t → (∃ n, t = .b n ∧ n ∈ bTys) ∨ ∃ c, t = .o c ∧ c ∈ own := fun n hn e => by cases e; exact .inl ⟨n, rfl, hn⟩
  unfold tagD at h
  split at h <;> try (first | exact ob _ (by decide) h | cases h; done)
  · split at h
    · rename_i hc; cases h; exact .inr ⟨_, rfl, hc⟩
    · cases h
  · split at h <;> try (first | exact ob _ (by decide) h | cases h; done)
    split at h
    · rename_i hc; cases h; exact .inr ⟨_, rfl, hc⟩
    · cases h
theorem sub_of_kit {K : PySem.W.Frag} {t c : Value} (h : PySem.W.kitOne K t c = some false) : PySem.W.subIn K t c = some false := by
  unfold PySem.W.kitOne at h
  split at h
  · cases h
  · unfold PySem.W.kitCls at h
    split at h
    · split at h
      · exact h
      · cases h
    · split at h
      · exact h
      · cases h
    · cases h
theorem kit_first {K : PySem.W.Frag} {own : List Str} (k : KitOk K own) {m : Mem} {d : D} {t : Tag} {c : Str} (hc : c ∈ own) (h : tagD own m d = some t) : PySem.W.notFirst K (He.ga K c) (t.val K) = true := by
  unfold PySem.W.notFirst
  rcases tag_in h with ⟨n, rfl, hn⟩ | ⟨c', rfl, hc'⟩
  · show (_ || PySem.W.subIn K (.type n) (.ref (He.ga K c)) == some false) = true
    rw [sub_of_kit (k.bo n hn c hc)]
    simp
  · by_cases e : c' = c
    · subst e; simp [Tag.val]
    · have z := k.oo c' hc' c hc
      rw [decide_eq_false e] at z
      show (_ || PySem.W.subIn K (.ref (He.ga K c')) (.ref (He.ga K c)) == some false) = true
      rw [sub_of_kit z]
      simp
def isC (c : Str) (m : Mem) (x : D) : Prop := ∃ fs, insV m x = some (c, fs)
def isB (own : List Str) (m : Mem) (x : D) : Prop := ∃ n, tagD own m x = some (.b n)
def hasT (own : List Str) (m : Mem) (x : D) : Prop := ∃ t, tagD own m x = some t
/-- x is asked with y -/
noncomputable def hOwn (own : List Str) (c : Str) (F : HL) : H2 := fun x y m => if isC c m x ∧ hasT own m y then F [x, y] m else .bad
def rOwn (K : PySem.W.Frag) (c : Str) (n : Nat) (F : HL) (E : XK) : R2 := fun x y H Q => ∃ a dx fs t, x = .ref a ∧ H a = some (.ins (He.ga K c) dx fs) ∧ TyY K H y t ∧ PySem.W.notFirst K (He.ga K c) t = true ∧ spD K n F [x, y] H Q E
section
variable {X : Cx} {W : WX} {k : Nat} {c mn : Str} {ps : List Str} {F : HL} {own : List Str}
theorem own_sd (kt : KitOk X.K own) (hc : c ∈ own) (hW : Flat W) (h2 : ps.length = 2) {σ σ0 : St} {g : Gh} {m : Mem} {x y : V} {dx dy : D} {Q : VK} (rp : Rep X.K g m) (ix : IsG X.K g m x dx) (iy : IsG X.K g m y dy) (q : Pre (RE X.K) X.K W σ g m Q (hOwn own c F dx dy m)) : rOwn X.K c ps.length F (WE W σ0) x y g.H Q := by
  unfold hOwn at q
  split at q
  · rename_i hcc
    obtain ⟨⟨fs, e1⟩, t, e2⟩ := hcc
    obtain ⟨a, dd, vs, rfl, h1, _⟩ := insV_ok rp ix e1
    exact ⟨a, dd, vs, _, rfl, h1, tagD_ok kt rp iy e2, kit_first kt hc e2, by rw [h2]; rfl, g, m, [dx, dy], rfl, rp, .cons ix (.cons iy .nil), (Pre.flat (σ' := σ0) hW q).at⟩
  · exact q.elim
/-- a comparison by the class's own method -/
theorem ow_own {op : CmpOp} (G : Met1 X.prog X.w X.K X.mg X.base k c (cmpInfo op).2.1 ps [] F) (hr : Room k X.A) (tk : Takes X W) (hW : Flat W) (kt : KitOk X.K own) (hc : c ∈ own) (h2 : ps.length = 2) (hop : compareOp op = richCompare op := by rfl) : OW X W (compareOp op) (hOwn own c F) := by
  obtain ⟨f, fd, dvs, dus, cl, hm, hF, hb, hd, hdd⟩ := G.ex
  have e0 : dus = [] := by
    have := (hdd ⟨fun _ => none, fun _ => none, fun _ => 0⟩ []).length
    have z := hd.length
    cases dus with
    | nil => rfl
    | cons u us => simp at z; simp [z] at this
  subst e0
  refine ⟨⟨rOwn X.K c ps.length F (WE W []), ?_, fun σ g m x y dx dy Q rp ix iy q => own_sd kt hc hW h2 rp ix iy q⟩⟩
  intro pins s σ H x y v u Q I rx ry q
  obtain ⟨a, dx, fs, t, rfl, ha, ty, nf, sp⟩ := q
  cases (show v = Value.ref a from rx)
  obtain ⟨mA, J, _⟩ := ins_get I.hok ha
  obtain ⟨od, J, _⟩ := J.look
  obtain ⟨m, hFr⟩ := I.fr
  obtain ⟨P, Z, pz, _⟩ := kit_ofY I ry ty
  rw [hop]
  refine PySem.W.cmp_K (op := op) hr.units0 hFr I.ok.mod.kin J (Z.ty _ _ I.kIn pz) nf hm.at_ hm.fn ?_
  refine wpAny_mono (run_at hF ⟨hr, rfl⟩ hb tk hW I (.cons rx (.cons ry .nil)) sp) (fun w s' z => ?_) fun _ _ e => e
  exact ep_cmp z
end
end DL
end
section
set_option maxRecDepth 100000
set_option maxHeartbeats 2000000
/-! The data layer, part 15: built-in == own; own !=, in, len. -/
namespace DL
open PySem PySem.W PySem.Calls PyProof.Rows Builtin
open AutoSeq1 (wpAny_loadPart')
open MeetsSeq
section
variable {prog : Program} {w : World} {A : Around} {E : Value → Shared → Prop} {s : Shared} {K : Frag} {x C : Addr} {dx : Addr} {od : Option Obj} {Q : Value → Shared → Prop}
theorem dec_isi {T : String} {M : Model} {Q : Bool → Shared → Prop} (X : K.In s.heap) (I : InstAt s.heap x (instObj C dx) C od) (hsub : subIn K (.ref C) (.type T) = some false) (q : Q false s) : wpAny M A (isInstance (.ref x) (.type T)) Q E s := by
  unfold isInstance
  exact wpAny_bind (I.type.here ((looks_subIn X hsub).here q))
theorem dec_none (q : Q .notImplemented s) : wpAny (model prog w) A (call (.builtin "NoneType.__eq__") [.none, .ref x]) Q E s :=
  call_gives PySem.F.slot_NoneType_eq rfl PySem.F.entry_NoneType_eq (PySem.F.args_NoneType_eq_2 _ _) (SeqAt.NoneType___eq___none_ref_0 x) q
theorem meet_int (b : Int) (u : Tok) (l C dx : Addr) : Meets (Builtin.«int.__eq__» ⟨[.int b u, .ref l], []⟩) (fun _ R s => s.heap.get? l = some (instObj C dx) ∧ R (.ok (.ret .notImplemented)) s) :=
  .of_wp fun prog w A R s h => by obtain ⟨hp, g, d, tk, os⟩ := s; obtain ⟨hl, h⟩ := h; wp_walk using wpAny_loadPart' hl, wpAny_load hl; exact ⟨_, rfl, h⟩
theorem meet_bool (b : Bool) (l C dx : Addr) : Meets (Builtin.«int.__eq__» ⟨[.bool b, .ref l], []⟩) (fun _ R s => s.heap.get? l = some (instObj C dx) ∧ R (.ok (.ret .notImplemented)) s) :=
  .of_wp fun prog w A R s h => by obtain ⟨hp, g, d, tk, os⟩ := s; obtain ⟨hl, h⟩ := h; wp_walk using wpAny_loadPart' hl, wpAny_load hl; exact ⟨_, rfl, h⟩
theorem meet_str (b : Str) (u : Tok) (l C dx : Addr) : Meets (Builtin.«str.__eq__» ⟨[.str b u, .ref l], []⟩) (fun _ R s => s.heap.get? l = some (instObj C dx) ∧ R (.ok (.ret .notImplemented)) s) :=
  .of_wp fun prog w A R s h => by obtain ⟨hp, g, d, tk, os⟩ := s; obtain ⟨hl, h⟩ := h; wp_walk using wpAny_loadPart' hl, wpAny_load hl; exact ⟨_, rfl, h⟩
theorem dec_int {b : Int} {u : Tok} (I : InstAt s.heap x (instObj C dx) C od) (q : Q .notImplemented s) : wpAny (model prog w) A (call (.builtin "int.__eq__") [.int b u, .ref x]) Q E s :=
  call_meets PySem.F.slot_int_eq (typeIs_int s b u) PySem.F.entry_int_eq (PySem.F.args_int_eq_2 _ _) (meet_int b u x C dx) ⟨I.at_, q⟩
theorem dec_bool {b : Bool} (I : InstAt s.heap x (instObj C dx) C od) (q : Q .notImplemented s) : wpAny (model prog w) A (call (.builtin "int.__eq__") [.bool b, .ref x]) Q E s :=
  call_meets (T := "bool") PySem.F.slot_bool_eq rfl PySem.F.entry_int_eq (PySem.F.args_int_eq_2 _ _) (meet_bool b x C dx) ⟨I.at_, q⟩
theorem dec_str {b : Str} {u : Tok} (I : InstAt s.heap x (instObj C dx) C od) (q : Q .notImplemented s) : wpAny (model prog w) A (call (.builtin "str.__eq__") [.str b u, .ref x]) Q E s :=
  call_meets PySem.F.slot_str_eq rfl PySem.F.entry_str_eq (PySem.F.args_str_eq_2 _ _) (meet_str b u x C dx) ⟨I.at_, q⟩
theorem dec_list {l : Addr} (X : K.In s.heap) (I : InstAt s.heap x (instObj C dx) C od) (ht : s.TypeIs (.ref l) "list") (hsub : subIn K (.ref C) (.type "list") = some false) (q : Q .notImplemented s) : wpAny (model prog w) A (call (.builtin "list.__eq__") [.ref l, .ref x]) Q E s := by
  refine GQ.call_here PySem.F.slot_list_eq ht PySem.F.entry_list_eq (PySem.F.args_list_eq_2 _ _) ?_
  show wpAny _ _ (slotArgs "__eq__" 1 ⟨[.ref l, .ref x], []⟩ >>= _) _ _ s
  refine wpAny_bind (m := slotArgs "__eq__" 1 ⟨[.ref l, .ref x], []⟩) (wpAny_pure ?_)
  refine wpAny_bind (m := isInstance (.ref x) (.type "list")) (dec_isi X I hsub ?_)
  exact wpAny_pure q
theorem dec_tup {l : Addr} (X : K.In s.heap) (I : InstAt s.heap x (instObj C dx) C od) (ht : s.TypeIs (.ref l) "tuple") (hsub : subIn K (.ref C) (.type "tuple") = some false) (q : Q .notImplemented s) : wpAny (model prog w) A (call (.builtin "tuple.__eq__") [.ref l, .ref x]) Q E s := by
  refine GQ.call_here PySem.F.slot_tuple_eq ht PySem.F.entry_tuple_eq (PySem.F.args_tuple_eq_2 _ _) ?_
  refine wpAny_bind (m := slotArgs "__eq__" 1 ⟨[.ref l, .ref x], []⟩) (wpAny_pure ?_)
  refine wpAny_bind (m := isInstance (.ref x) (.type "tuple")) (dec_isi X I hsub ?_)
  exact wpAny_pure q
theorem dec_dict {l : Addr} (X : K.In s.heap) (I : InstAt s.heap x (instObj C dx) C od) (ht : s.TypeIs (.ref l) "dict") (hsub : subIn K (.ref C) (.type "dict") = some false) (q : Q .notImplemented s) : wpAny (model prog w) A (call (.builtin "dict.__eq__") [.ref l, .ref x]) Q E s := by
  refine GQ.call_here PySem.F.slot_dict_eq ht PySem.F.entry_dict_eq (PySem.F.args_dict_eq_2 _ _) ?_
  show wpAny _ _ (Builtin.Dict.dictSlotArgs "__eq__" ⟨[.ref l, .ref x], []⟩ >>= _) _ _ s
  refine wpAny_bind ?_
  unfold Builtin.Dict.dictSlotArgs
  refine wpAny_bind (wpAny_notOrdered_dict ht ?_)
  show wpAny _ _ (pure (Value.ref l, Value.ref x)) _ _ s
  refine wpAny_pure ?_
  refine wpAny_bind (m := isInstance (.ref x) (.type "dict")) (dec_isi X I hsub ?_)
  simp only [Bool.not_false, if_true]
  exact wpAny_bind (wpAny_rule (wpAny_pure q))
end
end DL

namespace DL
open PySem L2
open Classical
theorem met_open {P : Program} {w : World} {K : PySem.W.Frag} {mg : Str → Option Value} {base : Heap} {k : Nat} {c x : Str} {ps : List Str} {F : HL} (G : Met1 P w K mg base k c x ps [] F) : ∃ f fd, Meth K (He.ga K c) x f ∧ FnD P w K mg base k f fd ps F ∧ Binds K fd ps [] := by
  obtain ⟨f, fd, dvs, dus, cl, hm, hF, hb, hd, hdd⟩ := G.ex
  have e0 : dus = [] := by
    have := (hdd ⟨fun _ => none, fun _ => none, fun _ => 0⟩ []).length
    have z := hd.length
    cases dus with
    | nil => rfl
    | cons u us => simp at z; simp [z] at this
  subst e0
  exact ⟨f, fd, hm, hF, hb⟩
/-- the left side is a built-in -/
inductive LeftB (K : PySem.W.Frag) (H : Hp) : V → Prop
  | non : LeftB K H .non
  | bl (b : Bool) : LeftB K H (.bl b)
  | int (b : Int) : LeftB K H (.int b)
  | str (b : Str) : LeftB K H (.str b)
  | lst {a : Addr} {vs : List V} : H a = some (.lst vs) → LeftB K H (.ref a)
  | tup {a : Addr} {vs : List V} : SqT K H a vs → LeftB K H (.ref a)
  | dK {a : Addr} {vs : List (Key × V)} : H a = some (.dK vs) → LeftB K H (.ref a)
  | dT {a : Addr} {vs : List (List Key × V)} : H a = some (.dT vs) → LeftB K H (.ref a)
def isLf (m : Mem) : D → Prop
  | .non => True
  | .bl _ => True
  | .int _ => True
  | .str _ => True
  | .tup _ => True
  | .lst _ => True
  | .mref i => (∃ xs, m[i]? = some (.lst xs)) ∨ (∃ xs, m[i]? = some (.dK xs)) ∨ ∃ xs, m[i]? = some (.dT xs)
  | _ => False
theorem isLf_ok {K : PySem.W.Frag} {g : Gh} {m : Mem} (rp : Rep K g m) {v : V} {d : D} (iv : IsG K g m v d) (h : isLf m d) : LeftB K g.H v := by
  cases iv with
  | non => exact .non
  | bl b => exact .bl b
  | int b => exact .int b
  | str b => exact .str b
  | ty _ => exact h.elim
  | glo _ => exact h.elim
  | slst _ _ _ => exact h.elim
  | stup _ _ _ => exact h.elim
  | lst s _ _ => exact .lst (rp.at_ s fun z => z)
  | tup s _ _ => exact .tup (rp.sqT s)
  | dK s _ _ => exact h.elim
  | dT s _ _ => exact h.elim
  | ins s _ _ => exact h.elim
  | mref hi =>
    rcases h with ⟨xs, h⟩ | ⟨xs, h⟩ | ⟨xs, h⟩
    · obtain ⟨_, vs, h1, _⟩ := rp.mem _ _ h; exact .lst h1
    · obtain ⟨_, vs, h1, _⟩ := rp.mem _ _ h; exact .dK h1
    · obtain ⟨_, vs, h1, _⟩ := rp.mem _ _ h; exact .dT h1
theorem left_ok {X : Cx} {pins : List (Addr × Obj)} {σ : St} {H : Hp} {s : Shared} {A : Around} {x : V} {u : Value} {C b dx : Addr} {od : Option Obj} (I : Inv X pins σ H s) (rx : RelV x u) (l : LeftB X.K H x) (J : PySem.W.InstAt s.heap b (PySem.W.instObj C dx) C od) (hsub : ∀ T ∈ bTys, PySem.W.subIn X.K (.ref C) (.type T) = some false) :
    ∃ Ta ida, s.TypeIs u Ta ∧ Ta ∈ bTys ∧ Slot Ta "__eq__" ida ∧ ∀ Q' : Value → Shared → Prop, Q' .notImplemented s → wpAny (model X.prog X.w) A (call (.builtin ida) [u, .ref b]) Q' X.xe s := by
  cases l with
  | non => cases (show u = Value.none from rx); exact ⟨"NoneType", "NoneType.__eq__", rfl, by decide, PySem.F.slot_NoneType_eq, fun _ q => dec_none q⟩
  | bl c => cases (show u = Value.bool c from rx); exact ⟨"bool", "int.__eq__", rfl, by decide, PySem.F.slot_bool_eq, fun _ q => dec_bool J q⟩
  | int c => obtain ⟨t, rfl⟩ := (show ∃ t, u = Value.int c t from rx); exact ⟨"int", "int.__eq__", typeIs_int s c t, by decide, PySem.F.slot_int_eq, fun _ q => dec_int J q⟩
  | str c => obtain ⟨t, rfl⟩ := (show ∃ t, u = Value.str c t from rx); exact ⟨"str", "str.__eq__", rfl, by decide, PySem.F.slot_str_eq, fun _ q => dec_str J q⟩
  | lst h =>
    cases (show u = Value.ref _ from rx)
    obtain ⟨z, its, k, r, e⟩ := I.hok _ _ h
    exact ⟨"list", "list.__eq__", ⟨_, e, rfl⟩, by decide, PySem.F.slot_list_eq, fun _ q => dec_list I.kIn J ⟨_, e, rfl⟩ (hsub _ (by decide)) q⟩
  | tup h =>
    cases (show u = Value.ref _ from rx)
    obtain ⟨its, r, ⟨o, e, ec, _⟩, z⟩ := I.tuple h
    exact ⟨"tuple", "tuple.__eq__", ⟨o, e, ec⟩, by decide, PySem.F.slot_tuple_eq, fun _ q => dec_tup I.kIn J ⟨o, e, ec⟩ (hsub _ (by decide)) q⟩
  | dK h =>
    cases (show u = Value.ref _ from rx)
    obtain ⟨_, _, vs, _, dd⟩ := I.hok _ _ h
    exact ⟨"dict", "dict.__eq__", dd.typeIs, by decide, PySem.F.slot_dict_eq, fun _ q => dec_dict I.kIn J dd.typeIs (hsub _ (by decide)) q⟩
  | dT h =>
    cases (show u = Value.ref _ from rx)
    obtain ⟨_, _, xs, _, o', es, ep, h1, h2, _⟩ := I.hok _ _ h
    exact ⟨"dict", "dict.__eq__", ⟨o', h1, h2.1⟩, by decide, PySem.F.slot_dict_eq, fun _ q => dec_dict I.kIn J ⟨o', h1, h2.1⟩ (hsub _ (by decide)) q⟩
/-- built-in == own -/
noncomputable def hRef (c : Str) (F : HL) : H2 := fun x y m => if isC c m y ∧ isLf m x then F [y, x] m else .bad
/-- own != anything -/
noncomputable def hNeO (own : List Str) (c : Str) (F : HL) : H2 := fun x y m => (hOwn own c F x y m).bind fun d m1 => match d with
  | .bl b => .ok (.bl (!b)) m1
  | _ => .bad
/-- anything in own -/
noncomputable def hInO (neg : Bool) (c : Str) (F : HL) : H2 := fun x y m => if isC c m y then (F [y, x] m).bind fun d m1 => (match d with
  | .bl b => .ok (.bl (if neg then !b else b)) m1
  | _ => .bad) else .bad
section
variable {X : Cx} {W : WX} {k : Nat} {c mn : Str} {ps : List Str} {F : HL} {own : List Str}
theorem ow_ref (G : Met1 X.prog X.w X.K X.mg X.base k c "__eq__" ps [] F) (hr : Room k X.A) (tk : Takes X W) (hW : Flat W) (kt : KitOk X.K own) (hc : c ∈ own) (h2 : ps.length = 2) : OW X W (compareOp .Eq) (hRef c F) := by
  obtain ⟨f, fd, hm, hF, hb⟩ := met_open G
  refine ⟨⟨fun x y H Q => ∃ a dx fs, y = .ref a ∧ H a = some (.ins (He.ga X.K c) dx fs) ∧ LeftB X.K H x ∧ spD X.K ps.length F [y, x] H Q (WE W []), ?_, fun σ g m x y dx dy Q rp ix iy q => ?_⟩⟩
  · intro pins s σ H x y v u Q I rx ry q
    obtain ⟨a, dx, fs, rfl, ha, lf, sp⟩ := q
    cases (show u = Value.ref a from ry)
    obtain ⟨mA, J, _⟩ := ins_get I.hok ha
    obtain ⟨od, J, _⟩ := J.look
    obtain ⟨m, hFr⟩ := I.fr
    have hsub : ∀ T ∈ bTys, PySem.W.subIn X.K (.ref (He.ga X.K c)) (.type T) = some false := fun T hT => sub_of_kit (kt.ob c hc T hT)
    obtain ⟨Ta, ida, h1, h2', h3, h4⟩ := left_ok (A := X.A) I rx lf J hsub
    show wpAny _ _ (richCompare .Eq v (.ref a)) _ _ s
    refine eqR_K hr.units0 hFr I.ok.mod.kin J h1 (hsub Ta h2') h3 h4 hm.at_ hm.fn ?_
    exact wpAny_mono (run_at hF ⟨hr, rfl⟩ hb tk hW I (.cons ry (.cons rx .nil)) sp) (fun w s' z => ep_cmp z) fun _ _ e => e
  · unfold hRef at q
    split at q
    · rename_i hcc
      obtain ⟨⟨fs, e1⟩, e2⟩ := hcc
      obtain ⟨a, dd, vs, rfl, h1, _⟩ := insV_ok rp iy e1
      exact ⟨a, dd, vs, rfl, h1, isLf_ok rp ix e2, by rw [h2]; rfl, g, m, [dy, dx], rfl, rp, .cons iy (.cons ix .nil), (Pre.flat (σ' := []) hW q).at⟩
    · exact q.elim
structure NeOk (K : PySem.W.Frag) (c : Str) : Prop where
  ne : PySem.W.findIn K (.ref (He.ga K c)) "__ne__" = some (some (.builtin "object.__ne__"))
  ob : PySem.W.subIn K (.ref (He.ga K c)) (.type "object") = some true
theorem ow_ne (G : Met1 X.prog X.w X.K X.mg X.base k c "__eq__" ps [] F) (hr : Room (k + 1) X.A) (tk : Takes X W) (hW : Flat W) (kt : KitOk X.K own) (hc : c ∈ own) (hn : NeOk X.K c) (h2 : ps.length = 2) : OW X W (compareOp .NotEq) (hNeO own c F) := by
  obtain ⟨f, fd, hm, hF, hb⟩ := met_open G
  refine ⟨⟨fun x y H Q => rOwn X.K c ps.length F (WE W []) x y H fun v H' => ∃ b, v = .bl b ∧ Q (.bl (!b)) H', ?_, fun σ g m x y dx dy Q rp ix iy q => ?_⟩⟩
  · intro pins s σ H x y v u Q I rx ry q
    obtain ⟨a, dx, fs, t, rfl, ha, ty, nf, sp⟩ := q
    cases (show v = Value.ref a from rx)
    obtain ⟨mA, J, _⟩ := ins_get I.hok ha
    obtain ⟨od, J, _⟩ := J.look
    obtain ⟨m, hFr⟩ := I.fr
    obtain ⟨P, Z, pz, _⟩ := kit_ofY I ry ty
    show wpAny _ _ (richCompare .NotEq (.ref a) u) _ _ s
    refine ne_K (by have := hr.un; omega) hFr I.ok.mod.kin J (Z.ty _ _ I.kIn pz) nf hn.ne hn.ob hm.at_ hm.fn ?_
    refine wpAny_mono (run_at hF ⟨hr.in1, rfl⟩ hb tk hW I (.cons rx (.cons ry .nil)) sp) (fun w s' z => ?_) fun _ _ e => e
    obtain ⟨z, H', I', rz, b, rfl, qz⟩ := z
    cases (show w = Value.bool b from rz)
    exact ⟨.bl (!b), H', I', rfl, qz⟩
  · refine own_sd kt hc hW h2 rp ix iy (pre_bind q fun g1 m1 z dz rp1 l1 iz q1 => ?_)
    cases iz <;> try exact q1.elim
    exact ⟨_, rfl, pre_val rp1 q1 (.bl _)⟩
def rInO (K : PySem.W.Frag) (neg : Bool) (c : Str) (n : Nat) (F : HL) (E : XK) : R2 := fun x y H Q => ∃ a dd fs, y = .ref a ∧ H a = some (.ins (He.ga K c) dd fs) ∧ spD K n F [y, x] H (fun v H' => ∃ b, v = .bl b ∧ Q (.bl (if neg then !b else b)) H') E
theorem in_sd (hW : Flat W) (neg : Bool) (h2 : ps.length = 2) {σ : St} {g : Gh} {m : Mem} {x y : V} {dx dy : D} {Q : VK} (rp : Rep X.K g m) (ix : IsG X.K g m x dx) (iy : IsG X.K g m y dy) (q : Pre (RE X.K) X.K W σ g m Q (hInO neg c F dx dy m)) :
    rInO X.K neg c ps.length F (WE W []) x y g.H Q := by
  unfold hInO at q
  split at q
  · rename_i hcc
    obtain ⟨fs, e1⟩ := hcc
    obtain ⟨a, dd, vs, rfl, h1, _⟩ := insV_ok rp iy e1
    refine ⟨a, dd, vs, rfl, h1, by rw [h2]; rfl, g, m, [dy, dx], rfl, rp, .cons iy (.cons ix .nil), (Pre.at (σ := []) (pre_bind (Pre.flat (σ' := []) hW q) fun g1 m1 z dz rp1 l1 iz q1 => ?_))⟩
    cases iz <;> try exact q1.elim
    exact ⟨_, rfl, pre_val rp1 q1 (.bl _)⟩
  · exact q.elim
theorem ow_in (G : Met1 X.prog X.w X.K X.mg X.base k c "__contains__" ps [] F) (hr : Room k X.A) (tk : Takes X W) (hW : Flat W) (h2 : ps.length = 2) : OW X W (compareOp .In) (hInO false c F) := by
  obtain ⟨f, fd, hm, hF, hb⟩ := met_open G
  refine ⟨⟨rInO X.K false c ps.length F (WE W []), ?_, fun σ g m x y dx dy Q rp ix iy q => in_sd hW false h2 rp ix iy q⟩⟩
  intro pins s σ H x y v u Q I rx ry q
  obtain ⟨a, dx, fs, rfl, ha, sp⟩ := q
  cases (show u = Value.ref a from ry)
  obtain ⟨mA, J, _⟩ := ins_get I.hok ha
  obtain ⟨od, J, _⟩ := J.look
  obtain ⟨m, hFr⟩ := I.fr
  refine PySem.W.in_K hFr I.ok.mod.kin J hm.at_ hm.fn ?_
  refine wpAny_mono (run_at hF ⟨hr, rfl⟩ hb tk hW I (.cons ry (.cons rx .nil)) sp) (fun w s' z => ?_) fun _ _ e => e
  obtain ⟨z, H', I', rz, b, rfl, qz⟩ := z
  cases (show w = Value.bool b from rz)
  exact wpAny_truthy_bool ⟨.bl b, H', I', rfl, qz⟩
theorem ow_nin (G : Met1 X.prog X.w X.K X.mg X.base k c "__contains__" ps [] F) (hr : Room k X.A) (tk : Takes X W) (hW : Flat W) (h2 : ps.length = 2) : OW X W (compareOp .NotIn) (hInO true c F) := by
  obtain ⟨f, fd, hm, hF, hb⟩ := met_open G
  refine ⟨⟨rInO X.K true c ps.length F (WE W []), ?_, fun σ g m x y dx dy Q rp ix iy q => in_sd hW true h2 rp ix iy q⟩⟩
  intro pins s σ H x y v u Q I rx ry q
  obtain ⟨a, dx, fs, rfl, ha, sp⟩ := q
  cases (show u = Value.ref a from ry)
  obtain ⟨mA, J, _⟩ := ins_get I.hok ha
  obtain ⟨od, J, _⟩ := J.look
  obtain ⟨m, hFr⟩ := I.fr
  refine PySem.W.notIn_K hFr I.ok.mod.kin J hm.at_ hm.fn ?_
  refine wpAny_mono (run_at hF ⟨hr, rfl⟩ hb tk hW I (.cons ry (.cons rx .nil)) sp) (fun w s' z => ?_) fun _ _ e => e
  obtain ⟨z, H', I', rz, b, rfl, qz⟩ := z
  cases (show w = Value.bool b from rz)
  exact wpAny_truthy_bool ⟨.bl (!b), H', I', rfl, qz⟩
/-- len of own -/
noncomputable def hLenO (c : Str) (F : HL) : HL := fun ds m => match ds with
  | [x] => if isC c m x then (F [x] m).bind fun d m1 => (match d with
    | .int n => if 0 ≤ n ∧ n < 2 ^ 63 then .ok (.int n) m1 else .bad
    | _ => .bad) else .bad
  | _ => .bad
theorem cw_len (G : Met1 X.prog X.w X.K X.mg X.base k c "__len__" ps [] F) (hr : Room (k + 1) X.A) (tk : Takes X W) (hW : Flat W) (h2 : ps.length = 1) : CW X W (.builtin "len") (hLenO c F) := by
  obtain ⟨f, fd, hm, hF, hb⟩ := met_open G
  refine ⟨⟨fun xs H Q => ∃ a dx fs, xs = [.ref a] ∧ H a = some (.ins (He.ga X.K c) dx fs) ∧ spD X.K ps.length F xs H (fun v H' => ∃ n, v = .int n ∧ (0 ≤ n ∧ n < 2 ^ 63) ∧ Q (.int n) H') (WE W []), ?_, fun σ g m xs ds Q rp ix q => ?_⟩⟩
  · intro pins s σ H xs us Q I rs q
    obtain ⟨a, dx, fs, rfl, ha, sp⟩ := q
    obtain ⟨u, rfl, ru⟩ : ∃ u, us = [u] ∧ RelV (.ref a) u := by
      cases rs with
      | cons h t => cases t; exact ⟨_, rfl, h⟩
    cases (show u = Value.ref a from ru)
    obtain ⟨mA, J, _⟩ := ins_get I.hok ha
    obtain ⟨od, J, _⟩ := J.look
    obtain ⟨m, hFr⟩ := I.fr
    refine PySem.W.len_K hFr I.ok.mod.kin J hm.at_ hm.fn ?_
    refine wpAny_mono (run_at hF ⟨hr.in1, rfl⟩ hb tk hW I (.cons ru .nil) sp) (fun w s' z => ?_) fun _ _ e => e
    obtain ⟨z, H', I', rz, n, rfl, hn, qz⟩ := z
    obtain ⟨t, rfl⟩ := (show ∃ t, w = Value.int n t from rz)
    exact ⟨hn, .int n, H', I'.tok _, ⟨_, rfl⟩, qz⟩
  · unfold hLenO at q
    split at q
    · split at q
      · rename_i x hcc
        obtain ⟨fs, e1⟩ := hcc
        cases ix with
        | cons i1 r1 =>
          cases r1
          obtain ⟨a, dd, vs, rfl, h1, _⟩ := insV_ok rp i1 e1
          refine ⟨a, dd, vs, rfl, h1, by rw [h2]; rfl, g, m, [x], rfl, rp, .cons i1 .nil, (Pre.at (σ := []) (pre_bind (Pre.flat (σ' := []) hW q) fun g1 m1 z dz rp1 l1 iz q1 => ?_))⟩
          cases iz <;> try exact q1.elim
          simp only at q1
          split at q1
          · rename_i hn
            exact ⟨_, rfl, hn, pre_val rp1 q1 (.int _)⟩
          · exact q1.elim
      · exact q.elim
    · exact q.elim
end
end DL
end
section
set_option maxRecDepth 100000
set_option maxHeartbeats 2000000
/-! The data layer, part 16: enumerate of a tuple. -/
namespace DL
open PySem L2
open Classical
theorem meets_enumB {v : Value} {o : Obj} {H : Heap → Prop} (B : Begins v o H) :
    Meets (Builtin.«enumerate.__new__» ⟨[.type "enumerate", v], []⟩) (fun _ R s => H s.heap ∧
      R (.ok (.ret (.ref (s.heap.push o).objs.size))) { s with heap := (s.heap.push o).push { cls := .type "enumerate", data := .fields #[.none, .bool false, .ref s.heap.objs.size, rawInt 0, .none, .none] } }) :=
  .of_wp fun prog w A R s h => by
    obtain ⟨hp, g, d, tk, os⟩ := s; obtain ⟨h1, h⟩ := h
    have hsub := sub_enumerate
    have q1 : ∀ {A' : Around} {E : Value → Shared → Prop} {Q : Value → Shared → Prop}, Q (.ref hp.objs.size) ⟨hp.push o, g, d, tk, os⟩ → wpAny (model prog w) A' (pyIter v) Q E ⟨hp, g, d, tk, os⟩ :=
      fun q => B.iter prog w _ _ ⟨hp, g, d, tk, os⟩ _ h1 q
    wp_walk using q1
    refine wpAny_stack_any fun st => wpAny_pure ?_
    split
    · rename_i c _ _ _ _ _
      cases (c == Value.type "enumerate")
      · wp_walk using q1
        exact ⟨_, rfl, h⟩
      · wp_walk using q1
        exact ⟨_, rfl, h⟩
    · wp_walk using q1
      exact ⟨_, rfl, h⟩
section
variable {prog : Program} {w : World} {A : Around} {E : Value → Shared → Prop} {s : Shared}
theorem enum_begins1 {v : Value} {o : Obj} {H : Heap → Prop} {Q : Value → Shared → Prop} (B : Begins v o H) (h1 : H s.heap)
    (h : ∀ h', IsEnum h' (s.heap.objs.size + 1) s.heap.objs.size 0 .none → h'.get? s.heap.objs.size = some o → h'.objs.size = s.heap.objs.size + 2 →
      (∀ b o, s.heap.get? b = some o → h'.get? b = some o) → Q (.ref (s.heap.objs.size + 1)) { s with heap := h' }) :
    wpAny (model prog w) A (call (.type "enumerate") [v]) Q E s := by
  refine callType_new F.called_enumerate (by decide) (F.typeCall_enumerate_1 _) (F.newCall_enumerate_1 _) (fun obj => F.args_object_init_2 obj _) F.entry_enumerate_new
    (meets_enumB B) ⟨h1, ?_⟩
  have hz : (s.heap.push o).objs.size = s.heap.objs.size + 1 := Heap.size_push ..
  show _ ∧ _
  rw [hz]
  have he : IsEnum ((s.heap.push o).push { cls := .type "enumerate", data := .fields #[.none, .bool false, .ref s.heap.objs.size, rawInt 0, .none, .none] }) (s.heap.objs.size + 1) s.heap.objs.size 0 .none := by
    have := Heap.get?_push_size (s.heap.push o) (o := { cls := .type "enumerate", data := .fields #[.none, .bool false, .ref s.heap.objs.size, rawInt 0, .none, .none] }) rfl
    rw [hz] at this; exact this
  refine ⟨⟨_, he, rfl⟩, h _ he (Heap.get?_push_of_some _ (Heap.get?_push_size _ B.free)) (by rw [Heap.size_push, hz]) fun b o x => Heap.get?_push_of_some _ (Heap.get?_push_of_some _ x)⟩
end
section
variable {prog : Program} {w : World} {A : Around} {E : Value → Shared → Prop} {s : Shared}
theorem endT {e it l : Addr} {i : Nat} {items : Array Value} {old : Value} {Q : Option Value → Shared → Prop} (hh : A.handled = none)
    (he : IsEnum s.heap e it i old) (hit : s.heap.IsTupleIter it l i) (hl : s.heap.IsTuple l items) (hx : items[i]? = none)
    (hQ : ∀ h', Heap.ExtBut it s.heap h' → Q none { s with heap := h' }) : wpAny (model prog w) A (pyNext (.ref e)) Q E s := by
  have hT : s.TypeIs (.ref e) "enumerate" := ⟨_, he, rfl⟩
  unfold pyNext
  refine wpAny_bind (wpAny_attempt (wpAny_callSpecial?_slot (name := Str.ofString "__next__") hT F.slot_enumerate_next
    (wpAny_call_entry F.slot_enumerate_next hT F.entry_enumerate_next ?_ (F.args_enumerate_next_1 _))))
  show wpAny _ _ (field (.ref e) 2 >>= _) _ _ _
  refine wpAny_bind (wpAny_field he rfl (x := .ref it) rfl ?_)
  refine wpAny_bind (wpAny_nextOf_tuple_end hh hit hl hx fun h' x he' hx' => ?_)
  obtain ⟨o, ho, hc⟩ := hx'
  refine wpAny_bind (wpAny_isInstance (T := "StopIteration") (b := true) ⟨o, ho, hc⟩ isSubtype_stop ?_)
  exact wpAny_pure (hQ _ he')
end
def IteT (K : PySem.W.Frag) (a : Addr) : It :=
  ⟨fun i H => ∃ (xs : List V) (x : V), SqT K H a xs ∧ xs[i]? = some x, fun i H v H' => ∃ T x, v = .ref T ∧ H T = none ∧ H' = upd H T (.tup [.int (i : Nat), x]) ∧ ∀ xs, SqT K H a xs → xs[i]? = some x, fun i H => ∃ xs : List V, SqT K H a xs ∧ xs.length ≤ i⟩
theorem turn_enumT {P : Program} {w : World} {K : PySem.W.Frag} {elts : List Expr} {kk : Nat} {tpos : Pos} (a e it : Addr) (hai : a ≠ it) (hae : a ≠ e) :
    Turn P w K (.Tuple elts kk tpos) (IteT K a) [e, it] e (fun i h => (∃ old, IsEnum h e it ((i : Nat) : Int) old) ∧ h.IsTupleIter it a i ∧ e ≠ it) where
  mem := by simp
  obj := fun i h st b hb => by
    obtain ⟨⟨old, he⟩, ⟨o, ho, hc, hd⟩, _⟩ := st
    have e' : b = e ∨ b = it := by simpa using hb
    rcases e' with z | z
    · rw [z]; exact ⟨_, he, fun v q => nomatch q⟩
    · rw [z]; exact ⟨o, ho, fun v q => by rw [hd] at q; cases q⟩
  keep := fun i h h' st k => let ⟨⟨old, he⟩, hi, hne⟩ := st; ⟨⟨old, k e (by simp) _ he⟩, hi.at fun o q => k it (by simp) o q, hne⟩
  item := by
    intro X hP hw hK hc i pins s σ H E I hf st hg
    subst hP hw hK
    obtain ⟨⟨old, he⟩, hit, hne⟩ := st
    obtain ⟨xs, x, hq, hx⟩ := hg
    obtain ⟨its, rv, p, hz⟩ := I.tuple hq
    obtain ⟨u, hu, ru⟩ := rv.get hx
    have hel : e < s.heap.objs.size := Heap.lt_size he
    have hil : it < s.heap.objs.size := by obtain ⟨_, q, _⟩ := hit; exact Heap.lt_size q
    have hlt : i < its.toArray.size := by rw [List.size_toArray]; exact (List.getElem?_eq_some_iff.mp hu).1
    refine wpAny_pyNext_enum_itemD (Draws.tuple (A := X.A.in1) (show X.A.in1.handled = none from I.ok.hd hc) it a hai its.toArray) he ⟨hit, p⟩ hlt hne (by simp [hne, Ne.symm hae]) fun y h' tk hy ho hit' hT hsz hk => ?_
    obtain ⟨hit', hp'⟩ := hit'
    have ey : y = u := by
      have : its.toArray[i]? = some u := by simpa using hu
      rw [this] at hy; exact (Option.some.inj hy).symm
    subst ey
    refine ⟨_, rfl, wpAny_letOwnedTupleGo_enum (s := { s with heap := h', toks := tk + 1 }) ho fun h'' he' sb => ?_⟩
    have hT2 : h''.get? s.heap.objs.size = some { cls := .type "tuple", data := .seq #[.int i tk, y] } := (sb.2 _ (Nat.ne_of_gt hel)).trans hT
    have new : ObjOk X.prog X.w (upd H s.heap.objs.size (.tup [.int (i : Nat), x])) h'' s.heap.objs.size (.tup [.int (i : Nat), x]) :=
      ⟨by show 2 ≤ sizeLine; decide, [.int i tk, y], .cons ⟨_, rfl⟩ (.cons ru .nil), ⟨_, hT2, rfl, _, rfl⟩⟩
    have I1 : Inv X pins σ (upd H s.heap.objs.size (.tup [.int (i : Nat), x])) { s with heap := h'', toks := tk + 1 } :=
      I.turnedNew (ch := [e, it]) (fun b ob hb q => (sb.2 b (fun z => hb (by simp [z]))).trans (hk b ob (fun z => hb (by simp [z])) (fun z => hb (by simp [z])) q)) hf (Nat.le_refl _) new
    refine ⟨.ref s.heap.objs.size, _, I1, rfl, ⟨_, x, rfl, I.hok.fresh (Nat.le_refl _), rfl, fun ys hy => by rw [I.tuple_inj hy hq]; exact hx⟩, ⟨⟨y, ?_⟩, hit'.at fun o q => (sb.2 it (Ne.symm hne)).trans q, hne⟩, fun b hb => ?_⟩
    · have e1 : ((i + 1 : Nat) : Int) = (i : Int) + 1 := by omega
      rw [e1]; exact he'
    · have hb' : b < s.heap.objs.size := by
        have e' : b = e ∨ b = it := by simpa using hb
        rcases e' with z | z
        · rw [z]; exact hel
        · rw [z]; exact hil
      rw [upd_ne (Nat.ne_of_lt hb')]
      exact (hf b hb).1
  done := by
    intro X hP hw hK hc i pins s σ H E I hf st hg
    subst hP hw hK
    obtain ⟨⟨old, he⟩, hit, hne⟩ := st
    obtain ⟨xs, hq, hx⟩ := hg
    obtain ⟨its, rv, p, hz⟩ := I.tuple hq
    obtain ⟨f0, f1, f2, f3, f4, f5⟩ := hf it (by simp)
    have hl := rv.length
    exact endT (I.ok.hd hc) he hit p (by simp; omega) fun h' eb => ⟨rfl, I.turned (t' := s.toks) (fun b o hb q => eb b o hb q) f0 f1 f3 f4 f5⟩
  self := fun A i s Q E st h => let ⟨⟨_, he⟩, _⟩ := st; wpAny_pyIter_enum he h

def iEnumA (K : PySem.W.Frag) (ta : TA) : TI := fun σ H R => ta σ H fun vs H1 => ∃ a xs, vs = [.ref a] ∧ ((SqL K H1 a xs ∧ R (Ite K a) H1) ∨ (SqT K H1 a xs ∧ R (IteT K a) H1))
theorem pi_enumA {X : Cx} {e : Expr} {ta : TA} {p pos tpos : Pos} {elts : List Expr} {kk : Nat} (hg : Gl X "enumerate") (hm : X.mg "enumerate" = none) (ha : PA X [e] ta) (hs : starEach [e] X.env = [(false, eval e X.env)] := by rfl) :
    PI X (.Tuple elts kk tpos) (.Call (.Name "enumerate" p) [e] [] pos) (iEnumA X.K ta) := by
  refine ⟨fun pins s σ H R I h => ?_⟩
  refine PyProof.Rows.Call_ (ld_blt I hg hm PyProof.Rows.boot_enumerate (PyProof.Rows.callWith_type1 (thn (ha.run pos pins s σ H _ I h) fun us s1 ⟨vs, H1, I1, r1, q1⟩ => ?_) hs rfl))
  obtain ⟨a, xs, ex, hq⟩ := q1
  subst ex
  cases r1 with
  | cons r rr =>
    cases rr
    cases r
    rcases hq with ⟨hq, q⟩ | ⟨hq, q⟩
    · obtain ⟨its, rv, p', hz⟩ := I1.list hq
      refine call_enumerate_list p'.isList fun h' he hit hsz hk => wpAny_pyIter_enum he ?_
      have I2 : Inv X pins σ H1 { s1 with heap := h' } := I1.kept (t' := s1.toks) hk
      refine ⟨s1.heap.objs.size + 1, [s1.heap.objs.size + 1, s1.heap.objs.size], _, _, H1, rfl, I2, turn_enum a (s1.heap.objs.size + 1) s1.heap.objs.size, ⟨⟨.none, he⟩, hit, Nat.succ_ne_self _⟩, fun b hb => ?_, q⟩
      have e' : b = s1.heap.objs.size + 1 ∨ b = s1.heap.objs.size := by simpa using hb
      have hle : s1.heap.objs.size ≤ b := by
        rcases e' with z | z
        · rw [z]; exact Nat.le_add_right _ _
        · rw [z]; exact Nat.le_refl _
      exact I1.fpOk hle (I1.hok.fresh hle)
    · obtain ⟨its, rv, p', hz⟩ := I1.tuple hq
      have hlt : a < s1.heap.objs.size := by obtain ⟨o, ho, _⟩ := p'; exact Heap.lt_size ho
      refine enum_begins1 (begins_tuple a its.toArray) p' fun h' he hit hsz hk => wpAny_pyIter_enum he ?_
      have I2 : Inv X pins σ H1 { s1 with heap := h' } := I1.kept (t' := s1.toks) hk
      refine ⟨s1.heap.objs.size + 1, [s1.heap.objs.size + 1, s1.heap.objs.size], _, _, H1, rfl, I2, turn_enumT a (s1.heap.objs.size + 1) s1.heap.objs.size (Nat.ne_of_lt hlt) (Nat.ne_of_lt (Nat.lt_succ_of_lt hlt)), ⟨⟨.none, he⟩, ⟨_, hit, rfl, rfl⟩, Nat.succ_ne_self _⟩, fun b hb => ?_, q⟩
      have e' : b = s1.heap.objs.size + 1 ∨ b = s1.heap.objs.size := by simpa using hb
      have hle : s1.heap.objs.size ≤ b := by
        rcases e' with z | z
        · rw [z]; exact Nat.le_add_right _ _
        · rw [z]; exact Nat.le_refl _
      exact I1.fpOk hle (I1.hok.fresh hle)
theorem iter_enumT {K : PySem.W.Frag} {g : Gh} {m : Mem} {a : Addr} {xs : List D} (hz : xs.length ≤ sizeLine) (h : ∀ g' m', Rep K g' m' → Lw g m g' m' → ∃ vs, SqT K g'.H a vs ∧ IsGL K g' m' vs xs) : IterOk K (IteT K a) g m (enumD 0 xs) where
  sz := by rw [enumD_length]; exact hz
  go := fun g' m' rp le i d e => by
    obtain ⟨vs, h1, k1⟩ := h g' m' rp le
    rw [enumD_get, Nat.zero_add] at e
    obtain ⟨x, ex, rfl⟩ := Option.map_eq_some_iff.mp e
    obtain ⟨v, ev, iv⟩ := k1.get ex
    refine ⟨⟨vs, v, h1, ev⟩, fun z H' yy => ?_⟩
    obtain ⟨T, x', rfl, hT, rfl, q1⟩ := yy
    have e1 := q1 vs h1
    rw [ev] at e1
    cases e1
    exact new_pair rp hT (.int _) iv
  stop := fun g' m' rp le => by
    obtain ⟨vs, h1, k1⟩ := h g' m' rp le
    exact ⟨vs, h1, by rw [enumD_length, k1.length]; exact Nat.le_refl _⟩
/-- enumerate of a list or a tuple -/
def iEnA (a : FE) : FI := fun ρ m => (a ρ m).bind fun x m1 => match x with
  | .tup xs => .ok (enumD 0 xs) m1
  | x => match lstK m1 x with
    | some xs => .ok (enumD 0 xs) m1
    | none => .bad
theorem pdi_enumA {X : Cx} {W : WX} {pos p tpos : Pos} {elts : List Expr} {kk : Nat} {e : Expr} {f : FE} (hg : Gl X "enumerate") (hm : X.mg "enumerate" = none) (h : PD X W e f) (hs : starEach [e] X.env = [(false, eval e X.env)] := by rfl) (hs3 : starEach (e :: []) X.env = (false, eval e X.env) :: starEach [] X.env := by rfl) :
    PDI X W (.Tuple elts kk tpos) (.Call (.Name "enumerate" p) [e] [] pos) (iEnA f) := by
  obtain ⟨t, pt, s⟩ := h.ex
  refine ⟨⟨_, pi_enumA hg hm (pa_cons pt pa_nil hs3) hs, fun g m σ ρ R rp en q => s g m σ ρ _ rp en (pre_bind q fun g1 m1 x dx rp1 l1 ix q1 => ?_)⟩⟩
  split at q1
  · rename_i xs
    cases ix with
    | tup s z l =>
      have z' := l.length
      refine ⟨_, _, rfl, .inr ⟨rp1.sqT s, q1 g1 _ rp1 (Le.refl _ _) (iter_enumT (by omega) fun g' m' rp' lw => ?_)⟩⟩
      exact ⟨_, rp'.sqT (lw.F _ _ s), l.lw lw⟩
  · split at q1
    · rename_i xs ex
      obtain ⟨a, rfl, hz, hs⟩ := lstK_stays rp1 ix ex
      obtain ⟨vs, h1, _⟩ := hs g1 m1 rp1 (Lw.refl _ _)
      exact ⟨a, vs, rfl, .inl ⟨h1, q1 g1 _ rp1 (Le.refl _ _) (iter_enum hz hs)⟩⟩
    · exact q1.elim
end DL
end
section
set_option maxRecDepth 100000
set_option maxHeartbeats 2000000
/-! The data layer, part 17: locks where they are needed, zip of tuples, empty dicts. -/
namespace DL
open PySem L2
open Classical
theorem lkAt_ok {ρ : EnvD} {m : Mem} {i j : Nat} {xs : List D} (el : lkAt ρ m i = some (j, xs)) : m[j]? = some (.lst xs) := by
  unfold lkAt at el
  split at el
  · split at el
    · cases el; assumption
    · cases el
  · cases el
/-- locked if it is a mutable list -/
def eLkO (i : Nat) (f : FE) : FE := fun ρ m => match lkAt ρ m i with
  | some (j, xs) => unlk j xs (f ρ (m.set j (.lkL xs)))
  | none => f ρ m
theorem IsX.len {K : PySem.W.Frag} {g : Gh} {m m' : Mem} {cls : Value} {dc : Option Addr} {x : Exn} (h : IsX K g m cls dc x) (e : m.length = m'.length) : IsX K g m' cls dc x :=
  ⟨h.1, h.2.imp id fun ⟨d, vs, h1, h2, h3, h4⟩ => ⟨d, vs, h1, h2, h3, by show IsL K g.F g.al m'.length _ _; rw [← e]; exact h4⟩⟩
theorem lk_pre {A B : Type} {R : Gh → Mem → A → B → Prop} (hR : ∀ g m m' a b, m.length = m'.length → R g m a b → R g m' a b) {K : PySem.W.Frag} {W : WX} {σ : St} {g : Gh} {m : Mem} {Q : A → Hp → Prop} {j : Nat} {xs : List D} (ej : m[j]? = some (.lst xs)) {r : Res B} (q : Pre R K W σ g m Q (unlk j xs r)) : Pre R K W σ g (m.set j (.lkL xs)) Q r := by
  cases r with
  | bad => exact q
  | ok d m' =>
    intro g' v rp' l' iv
    obtain ⟨e', l2⟩ := lk_le ej l'
    exact q g' v (lk_end rp' e') l2 (hR _ _ _ _ _ (by rw [List.length_set]) iv)
  | exc x m' =>
    intro g' c d rp' l' ix
    obtain ⟨e', l2⟩ := lk_le ej l'
    exact q g' c d (lk_end rp' e') l2 (ix.len (by rw [List.length_set]))
theorem pd_lkO {X : Cx} {W : WX} {e : Expr} {f : FE} (i : Nat) (h : PD X W e f) : PD X W e (eLkO i f) := by
  obtain ⟨t, p, s⟩ := h.ex
  refine ⟨⟨t, p, fun g m σ ρ Q rp en q => ?_⟩⟩
  unfold eLkO at q
  split at q
  · rename_i j xs el
    have ej := lkAt_ok el
    exact s g (m.set j (.lkL xs)) σ ρ Q (lk_start rp ej) (en.len' (by rw [List.length_set])) (lk_pre (fun g m m' a b e iv => iv.len e) ej q)
  · exact s g m σ ρ Q rp en q
def unlkS (j : Nat) (xs : List D) : RS → RS
  | .nx ρ m => .nx ρ (m.set j (.lst xs))
  | .rt d m => .rt d (m.set j (.lst xs))
  | .bk ρ m => .bk ρ (m.set j (.lst xs))
  | .ct ρ m => .ct ρ (m.set j (.lst xs))
  | .exc x ρ m => .exc x ρ (m.set j (.lst xs))
  | .bad => .bad
def sLkO (i : Nat) (f : FS) : FS := fun ρ m => match lkAt ρ m i with
  | some (j, xs) => unlkS j xs (f ρ (m.set j (.lkL xs)))
  | none => f ρ m
theorem lk_preS {K : PySem.W.Frag} {W : WX} {g : Gh} {m : Mem} {D : Ends} {j : Nat} {xs : List DL.D} (ej : m[j]? = some (.lst xs)) {r : RS} (q : PreS K W g m D (unlkS j xs r)) : PreS K W g (m.set j (.lkL xs)) D r := by
  have ln : ∀ {m' : Mem} {o : MO}, m'.length = (m'.set j o).length := fun {m' o} => by rw [List.length_set]
  cases r with
  | bad => exact q
  | nx ρ' m' => exact fun g' v rp' l' iv => let ⟨e', l2⟩ := lk_le ej l'; q g' v (lk_end rp' e') l2 (iv.len' ln)
  | rt ρ' m' => exact fun g' v rp' l' iv => let ⟨e', l2⟩ := lk_le ej l'; q g' v (lk_end rp' e') l2 (iv.len ln)
  | bk ρ' m' => exact fun g' v rp' l' iv => let ⟨e', l2⟩ := lk_le ej l'; q g' v (lk_end rp' e') l2 (iv.len' ln)
  | ct ρ' m' => exact fun g' v rp' l' iv => let ⟨e', l2⟩ := lk_le ej l'; q g' v (lk_end rp' e') l2 (iv.len' ln)
  | exc x ρ' m' => exact fun g' v c d rp' l' iv ix => let ⟨e', l2⟩ := lk_le ej l'; q g' v c d (lk_end rp' e') l2 (iv.len' ln) (ix.len ln)
theorem pds_lkO {X : Cx} {W : WX} {st : Stmt} {f : FS} (i : Nat) (h : PDS X W st f) : PDS X W st (sLkO i f) := by
  obtain ⟨t, p, s⟩ := h.ex
  refine ⟨⟨t, p, fun g m σ ρ D rp en q => ?_⟩⟩
  unfold sLkO at q
  split at q
  · rename_i j xs el
    have ej := lkAt_ok el
    exact s g (m.set j (.lkL xs)) σ ρ D (lk_start rp ej) (en.len' (by rw [List.length_set])) (lk_preS ej q)
  · exact s g m σ ρ D rp en q
/-! ### zip of two lists or two tuples -/
theorem iter_zipT {K : PySem.W.Frag} {g : Gh} {m : Mem} {a b : Addr} {xs ys : List D} (hz : xs.length ≤ sizeLine) (h : ∀ g' m', Rep K g' m' → Lw g m g' m' → ∃ vs, SqT K g'.H a vs ∧ IsGL K g' m' vs xs) (h2 : ∀ g' m', Rep K g' m' → Lw g m g' m' → ∃ vs, SqT K g'.H b vs ∧ IsGL K g' m' vs ys) : IterOk K (RZ.ItzT K a b) g m (pairsD xs ys) where
  sz := by rw [pairsD_length]; omega
  go := fun g' m' rp le i d e => by
    obtain ⟨vs, h1, k1⟩ := h g' m' rp le
    obtain ⟨ws, h3, k3⟩ := h2 g' m' rp le
    rw [pairsD_get] at e
    split at e
    · rename_i x y ex ey
      cases e
      obtain ⟨v, ev, iv⟩ := k1.get ex
      obtain ⟨w, ew, iw⟩ := k3.get ey
      refine ⟨⟨vs, ws, v, w, h1, h3, ev, ew⟩, fun z H' yy => ?_⟩
      obtain ⟨T, x', y', rfl, hT, rfl, q1, q2⟩ := yy
      have e1 := q1 vs h1
      have e2 := q2 ws h3
      rw [ev] at e1
      rw [ew] at e2
      cases e1
      cases e2
      exact new_pair rp hT iv iw
    · cases e
  stop := fun g' m' rp le => by
    obtain ⟨vs, h1, k1⟩ := h g' m' rp le
    obtain ⟨ws, h3, k3⟩ := h2 g' m' rp le
    refine ⟨vs, ws, h1, h3, ?_⟩
    rw [pairsD_length, k1.length, k3.length]
    omega
def zipR (x y : D) (m : Mem) : Res (List D) := match x, y with
  | .tup xs, .tup ys => .ok (pairsD xs ys) m
  | x, y => match lstK m x, lstK m y with
    | some xs, some ys => .ok (pairsD xs ys) m
    | _, _ => .bad
def iZpA (a b : FE) : FI := fun ρ m => (a ρ m).bind fun x m1 => (b ρ m1).bind fun y m2 => zipR x y m2
theorem pdi_zipA {X : Cx} {W : WX} {pos p tpos : Pos} {elts : List Expr} {kk : Nat} {e e2 : Expr} {f f2 : FE} (hg : Gl X "zip") (hm : X.mg "zip" = none) (h : PD X W e f) (h2 : PD X W e2 f2) (hs : starEach [e, e2] X.env = (false, eval e X.env) :: starEach [e2] X.env := by rfl) (hpl : (backTo pos (starEach [e2] X.env)).any (·.1) = false := by rfl)
    (hs3 : starEach (e2 :: []) X.env = (false, eval e2 X.env) :: starEach [] X.env := by rfl) : PDI X W (.Tuple elts kk tpos) (.Call (.Name "zip" p) [e, e2] [] pos) (iZpA f f2) := by
  obtain ⟨t, pt, s⟩ := h.ex
  obtain ⟨t', pt', s'⟩ := h2.ex
  refine ⟨⟨_, RZ.pi_zipA hg hm (pa_cons pt (pa_cons pt' pa_nil hs3) hs) hs hpl, fun g m σ ρ R rp en q => s g m σ ρ _ rp en (pre_bind q fun g1 m1 x dx rp1 l1 ix q1 => s' g1 m1 σ ρ _ rp1 (en.le l1) (pre_bind q1 fun g2 m2 y dy rp2 l2 iy q2 => ?_))⟩⟩
  unfold zipR at q2
  split at q2
  · rename_i xs ys
    have ix2 := ix.le l2
    cases ix2 with
    | tup s z l =>
      cases iy with
      | tup s3 z3 l3 =>
        have e1 := l.length
        refine ⟨_, _, _, _, rfl, .inr ⟨rp2.sqT s, rp2.sqT s3, q2 g2 _ rp2 (Le.refl _ _) (iter_zipT (by omega) (fun g' m' rp' lw => ?_) (fun g' m' rp' lw => ?_))⟩⟩
        · exact ⟨_, rp'.sqT (lw.F _ _ s), l.lw lw⟩
        · exact ⟨_, rp'.sqT (lw.F _ _ s3), l3.lw lw⟩
  · split at q2
    · rename_i xs ys ex ey
      obtain ⟨a, rfl, hz, hs⟩ := lstK_stays rp2 (ix.le l2) ex
      obtain ⟨b, rfl, hz2, hs2⟩ := lstK_stays rp2 iy ey
      obtain ⟨vs, h1, _⟩ := hs g2 m2 rp2 (Lw.refl _ _)
      obtain ⟨ws, h3, _⟩ := hs2 g2 m2 rp2 (Lw.refl _ _)
      exact ⟨a, b, vs, ws, rfl, .inl ⟨h1, h3, q2 g2 _ rp2 (Le.refl _ _) (iter_zipL hz hs hs2)⟩⟩
    · exact q2.elim
/-! ### {} -/
def eD0K : FE := fun _ m => .ok (.mref m.length) (m ++ [.dK []])
def eD0T : FE := fun _ m => .ok (.mref m.length) (m ++ [.dT []])
section
variable {X : Cx} {W : WX} {pos : Pos}
theorem pd_d0K : PD X W (.Dict [] [] pos) eD0K := by
  refine ⟨⟨_, pe_dnewK, fun g m σ ρ Q rp en q p hp => ?_⟩⟩
  obtain ⟨r, l⟩ := rp.newM (o := .dK []) (mo := .dK []) hp (fun _ _ z => by cases z) ⟨rp.free hp, [], upd_same, rfl, .nil⟩
  have e : (g.add m.length p (.dK [])).al m.length = p := if_pos rfl
  refine q _ (.ref p) r l ?_
  have z : IsG X.K (g.add m.length p (.dK [])) (m ++ [.dK []]) (.ref ((g.add m.length p (.dK [])).al m.length)) (.mref m.length) := .mref (by simp)
  rw [e] at z
  exact z
theorem pd_d0T : PD X W (.Dict [] [] pos) eD0T := by
  refine ⟨⟨_, pe_dnewT, fun g m σ ρ Q rp en q p hp => ?_⟩⟩
  obtain ⟨r, l⟩ := rp.newM (o := .dT []) (mo := .dT []) hp (fun _ _ z => by cases z) ⟨rp.free hp, [], upd_same, rfl, .nil⟩
  have e : (g.add m.length p (.dT [])).al m.length = p := if_pos rfl
  refine q _ (.ref p) r l ?_
  have z : IsG X.K (g.add m.length p (.dT [])) (m ++ [.dT []]) (.ref ((g.add m.length p (.dT [])).al m.length)) (.mref m.length) := .mref (by simp)
  rw [e] at z
  exact z
end
end DL
end
section
set_option maxRecDepth 100000
set_option maxHeartbeats 2000000
/-! The data layer, part 18: the head's facts, the end. -/
namespace DL
open PySem L2
open Classical
/-! ### facts told by a Bool -/
def exOwn (K : PySem.W.Frag) (c : Str) : Bool :=
  (He.Fa.cls c).ok K && (He.eqO (PySem.W.findIn K (.ref (He.ga K c)) "__class__") (some (some (.builtin "object.__class__"))) &&
  (decide (PySem.W.specialIn K (.builtin "object.__class__") "__get__" = some (some (.builtin "getset_descriptor.__get__"))) && (decide (PySem.W.takesIn K (.builtin "object.__class__") = some true) && decide (PySem.W.mroIn K (He.ga K c) (.type "object") = some true))))
def exKit (own : List Str) (K : PySem.W.Frag) : Bool :=
  own.all (exOwn K) && (own.all (fun a => own.all fun c => decide (PySem.W.kitOne K (.ref (He.ga K a)) (.ref (He.ga K c)) = some (decide (a = c)))) &&
  (own.all (fun a => bTys.all fun c => decide (PySem.W.kitOne K (.ref (He.ga K a)) (.type c) = some false)) && bTys.all (fun a => own.all fun c => decide (PySem.W.kitOne K (.type a) (.ref (He.ga K c)) = some false))))
theorem band {a b : Bool} (h : (a && b) = true) : a = true ∧ b = true := by simpa using h
theorem exOwn_ok {K : PySem.W.Frag} {c : Str} (h : exOwn K c = true) : OwnOk K c := by
  obtain ⟨h1, h⟩ := band h
  obtain ⟨h2, h⟩ := band h
  obtain ⟨h3, h⟩ := band h
  obtain ⟨h4, h5⟩ := band h
  exact ⟨He.cls_ok h1, He.eqO_ok h2, of_decide_eq_true h3, of_decide_eq_true h4, of_decide_eq_true h5⟩
theorem exKit_ok {K : PySem.W.Frag} {own : List Str} (h : exKit own K = true) : KitOk K own := by
  obtain ⟨h1, h⟩ := band h
  obtain ⟨h2, h⟩ := band h
  obtain ⟨h3, h4⟩ := band h
  exact ⟨fun c hc => exOwn_ok (List.all_eq_true.mp h1 c hc), fun a ha c hc => of_decide_eq_true (List.all_eq_true.mp (List.all_eq_true.mp h2 a ha) c hc),
    fun a ha c hc => of_decide_eq_true (List.all_eq_true.mp (List.all_eq_true.mp h3 a ha) c hc), fun a ha c hc => of_decide_eq_true (List.all_eq_true.mp (List.all_eq_true.mp h4 a ha) c hc)⟩
def exNe (K : PySem.W.Frag) (c : Str) : Bool := He.eqO (PySem.W.findIn K (.ref (He.ga K c)) "__ne__") (some (some (.builtin "object.__ne__"))) && decide (PySem.W.subIn K (.ref (He.ga K c)) (.type "object") = some true)
theorem exNe_ok {K : PySem.W.Frag} {c : Str} (h : exNe K c = true) : NeOk K c := by
  obtain ⟨h1, h2⟩ := band h
  exact ⟨He.eqO_ok h1, of_decide_eq_true h2⟩
/-! ### the end -/
theorem walk_ofD {l : PySem.W.OpenLaw} {n k : Nat} {q : Program} {loose : List Str} {XP : (Str → Option Value) → Heap → Prop} {YP : World → Heap → Prop} {d : DefRec} {x : Str} {F : HL}
    (hn : l.most = some n) (hn2 : n ≤ sizeLine) (hdf : d.params.defaults = []) (hr : Room k callerA)
    (G : ∀ (w : World) (mg : Str → Option Value) (fa : Addr) (h : Heap), YP w h → h.Ns mainGlobals mg → mg d.name = some (.ref fa) →
      ∃ (K : PySem.W.Frag) (fd : FuncData), K.In h ∧ (∀ (s : Shared) (u : Value), BindsTo s fd ⟨[u], []⟩ [(x, u)]) ∧ ∀ base : Heap, K.In base → base.Ns mainGlobals mg → FnD l.prog w K mg base k fa fd [x] F)
    (hF : ∀ ns : List Int, ns.length ≤ n → ∃ m, F [.slst (ns.map .int)] [] = .ok (.bl true) m) :
    PySem.W.WalkO q loose XP YP l.row.toRowW d [] (fun f vs => PySem.call f vs) := by
  refine Att.attach_call hn hdf fun w s₀ s₁ mg mb fa o pm cd doc a vs ns G0 Y ho hd hcd hmg hobj hints hlen hg => ?_
  obtain ⟨K, fd, KX, hb, hG⟩ := G w mg fa _ Y G0.T.g hmg
  refine law_call (CX := L2.CX l.prog w) (sp := spD K 1 F) KX G0.T.g G0.T.b G0.T.builtins G0.T.nolimit hg hobj hints (Nat.le_trans hlen hn2) hr hG hb (fun H hO hS => ?_) fun H e s' c => ?_
  · obtain ⟨m, hm⟩ := hF ns hlen
    have il : ∀ xs : List Int, IsL K H (fun _ => 0) 0 (xs.map V.int) (xs.map D.int) := fun xs => by
      induction xs with
      | nil => exact .nil
      | cons x xs ih => exact .cons (.int x) ih
    refine ⟨rfl, ⟨H, H, fun _ => 0⟩, [], [.slst (ns.map .int)], rfl, ⟨fun b o h => .inl h, fun i o h => by simp at h, fun i j hi => ?_⟩, .cons (.slst hS ?_ (il ns)) .nil, ?_⟩
    · obtain ⟨o, h, _⟩ := hi
      simp at h
    · rw [List.length_map]
      exact Nat.le_trans hlen hn2
    · rw [hm]
      intro g' v rp l iv
      cases iv
      rfl
  · obtain ⟨_, _, _, _, _, _, _, _, _, _, _, _, z⟩ := c
    exact z
/-! ### calls, with their number of parameters written out -/
section
variable {X : Cx} {W : WX} {k n : Nat} {x c mn : Str} {ps : List Str} {dds : List D} {F : HL} {p pos apos : Pos} {e o : Expr} {es : List Expr} {fa : FA} {fo : FE}
theorem pc_defN (G : Def1 X.prog X.w X.K X.mg X.base k x ps dds F) (hr : Room k X.A) (tk : Takes X W) (ha : PDA X W (e :: es) fa) (hn : ps.length = n := by rfl) (hg : Gl X x := by rfl) (hdb : (x == ("__debug__" : Str)) = false := by decide) (he : starEach (e :: es) X.env = (false, eval e X.env) :: starEach es X.env := by rfl) (hpl : (backTo pos (starEach es X.env)).any (·.1) = false := by rfl) :
    PD X W (.Call (.Name x p) (e :: es) [] pos) (eCall n F dds fa) := by
  subst hn
  exact pc_def G hr tk ha hg hdb he hpl
theorem pc_def0N (G : Def1 X.prog X.w X.K X.mg X.base k x ps dds F) (hr : Room k X.A) (tk : Takes X W) (hW : Flat W) (hn : ps.length = n := by rfl) (hg : Gl X x := by rfl) (hdb : (x == ("__debug__" : Str)) = false := by decide) : PD X W (.Call (.Name x p) [] [] pos) (eCall n F dds aNil) := by
  subst hn
  exact pc_def0 G hr tk hW hg hdb
theorem pc_metN {pl : Sem Bool} (G : Met1 X.prog X.w X.K X.mg X.base k c mn ps dds F) (hr : Room k X.A) (tk : Takes X W) (hW : Flat W) (ho : PD X W o fo) (ha : PDA X W (e :: es) fa) (hn : ps.length = n := by rfl)
    (hst : starEach (e :: es) X.env = (false, eval e X.env) :: starEach es X.env := by rfl) (hpl : (backTo pos (starEach es X.env)).any (·.1) = false := by rfl)
    (ht : eval (.Call (.Attribute o mn apos) (e :: es) [] pos) X.env = (do
      let ov ← eval o X.env
      standAt apos.atName
      let (f, first) ← holding [ov] (getMethod ov mn pl)
      callWith pos f first (backTo pos (starEach (e :: es) X.env)) (backToKw pos (keywordEach [] X.env))) := by rfl) :
    PD X W (.Call (.Attribute o mn apos) (e :: es) [] pos) (eMeth c mn n F dds fo fa) := by
  subst hn
  exact pc_met G hr tk hW ho ha hst hpl ht
theorem pc_met0N {pl : Sem Bool} (G : Met1 X.prog X.w X.K X.mg X.base k c mn ps dds F) (hr : Room k X.A) (tk : Takes X W) (hW : Flat W) (ho : PD X W o fo) (hn : ps.length = n := by rfl)
    (ht : eval (.Call (.Attribute o mn apos) [] [] pos) X.env = (do
      let ov ← eval o X.env
      standAt apos.atName
      let (f, first) ← holding [ov] (getMethod ov mn pl)
      callWith pos f first (backTo pos (starEach [] X.env)) (backToKw pos (keywordEach [] X.env))) := by rfl) :
    PD X W (.Call (.Attribute o mn apos) [] [] pos) (eMeth c mn n F dds fo aNil) := by
  subst hn
  exact pc_met0 G hr tk hW ho ht
theorem pc_makN (G : Mak1 X.prog X.w X.K X.mg X.base k c ps dds F) (hr : Room (k + 1) X.A) (tk : Takes X W) (hW : Flat W) (ha : PDA X W (e :: es) fa) (hn : ps.length = n := by rfl) (hg : Gl X c := by rfl) (hdb : (c == ("__debug__" : Str)) = false := by decide) (he : starEach (e :: es) X.env = (false, eval e X.env) :: starEach es X.env := by rfl) (hpl : (backTo pos (starEach es X.env)).any (·.1) = false := by rfl) :
    PD X W (.Call (.Name c p) (e :: es) [] pos) (eMake c n F dds fa) := by
  subst hn
  exact pc_mak G hr tk hW ha hg hdb he hpl
theorem pc_makKN {np nk : Nat} {ks : List Str} {kws : List Keyword} {fk : FA} (G : MakK X.prog X.w X.K X.mg X.base k c ps ks np F) (hr : Room (k + 1) X.A) (tk : Takes X W) (hW : Flat W) (ha : PDA X W (e :: es) fa) (hkw : PDK X W kws fk) (hn : ps.length = n := by rfl) (hnk : ks.length = nk := by rfl) (hg : Gl X c := by rfl)
    (hall : (backToKw pos (keywordEach kws X.env)).all (·.1.isSome) = true := by rfl) (hks : (backToKw pos (keywordEach kws X.env)).filterMap (·.1) = ks := by rfl) (hdb : (c == ("__debug__" : Str)) = false := by decide)
    (he : starEach (e :: es) X.env = (false, eval e X.env) :: starEach es X.env := by rfl) (hpl : ((backTo pos (starEach (e :: es) X.env)).any (·.1) || (backToKw pos (keywordEach kws X.env)).any (·.1.isNone)) = false := by rfl) :
    PD X W (.Call (.Name c p) (e :: es) kws pos) (eMakeK c n np nk F fa fk) := by
  subst hn hnk
  exact pc_makK G hr tk hW ha hkw hg hall hks hdb he hpl
end
end DL
end
section
set_option maxRecDepth 100000
set_option maxHeartbeats 2000000
/-! The data layer, part 19: dicts: items got, looked for, told with a default, set. -/
namespace DL
open PySem L2
open Classical
/-! ### a tuple that nobody held is held from now on -/
theorem MOk.noTup {K : PySem.W.Frag} {g : Gh} {n : Nat} {a : Addr} {vs : List V} : ∀ {o : MO}, MOk K g n a o → o ≠ .gone → g.H a ≠ some (.tup vs)
  | .lst _, h, _ => fun e => by obtain ⟨_, _, h, _⟩ := h; rw [e] at h; cases h
  | .lkL _, h, _ => fun e => by obtain ⟨_, _, h, _⟩ := h; rw [e] at h; cases h
  | .dK _, h, _ => fun e => by obtain ⟨_, _, h, _⟩ := h; rw [e] at h; cases h
  | .dT _, h, _ => fun e => by obtain ⟨_, _, h, _⟩ := h; rw [e] at h; cases h
  | .lkK _, h, _ => fun e => by obtain ⟨_, _, _, h, _⟩ := h; rw [e] at h; cases h
  | .lkT _, h, _ => fun e => by obtain ⟨_, _, _, h, _⟩ := h; rw [e] at h; cases h
  | .ins _ _, h, _ => fun e => by obtain ⟨_, _, _, h, _⟩ := h; rw [e] at h; cases h
  | .gone, _, n => absurd rfl n
section
variable {K : PySem.W.Frag} {g : Gh} {m : Mem}
theorem Rep.adoptT (rp : Rep K g m) {q : Addr} {vs : List V} (h : g.H q = some (.tup vs)) : Rep K ⟨g.H, upd g.F q (.tup vs), g.al⟩ m ∧ Le g m ⟨g.H, upd g.F q (.tup vs), g.al⟩ m := by
  have mF : ∀ b u, g.F b = some u → upd g.F q (.tup vs) b = some u := fun b u f => by
    by_cases hb : b = q
    · subst hb
      rcases rp.sub b u f with e | ⟨_, ob, e⟩ <;> (rw [h] at e; cases e)
      exact upd_same
    · rw [upd_ne hb]; exact f
  refine ⟨⟨fun b u f => ?_, fun i u e => ?_, rp.inj⟩, ⟨mF, Nat.le_refl _, fun _ _ => rfl, fun b u e nt f l => ⟨e, ?_, l⟩, fun _ _ _ e => e, fun _ _ e _ => e⟩⟩
  · by_cases hb : b = q
    · subst hb
      rw [show (⟨g.H, upd g.F b (.tup vs), g.al⟩ : Gh).F b = some (.tup vs) from upd_same] at f
      cases f
      exact .inl h
    · rw [show (⟨g.H, upd g.F q (.tup vs), g.al⟩ : Gh).F b = g.F b from upd_ne hb] at f
      exact rp.sub b u f
  · by_cases hn : u = .gone
    · subst hn; trivial
    · have ne : g.al i ≠ q := fun z => (rp.mem i u e).noTup hn (z ▸ h)
      exact (rp.mem i u e).step (g := g) (g' := ⟨g.H, upd g.F q (.tup vs), g.al⟩) rfl (fun f => by show upd g.F q (.tup vs) (g.al i) = none; rw [upd_ne ne]; exact f) mF (fun _ _ => rfl) (Nat.le_refl _)
  · show upd g.F q (.tup vs) b = none
    rw [upd_ne (fun z : b = q => nt vs (by rw [z] at e; exact Option.some.inj (e.symm.trans h)))]
    exact f
end
/-! ### keys -/
def keyV : D → Option Key
  | .str s => some (.inr s)
  | .int i => some (.inl i)
  | _ => none
def keysV : List D → Option (List Key)
  | [] => some []
  | d :: ds => match keyV d, keysV ds with
    | some k, some ks => some (k :: ks)
    | _, _ => none
def keyD : Key → D
  | .inr s => .str s
  | .inl i => .int i
section
variable {K : PySem.W.Frag} {F : Hp} {al : Nat → Addr} {n : Nat}
theorem keyV_ok {v : V} {d : D} {k : Key} (iv : Is K F al n v d) (h : keyV d = some k) : v = kV k := by
  cases iv <;> simp only [keyV] at h <;> first | (cases h; rfl) | cases h
theorem keysV_ok : ∀ {vs : List V} {ds : List D} {ks : List Key}, IsL K F al n vs ds → keysV ds = some ks → vs = ks.map kV
  | _, _, _, .nil, h => by cases h; rfl
  | _, _, _, .cons i t, h => by
    simp only [keysV] at h
    split at h
    · rename_i k ks e1 e2
      cases h
      rw [keyV_ok i e1, keysV_ok t e2]
      rfl
    · cases h
theorem keyD_is (k : Key) : Is K F al n (kV k) (keyD k) := by
  cases k with
  | inl i => exact .int i
  | inr s => exact .str s
theorem keysD_is : ∀ ks : List Key, IsL K F al n (ks.map kV) (ks.map keyD)
  | [] => .nil
  | k :: ks => .cons (keyD_is k) (keysD_is ks)
end
@[simp] theorem keysV_strs : ∀ xs : List Str, keysV (xs.map .str) = some (xs.map .inr)
  | [] => rfl
  | x :: xs => by simp [keysV, keyV, keysV_strs xs]
/-! ### what a dict holds -/
def dicK (m : Mem) : D → Option (List (Key × D))
  | .dK kvs => some kvs
  | .mref i => match m[i]? with
    | some (.dK kvs) => some kvs
    | some (.lkK kvs) => some kvs
    | _ => none
  | _ => none
def dicT (m : Mem) : D → Option (List (List Key × D))
  | .dT kvs => some kvs
  | .mref i => match m[i]? with
    | some (.dT kvs) => some kvs
    | some (.lkT kvs) => some kvs
    | _ => none
  | _ => none
section
variable {K : PySem.W.Frag} {g : Gh} {m : Mem}
theorem dicK_ok (rp : Rep K g m) {v : V} {d : D} {kvs : List (Key × D)} (iv : IsG K g m v d) (h : dicK m d = some kvs) : ∃ a vs, v = .ref a ∧ Rd g.H a (.dK vs) ∧ vs.map (·.1) = kvs.map (·.1) ∧ IsGL K g m (vs.map (·.2)) (kvs.map (·.2)) := by
  cases iv with
  | dK s k l =>
    cases h
    rcases rp.sub _ _ s with h | ⟨_, ob, h⟩
    · exact ⟨_, _, rfl, .inl h, k, l⟩
    · exact ⟨_, _, rfl, .inr ⟨ob, h⟩, k, l⟩
  | mref hi =>
    rename_i i
    simp only [dicK] at h
    split at h
    · rename_i xs e; cases h; obtain ⟨_, vs, h1, h2, h3⟩ := rp.mem i _ e; exact ⟨_, vs, rfl, .inl h1, h2, h3⟩
    · rename_i xs e; cases h; obtain ⟨_, ob, vs, h1, h2, h3⟩ := rp.mem i _ e; exact ⟨_, vs, rfl, .inr ⟨ob, h1⟩, h2, h3⟩
    · cases h
  | _ => cases h
theorem dicT_ok (rp : Rep K g m) {v : V} {d : D} {kvs : List (List Key × D)} (iv : IsG K g m v d) (h : dicT m d = some kvs) : ∃ a vs, v = .ref a ∧ Rd g.H a (.dT vs) ∧ vs.map (·.1) = kvs.map (·.1) ∧ IsGL K g m (vs.map (·.2)) (kvs.map (·.2)) := by
  cases iv with
  | dT s k l =>
    cases h
    rcases rp.sub _ _ s with h | ⟨_, ob, h⟩
    · exact ⟨_, _, rfl, .inl h, k, l⟩
    · exact ⟨_, _, rfl, .inr ⟨ob, h⟩, k, l⟩
  | mref hi =>
    rename_i i
    simp only [dicT] at h
    split at h
    · rename_i xs e; cases h; obtain ⟨_, vs, h1, h2, h3⟩ := rp.mem i _ e; exact ⟨_, vs, rfl, .inl h1, h2, h3⟩
    · rename_i xs e; cases h; obtain ⟨_, ob, vs, h1, h2, h3⟩ := rp.mem i _ e; exact ⟨_, vs, rfl, .inr ⟨ob, h1⟩, h2, h3⟩
    · cases h
  | _ => cases h
end
/-! ### values by keys -/
section
variable {κ : Type} [DecidableEq κ]
def valD : List (κ × D) → κ → Option D
  | [], _ => none
  | p :: r, k => if p.1 = k then some p.2 else valD r k
def putT (kvs : List (κ × D)) (k : κ) (d : D) : List (κ × D) :=
  if (kvs.any fun kv => decide (kv.1 = k)) = true then kvs.map (fun kv => if kv.1 = k then (kv.1, d) else kv) else kvs ++ [(k, d)]
theorem val_is {K : PySem.W.Frag} {F : Hp} {al : Nat → Addr} {n : Nat} {k : κ} : ∀ {vs : List (κ × V)} {ds : List (κ × D)}, vs.map (·.1) = ds.map (·.1) → IsL K F al n (vs.map (·.2)) (ds.map (·.2)) →
    (∀ d, valD ds k = some d → ∃ v, valV vs k = some v ∧ Is K F al n v d) ∧ (valD ds k = none → valV vs k = none)
  | [], [], _, _ => ⟨fun d h => (by cases h), fun _ => rfl⟩
  | [], _ :: _, h, _ => by simp at h
  | _ :: _, [], h, _ => by simp at h
  | p :: vs, q :: ds, h, l => by
    simp only [List.map_cons, List.cons.injEq] at h
    cases l with
    | cons i t =>
      by_cases e : q.1 = k
      · refine ⟨fun d hd => ?_, fun hd => ?_⟩
        · simp only [valD, if_pos e] at hd
          cases hd
          exact ⟨p.2, valV_pos (h.1.trans e), i⟩
        · simp only [valD, if_pos e] at hd
          cases hd
      · have ih := val_is (k := k) h.2 t
        have e' : ¬ p.1 = k := fun z => e (h.1.symm.trans z)
        rw [valV_neg e']
        simp only [valD, if_neg e]
        exact ih
theorem any_keys {k : κ} : ∀ {vs : List (κ × V)} {ds : List (κ × D)}, vs.map (·.1) = ds.map (·.1) → (vs.any fun kv => decide (kv.1 = k)) = (ds.any fun kv => decide (kv.1 = k))
  | [], [], _ => rfl
  | [], _ :: _, h => by simp at h
  | _ :: _, [], h => by simp at h
  | p :: vs, q :: ds, h => by
    simp only [List.map_cons, List.cons.injEq] at h
    rw [List.any_cons, List.any_cons, any_keys h.2, h.1]
theorem repl_is {K : PySem.W.Frag} {F : Hp} {al : Nat → Addr} {n : Nat} {k : κ} {v : V} {d : D} (iv : Is K F al n v d) : ∀ {vs : List (κ × V)} {ds : List (κ × D)}, vs.map (·.1) = ds.map (·.1) → IsL K F al n (vs.map (·.2)) (ds.map (·.2)) →
    (vs.map fun kv => if kv.1 = k then (kv.1, v) else kv).map (·.1) = (ds.map fun kv => if kv.1 = k then (kv.1, d) else kv).map (·.1) ∧ IsL K F al n ((vs.map fun kv => if kv.1 = k then (kv.1, v) else kv).map (·.2)) ((ds.map fun kv => if kv.1 = k then (kv.1, d) else kv).map (·.2))
  | [], [], _, _ => ⟨rfl, .nil⟩
  | [], _ :: _, h, _ => by simp at h
  | _ :: _, [], h, _ => by simp at h
  | p :: vs, q :: ds, h, l => by
    simp only [List.map_cons, List.cons.injEq] at h
    cases l with
    | cons i t =>
      have ih := repl_is (k := k) iv h.2 t
      simp only [List.map_cons]
      by_cases e : q.1 = k
      · have e' : p.1 = k := h.1.trans e
        rw [if_pos e, if_pos e']
        exact ⟨by rw [ih.1, h.1], .cons iv ih.2⟩
      · have e' : ¬ p.1 = k := fun z => e (h.1.symm.trans z)
        rw [if_neg e, if_neg e']
        exact ⟨by rw [ih.1, h.1], .cons i ih.2⟩
theorem putT_is {K : PySem.W.Frag} {F : Hp} {al : Nat → Addr} {n : Nat} {k : κ} {v : V} {d : D} (iv : Is K F al n v d) {vs : List (κ × V)} {ds : List (κ × D)} (h : vs.map (·.1) = ds.map (·.1)) (l : IsL K F al n (vs.map (·.2)) (ds.map (·.2))) :
    (putK vs k v).map (·.1) = (putT ds k d).map (·.1) ∧ IsL K F al n ((putK vs k v).map (·.2)) ((putT ds k d).map (·.2)) := by
  unfold putK putT
  rw [any_keys h]
  split
  · exact repl_is iv h l
  · simp only [List.map_append, List.map_cons, List.map_nil]
    exact ⟨by rw [h], l.append (.cons iv .nil)⟩
end
/-! ### d[k] -/
def hDGet : H2 := fun x y m => match y with
  | .tup ks => (match keysV ks, dicT m x with
    | some k, some kvs => (match valD kvs k with
      | some d => .ok d m
      | none => .bad)
    | _, _ => .bad)
  | y => (match keyV y, dicK m x with
    | some k, some kvs => (match valD kvs k with
      | some d => .ok d m
      | none => .bad)
    | _, _ => .bad)
/-- whether it is there -/
def dHas (x y : D) (m : Mem) : Option (Option D) := match y with
  | .tup ks => (match keysV ks, dicT m x with
    | some k, some kvs => some (valD kvs k)
    | _, _ => none)
  | y => (match keyV y, dicK m x with
    | some k, some kvs => some (valD kvs k)
    | _, _ => none)
section
variable {K : PySem.W.Frag} {g : Gh} {m : Mem}
/-- what is found, or that nothing is -/
def FoundIs (K : PySem.W.Frag) (g : Gh) (m : Mem) : Option V → Option D → Prop
  | some v, some d => IsG K g m v d
  | none, none => True
  | _, _ => False
theorem dHas_ok (rp : Rep K g m) {v w : V} {x y : D} {o : Option D} (ix : IsG K g m v x) (iy : IsG K g m w y) (h : dHas x y m = some o) : ∃ a r, v = .ref a ∧ DGet g.H a w r ∧ FoundIs K g m r o := by
  unfold dHas at h
  split at h
  · rename_i ks
    split at h
    · rename_i k kvs e1 e2
      cases h
      obtain ⟨a, vs, rfl, rd, hk, il⟩ := dicT_ok rp ix e2
      cases iy with
      | tup s z l =>
        rename_i b ws
        have eb : g.H b = some (.tup ws) := rp.at_ s fun z => z
        rw [keysV_ok l e1] at eb
        obtain ⟨v1, v2⟩ := val_is (k := k) hk il
        refine ⟨a, valV vs k, rfl, .inr ⟨vs, k, b, rd, rfl, eb, rfl⟩, ?_⟩
        cases e : valD kvs k with
        | none => rw [v2 e]; trivial
        | some d => obtain ⟨u, hu, iu⟩ := v1 d e; rw [hu]; exact iu
    · cases h
  · split at h
    · rename_i k kvs e1 e2
      cases h
      obtain ⟨a, vs, rfl, rd, hk, il⟩ := dicK_ok rp ix e2
      obtain ⟨v1, v2⟩ := val_is (k := k) hk il
      refine ⟨a, valV vs k, rfl, .inl ⟨vs, k, rd, keyV_ok iy e1, rfl⟩, ?_⟩
      cases e : valD kvs k with
      | none => rw [v2 e]; trivial
      | some d => obtain ⟨u, hu, iu⟩ := v1 d e; rw [hu]; exact iu
    · cases h
theorem hDGet_has {x y : D} : hDGet x y m = match dHas x y m with
    | some (some d) => .ok d m
    | _ => .bad := by
  unfold hDGet dHas
  split <;> (split <;> first | rfl | (split <;> rename_i e <;> simp [e]))
end
/-- k in d -/
def hDIn (neg : Bool) : H2 := fun y x m => match dHas x y m with
  | some o => .ok (.bl (if neg then !o.isSome else o.isSome)) m
  | none => .bad
def hOr (h h' : H2) : H2 := fun x y m => orR (h x y m) (h' x y m)
end DL
end
section
set_option maxRecDepth 100000
set_option maxHeartbeats 2000000
/-! The data layer, part 20: dicts in expressions and as targets. -/
namespace DL
open PySem L2
open Classical
theorem opsd_or {K : PySem.W.Frag} {r r' : R2} {h h' : H2} (a : OpSd K r h) (b : OpSd K r' h') : OpSd K (fun x y H Q => r x y H Q ∨ r' x y H Q) (hOr h h') := fun W σ g m x y dx dy Q rp ix iy q => by
  unfold hOr at q
  have a1 := a W σ g m x y dx dy Q rp ix iy
  have b1 := b W σ g m x y dx dy Q rp ix iy
  cases e : h dx dy m with
  | ok d m1 => rw [e] at q a1; exact .inl (a1 q)
  | exc z m1 => rw [e] at q a1; exact .inl (a1 q)
  | bad => rw [e] at q; exact .inr (b1 q)
def rDGetR : R2 := fun x y H Q => ∃ a v, x = .ref a ∧ DGet H a y (some v) ∧ Q v H
def rDInR (neg : Bool) : R2 := fun y x H Q => ∃ a o, x = .ref a ∧ DGet H a y o ∧ Q (.bl (if neg then !o.isSome else o.isSome)) H
section
variable {X : Cx}
theorem op_inD2 (hu : X.A.units + 1 < cLine) : OpR X (compareOp .In) (rDInR false) := by
  intro pins s σ H x y v u Q I rx ry q
  obtain ⟨a, o, rfl, g, q⟩ := q
  cases (show u = Value.ref a from ry)
  exact d_in hu I g rx fun s' I' => ⟨.bl o.isSome, H, I', rfl, q⟩
theorem op_notInD2 (hu : X.A.units + 1 < cLine) : OpR X (compareOp .NotIn) (rDInR true) := by
  intro pins s σ H x y v u Q I rx ry q
  obtain ⟨a, o, rfl, g, q⟩ := q
  cases (show u = Value.ref a from ry)
  exact d_notIn hu I g rx fun s' I' => ⟨.bl (!o.isSome), H, I', rfl, q⟩
end
theorem sd_dget {K : PySem.W.Frag} : OpSd K rDGetR hDGet := fun W σ g m x y dx dy Q rp ix iy q => by
  rw [hDGet_has] at q
  split at q
  · rename_i d e
    obtain ⟨a, r, rfl, dg, f⟩ := dHas_ok rp ix iy e
    cases r with
    | none => exact f.elim
    | some v => exact ⟨a, v, rfl, dg, pre_val rp q f⟩
  · exact q.elim
theorem sd_din {K : PySem.W.Frag} (neg : Bool) : OpSd K (rDInR neg) (hDIn neg) := fun W σ g m x y dx dy Q rp ix iy q => by
  unfold hDIn at q
  split at q
  · rename_i o e
    obtain ⟨a, r, rfl, dg, f⟩ := dHas_ok rp iy ix e
    have er : r.isSome = o.isSome := by
      cases r <;> cases o <;> first | rfl | exact f.elim
    refine ⟨a, r, rfl, dg, ?_⟩
    rw [er]
    exact pre_val rp q (.bl _)
  · exact q.elim
section
variable {X : Cx} {W : WX} {a b : Expr} {fa fb : FE} {pos : Pos} {k : Nat}
theorem units1 {k : Nat} {A : Around} (hr : Room k A) : A.units + 1 < cLine := by have := hr.un; omega
theorem pd_ixD (hr : Room k X.A) (ha : PD X W a fa) (hb : PD X W b fb) (hs : NoSl b := by exact fun _ _ => rfl) : PD X W (.Subscript a b pos) (eOp hDGet fa fb) := by
  obtain ⟨ta, pa, sa⟩ := ha.ex
  obtain ⟨tb, pb, sb⟩ := hb.ex
  exact ⟨⟨_, pe_dget (units1 hr) pa pb hs, sd_op (r := rDGetR) sd_dget sa sb⟩⟩
theorem cm_inD (hr : Room k X.A) (ha : PD X W a fa) (hb : PD X W b fb) (hm : behindInMarks .In b = false := by rfl) : PD X W (.Compare a [.In] [b] pos) (eOp (hDIn false) fa fb) := pd_cmp (op_inD2 (units1 hr)) (sd_din false) ha hb hm
theorem cm_ninD (hr : Room k X.A) (ha : PD X W a fa) (hb : PD X W b fb) (hm : behindInMarks .NotIn b = false := by rfl) : PD X W (.Compare a [.NotIn] [b] pos) (eOp (hDIn true) fa fb) := pd_cmp (op_notInD2 (units1 hr)) (sd_din true) ha hb hm
theorem ct_inD (hr : Room k X.A) (ha : PD X W a fa) (hb : PD X W b fb) (hm : behindInMarks .In b = false := by rfl) : PDT X W (.Compare a [.In] [b] pos) (tTr (eOp (hDIn false) fa fb)) := pdt_cmp (op_inD2 (units1 hr)) (sd_din false) ha hb hm
theorem ct_ninD (hr : Room k X.A) (ha : PD X W a fa) (hb : PD X W b fb) (hm : behindInMarks .NotIn b = false := by rfl) : PDT X W (.Compare a [.NotIn] [b] pos) (tTr (eOp (hDIn true) fa fb)) := pdt_cmp (op_notInD2 (units1 hr)) (sd_din true) ha hb hm
end
/-! ### d.get(k, x) -/
def isDc (m : Mem) (x : D) : Bool := (dicT m x).isSome || (dicK m x).isSome
def dGet2 (x y z : D) (m : Mem) : Res D := match dHas x y m with
  | some (some d) => .ok d m
  | some none => .ok z m
  | none => .bad
def eDGet2 (o a b : FE) : FE := fun ρ m => (o ρ m).bind fun x m1 => if isDc m1 x = true then (a ρ m1).bind fun y m2 => (b ρ m2).bind fun z m3 => dGet2 x y z m3 else .bad
section
variable {K : PySem.W.Frag} {g : Gh} {m : Mem}
theorem isDc_ok (rp : Rep K g m) {v : V} {d : D} (iv : IsG K g m v d) (h : isDc m d = true) : ∃ a, v = .ref a ∧ IsD g.H a := by
  unfold isDc at h
  rw [Bool.or_eq_true] at h
  rcases h with h | h
  · obtain ⟨kvs, e⟩ := Option.isSome_iff_exists.mp h
    obtain ⟨a, vs, rfl, rd, _⟩ := dicT_ok rp iv e
    exact ⟨a, rfl, .inr ⟨_, rd⟩⟩
  · obtain ⟨kvs, e⟩ := Option.isSome_iff_exists.mp h
    obtain ⟨a, vs, rfl, rd, _⟩ := dicK_ok rp iv e
    exact ⟨a, rfl, .inl ⟨_, rd⟩⟩
end
section
variable {X : Cx} {W : WX} {o a b : Expr} {fo fa fb : FE} {pos apos : Pos} {k : Nat}
theorem pd_get2 (hr : Room k X.A) (ho : PD X W o fo) (ha : PD X W a fa) (hb : PD X W b fb) (m : M2 X o "get" apos a b pos := by exact ⟨rfl, rfl, rfl, rfl⟩) : PD X W (.Call (.Attribute o "get" apos) [a, b] [] pos) (eDGet2 fo fa fb) := by
  obtain ⟨t, p, s⟩ := ho.ex
  obtain ⟨ta, pa, sa⟩ := ha.ex
  obtain ⟨tb, pb, sb⟩ := hb.ex
  refine ⟨⟨_, pe_dget2 (units1 hr) p pa pb m, fun g m σ ρ Q rp en q => s g m σ ρ _ rp en (pre_bind q fun g1 m1 x dx rp1 l1 ix q1 => ?_)⟩⟩
  split at q1
  · rename_i hd
    obtain ⟨ad, rfl, isd⟩ := isDc_ok rp1 ix hd
    refine ⟨ad, rfl, isd, sa g1 m1 σ ρ _ rp1 (en.le l1) (pre_bind q1 fun g2 m2 y dy rp2 l2 iy q2 => sb g2 m2 σ ρ _ rp2 ((en.le l1).le l2) (pre_bind q2 fun g3 m3 z dz rp3 l3 iz q3 => ?_))⟩
    have ix3 := (ix.le l2).le l3
    have iy3 := iy.le l3
    unfold dGet2 at q3
    split at q3
    · rename_i d e
      obtain ⟨a', r, ea, dg, f⟩ := dHas_ok rp3 ix3 iy3 e
      cases ea
      cases r with
      | none => exact f.elim
      | some v => exact ⟨some v, dg, pre_val rp3 q3 f⟩
    · rename_i e
      obtain ⟨a', r, ea, dg, f⟩ := dHas_ok rp3 ix3 iy3 e
      cases ea
      cases r with
      | some _ => exact f.elim
      | none => exact ⟨none, dg, pre_val rp3 q3 iz⟩
    · exact q3.elim
  · exact q1.elim
end
/-! ### d[k] = v -/
theorem dT_write {K : PySem.W.Frag} {g : Gh} {m : Mem} (rp : Rep K g m) {i : Nat} {xs ys : List (List Key × D)} {vs : List (List Key × V)} (e : m[i]? = some (.dT xs)) (hk : vs.map (·.1) = ys.map (·.1)) (il : IsGL K g m (vs.map (·.2)) (ys.map (·.2))) :
    Rep K ⟨upd g.H (g.al i) (.dT vs), g.F, g.al⟩ (m.set i (.dT ys)) ∧ Le g m ⟨upd g.H (g.al i) (.dT vs), g.F, g.al⟩ (m.set i (.dT ys)) := by
  obtain ⟨hf, ws, h1, _⟩ := rp.mem i _ e
  exact rp.write e (fun z => by cases z) rfl (fun ob u z => by rw [h1] at z; cases z) ⟨hf, vs, upd_same, hk, il⟩
theorem dK_write {K : PySem.W.Frag} {g : Gh} {m : Mem} (rp : Rep K g m) {i : Nat} {xs ys : List (Key × D)} {vs : List (Key × V)} (e : m[i]? = some (.dK xs)) (hk : vs.map (·.1) = ys.map (·.1)) (il : IsGL K g m (vs.map (·.2)) (ys.map (·.2))) :
    Rep K ⟨upd g.H (g.al i) (.dK vs), g.F, g.al⟩ (m.set i (.dK ys)) ∧ Le g m ⟨upd g.H (g.al i) (.dK vs), g.F, g.al⟩ (m.set i (.dK ys)) := by
  obtain ⟨hf, ws, h1, _⟩ := rp.mem i _ e
  exact rp.write e (fun z => by cases z) rfl (fun ob u z => by rw [h1] at z; cases z) ⟨hf, vs, upd_same, hk, il⟩
def dPut (x y d : D) (m : Mem) : Option Mem := match x with
  | .mref i => (match m[i]? with
    | some (.dT kvs) => (match y with
      | .tup ks => (match keysV ks with
        | some k => if kvs.length < sizeLine then some (m.set i (.dT (putT kvs k d))) else none
        | none => none)
      | _ => none)
    | some (.dK kvs) => (match keyV y with
      | some k => if kvs.length < sizeLine then some (m.set i (.dK (putT kvs k d))) else none
      | none => none)
    | _ => none)
  | _ => none
def gDx (fo fi : FE) : FG := fun d ρ m => (fo ρ m).bind fun x m1 => (fi ρ m1).bind fun y m2 => match dPut x y d m2 with
  | some m3 => .ok ρ m3
  | none => .bad
def rSetD : V → V → V → Hp → (Hp → Prop) → Prop := fun x y v H Q => ∃ a H', x = .ref a ∧ DPut H a y v H' ∧ Q H'
section
variable {X : Cx} {W : WX} {o e : Expr} {fo fe : FE} {k : Nat}
theorem dPut_ok {K : PySem.W.Frag} {g : Gh} {m m' : Mem} (rp : Rep K g m) {v w u : V} {x y d : D} (ix : IsG K g m v x) (iy : IsG K g m w y) (iv : IsG K g m u d) (h : dPut x y d m = some m') : ∃ a g', v = .ref a ∧ DPut g.H a w u g'.H ∧ Rep K g' m' ∧ Le g m g' m' := by
  unfold dPut at h
  split at h
  · rename_i i
    cases ix with
    | mref hi =>
    split at h
    · rename_i kvs e
      split at h
      · rename_i ks
        split at h
        · rename_i k ek
          split at h
          · rename_i hz
            cases h
            obtain ⟨hf, vs, h1, h2, h3⟩ := rp.mem i _ e
            cases iy with
            | tup s z l =>
              rename_i b ws
              have eb : g.H b = some (.tup ws) := rp.at_ s fun z => z
              rw [keysV_ok l ek] at eb
              obtain ⟨p1, p2⟩ := putT_is (k := k) iv h2 h3
              obtain ⟨rp', l'⟩ := dT_write rp e p1 p2
              refine ⟨_, _, rfl, DPut.t h1 eb ?_, rp', l'⟩
              have := congrArg List.length h2
              rw [List.length_map, List.length_map] at this
              omega
          · cases h
        · cases h
      · cases h
    · rename_i kvs e
      split at h
      · rename_i k ek
        split at h
        · rename_i hz
          cases h
          obtain ⟨hf, vs, h1, h2, h3⟩ := rp.mem i _ e
          obtain ⟨p1, p2⟩ := putT_is (k := k) iv h2 h3
          obtain ⟨rp', l'⟩ := dK_write rp e p1 p2
          have ew := keyV_ok iy ek
          subst ew
          refine ⟨_, _, rfl, DPut.k h1 ?_, rp', l'⟩
          have := congrArg List.length h2
          rw [List.length_map, List.length_map] at this
          omega
        · cases h
      · cases h
    · cases h
  · cases h
end
end DL
end
section
set_option maxRecDepth 100000
set_option maxHeartbeats 2000000
/-! The data layer, part 21: dicts with tuple keys are walked, by keys and by pairs. -/
namespace DL
open PySem L2
open Classical
/-! ### d[k] = v as a target -/
theorem set_dict {X : Cx} (hu : X.A.units + 1 < cLine) : PSet X rSetD := by
  intro pins s σ H o i v ov iv u Q I ro ri rv h
  obtain ⟨a, H', rfl, dp, q⟩ := h
  cases (show ov = Value.ref a from ro)
  exact d_setItem hu I dp ri rv fun s' I' => ⟨H', I', q⟩
theorem pdg_dx {X : Cx} {W : WX} {o e : Expr} {fo fe : FE} {k : Nat} {tpos : Pos} (hr : Room k X.A) (ho : PD X W o fo) (hi : PD X W e fe) (ha : ∀ v, assign (.Subscript o e tpos) X.env v = (do
      let ov ← holding [v] (eval o X.env)
      let iv ← holding [v, ov] (eval e X.env)
      standAt tpos
      holding [v, ov, iv] (setItem ov iv v)
      release [v, ov, iv] []) := by intro _; rfl) : PDG X W (.Subscript o e tpos) (gDx fo fe) [] := by
  obtain ⟨t, p, s⟩ := ho.ex
  obtain ⟨t', p', s'⟩ := hi.ex
  refine ⟨⟨_, pg_sub p p' (set_dict (units1 hr)) ha, fun g m σ ρ v d Q rp en iv q => s g m σ ρ _ rp en (pre_bind q fun g1 m1 x dx rp1 l1 ix q1 => s' g1 m1 σ ρ _ rp1 (en.le l1) (pre_bind q1 fun g2 m2 y dy rp2 l2 iy q2 => ?_))⟩⟩
  split at q2
  · rename_i m3 e3
    obtain ⟨a, g3, rfl, dp, rp3, l3⟩ := dPut_ok rp2 (ix.le l2) iy ((iv.le l1).le l2) e3
    exact ⟨a, g3.H, rfl, dp, q2 g3 σ rp3 l3 ⟨((en.le l1).le l2).le l3, Sl.refl _ _⟩⟩
  · exact q2.elim
/-! ### what a turn tells, with what the heap says of it -/
theorem Turn.more {P : Program} {w : World} {K : PySem.W.Frag} {tg : Expr} {J J' : It} {fp : List Addr} {it : Addr} {tn : Nat → Heap → Prop} (T : Turn P w K tg J fp it tn) (hg : ∀ i H, J'.go i H → J.go i H) (hs : ∀ i H, J'.stop i H → J.stop i H)
    (hy : ∀ (X : Cx) (pins : List (Addr × Obj)) (σ : St) (H H' : Hp) (s : Shared) (i : Nat) (x : V), Inv X pins σ H' s → J.yld i H x H' → J'.yld i H x H') : Turn P w K tg J' fp it tn where
  mem := T.mem
  obj := T.obj
  keep := T.keep
  item := fun X hP hw hK hc i pins s σ H E I hf st g => thn (T.item X hP hw hK hc i pins s σ H E I hf st (hg i H g)) fun r s1 ⟨u, hu, q⟩ =>
    ⟨u, hu, thn q fun _ s2 ⟨x, H', I2, rx, y, t2, f2⟩ => ⟨x, H', I2, rx, hy X pins σ H H' s2 i x I2 y, t2, f2⟩⟩
  done := fun X hP hw hK hc i pins s σ H E I hf st g => T.done X hP hw hK hc i pins s σ H E I hf st (hs i H g)
  self := T.self
/-- the keys of a locked dict: tuples of a size that can be -/
def Jk (d : Addr) (o : Obj) (kvs : List (List Key × V)) : It :=
  ⟨(Itkt d o kvs).go, fun i H x H' => (Itkt d o kvs).yld i H x H' ∧ ∀ q vs, H' q = some (.tup vs) → vs.length ≤ sizeLine, (Itkt d o kvs).stop⟩
theorem tup_len {X : Cx} {pins : List (Addr × Obj)} {σ : St} {H : Hp} {s : Shared} (I : Inv X pins σ H s) (q : Addr) (vs : List V) (h : H q = some (.tup vs)) : vs.length ≤ sizeLine := (I.hok q _ h).1
theorem dT_len {X : Cx} {pins : List (Addr × Obj)} {σ : St} {H : Hp} {s : Shared} {d : Addr} {kvs : List (List Key × V)} (I : Inv X pins σ H s) (h : Rd H d (.dT kvs)) : kvs.length ≤ sizeLine := (dt_rd I.hok h).1
def iKeysL (td : TE) : TI := fun σ H R => td σ H fun x H1 => ∃ d kvs, x = .ref d ∧ ((H1 d = some (.dT kvs) ∧ (kvs.length ≤ sizeLine → ∀ o, R (Jk d o kvs) (upd H1 d (.frz o (.dT kvs))))) ∨ ∃ o, H1 d = some (.frz o (.dT kvs)) ∧ (kvs.length ≤ sizeLine → R (Jk d o kvs) H1))
theorem pie_keys {X : Cx} {tg : Expr} {pins : List (Addr × Obj)} {σ : St} {H : Hp} {s : Shared} {d : Addr} {o : Obj} {kvs : List (List Key × V)} {R : It → Hp → Prop} (I : Inv X pins σ H s) (h : H d = some (.frz o (.dT kvs))) (q : R (Jk d o kvs) H) : wpAny (model X.prog X.w) X.A (pyIter (.ref d)) (PIE X pins σ tg R) X.xe s := by
  obtain ⟨hs, hgd, hx, es, ep, hdt, hsz, ent⟩ := I.frzT h
  have T := Turn.more (J' := Jk d o kvs) (turn_keysT (P := X.prog) (w := X.w) (K := X.K) (tg := tg) (d := d) (kvs := kvs) s.heap.objs.size hdt) (fun _ _ z => z) (fun _ _ z => z) fun X' pins' σ' H1 H2 s' i x I' y => ⟨y, tup_len I'⟩
  refine iter_keys hs hgd hx hdt (pi_one (tk := s.toks) I _ T ⟨_, Heap.get?_push_size _ rfl, rfl, ?_⟩ q)
  rw [hsz]
  rfl
theorem pi_keysL {X : Cx} {tg e : Expr} {td : TE} (he : PE X e td) : PI X tg e (iKeysL td) := by
  refine ⟨fun pins s σ H R I h => thn (he.run pins s σ H _ I h) fun u s1 ⟨x, H1, I1, rx, d, kvs, ex, q⟩ => ?_⟩
  subst ex
  cases (show u = Value.ref d from rx)
  rcases q with ⟨hd, q⟩ | ⟨o, hd, q⟩
  · obtain ⟨od, I2⟩ := I1.lock hd True.intro
    exact pie_keys I2 upd_same (q (dT_len I1 (.inl hd)) od)
  · exact pie_keys I1 hd (q (dT_len I1 (.inr ⟨o, hd⟩)))
/-! ### pairs of a locked dict with tuple keys -/
def Jp (d : Addr) (o : Obj) (kvs : List (List Key × V)) : It :=
  ⟨fun i H => H d = some (.frz o (.dT kvs)) ∧ i < kvs.length,
   fun i H x H' => ∃ (t q : Addr) (ks : List Key) (v : V), kvs[i]? = some (ks, v) ∧ x = .ref t ∧ H t = none ∧ H q = some (.tup (ks.map kV)) ∧ ks.length ≤ sizeLine ∧ H' = upd H t (.tup [.ref q, v]),
   fun i H => H d = some (.frz o (.dT kvs)) ∧ kvs.length ≤ i⟩
theorem frzT2 {X : Cx} {pins : List (Addr × Obj)} {σ : St} {H : Hp} {s : Shared} {d : Addr} {o : Obj} {kvs : List (List Key × V)} (I : Inv X pins σ H s) (h : H d = some (.frz o (.dT kvs))) :
    (d == sysModules) = false ∧ ∃ (es : Array DictEntry) (ep : Nat), s.heap.DictRaw d es ep ∧ o.data = .dict es ep ∧ es.size = kvs.length ∧
      ∀ (i : Nat) (hi : i < es.size) (ks : List Key) (v : V), kvs[i]? = some (ks, v) → ∃ q : Addr, es[i].key = .ref q ∧ H q = some (.tup (ks.map kV)) ∧ RelV v es[i].val := by
  obtain ⟨hg, z, hs, xs, pr, o', es, ep, ho, hx, hdt, he, _⟩ := I.hok d _ h
  rw [hg] at ho
  cases ho
  refine ⟨hs, es, ep, ⟨o, hg, hx, hdt⟩, hdt, ?_, fun i hi ks v e => ?_⟩
  · have l1 : es.size = xs.length := size_of_entries he
    have l2 : kvs.length = xs.length := Paired.length pr
    omega
  · obtain ⟨b, hb, e1, e2, e3⟩ := paired_get pr e
    have w := entry_at he i
    rw [hb, Array.getElem?_eq_getElem hi] at w
    have w' := Option.some.inj w
    refine ⟨b.2.1, ?_, e2, ?_⟩
    · rw [w']; rfl
    · rw [w']; exact e3
theorem turn_pairs {P : Program} {w : World} {K : PySem.W.Frag} {d : Addr} {o : Obj} {es0 : Array DictEntry} {ep0 : Nat} {kvs : List (List Key × V)} {elts : List Expr} {kk : Nat} {tpos : Pos} (it : Addr) (hod : o.data = .dict es0 ep0) :
    Turn P w K (.Tuple elts kk tpos) (Jp d o kvs) [it] it (fun i h => ∃ a b, IsItemIter h it d i kvs.length ep0 a b) where
  mem := by simp
  obj := by
    rintro i h ⟨a, b, e⟩ c hc
    rw [List.mem_singleton] at hc
    subst hc
    exact ⟨_, e, fun v z => nomatch z⟩
  keep := by
    rintro i h h' ⟨a, b, e⟩ k
    exact ⟨a, b, k it (by simp) _ e⟩
  item := by
    intro X hP hw hK hc i pins s σ H E I hf st hg
    subst hP hw hK
    obtain ⟨hd, hi⟩ := hg
    obtain ⟨hs, es, ep, hraw, hdt, hsz, ent⟩ := frzT2 I hd
    obtain ⟨rfl, rfl⟩ := dict_ep hod hdt
    obtain ⟨⟨ks, v⟩, hkv⟩ : ∃ p, kvs[i]? = some p := ⟨kvs[i], List.getElem?_eq_getElem hi⟩
    have hi' : i < es.size := by rw [hsz]; exact hi
    obtain ⟨q, hkey, hq, rv⟩ := ent i hi' ks v hkv
    obtain ⟨a, b, hit⟩ := st
    rw [← hsz] at hit
    have hlt : it < s.heap.objs.size := Heap.lt_size hit
    refine wpAny_pyNext_items_item_raw hit hraw hi' fun h' ho hT hz hk => ?_
    refine ⟨_, rfl, wpAny_letOwnedTupleGo_items (s := { s with heap := h' }) ho fun h2 he' sb => ?_⟩
    have hT2 : h2.get? s.heap.objs.size = some { cls := .type "tuple", data := .seq #[es[i].key, es[i].val] } := (sb.2 _ (Nat.ne_of_gt hlt)).trans hT
    have new : ObjOk X.prog X.w (upd H s.heap.objs.size (.tup [.ref q, v])) h2 s.heap.objs.size (.tup [.ref q, v]) :=
      ⟨show 2 ≤ sizeLine by decide, [es[i].key, es[i].val], .cons hkey (.cons rv .nil), ⟨_, hT2, rfl, _, rfl⟩⟩
    have I1 := I.turnedNew (t' := s.toks) (ch := [it]) (h' := h2) (fun c ob hc e => (sb.2 c (by simpa using hc)).trans (hk c ob (by simpa using hc) e)) hf (Nat.le_refl _) new
    have hl := tup_len I q _ hq
    rw [List.length_map] at hl
    refine ⟨.ref s.heap.objs.size, _, I1, rfl, ⟨_, q, ks, v, hkv, rfl, I.hok.fresh (Nat.le_refl _), hq, hl, rfl⟩, ⟨es[i].key, es[i].val, ?_⟩, fun c hc => ?_⟩
    · rw [← hsz]; exact he'
    · rw [List.mem_singleton] at hc
      rw [hc, upd_ne (Nat.ne_of_lt hlt)]
      exact (hf it (by simp)).1
  done := by
    intro X hP hw hK hc i pins s σ H E I hf st hg
    subst hP hw hK
    obtain ⟨hd, hi⟩ := hg
    obtain ⟨f0, f1, f2, f3, f4, f5⟩ := hf it (by simp)
    obtain ⟨hs, es, ep, hraw, hdt, hsz, ent⟩ := frzT2 I hd
    obtain ⟨rfl, rfl⟩ := dict_ep hod hdt
    obtain ⟨a, b, hit⟩ := st
    rw [← hsz] at hit
    exact wpAny_pyNext_items_end_raw (I.ok.hd hc) hit hraw (by rw [hsz]; exact hi) fun h' eb => ⟨rfl, I.turned (t' := s.toks) eb f0 f1 f3 f4 f5⟩
  self := fun A i s Q E st h => let ⟨_, _, e⟩ := st; PySem.W.kcp_self e h
def iItemsL (td : TE) : TI := fun σ H R => td σ H fun x H1 => ∃ d kvs, x = .ref d ∧ ((H1 d = some (.dT kvs) ∧ (kvs.length ≤ sizeLine → ∀ o, R (Jp d o kvs) (upd H1 d (.frz o (.dT kvs))))) ∨ ∃ o, H1 d = some (.frz o (.dT kvs)) ∧ (kvs.length ≤ sizeLine → R (Jp d o kvs) H1))
theorem pie_pairs {X : Cx} {elts : List Expr} {kk : Nat} {tpos cpos : Pos} {pins : List (Addr × Obj)} {σ : St} {H : Hp} {s : Shared} {d : Addr} {o : Obj} {kvs : List (List Key × V)} {R : It → Hp → Prop} (I : Inv X pins σ H s) (h : H d = some (.frz o (.dT kvs))) (q : R (Jp d o kvs) H) :
    wpAny (model X.prog X.w) X.A (callWith cpos (.builtin "dict.items") [.ref d] [] []) (fun v s1 => wpAny (model X.prog X.w) X.A (pyIter v) (PIE X pins σ (.Tuple elts kk tpos) R) X.xe s1) X.xe s := by
  obtain ⟨hs, es, ep, hraw, hdt, hsz, ent⟩ := frzT2 I h
  have I2 : Inv X pins σ H { s with heap := s.heap.push { cls := .type "dict_items", data := .fields #[.ref d] } } := I.kept (t' := s.toks) fun b ob e => Heap.get?_push_of_some _ e
  refine method_meetsIn F.slot_dict_items F.entry_dict_items rfl (PySem.evalArgs_none ⟨rfl, hraw.typeIs, F.args_dict_items_1 _, _, meets_dict_items_raw d hs, ⟨es, ep, hraw⟩, ?_⟩)
  refine wpAny_pyIter_items_raw (d := d) ⟨_, Heap.get?_push_size _ rfl, rfl, rfl⟩ (hraw.at fun ob e => Heap.get?_push_of_some _ e) (pi_one (tk := s.toks) I2 _ (turn_pairs _ hdt) ⟨.none, .none, ?_⟩ q)
  rw [← hsz]
  exact Heap.get?_push_size _ rfl
theorem pi_itemsL {X : Cx} {e : Expr} {td : TE} {apos cpos : Pos} {elts : List Expr} {kk : Nat} {tpos : Pos} (he : PE X e td) (hbase : attributeBase e "items" X.env (eval e X.env) = eval e X.env := by rfl) (hline : (apos.endLine == cpos.line) = true := by rfl) :
    PI X (.Tuple elts kk tpos) (.Call (.Attribute e "items" apos) [] [] cpos) (iItemsL td) := by
  refine ⟨fun pins s σ H R I h => wpAny_Call_method (T := "dict") (id := "dict.items") hbase rfl hline F.plainAttrs_dict F.slot_dict_items F.type_dict_items (thn (he.run pins s σ H _ I h) fun u s1 ⟨x, H1, I1, rx, d, kvs, ex, q⟩ => ?_)⟩
  subst ex
  cases (show u = Value.ref d from rx)
  rcases q with ⟨hd, q⟩ | ⟨o, hd, q⟩
  · obtain ⟨od, I2⟩ := I1.lock hd True.intro
    obtain ⟨_, es, ep, hraw, _⟩ := frzT2 I2 upd_same
    refine ⟨hraw.typeIs, ?_, pie_pairs I2 upd_same (q (dT_len I1 (.inl hd)) od)⟩
    rintro b ⟨⟩
    obtain ⟨ob, hob, hx, _⟩ := hraw
    exact ⟨ob, hob, hx.2.1⟩
  · obtain ⟨_, es, ep, hraw, _⟩ := frzT2 I1 hd
    refine ⟨hraw.typeIs, ?_, pie_pairs I1 hd (q (dT_len I1 (.inr ⟨o, hd⟩)))⟩
    rintro b ⟨⟩
    obtain ⟨ob, hob, hx, _⟩ := hraw
    exact ⟨ob, hob, hx.2.1⟩
end DL
end
section
set_option maxRecDepth 100000
set_option maxHeartbeats 2000000
/-! The data layer, part 22: dicts with tuple keys are walked: the readings of data; locks. -/
namespace DL
open PySem L2
open Classical
section
variable {K : PySem.W.Frag} {g : Gh} {m : Mem}
/-- a frozen dict is locked for ever -/
theorem Rep.lockF (rp : Rep K g m) {d : Addr} {u : HO} (hu : isDic u) (hF : g.F d = some u) (hH : g.H d = some u) (o : Obj) : Rep K ⟨upd g.H d (.frz o u), g.F, g.al⟩ m ∧ Le g m ⟨upd g.H d (.frz o u), g.F, g.al⟩ m := by
  refine ⟨⟨fun b v f => ?_, fun i v e => ?_, rp.inj⟩, ⟨fun _ _ f => f, Nat.le_refl _, fun _ _ => rfl, fun b v e nt f l => ⟨?_, f, l⟩, fun b ob v e => ?_, fun _ _ e _ => e⟩⟩
  · by_cases hb : b = d
    · subst hb
      rw [show (⟨upd g.H b (.frz o u), g.F, g.al⟩ : Gh).F b = some u from hF] at f
      cases f
      exact .inr ⟨hu, o, upd_same⟩
    · rcases rp.sub b v f with e | ⟨z, ob, e⟩
      · exact .inl ((upd_ne hb).trans e)
      · exact .inr ⟨z, ob, (upd_ne hb).trans e⟩
  · by_cases hn : v = .gone
    · subst hn; trivial
    · obtain ⟨w, hw, hf⟩ := (rp.mem i v e).there hn
      have ne : g.al i ≠ d := fun z => by rw [z, hF] at hf; cases hf
      exact (rp.mem i v e).step (g := g) (g' := ⟨upd g.H d (.frz o u), g.F, g.al⟩) (upd_ne ne) (fun f => f) (fun _ _ f => f) (fun _ _ => rfl) (Nat.le_refl _)
  · have ne : b ≠ d := fun z => by rw [z, hF] at f; cases f
    exact (upd_ne ne).trans e
  · have ne : b ≠ d := fun z => by
      rw [z, hH] at e
      cases e
      exact hu
    exact (upd_ne ne).trans e
theorem iter_dk {d : Addr} {o : Obj} {vs : List (List Key × V)} {kvs : List (List Key × D)} (hz : vs.length ≤ sizeLine) (h : g.H d = some (.frz o (.dT vs))) (hk : vs.map (·.1) = kvs.map (·.1)) : IterOk K (Jk d o vs) g m (kvs.map fun p => .tup (p.1.map keyD)) where
  sz := by
    have := congrArg List.length hk
    rw [List.length_map, List.length_map] at this
    rw [List.length_map]
    omega
  go := fun g' m' rp le i x e => by
    rw [List.getElem?_map] at e
    obtain ⟨p, hp, rfl⟩ := Option.map_eq_some_iff.mp e
    have ek := congrArg (fun l : List (List Key) => l[i]?) hk
    simp only [List.getElem?_map, hp, Option.map_some] at ek
    obtain ⟨pv, hpv, ep⟩ := Option.map_eq_some_iff.mp ek
    have hd := le.frz _ _ _ h
    refine ⟨⟨hd, (List.getElem?_eq_some_iff.mp hpv).1⟩, fun v H' y => ?_⟩
    obtain ⟨⟨rfl, k, u, q, h1, rfl, h2⟩, h3⟩ := y
    rw [hpv] at h1
    cases h1
    obtain ⟨rp', l'⟩ := rp.adoptT h2
    refine ⟨⟨g'.H, upd g'.F q (.tup (k.map kV)), g'.al⟩, rfl, rp', l', .tup (vs := k.map kV) upd_same (h3 _ _ h2) ?_⟩
    rw [← ep]
    exact keysD_is k
  stop := fun g' m' rp le => by
    refine ⟨le.frz _ _ _ h, ?_⟩
    have := congrArg List.length hk
    rw [List.length_map, List.length_map] at this
    rw [List.length_map]
    omega
theorem iter_dp {d : Addr} {o : Obj} {vs : List (List Key × V)} {kvs : List (List Key × D)} (hz : vs.length ≤ sizeLine) (h : g.H d = some (.frz o (.dT vs))) (hk : vs.map (·.1) = kvs.map (·.1)) (il : IsGL K g m (vs.map (·.2)) (kvs.map (·.2))) : IterOk K (Jp d o vs) g m (kvs.map fun p => .tup [.tup (p.1.map keyD), p.2]) where
  sz := by
    have := congrArg List.length hk
    rw [List.length_map, List.length_map] at this
    rw [List.length_map]
    omega
  go := fun g' m' rp le i x e => by
    rw [List.getElem?_map] at e
    obtain ⟨p, hp, rfl⟩ := Option.map_eq_some_iff.mp e
    have ek := congrArg (fun l : List (List Key) => l[i]?) hk
    simp only [List.getElem?_map, hp, Option.map_some] at ek
    obtain ⟨pv, hpv, ep⟩ := Option.map_eq_some_iff.mp ek
    have hd := le.frz _ _ _ h
    obtain ⟨w, hw, iw⟩ := (il.lw le).get (i := i) (d := p.2) (by rw [List.getElem?_map, hp]; rfl)
    rw [List.getElem?_map, hpv] at hw
    cases hw
    refine ⟨⟨hd, (List.getElem?_eq_some_iff.mp hpv).1⟩, fun v H' y => ?_⟩
    obtain ⟨t, q, k, u, h1, rfl, h2, h3, h4, rfl⟩ := y
    rw [hpv] at h1
    cases h1
    obtain ⟨rp1, l1⟩ := rp.adoptT h3
    have iq : IsG K ⟨g'.H, upd g'.F q (.tup (k.map kV)), g'.al⟩ m' (.ref q) (.tup (p.1.map keyD)) := by
      refine .tup (vs := k.map kV) upd_same (by rw [List.length_map]; exact h4) ?_
      rw [← ep]
      exact keysD_is k
    obtain ⟨g2, e2, rp2, l2, i2⟩ := new_pair rp1 (T := t) (x := .ref q) (y := u) h2 iq (iw.le l1)
    exact ⟨g2, e2, rp2, l1.trans l2, i2⟩
  stop := fun g' m' rp le => by
    refine ⟨le.frz _ _ _ h, ?_⟩
    have := congrArg List.length hk
    rw [List.length_map, List.length_map] at this
    rw [List.length_map]
    omega
end
/-- a dict that can be walked: frozen, or locked -/
def dicW (m : Mem) : D → Option (List (List Key × D))
  | .dT kvs => some kvs
  | .mref i => match m[i]? with
    | some (.lkT kvs) => some kvs
    | _ => none
  | _ => none
def keysI (x : D) (m : Mem) : Res (List D) := match dicW m x with
  | some kvs => .ok (kvs.map fun p => .tup (p.1.map keyD)) m
  | none => .bad
def itemsI (x : D) (m : Mem) : Res (List D) := match dicW m x with
  | some kvs => .ok (kvs.map fun p => .tup [.tup (p.1.map keyD), p.2]) m
  | none => .bad
def iKy (a : FE) : FI := fun ρ m => (a ρ m).bind fun x m1 => keysI x m1
def iIt (a : FE) : FI := fun ρ m => (a ρ m).bind fun x m1 => itemsI x m1
/-- the walk of a dict begins -/
theorem dicW_ok {K : PySem.W.Frag} {g : Gh} {m : Mem} (rp : Rep K g m) {v : V} {x : D} {kvs : List (List Key × D)} (iv : IsG K g m v x) (h : dicW m x = some kvs) : ∃ d vs, v = .ref d ∧ vs.map (·.1) = kvs.map (·.1) ∧ IsGL K g m (vs.map (·.2)) (kvs.map (·.2)) ∧
    ((g.H d = some (.dT vs) ∧ ∀ o, Rep K ⟨upd g.H d (.frz o (.dT vs)), g.F, g.al⟩ m ∧ Le g m ⟨upd g.H d (.frz o (.dT vs)), g.F, g.al⟩ m) ∨ ∃ o, g.H d = some (.frz o (.dT vs))) := by
  cases iv with
  | dT s k l =>
    cases h
    refine ⟨_, _, rfl, k, l, ?_⟩
    rcases rp.sub _ _ s with e | ⟨_, ob, e⟩
    · exact .inl ⟨e, fun o => rp.lockF (u := .dT _) True.intro s e o⟩
    · exact .inr ⟨ob, e⟩
  | mref hi =>
    rename_i i
    simp only [dicW] at h
    split at h
    · rename_i xs e
      cases h
      obtain ⟨_, ob, vs, h1, h2, h3⟩ := rp.mem i _ e
      exact ⟨_, vs, rfl, h2, h3, .inr ⟨ob, h1⟩⟩
    · cases h
  | _ => cases h
section
variable {X : Cx} {W : WX} {tg e : Expr} {f : FE}
theorem pdi_keys (h : PD X W e f) : PDI X W tg e (iKy f) := by
  obtain ⟨t, p, s⟩ := h.ex
  refine ⟨⟨_, pi_keysL p, fun g m σ ρ R rp en q => s g m σ ρ _ rp en (pre_bind q fun g1 m1 x dx rp1 l1 ix q1 => ?_)⟩⟩
  unfold keysI at q1
  split at q1
  · rename_i kvs ek
    obtain ⟨d, vs, rfl, hk, il, ho⟩ := dicW_ok rp1 ix ek
    refine ⟨d, vs, rfl, ?_⟩
    rcases ho with ⟨hd, ho⟩ | ⟨o, hd⟩
    · exact .inl ⟨hd, fun hz o => q1 _ _ (ho o).1 (ho o).2 (iter_dk hz upd_same hk)⟩
    · exact .inr ⟨o, hd, fun hz => q1 g1 _ rp1 (Le.refl _ _) (iter_dk hz hd hk)⟩
  · exact q1.elim
theorem pdi_items {elts : List Expr} {kk : Nat} {tpos apos cpos : Pos} (h : PD X W e f) (hb : attributeBase e "items" X.env (eval e X.env) = eval e X.env := by rfl) (hline : (apos.endLine == cpos.line) = true := by rfl) : PDI X W (.Tuple elts kk tpos) (.Call (.Attribute e "items" apos) [] [] cpos) (iIt f) := by
  obtain ⟨t, p, s⟩ := h.ex
  refine ⟨⟨_, pi_itemsL p hb hline, fun g m σ ρ R rp en q => s g m σ ρ _ rp en (pre_bind q fun g1 m1 x dx rp1 l1 ix q1 => ?_)⟩⟩
  unfold itemsI at q1
  split at q1
  · rename_i kvs ek
    obtain ⟨d, vs, rfl, hk, il, ho⟩ := dicW_ok rp1 ix ek
    refine ⟨d, vs, rfl, ?_⟩
    rcases ho with ⟨hd, ho⟩ | ⟨o, hd⟩
    · exact .inl ⟨hd, fun hz o => q1 _ _ (ho o).1 (ho o).2 (iter_dp hz upd_same hk (il.le (ho o).2))⟩
    · exact .inr ⟨o, hd, fun hz => q1 g1 _ rp1 (Le.refl _ _) (iter_dp hz hd hk il)⟩
  · exact q1.elim
end
/-! ### a mutable dict is locked while it is walked -/
def lkAtD (ρ : EnvD) (m : Mem) (i : Nat) : Option (Nat × List (List Key × D)) := match ρ[i]? with
  | some (some (.mref j)) => (match m[j]? with
    | some (.dT kvs) => some (j, kvs)
    | _ => none)
  | _ => none
theorem lkAtD_ok {ρ : EnvD} {m : Mem} {i j : Nat} {kvs : List (List Key × D)} (h : lkAtD ρ m i = some (j, kvs)) : m[j]? = some (.dT kvs) := by
  unfold lkAtD at h
  split at h
  · split at h
    · rename_i e; cases h; exact e
    · cases h
  · cases h
def unlkD {B : Type} (j : Nat) (kvs : List (List Key × D)) : Res B → Res B
  | .ok b m => .ok b (m.set j (.dT kvs))
  | _ => .bad
def eLkD (i : Nat) (f : FE) : FE := fun ρ m => match lkAtD ρ m i with
  | some (j, kvs) => unlkD j kvs (f ρ (m.set j (.lkT kvs)))
  | none => f ρ m
def unlkDS (j : Nat) (kvs : List (List Key × D)) : RS → RS
  | .nx ρ m => .nx ρ (m.set j (.dT kvs))
  | .rt d m => .rt d (m.set j (.dT kvs))
  | .bk ρ m => .bk ρ (m.set j (.dT kvs))
  | .ct ρ m => .ct ρ (m.set j (.dT kvs))
  | _ => .bad
def sLkD (i : Nat) (f : FS) : FS := fun ρ m => match lkAtD ρ m i with
  | some (j, kvs) => unlkDS j kvs (f ρ (m.set j (.lkT kvs)))
  | none => f ρ m
section
variable {K : PySem.W.Frag} {g : Gh} {m : Mem} {j : Nat} {kvs : List (List Key × D)}
theorem lockM (rp : Rep K g m) (e : m[j]? = some (.dT kvs)) : ∃ vs, g.H (g.al j) = some (.dT vs) ∧ ∀ o, Rep K ⟨upd g.H (g.al j) (.frz o (.dT vs)), g.F, g.al⟩ (m.set j (.lkT kvs)) := by
  obtain ⟨hf, vs, h1, h2, h3⟩ := rp.mem j _ e
  exact ⟨vs, h1, fun o => (rp.write (mo' := .lkT kvs) (o := .frz o (.dT vs)) e (fun z => by cases z) rfl (fun ob u z => by rw [h1] at z; cases z) ⟨hf, o, vs, upd_same, h2, h3⟩).1⟩
theorem unlockM (rp : Rep K g m) (e : m[j]? = some (.dT kvs)) {vs : List (List Key × V)} (hH : g.H (g.al j) = some (.dT vs)) {o : Obj} {g2 : Gh} {m2 : Mem} (rp2 : Rep K g2 m2) (l : Le ⟨upd g.H (g.al j) (.frz o (.dT vs)), g.F, g.al⟩ (m.set j (.lkT kvs)) g2 m2) :
    g2.H (g.al j) = some (.frz o (.dT vs)) ∧ Rep K ⟨upd g2.H (g.al j) (.dT vs), g2.F, g2.al⟩ (m2.set j (.dT kvs)) ∧ Le g m ⟨upd g2.H (g.al j) (.dT vs), g2.F, g2.al⟩ (m2.set j (.dT kvs)) := by
  have hj : j < m.length := (List.getElem?_eq_some_iff.mp e).1
  have hH2 : g2.H (g.al j) = some (.frz o (.dT vs)) := l.frz _ _ _ upd_same
  have e2 : m2[j]? = some (.lkT kvs) := l.lk j _ (List.getElem?_set_self hj) rfl
  have ha : g2.al j = g.al j := l.al j (by rw [List.length_set]; exact hj)
  have hj2 : j < m2.length := (List.getElem?_eq_some_iff.mp e2).1
  have lj2 : Live m2 j := ⟨_, e2, fun z => by cases z⟩
  have lv : ∀ i, Live (m2.set j (.dT kvs)) i → Live m2 i := fun i ⟨u, hu, n⟩ => by
    by_cases hi : j = i
    · subst hi; exact lj2
    · rw [List.getElem?_set_ne hi] at hu; exact ⟨u, hu, n⟩
  obtain ⟨hf2, ob, ws, w1, w2, w3⟩ := rp2.mem j _ e2
  rw [ha, hH2] at w1
  cases w1
  rw [ha] at hf2
  have lv1 : ∀ i, Live m i → Live (m.set j (.lkT kvs)) i := fun i ⟨u, hu, n⟩ => by
    by_cases hi : j = i
    · subst hi; exact ⟨_, List.getElem?_set_self hj, fun z => by cases z⟩
    · exact ⟨u, by rw [List.getElem?_set_ne hi]; exact hu, n⟩
  have lv0 : ∀ i, Live (m.set j (.lkT kvs)) i → Live m i := fun i ⟨u, hu, n⟩ => by
    by_cases hi : j = i
    · subst hi; exact ⟨_, e, fun z => by cases z⟩
    · rw [List.getElem?_set_ne hi] at hu; exact ⟨u, hu, n⟩
  have n1 := l.n
  rw [List.length_set] at n1
  refine ⟨hH2, ⟨fun b u f => ?_, fun i u q => ?_, fun i k a b c => rp2.inj i k (lv i a) (lv k b) c⟩, ⟨l.F, by rw [List.length_set]; exact n1, fun i h => l.al i (by rw [List.length_set]; exact h), fun b u h nt f q => ?_, fun b ob u h => ?_, fun i u h k => ?_⟩⟩
  · have ne : b ≠ g.al j := fun z => by rw [z] at f; rw [show (⟨upd g2.H (g.al j) (.dT vs), g2.F, g2.al⟩ : Gh).F (g.al j) = g2.F (g.al j) from rfl, hf2] at f; cases f
    rcases rp2.sub b u f with h | ⟨z, ob, h⟩
    · exact .inl ((upd_ne ne).trans h)
    · exact .inr ⟨z, ob, (upd_ne ne).trans h⟩
  · rw [List.length_set]
    by_cases hi : j = i
    · subst hi
      rw [List.getElem?_set_self hj2] at q
      cases q
      refine ⟨by rw [show (⟨upd g2.H (g.al j) (.dT vs), g2.F, g2.al⟩ : Gh).al j = g.al j from ha]; exact hf2, vs, by rw [show (⟨upd g2.H (g.al j) (.dT vs), g2.F, g2.al⟩ : Gh).al j = g.al j from ha]; exact upd_same, w2, w3⟩
    · rw [List.getElem?_set_ne hi] at q
      by_cases hu : u = .gone
      · subst hu; trivial
      · have ne : g2.al i ≠ g.al j := fun z => hi (rp2.inj j i lj2 ⟨u, q, hu⟩ (ha.trans z.symm))
        exact (rp2.mem i u q).step (g := g2) (g' := ⟨upd g2.H (g.al j) (.dT vs), g2.F, g2.al⟩) (upd_ne ne) (fun f => f) (fun _ _ f => f) (fun _ _ => rfl) (Nat.le_refl _)
  · have ne : b ≠ g.al j := fun z => q j ⟨_, e, fun z => by cases z⟩ z.symm
    obtain ⟨a, b', c⟩ := l.oth b u ((upd_ne ne).trans h) nt f fun i li => q i (lv0 i li)
    exact ⟨(upd_ne ne).trans a, b', fun i li => c i (lv i li)⟩
  · have ne : b ≠ g.al j := fun z => by rw [z, hH] at h; cases h
    exact (upd_ne ne).trans (l.frz b ob u ((upd_ne ne).trans h))
  · have hi : j ≠ i := fun z => by subst z; rw [e] at h; cases h; cases k
    rw [List.getElem?_set_ne hi]
    exact l.lk i u (by rw [List.getElem?_set_ne hi]; exact h) k
end
theorem EnvOk.reH {K : PySem.W.Frag} {g : Gh} {m m' : Mem} {σ : St} {ρ : EnvD} (h : EnvOk K g m σ ρ) (H' : Hp) (e : m.length = m'.length) : EnvOk K ⟨H', g.F, g.al⟩ m' σ ρ := ⟨h.len, fun i d q => let ⟨v, a, b⟩ := h.at_ i d q; ⟨v, a, b.len e⟩⟩
theorem pd_lkD {X : Cx} {W : WX} {e : Expr} {f : FE} (i : Nat) (h : PD X W e f) : PD X W e (eLkD i f) := by
  obtain ⟨t, p, s⟩ := h.ex
  refine ⟨⟨_, PE.or (pe_lock p) p, fun g m σ ρ Q rp en q => ?_⟩⟩
  unfold eLkD at q
  split at q
  · rename_i j kvs ej
    have e := lkAtD_ok ej
    obtain ⟨vs, hH, hl⟩ := lockM rp e
    refine .inl ⟨g.al j, .dT vs, hH, True.intro, fun od => s ⟨upd g.H (g.al j) (.frz od (.dT vs)), g.F, g.al⟩ (m.set j (.lkT kvs)) σ ρ _ (hl od) (en.reH _ (by rw [List.length_set])) ?_⟩
    cases hf : f ρ (m.set j (.lkT kvs)) with
    | bad => rw [hf] at q; exact q.elim
    | exc x m2 => rw [hf] at q; exact q.elim
    | ok d m2 =>
      rw [hf] at q
      intro g2 v rp2 l2 iv
      obtain ⟨h1, rp3, l3⟩ := unlockM rp e hH rp2 l2
      exact ⟨h1, q ⟨upd g2.H (g.al j) (.dT vs), g2.F, g2.al⟩ v rp3 l3 (iv.len (by rw [List.length_set]))⟩
  · exact .inr (s g m σ ρ Q rp en q)
theorem pds_lkD {X : Cx} {W : WX} {st : Stmt} {f : FS} (i : Nat) (h : PDS X W st f) : PDS X W st (sLkD i f) := by
  obtain ⟨t, p, s⟩ := h.ex
  refine ⟨⟨_, PS.or (ps_lock p) p, fun g m σ ρ D rp en q => ?_⟩⟩
  unfold sLkD at q
  split at q
  · rename_i j kvs ej
    have e := lkAtD_ok ej
    obtain ⟨vs, hH, hl⟩ := lockM rp e
    refine .inl ⟨g.al j, .dT vs, hH, True.intro, fun od => s ⟨upd g.H (g.al j) (.frz od (.dT vs)), g.F, g.al⟩ (m.set j (.lkT kvs)) σ ρ _ (hl od) (en.reH _ (by rw [List.length_set])) ?_⟩
    cases hf : f ρ (m.set j (.lkT kvs)) with
    | bad => rw [hf] at q; exact q.elim
    | exc x ρ2 m2 => rw [hf] at q; exact q.elim
    | nx ρ2 m2 =>
      rw [hf] at q
      intro g2 v rp2 l2 iv
      obtain ⟨h1, rp3, l3⟩ := unlockM rp e hH rp2 l2
      exact ⟨h1, q ⟨upd g2.H (g.al j) (.dT vs), g2.F, g2.al⟩ v rp3 l3 (iv.reH _ (by rw [List.length_set]))⟩
    | bk ρ2 m2 =>
      rw [hf] at q
      intro g2 v rp2 l2 iv
      obtain ⟨h1, rp3, l3⟩ := unlockM rp e hH rp2 l2
      exact ⟨h1, q ⟨upd g2.H (g.al j) (.dT vs), g2.F, g2.al⟩ v rp3 l3 (iv.reH _ (by rw [List.length_set]))⟩
    | ct ρ2 m2 =>
      rw [hf] at q
      intro g2 v rp2 l2 iv
      obtain ⟨h1, rp3, l3⟩ := unlockM rp e hH rp2 l2
      exact ⟨h1, q ⟨upd g2.H (g.al j) (.dT vs), g2.F, g2.al⟩ v rp3 l3 (iv.reH _ (by rw [List.length_set]))⟩
    | rt d m2 =>
      rw [hf] at q
      intro g2 v rp2 l2 iv
      obtain ⟨h1, rp3, l3⟩ := unlockM rp e hH rp2 l2
      exact ⟨h1, q ⟨upd g2.H (g.al j) (.dT vs), g2.F, g2.al⟩ v rp3 l3 (iv.len (by rw [List.length_set]))⟩
  · exact .inr (s g m σ ρ D rp en q)
end DL
end
section
set_option maxRecDepth 100000
set_option maxHeartbeats 2000000
/-! The data layer, part 23: dicts with tuple keys are made of pairs. -/
namespace DL
open PySem L2
open Classical
section
variable {κ : Type} [DecidableEq κ]
def allK (kvs more : List (κ × V)) : List (κ × V) := more.foldl (fun acc p => putK acc p.1 p.2) kvs
def allT (kvs more : List (κ × D)) : List (κ × D) := more.foldl (fun acc p => putT acc p.1 p.2) kvs
theorem allK_len : ∀ (more kvs : List (κ × V)), (allK kvs more).length ≤ kvs.length + more.length
  | [], kvs => Nat.le_refl _
  | p :: r, kvs => by
    have h1 := allK_len r (putK kvs p.1 p.2)
    have h2 := length_putK kvs p.1 p.2
    show (allK (putK kvs p.1 p.2) r).length ≤ _
    rw [List.length_cons]
    omega
theorem allT_is {K : PySem.W.Frag} {F : Hp} {al : Nat → Addr} {n : Nat} : ∀ {ms : List (κ × V)} {ns : List (κ × D)} {vs : List (κ × V)} {ds : List (κ × D)}, ms.map (·.1) = ns.map (·.1) → IsL K F al n (ms.map (·.2)) (ns.map (·.2)) → vs.map (·.1) = ds.map (·.1) → IsL K F al n (vs.map (·.2)) (ds.map (·.2)) →
    (allK vs ms).map (·.1) = (allT ds ns).map (·.1) ∧ IsL K F al n ((allK vs ms).map (·.2)) ((allT ds ns).map (·.2))
  | [], [], _, _, _, _, h, l => ⟨h, l⟩
  | [], _ :: _, _, _, z, _, _, _ => by simp at z
  | _ :: _, [], _, _, z, _, _, _ => by simp at z
  | p :: ms, q :: ns, vs, ds, z, y, h, l => by
    simp only [List.map_cons, List.cons.injEq] at z
    cases y with
    | cons i t =>
      obtain ⟨a, b⟩ := putT_is (k := q.1) i h l
      have r := allT_is z.2 t a b
      have e1 : allK vs (p :: ms) = allK (putK vs q.1 p.2) ms := by show allK (putK vs p.1 p.2) ms = _; rw [z.1]
      have e2 : allT ds (q :: ns) = allT (putT ds q.1 q.2) ns := rfl
      rw [e1, e2]
      exact r
end
/-- what stands in a pair: the key's tuple, the value -/
structure PairV where
  t : Addr
  q : Addr
  k : List Key
  v : V
def PairOk (H : Hp) (p : PairV) : Prop := H p.t = some (.tup [.ref p.q, p.v]) ∧ H p.q = some (.tup (p.k.map kV))
theorem kt_all {H : Hp} : ∀ {ps : List PairV} {us : List Value} {kvs : List (List Key × V)} {xs : List (List Key × Addr × Value)}, (∀ p ∈ ps, PairOk H p) → Paired (fun (p : PairV) u => RelV p.v u) ps us → KT H kvs xs →
    KT H (allK kvs (ps.map fun p => (p.k, p.v))) (storedAllH xs ((ps.zip us).map fun z => (z.1.k, z.1.q, z.2)))
  | [], _, _, _, _, .nil, r => r
  | p :: ps, u :: us, kvs, xs, h, .cons r rr, k => by
    have h1 := h p (by simp)
    have z := kt_all (fun p hp => h p (by simp [hp])) rr (KT.put k p.k h1.2 r)
    exact z
theorem paired_len {α β : Type} {F : α → β → Prop} {l₁ : List α} {l₂ : List β} (h : Paired F l₁ l₂) : l₁.length = l₂.length := Paired.length h
/-- the values of the pairs, in the heap -/
theorem pairs_at {X : Cx} {pins : List (Addr × Obj)} {σ : St} {H : Hp} {s : Shared} (I : Inv X pins σ H s) : ∀ ps : List PairV, (∀ p ∈ ps, PairOk H p) → ∃ us : List Value, Paired (fun (p : PairV) u => RelV p.v u) ps us ∧ us.length = ps.length ∧ ∀ (j : Nat) (p : PairV) (u : Value), ps[j]? = some p → us[j]? = some u → s.heap.IsTuple p.t #[.ref p.q, u]
  | [], _ => ⟨[], .nil, rfl, fun j p u h _ => by simp at h⟩
  | p :: ps, h => by
    obtain ⟨us, r, hl, hu⟩ := pairs_at I ps fun p hp => h p (by simp [hp])
    obtain ⟨_, its, rv, o, ho, hc, n, hd⟩ := (show ObjOk X.prog X.w H s.heap p.t (.tup [.ref p.q, p.v]) from I.hok _ _ (h p (by simp)).1)
    cases rv with
    | cons r1 rr =>
      cases rr with
      | cons r2 rr =>
        cases rr
        cases r1
        rename_i u2
        refine ⟨u2 :: us, .cons r2 r, by simp [hl], fun j q u h1 h2 => ?_⟩
        cases j with
        | zero =>
          simp at h1 h2
          subst h1 h2
          exact ⟨o, ho, hc, n, hd⟩
        | succ j =>
          simp at h1 h2
          exact hu j q u h1 h2
def rDictT (K : PySem.W.Frag) : List V → Hp → VK → Prop := fun xs H Q => ∃ (a : Addr) (ps : List PairV), xs = [.ref a] ∧ SqL K H a (ps.map fun p => .ref p.t) ∧ (∀ p ∈ ps, PairOk H p) ∧ ∀ r, H r = none → Q (.ref r) (upd H r (.dT (allK [] (ps.map fun p => (p.k, p.v)))))
theorem dict_laid2 {X : Cx} {pins : List (Addr × Obj)} {σ : St} {H : Hp} {s : Shared} {tk : Nat} {h' : Heap} {kvs : List (List Key × V)} {xs : List (List Key × Addr × Value)} {p : Addr} (I : Inv X pins σ H s) (k : ∀ b o, s.heap.get? b = some o → h'.get? b = some o) (hp : s.heap.objs.size ≤ p) (hl : kvs.length ≤ sizeLine) (r : KT H kvs xs) (d : h'.DictOfH (tupleKind (mixKind X.prog X.w)) p xs) :
    Inv X pins σ (upd H p (.dT kvs)) { s with heap := h', toks := tk } := by
  have hm : (p == sysModules) = false := beq_eq_false_iff_ne.mpr (Nat.ne_of_gt (Nat.lt_of_lt_of_le I.big hp))
  have hf : H p = none := I.hok.fresh hp
  obtain ⟨q, es, ep, hq, h2, h3, h4, _, h5⟩ := d
  refine I.laid (t' := tk) k hp ⟨hl, hm, xs, r.keeps fun c ys ec => ?_, q, es, ep, hq, h2, h3, h4, h5⟩
  rw [upd_ne (ne_of_none ec hf)]
  exact ec
theorem dict_laid {X : Cx} {pins : List (Addr × Obj)} {σ : St} {H : Hp} {s : Shared} {tk : Nat} {h' : Heap} {kvs : List (List Key × V)} {xs : List (List Key × Addr × Value)} (I : Inv X pins σ H s) (k : ∀ b o, s.heap.get? b = some o → h'.get? b = some o) (hl : kvs.length ≤ sizeLine) (r : KT H kvs xs) (d : h'.DictOfH (tupleKind (mixKind X.prog X.w)) s.heap.objs.size xs) :
    Inv X pins σ (upd H s.heap.objs.size (.dT kvs)) { s with heap := h', toks := tk } := dict_laid2 I k (Nat.le_refl _) hl r d
theorem room2 {X : Cx} (hu : X.A.units + 64 < cLine) : (tupleKind (mixKind X.prog X.w)).room X.A.in1.in1 := tupleKind_room_in1 (A := X.A.in1) (by show X.A.units + 1 + 1 < cLine; omega)
theorem call_dictT {X : Cx} (hc : X.calm = true) (hu : X.A.units + 64 < cLine) : CallR X (.type "dict") (rDictT X.K) := by
  intro pins s σ H xs us Q I r q
  obtain ⟨a, ps, rfl, hq, hp, q⟩ := q
  obtain ⟨u, rfl, rx⟩ := vals1 r
  cases rx
  obtain ⟨its, rv, pl, hz⟩ := I.list hq
  have rv' : Vals ((ps.map fun p => p.t).map V.ref) its := by rw [List.map_map]; exact rv
  have ei := refs_at rv'
  subst ei
  rw [List.length_map] at hz
  obtain ⟨ws, rw_, hl, hw⟩ := pairs_at I ps hp
  obtain ⟨o, n, ho, hcl, hd, hdat⟩ := pl
  have hzl : (ps.zip ws).length = ps.length := by rw [List.length_zip, hl, Nat.min_self]
  refine call_dict_pairsH (knd := tupleKind (mixKind X.prog X.w)) (ps := (ps.zip ws).map fun z => (z.1.k, z.1.q, z.2)) (PairArg.list a _ (fun j => (ps.getD j ⟨0, 0, [], .non⟩).t) ((ps.zip ws).map fun z => (.ref z.1.q, z.2))) (I.ok.hd hc) (room2 hu) ⟨⟨o, n, ho, hcl, hd, hdat⟩, ?_, fun j k v e => ?_⟩ ⟨?_, fun i key v e => ?_⟩ (fun h' hk x hx => ?_) ?_ fun h' tk hd' hk => ?_
  · simp [hzl]
  · rw [List.getElem?_map] at e
    obtain ⟨⟨p, u⟩, e1, e2⟩ := Option.map_eq_some_iff.mp e
    cases e2
    obtain ⟨e3, e4⟩ := List.getElem?_zip_eq_some.mp e1
    have e5 : ps.getD j ⟨0, 0, [], .non⟩ = p := by rw [List.getD_eq_getElem?_getD, e3]; rfl
    refine ⟨?_, .inl ?_⟩
    · simp [e3, e5]
    · show s.heap.IsTuple (ps.getD j ⟨0, 0, [], .non⟩).t _
      rw [e5]; exact hw j p u e3 e4
  · simp
  · unfold PairRel at e
    rw [List.getElem?_map] at e
    obtain ⟨⟨p, u⟩, e1, e2⟩ := Option.map_eq_some_iff.mp e
    cases e2
    exact ⟨p.k, p.q, by rw [List.getElem?_map, e1]; rfl, rfl⟩
  · obtain ⟨⟨p, u⟩, hz1, rfl⟩ := List.mem_map.mp hx
    have hpp := hp p (List.of_mem_zip hz1).1
    have ok' : HOk X.prog X.w H h' := I.hok.kept fun b o e => hk b o (Nat.ne_of_lt (Heap.lt_size e)) (by simp) e
    exact key_of ok' hpp.2
  · simp [hzl]; exact hz
  · refine ⟨.ref s.heap.objs.size, _, dict_laid (tk := tk) (kvs := allK [] (ps.map fun p => (p.k, p.v))) I (fun b o e => hk b o (by simp) e) ?_ (kt_all hp rw_ .nil) hd', rfl, q _ (I.hok.fresh (Nat.le_refl _))⟩
    refine Nat.le_trans (allK_len _ _) ?_
    simp
    exact hz
end DL
end
section
set_option maxRecDepth 100000
set_option maxHeartbeats 2000000
/-! The data layer, part 24: dict(zip(..)), dict of a list of pairs, list of a dict: the readings of data. -/
namespace DL
open PySem L2
open Classical
structure KeyA where
  q : Addr
  k : List Key
theorem kt_zip {H : Hp} : ∀ {qs : List KeyA} {vs : List V} {us : List Value} {kvs : List (List Key × V)} {xs : List (List Key × Addr × Value)}, (∀ p ∈ qs, H p.q = some (.tup (p.k.map kV))) → Vals vs us → KT H kvs xs →
    KT H (allK kvs ((qs.zip vs).map fun z => (z.1.k, z.2))) (storedAllH xs ((qs.zip us).map fun z => (z.1.k, z.1.q, z.2)))
  | [], _, _, _, _, _, _, r => by simp [allK, storedAllH]; exact r
  | _ :: _, [], [], _, _, _, .nil, r => by simp [allK, storedAllH]; exact r
  | p :: qs, v :: vs, u :: us, kvs, xs, h, .cons r rr, k => by
    have z := kt_zip (qs := qs) (fun p hp => h p (by simp [hp])) rr (KT.put k p.k (h p (by simp)) r)
    exact z
def tDictZ (K : PySem.W.Frag) (ta : TA) : TE := fun σ H Q => ta σ H fun vs H1 => ∃ (a b : Addr) (qs : List KeyA) (ws : List V), vs = [.ref a, .ref b] ∧ SqL K H1 a (qs.map fun p => .ref p.q) ∧ SqL K H1 b ws ∧ (∀ p ∈ qs, H1 p.q = some (.tup (p.k.map kV))) ∧
  ∀ r, H1 r = none → Q (.ref r) (upd H1 r (.dT (allK [] ((qs.zip ws).map fun z => (z.1.k, z.2)))))
theorem key_at {X : Cx} {pins : List (Addr × Obj)} {σ : St} {H : Hp} {s : Shared} {h' : Heap} {q : Addr} {k : List Key} (I : Inv X pins σ H s) (hq : H q = some (.tup (k.map kV))) (st : ∀ o, s.heap.get? q = some o → h'.get? q = some o) : (tupleKind (mixKind X.prog X.w)).is h' k q := by
  have ok : HOk X.prog X.w (fun b => if b = q then some (.tup (k.map kV)) else none) h' := fun b o e => by
    by_cases hb : b = q
    · subst hb
      have e' : some (HO.tup (k.map kV)) = some o := (if_pos rfl).symm.trans e
      cases e'
      obtain ⟨z, its, rv, ob, e1, e2⟩ := I.hok b _ hq
      exact ⟨z, its, rv, ob, st _ e1, e2⟩
    · have e' : (none : Option HO) = some o := (if_neg hb).symm.trans e
      cases e'
  exact key_of (H := fun b => if b = q then some (.tup (k.map kV)) else none) ok (if_pos rfl)
section
variable {X : Cx} {e e2 : Expr} {ta : TA} {p p2 pos pos2 : Pos}
theorem pe_dictZ (hc : X.calm = true) (hu : X.A.units + 64 < cLine) (hgd : Gl X "dict") (hmd : X.mg "dict" = none) (hgz : Gl X "zip") (hmz : X.mg "zip" = none) (ha : PA X [e, e2] ta)
    (hs : starEach [e, e2] X.env = (false, eval e X.env) :: starEach [e2] X.env := by rfl) (hpl : (backTo pos2 (starEach [e2] X.env)).any (·.1) = false := by rfl)
    (hs2 : starEach [.Call (.Name "zip" p2) [e, e2] [] pos2] X.env = [(false, eval (.Call (.Name "zip" p2) [e, e2] [] pos2) X.env)] := by rfl) :
    PE X (.Call (.Name "dict" p) [.Call (.Name "zip" p2) [e, e2] [] pos2] [] pos) (tDictZ X.K ta) := by
  refine ⟨fun pins s σ H Q I h => PyProof.Rows.Call_ (ld_blt I hgd hmd PyProof.Rows.boot_dict (PyProof.Rows.callWith_type1 ?_ hs2 rfl))⟩
  rw [hs2]
  refine Calls.spliced_cons (PyProof.Rows.Call_ (ld_blt I hgz hmz PyProof.Rows.boot_zip (PyProof.Rows.callWith_type1 (thn (ha.run pos2 pins s σ H _ I h) fun us s1 ⟨vs, H1, I1, r1, a, b, qs, ws, ev, hqa, hqb, hk, q⟩ => ?_) hs hpl)))
  subst ev
  cases r1 with
  | cons r rr =>
    cases rr with
    | cons r' rr =>
      cases rr
      cases r
      cases r'
      obtain ⟨its, rv, p1, z1⟩ := I1.list hqa
      obtain ⟨its2, rv2, p2', z2⟩ := I1.list hqb
      have la : a < s1.heap.objs.size := p1.lt
      have lb : b < s1.heap.objs.size := p2'.lt
      have rv' : Vals ((qs.map fun p => p.q).map V.ref) its := by rw [List.map_map]; exact rv
      have ei := refs_at rv'
      subst ei
      refine call_zip_2 p1.isList p2'.isList fun h' hz hTI hTO h1 h2 hsz hkp => Calls.spliced_nil ?_
      have l1 := p1.isList.at fun o e => hkp _ o e
      have l2 := p2'.isList.at fun o e => hkp _ o e
      have hl2 : ws.length = its2.length := rv2.length
      refine call_dict_pairsH (s := { s1 with heap := h' }) (knd := tupleKind (mixKind X.prog X.w)) (ps := (qs.zip its2).map fun z => (z.1.k, z.1.q, z.2)) (PairArg.zip _ _ _ _ _ a b (PySem.W.ktu_apart s1.heap.objs.size a b la lb) _ _) (I.ok.hd hc) (room2 hu) ⟨hz, hTI, ⟨_, _, hTO⟩, h1, h2, l1, l2⟩ ⟨?_, fun i key v er => ?_⟩ (fun h2 hk2 x hx => ?_) ?_ fun h3 tk hd3 hk3 => ?_
      · simp [List.length_zip]
      · obtain ⟨e1, e2⟩ := er
        simp at e1 e2
        obtain ⟨y, e1, rfl⟩ := e1
        refine ⟨y.k, y.q, ?_, rfl⟩
        have ez : (qs.zip its2)[i]? = some (y, v) := List.getElem?_zip_eq_some.mpr ⟨e1, e2⟩
        rw [List.getElem?_map, ez]
        rfl
      · obtain ⟨⟨y, u⟩, hz1, rfl⟩ := List.mem_map.mp hx
        have hy := hk y (List.of_mem_zip hz1).1
        have hlt : y.q < s1.heap.objs.size := I1.hok.lt hy
        refine key_at I1 hy fun o e => hk2 _ o (fun z => ?_) (fun z => ?_) (hkp _ o e)
        · have z' : y.q = h'.objs.size := z
          rw [hsz] at z'
          exact absurd (show y.q < s1.heap.objs.size from hlt) (by rw [z']; exact Nat.not_lt.mpr (Nat.le_add_right _ _))
        · simp at z
          rcases z with z | z | z | z <;> (have z' : y.q = _ := z; rw [z'] at hlt; exact absurd hlt (by simp [Nat.not_lt]))
      · simp
        rw [List.length_map] at z1
        exact Nat.le_trans (Nat.min_le_left _ _) z1
      · have hnew : s1.heap.objs.size ≤ h'.objs.size := by rw [hsz]; exact Nat.le_add_right _ _
        refine ⟨.ref h'.objs.size, upd H1 h'.objs.size (.dT (allK [] ((qs.zip ws).map fun z => (z.1.k, z.2)))), dict_laid2 (s := s1) (tk := tk) (kvs := allK [] ((qs.zip ws).map fun z => (z.1.k, z.2))) I1 (fun b o e => ?_) hnew ?_ (kt_zip hk rv2 .nil) hd3, rfl, q _ (I1.hok.fresh hnew)⟩
        · refine hk3 b o (fun z => ?_) (hkp b o e)
          have hlt : b < s1.heap.objs.size := Heap.lt_size e
          simp at z
          rcases z with z | z | z | z <;> (have z' : b = _ := z; rw [z'] at hlt; exact absurd hlt (by simp [Nat.not_lt]))
        · refine Nat.le_trans (allK_len _ _) ?_
          rw [List.length_nil, Nat.zero_add, List.length_map, List.length_zip]
          rw [List.length_map] at z1
          omega
end
end DL
end
section
set_option maxRecDepth 100000
set_option maxHeartbeats 2000000
/-! The data layer, part 25: dicts made of lists, lists made of dicts. -/
namespace DL
open PySem L2
open Classical
section
variable {K : PySem.W.Frag} {g : Gh} {m : Mem}
def allF (g : Gh) : Hp := fun b => match g.H b with
  | some (.tup vs) => some (.tup vs)
  | _ => g.F b
theorem allF_tup {q : Addr} {vs : List V} (h : g.H q = some (.tup vs)) : allF g q = some (.tup vs) := by unfold allF; rw [h]
theorem allF_not {b : Addr} (h : ∀ vs, g.H b ≠ some (.tup vs)) : allF g b = g.F b := by
  unfold allF
  split
  · rename_i vs e; exact absurd e (h vs)
  · rfl
/-- all tuples are held -/
theorem Rep.adoptAll (rp : Rep K g m) : Rep K ⟨g.H, allF g, g.al⟩ m ∧ Le g m ⟨g.H, allF g, g.al⟩ m := by
  have mF : ∀ b u, g.F b = some u → allF g b = some u := fun b u f => by
    by_cases hb : ∃ vs, g.H b = some (.tup vs)
    · obtain ⟨vs, hb⟩ := hb
      rw [allF_tup hb]
      rcases rp.sub b u f with e | ⟨_, ob, e⟩ <;> (rw [hb] at e; cases e)
      rfl
    · rw [allF_not fun vs z => hb ⟨vs, z⟩]; exact f
  refine ⟨⟨fun b u f => ?_, fun i u e => ?_, rp.inj⟩, ⟨mF, Nat.le_refl _, fun _ _ => rfl, fun b u e nt f l => ⟨e, ?_, l⟩, fun _ _ _ e => e, fun _ _ e _ => e⟩⟩
  · by_cases hb : ∃ vs, g.H b = some (.tup vs)
    · obtain ⟨vs, hb⟩ := hb
      have f' : allF g b = some u := f
      rw [allF_tup hb] at f'
      cases f'
      exact .inl hb
    · have f' : allF g b = some u := f
      rw [allF_not fun vs z => hb ⟨vs, z⟩] at f'
      exact rp.sub b u f'
  · by_cases hn : u = .gone
    · subst hn; trivial
    · exact (rp.mem i u e).step (g := g) (g' := ⟨g.H, allF g, g.al⟩) rfl (fun f => (allF_not fun vs => (rp.mem i u e).noTup hn).trans f) mF (fun _ _ => rfl) (Nat.le_refl _)
  · exact (allF_not fun vs z => nt vs (Option.some.inj (e.symm.trans z))).trans f
/-- new things, all of them held -/
theorem Rep.ext (rp : Rep K g m) {H2 : Hp} (S : Addr → Prop) (hx : ∀ b o, g.H b = some o → H2 b = some o) (hS : ∀ b, S b → g.H b = none) : Rep K ⟨H2, fun b => if S b then H2 b else g.F b, g.al⟩ m ∧ Le g m ⟨H2, fun b => if S b then H2 b else g.F b, g.al⟩ m := by
  have no : ∀ b o, g.H b = some o → ¬ S b := fun b o e z => by rw [hS b z] at e; cases e
  have noF : ∀ b o, g.F b = some o → ¬ S b := fun b o f z => by
    have := rp.free (hS b z)
    rw [this] at f
    cases f
  have mF : ∀ b u, g.F b = some u → (fun b => if S b then H2 b else g.F b) b = some u := fun b u f => (if_neg (noF b u f)).trans f
  refine ⟨⟨fun b u f => ?_, fun i u e => ?_, rp.inj⟩, ⟨mF, Nat.le_refl _, fun _ _ => rfl, fun b u e nt f l => ⟨hx b u e, (if_neg (no b u e)).trans f, l⟩, fun b o u e => hx b _ e, fun _ _ e _ => e⟩⟩
  · by_cases hb : S b
    · exact .inl ((if_pos hb).symm.trans f)
    · rcases rp.sub b u ((if_neg hb).symm.trans f) with e | ⟨z, ob, e⟩
      · exact .inl (hx b u e)
      · exact .inr ⟨z, ob, hx b _ e⟩
  · by_cases hn : u = .gone
    · subst hn; trivial
    · obtain ⟨w, hw, hf⟩ := (rp.mem i u e).there hn
      exact (rp.mem i u e).step (g := g) (g' := ⟨H2, fun b => if S b then H2 b else g.F b, g.al⟩) ((hx _ _ hw).trans hw.symm) (fun f => (if_neg (no _ _ hw)).trans f) mF (fun _ _ => rfl) (Nat.le_refl _)
end
/-! ### a new dict -/
def newD (mu : Bool) (kvs : List (List Key × D)) (m : Mem) : Res D := if mu then .ok (.mref m.length) (m ++ [.dT kvs]) else .ok (.dT kvs) m
theorem pre_newD {K : PySem.W.Frag} {W : WX} {σ : St} {g : Gh} {m : Mem} {Q : VK} {mu : Bool} {vs : List (List Key × V)} {kvs : List (List Key × D)} (rp : Rep K g m) (q : Pre (RE K) K W σ g m Q (newD mu kvs m)) (hk : vs.map (·.1) = kvs.map (·.1)) (il : IsGL K g m (vs.map (·.2)) (kvs.map (·.2))) (p : Addr) (hp : g.H p = none) : Q (.ref p) (upd g.H p (.dT vs)) := by
  unfold newD at q
  cases mu with
  | true =>
    rw [if_pos rfl] at q
    have al2 : (g.add m.length p (.dT vs)).al m.length = p := if_pos rfl
    have al1 : ∀ i, i < m.length → (g.add m.length p (.dT vs)).al i = g.al i := fun i h => if_neg (Nat.ne_of_lt h)
    obtain ⟨rp', l'⟩ := rp.newM (mo := .dT kvs) hp (o := .dT vs) (fun _ _ z => by cases z) ⟨rp.free hp, vs, upd_same, hk, IsL.mono (fun _ _ h => h) al1 (Nat.le_add_right _ _) il⟩
    refine q (g.add m.length p (.dT vs)) (.ref p) rp' l' ?_
    have z : IsG K (g.add m.length p (.dT vs)) (m ++ [.dT kvs]) (.ref ((g.add m.length p (.dT vs)).al m.length)) (.mref m.length) := .mref (by simp)
    rw [al2] at z
    exact z
  | false =>
    rw [if_neg Bool.false_ne_true] at q
    obtain ⟨rp', l'⟩ := rp.newF hp (.dT vs)
    exact q ⟨upd g.H p (.dT vs), upd g.F p (.dT vs), g.al⟩ (.ref p) rp' l' (.dT upd_same hk (il.le l'))
/-! ### dict(pairs) -/
def pairT : D → Option (List Key × D)
  | .tup [.tup ks, v] => (keysV ks).map fun k => (k, v)
  | _ => none
def pairsT : List D → Option (List (List Key × D))
  | [] => some []
  | d :: ds => match pairT d, pairsT ds with
    | some p, some r => some (p :: r)
    | _, _ => none
section
variable {K : PySem.W.Frag} {g : Gh} {m : Mem}
theorem pairT_ok (rp : Rep K g m) {v : V} {d : D} {p : List Key × D} (iv : IsG K g m v d) (h : pairT d = some p) : ∃ z : PairV, v = .ref z.t ∧ PairOk g.H z ∧ z.k = p.1 ∧ IsG K g m z.v p.2 := by
  unfold pairT at h
  split at h
  · rename_i ks x
    obtain ⟨k, hk, rfl⟩ := Option.map_eq_some_iff.mp h
    cases iv with
    | tup s z l =>
      cases l with
      | cons i1 l =>
        cases l with
        | cons i2 l =>
          cases l
          cases i1 with
          | tup s1 z1 l1 =>
            rename_i t x' q ws
            refine ⟨⟨t, q, k, x'⟩, rfl, ⟨rp.at_ s fun z => z, ?_⟩, rfl, i2⟩
            have e := rp.at_ s1 fun z => z
            rw [keysV_ok l1 hk] at e
            exact e
  · cases h
theorem pairsT_ok (rp : Rep K g m) : ∀ {vs : List V} {ds : List D} {ps : List (List Key × D)}, IsGL K g m vs ds → pairsT ds = some ps → ∃ zs : List PairV, vs = zs.map (fun z => .ref z.t) ∧ (∀ z ∈ zs, PairOk g.H z) ∧ (zs.map fun z => (z.k, z.v)).map (·.1) = ps.map (·.1) ∧ IsGL K g m ((zs.map fun z => (z.k, z.v)).map (·.2)) (ps.map (·.2))
  | _, _, _, .nil, h => by cases h; exact ⟨[], rfl, (fun _ z => nomatch z), rfl, .nil⟩
  | _, _, _, .cons i t, h => by
    simp only [pairsT] at h
    split at h
    · rename_i p r e1 e2
      cases h
      obtain ⟨z, rfl, z1, z2, z3⟩ := pairT_ok rp i e1
      obtain ⟨zs, rfl, y1, y2, y3⟩ := pairsT_ok rp t e2
      refine ⟨z :: zs, rfl, fun x hx => ?_, ?_, .cons z3 y3⟩
      · rcases List.mem_cons.mp hx with rfl | hx
        · exact z1
        · exact y1 x hx
      · simp only [List.map_cons]
        rw [z2, y2]
    · cases h
end
def hDict (mu : Bool) : HL := fun ds m => match ds with
  | [d] => (match lstV m d with
    | some xs => (match pairsT xs with
      | some kvs => newD mu (allT [] kvs) m
      | none => .bad)
    | none => .bad)
  | _ => .bad
theorem sd_dict {K : PySem.W.Frag} (mu : Bool) : CaSd K (rDictT K) (hDict mu) := by
  intro W σ g m xs ds Q rp ix q
  unfold hDict at q
  split at q
  · split at q
    · rename_i ys e
      split at q
      · rename_i kvs ek
        cases ix with
        | cons h t =>
          cases t
          obtain ⟨a, vs, rfl, h1, h2, h3⟩ := lstV_ok rp h e
          obtain ⟨zs, rfl, y1, y2, y3⟩ := pairsT_ok rp h3 ek
          obtain ⟨a1, a2⟩ := allT_is y2 y3 (vs := []) (ds := []) rfl .nil
          exact ⟨a, zs, rfl, h1, y1, fun p hp => pre_newD rp q a1 a2 p hp⟩
      · exact q.elim
    · exact q.elim
  · exact q.elim
/-! ### dict(zip(xs, ys)) -/
def tupsK : List D → Option (List (List Key))
  | [] => some []
  | .tup ks :: ds => match keysV ks, tupsK ds with
    | some k, some r => some (k :: r)
    | _, _ => none
  | _ => none
def zipDR (mu : Bool) (x y : D) (m : Mem) : Res D := match lstV m x, lstV m y with
  | some xs, some ys => (match tupsK xs with
    | some ks => newD mu (allT [] (ks.zip ys)) m
    | none => .bad)
  | _, _ => .bad
def eDictZ (mu : Bool) (a b : FE) : FE := fun ρ m => (a ρ m).bind fun x m1 => (b ρ m1).bind fun y m2 => zipDR mu x y m2
theorem tupsK_ok {K : PySem.W.Frag} {g : Gh} {m : Mem} (rp : Rep K g m) : ∀ {vs : List V} {ds : List D} {ks : List (List Key)}, IsGL K g m vs ds → tupsK ds = some ks → ∃ qs : List KeyA, vs = qs.map (fun p => .ref p.q) ∧ qs.map (·.k) = ks ∧ ∀ p ∈ qs, g.H p.q = some (.tup (p.k.map kV))
  | _, _, _, .nil, h => by cases h; exact ⟨[], rfl, rfl, fun _ z => nomatch z⟩
  | _, _, _, .cons i t, h => by
    cases i <;> simp only [tupsK] at h <;> try cases h
    rename_i ds q ws ks' s z l
    split at h
    · rename_i k r e1 e2
      cases h
      obtain ⟨qs, rfl, y1, y2⟩ := tupsK_ok rp t e2
      refine ⟨⟨q, k⟩ :: qs, rfl, by simp [y1], fun p hp => ?_⟩
      rcases List.mem_cons.mp hp with rfl | hp
      · have e := rp.at_ s fun z => z
        rw [keysV_ok l e1] at e
        exact e
      · exact y2 p hp
    · cases h
theorem zip_is {K : PySem.W.Frag} {F : Hp} {al : Nat → Addr} {n : Nat} : ∀ {qs : List KeyA} {vs : List V} {ds : List D}, IsL K F al n vs ds → ((qs.zip vs).map fun z => (z.1.k, z.2)).map (·.1) = ((qs.map (·.k)).zip ds).map (·.1) ∧ IsL K F al n (((qs.zip vs).map fun z => (z.1.k, z.2)).map (·.2)) (((qs.map (·.k)).zip ds).map (·.2))
  | [], _, _, _ => ⟨by simp, by simp; exact .nil⟩
  | _ :: _, _, _, .nil => ⟨by simp, by simp; exact .nil⟩
  | q :: qs, _, _, .cons i t => by
    obtain ⟨a, b⟩ := zip_is (qs := qs) t
    simp only [List.zip_cons_cons, List.map_cons]
    exact ⟨by rw [a], .cons i b⟩
section
variable {X : Cx} {W : WX} {e e2 : Expr} {f f2 : FE} {p p2 pos pos2 : Pos} {k : Nat}
theorem pd_dictZ (mu : Bool) (hc : X.calm = true) (hr : Room k X.A) (hmd : X.mg "dict" = none) (hmz : X.mg "zip" = none) (h : PD X W e f) (h2 : PD X W e2 f2) (hgd : Gl X "dict" := by rfl) (hgz : Gl X "zip" := by rfl)
    (hs : starEach [e, e2] X.env = (false, eval e X.env) :: starEach [e2] X.env := by rfl) (hs1 : starEach (e :: [e2]) X.env = (false, eval e X.env) :: starEach [e2] X.env := by rfl) (hs3 : starEach (e2 :: []) X.env = (false, eval e2 X.env) :: starEach [] X.env := by rfl) (hpl : (backTo pos2 (starEach [e2] X.env)).any (·.1) = false := by rfl)
    (hs2 : starEach [.Call (.Name "zip" p2) [e, e2] [] pos2] X.env = [(false, eval (.Call (.Name "zip" p2) [e, e2] [] pos2) X.env)] := by rfl) :
    PD X W (.Call (.Name "dict" p) [.Call (.Name "zip" p2) [e, e2] [] pos2] [] pos) (eDictZ mu f f2) := by
  obtain ⟨t, pt, s⟩ := h.ex
  obtain ⟨t', pt', s'⟩ := h2.ex
  refine ⟨⟨_, pe_dictZ hc hr.units hgd hmd hgz hmz (pa_cons pt (pa_cons pt' pa_nil hs3) hs1) hs hpl hs2, fun g m σ ρ Q rp en q => s g m σ ρ _ rp en (pre_bind q fun g1 m1 x dx rp1 l1 ix q1 => s' g1 m1 σ ρ _ rp1 (en.le l1) (pre_bind q1 fun g2 m2 y dy rp2 l2 iy q2 => ?_))⟩⟩
  unfold zipDR at q2
  split at q2
  · rename_i xs ys e1 e2
    split at q2
    · rename_i ks ek
      obtain ⟨a, vs, rfl, h1, _, h3⟩ := lstV_ok rp2 (ix.le l2) e1
      obtain ⟨b, ws, rfl, w1, _, w3⟩ := lstV_ok rp2 iy e2
      obtain ⟨qs, rfl, y1, y2⟩ := tupsK_ok rp2 h3 ek
      subst y1
      obtain ⟨z1, z2⟩ := zip_is (qs := qs) w3
      obtain ⟨a1, a2⟩ := allT_is z1 z2 (vs := []) (ds := []) rfl .nil
      exact ⟨a, b, qs, ws, rfl, h1, w1, y2, fun r hr => pre_newD rp2 q2 a1 a2 r hr⟩
    · exact q2.elim
  · exact q2.elim
end
end DL
end
section
set_option maxRecDepth 100000
set_option maxHeartbeats 2000000
/-! The data layer, part 26: list(d), len(d), the values of a dict with tuple keys. -/
namespace DL
open PySem L2
open Classical
def rListT : List V → Hp → VK → Prop := fun xs H Q => ∃ d kvs, xs = [V.ref d] ∧ Rd H d (.dT kvs) ∧ ((∀ q vs, H q = some (.tup vs) → vs.length ≤ sizeLine) → kvs.length ≤ sizeLine → ∀ p bs, H p = none → IsKeys H kvs bs → Q (.ref p) (upd H p (.lst (bs.map V.ref))))
theorem call_listT {X : Cx} (hc : X.calm = true) : CallR X (.type "list") rListT := by
  intro pins s σ H xs us Q I r h
  obtain ⟨d, kvs, rfl, hd, q⟩ := h
  exact call_list_dT hc pins s σ H _ us Q I r ⟨d, kvs, rfl, hd, fun p bs hp hk => q (tup_len I) (dT_len I hd) p bs hp hk⟩
/-- a new list -/
def newL (mu : Bool) (xs : List D) (m : Mem) : Res D := if mu then .ok (.mref m.length) (m ++ [.lst xs]) else .ok (.lst xs) m
theorem pre_newL2 {K : PySem.W.Frag} {W : WX} {σ : St} {g : Gh} {m : Mem} {Q : VK} {mu : Bool} {vs : List V} {ds : List D} (rp : Rep K g m) (q : Pre (RE K) K W σ g m Q (newL mu ds m)) (hz : vs.length ≤ sizeLine) (il : IsGL K g m vs ds) (p : Addr) (hp : g.H p = none) : Q (.ref p) (upd g.H p (.lst vs)) := by
  unfold newL at q
  cases mu with
  | true => rw [if_pos rfl] at q; exact pre_newM rp q hz il p hp
  | false => rw [if_neg Bool.false_ne_true] at q; exact pre_newL rp q hz il p hp
def hListD (mu : Bool) : HL := fun ds m => match ds with
  | [d] => (match dicT m d with
    | some kvs => newL mu (kvs.map fun p => .tup (p.1.map keyD)) m
    | none => .bad)
  | _ => .bad
theorem keys_is {K : PySem.W.Frag} {g : Gh} {m : Mem} (hF : ∀ q vs, g.H q = some (.tup vs) → g.F q = some (.tup vs)) (hl : ∀ q vs, g.H q = some (.tup vs) → vs.length ≤ sizeLine) : ∀ {vs : List (List Key × V)} {bs : List Addr} {kvs : List (List Key × D)}, IsKeys g.H vs bs → vs.map (·.1) = kvs.map (·.1) → IsGL K g m (bs.map V.ref) (kvs.map fun p => .tup (p.1.map keyD))
  | [], _, [], .nil, _ => .nil
  | [], _, _ :: _, _, e => by simp at e
  | _ :: _, _, [], _, e => by simp at e
  | p :: vs, b :: bs, q :: kvs, .cons h t, e => by
    simp only [List.map_cons, List.cons.injEq] at e
    refine .cons (.tup (hF b _ h) (hl b _ h) ?_) (keys_is hF hl t e.2)
    rw [← e.1]
    exact keysD_is p.1
theorem isKeys_len {H : Hp} {kvs : List (List Key × V)} {bs : List Addr} (h : IsKeys H kvs bs) : kvs.length = bs.length := Paired.length h
theorem sd_listD {K : PySem.W.Frag} (mu : Bool) : CaSd K rListT (hListD mu) := by
  intro W σ g m xs ds Q rp ix q
  unfold hListD at q
  split at q
  · split at q
    · rename_i kvs e
      cases ix with
      | cons h t =>
        cases t
        obtain ⟨a, vs, rfl, rd, hk, il⟩ := dicT_ok rp h e
        refine ⟨a, vs, rfl, rd, fun hl hz p bs hp hb => ?_⟩
        obtain ⟨rp', l'⟩ := rp.adoptAll
        refine pre_newL2 (g := ⟨g.H, allF g, g.al⟩) rp' (Pre.le q l') ?_ (keys_is (g := ⟨g.H, allF g, g.al⟩) (fun q vs h => allF_tup h) hl hb hk) p hp
        rw [List.length_map, ← isKeys_len hb]
        exact hz
    · exact q.elim
  · exact q.elim
section
variable {X : Cx} {W : WX} {e : Expr} {es : List Expr} {f : FA} {p pos : Pos}
theorem bf_listD (mu : Bool) (hc : X.calm = true) (hm : X.mg "list" = none) (ha : PDA X W (e :: es) f) (hg : Gl X "list" := by rfl) (he : starEach (e :: es) X.env = (false, eval e X.env) :: starEach es X.env := by rfl) (hpl : (backTo pos (starEach es X.env)).any (·.1) = false := by rfl) : PD X W (.Call (.Name "list" p) (e :: es) [] pos) (eCB (hListD mu) f) := pd_ct (call_listT hc) (sd_listD mu) hg hm (by decide +kernel) ha (by decide) (by decide) he hpl
theorem bf_dict (mu : Bool) {k : Nat} (hr : Room k X.A) (hc : X.calm = true) (hm : X.mg "dict" = none) (ha : PDA X W (e :: es) f) (hg : Gl X "dict" := by rfl) (he : starEach (e :: es) X.env = (false, eval e X.env) :: starEach es X.env := by rfl) (hpl : (backTo pos (starEach es X.env)).any (·.1) = false := by rfl) : PD X W (.Call (.Name "dict" p) (e :: es) [] pos) (eCB (hDict mu) f) := pd_ct (call_dictT hc hr.units) (sd_dict mu) hg hm (by decide +kernel) ha (by decide) (by decide) he hpl
end
/-! ### len(d) -/
def hLenD : HL := fun ds m => match ds with
  | [d] => (match dicT m d with
    | some kvs => .ok (.int kvs.length) m
    | none => .bad)
  | _ => .bad
def rLnT : List V → Hp → VK → Prop := fun xs H Q => ∃ d kvs, xs = [V.ref d] ∧ Rd H d (.dT kvs) ∧ Q (.int kvs.length) H
theorem call_lenT {X : Cx} : CallR X (.builtin "len") rLnT := by
  intro pins s σ H xs us Q I r h
  obtain ⟨d, kvs, rfl, hd, q⟩ := h
  obtain ⟨u, rfl, rx⟩ := vals1 r
  cases rx
  obtain ⟨z, hs, ks, pr, dd⟩ := dt_rd I.hok hd
  have l2 : kvs.length = ks.length := Paired.length pr
  have hfit : (ks.length : Int) < 2 ^ 63 := by
    have : (sizeLine : Int) < 2 ^ 63 := by decide
    omega
  refine PySem.call_len_dictH hs dd hfit ?_
  refine ⟨.int ks.length, H, I.tok _, ⟨_, rfl⟩, ?_⟩
  rw [← l2]
  exact q
theorem sd_lenD {K : PySem.W.Frag} : CaSd K rLnT hLenD := by
  intro W σ g m xs ds Q rp ix q
  unfold hLenD at q
  split at q
  · split at q
    · rename_i kvs e
      cases ix with
      | cons h t =>
        cases t
        obtain ⟨a, vs, rfl, rd, hk, il⟩ := dicT_ok rp h e
        refine ⟨a, vs, rfl, rd, ?_⟩
        have := congrArg List.length hk
        rw [List.length_map, List.length_map] at this
        rw [this]
        exact pre_val rp q (.int _)
    · exact q.elim
  · exact q.elim
theorem bf_lenD {X : Cx} {W : WX} {e : Expr} {es : List Expr} {f : FA} {p pos : Pos} (hm : X.mg "len" = none) (ha : PDA X W (e :: es) f) (hg : Gl X "len" := by rfl) (he : starEach (e :: es) X.env = (false, eval e X.env) :: starEach es X.env := by rfl) (hpl : (backTo pos (starEach es X.env)).any (·.1) = false := by rfl) : PD X W (.Call (.Name "len" p) (e :: es) [] pos) (eCB hLenD f) := pd_cb call_lenT sd_lenD hg hm (by decide +kernel) ha (by decide) (by decide) he hpl
end DL
end
section
set_option maxRecDepth 100000
set_option maxHeartbeats 2000000
/-! The data layer, part 27: == and != of dicts with tuple keys. -/
namespace DL
open PySem L2 PySem.W
open Classical
section
variable {prog : Program} {w : World} {κ : Type} [DecidableEq κ] {kd : HeapKind prog w κ} {A : Around} {E : Value → Shared → Prop} {s : Shared}
inductive HitsT (prog : Program) (w : World) (A : Around) (s : Shared) (yb : List (κ × Addr × Value)) : List (κ × Addr × Value) → Bool → Prop
  | nil : HitsT prog w A s yb [] true
  | miss {x : κ × Addr × Value} {r : List (κ × Addr × Value)} : atKey yb x.1 = none → HitsT prog w A s yb (x :: r) false
  | hit {x : κ × Addr × Value} {y : Addr × Value} {r : List (κ × Addr × Value)} {e b : Bool} : atKey yb x.1 = some y → SeqAt.EqP prog w A s x.2.2 y.2 e → HitsT prog w A s yb r b → HitsT prog w A s yb (x :: r) (e && b)
theorem HitsT.split {yb : List (κ × Addr × Value)} {x : κ × Addr × Value} {r : List (κ × Addr × Value)} {b : Bool} (h : HitsT prog w A s yb (x :: r) b) :
    (atKey yb x.1 = none ∧ b = false) ∨ ∃ y e b', atKey yb x.1 = some y ∧ SeqAt.EqP prog w A s x.2.2 y.2 e ∧ HitsT prog w A s yb r b' ∧ b = (e && b') := by
  cases h with
  | miss a => exact .inl ⟨a, rfl⟩
  | hit a b c => exact .inr ⟨_, _, _, a, b, c, rfl⟩
theorem pairs_same {nm : String} {a b : Addr} {xa xb : List (κ × Addr × Value)} {r : Bool} {Q : Bool → Shared → Prop} (hu : kd.room A) (na : (a == sysModules) = false) (nb : (b == sysModules) = false)
    (da : s.heap.DictOfH kd a xa) (db : s.heap.DictOfH kd b xb) (hits : xa.length = xb.length → HitsT prog w A s xb xa r) (q : Q (xa.length == xb.length && r) s) :
    wpAny (model prog w) A (Builtin.Dict.samePairs nm a b) Q E s := by
  obtain ⟨oa, ea, pa, ga, _, ta, la, ia, _⟩ := da
  obtain ⟨ob, eb, pb, gb, _, tb, lb, ib, ndb⟩ := db
  have za := size_of_entries la
  have zb := size_of_entries lb
  rw [← za, ← zb] at q
  unfold Builtin.Dict.samePairs Builtin.Dict.showsAll
  rw [if_neg (show ¬ (a == sysModules) = true from fun z => by rw [na] at z; cases z), if_neg (show ¬ (b == sysModules) = true from fun z => by rw [nb] at z; cases z)]
  refine wpAny_bind (wpAny_pure (wpAny_bind (wpAny_pure (wpAny_bind (wpAny_dictEntries ga ta ?_)))))
  dsimp only
  refine wpAny_bind (wpAny_dictEntries gb tb ?_)
  by_cases hz : ea.size = eb.size
  case neg =>
    rw [if_pos (by simpa using hz)]
    have e0 : (ea.size == eb.size) = false := by simpa using hz
    rw [e0, Bool.false_and] at q
    exact wpAny_bind (wpAny_rule (wpAny_pure q))
  case pos =>
    have q' : Q r s := by simpa [hz] using q
    have hh := hits (by rw [← za, ← zb]; exact hz)
    rw [if_neg (by rw [hz]; simp)]
    refine wpAny_bind (wpAny_dictEpoch ga ta (wpAny_bind ?_))
    rw [Std.Legacy.Range.forIn_eq_forIn_range']
    simp only [Std.Legacy.Range.size, Nat.sub_zero, Nat.add_sub_cancel, Nat.div_one]
    refine wpAny_forIn_list _ (fun rest c t => t = s ∧ c = (none, ()) ∧ ∃ i, rest = List.range' i (ea.size - i) ∧ i ≤ ea.size ∧ HitsT prog w A s xb (xa.drop i) r) _ ?_ ?_ _ _ ⟨rfl, rfl, 0, by simp, Nat.zero_le _, hh⟩
    · rintro x rest c t ⟨rfl, rfl, i, er, hi, hp⟩
      have hlt : i < ea.size := by
        rcases Nat.lt_or_ge i ea.size with h | h
        · exact h
        · rw [Nat.sub_eq_zero_of_le h] at er; simp at er
      obtain ⟨rfl, er2⟩ : x = i ∧ rest = List.range' (i + 1) (ea.size - (i + 1)) := by
        have e1 : ea.size - i = (ea.size - (i + 1)) + 1 := by omega
        rw [e1, List.range'_succ] at er
        injection er with h1 h2
        exact ⟨h1, h2⟩
      refine wpAny_bind (wpAny_dictEntries ga ta ?_)
      rw [Array.getElem?_eq_getElem hlt]
      have hlx : x < xa.length := by rw [← za]; exact hlt
      have dr : xa.drop x = xa[x] :: xa.drop (x + 1) := List.drop_eq_getElem_cons hlx
      have ent : ea[x] = entryOfKey kd xa[x] := by
        have := entry_at la x
        rw [Array.getElem?_eq_getElem hlt, List.getElem?_eq_getElem hlx] at this
        exact Option.some.inj this
      rw [dr] at hp
      show wpAny _ _ (holding [ea[x].key, ea[x].val] _ >>= _) _ _ _
      rw [ent]
      refine wpAny_bind (wpAny_holding (wpAny_bind (wpAny_dictFind_heap hu (ia _ (List.getElem_mem hlx)) gb tb lb ib ndb (fun no => ?_) fun j y hj => ?_)))
      · have nn := atKey_none_of_get no
        rcases hp.split with ⟨_, e2⟩ | ⟨y, _, _, hy, _⟩
        · rw [e2] at q'
          refine wpAny_pure ?_
          show wpAny _ _ (if (!false) = true then _ else _) _ _ _
          rw [if_pos (by decide)]
          exact wpAny_pure (wpAny_pure q')
        · rw [nn] at hy; cases hy
      · have sm := atKey_of_get ndb hj
        have ej : eb[j]? = some (entryOfKey kd (xa[x].1, y)) := by
          have := entry_at lb j
          rw [hj] at this
          exact this
        refine wpAny_bind (wpAny_dictEntries gb tb ?_)
        rw [ej]
        rcases hp.split with ⟨nn, _⟩ | ⟨z, e, b', hy, he, hr, e2⟩
        · rw [sm] at nn; cases nn
        · cases (sm.symm.trans hy)
          refine wpAny_holding (he _ _ ?_)
          cases e with
          | false =>
            rw [e2, Bool.false_and] at q'
            show wpAny _ _ (if (!false) = true then _ else _) _ _ _
            rw [if_pos (by decide)]
            exact wpAny_pure (wpAny_pure q')
          | true =>
            rw [Bool.true_and] at e2
            rw [← e2] at hr
            show wpAny _ _ (if (!true) = true then _ else _) _ _ _
            rw [if_neg (by decide)]
            refine wpAny_bind (wpAny_dictEpoch ga ta ?_)
            rw [if_neg (by simp)]
            exact wpAny_pure ⟨rfl, rfl, x + 1, er2, hlt, hr⟩
    · rintro c t ⟨rfl, rfl, i, er, hi, hp⟩
      have hin : i = ea.size := by
        rcases Nat.lt_or_ge i ea.size with h | h
        · have e1 : ea.size - i = (ea.size - (i + 1)) + 1 := by omega
          rw [e1, List.range'_succ] at er
          cases er
        · exact Nat.le_antisymm hi h
      refine wpAny_pure ?_
      rw [hin, za, List.drop_length] at hp
      cases hp
      exact q'
theorem rc_dicts {a b : Addr} {xa xb : List (κ × Addr × Value)} {r : Bool} (na : (a == sysModules) = false) (nb : (b == sysModules) = false) (da : s.heap.DictOfH kd a xa) (db : s.heap.DictOfH kd b xb) (hu : A.units < cLine) (hu1 : kd.room A.in1)
    (hits : xa.length = xb.length → HitsT prog w A.in1 s xb xa r) (E Q : Value → Shared → Prop) (q : Q (.bool (xa.length == xb.length && r)) s) : wpAny (model prog w) A (richCompare .Eq (.ref a) (.ref b)) Q E s := by
  refine wpAny_richCompare_same_room (op := .Eq) da.typeIs db.typeIs PySem.F.slot_dict_eq (wpAny_call_entry PySem.F.slot_dict_eq da.typeIs PySem.F.entry_dict_eq ?_ (PySem.F.args_dict_eq_2 _ _)) hu
  show wpAny _ _ (Builtin.Dict.dictSlotArgs "__eq__" ⟨[.ref a, .ref b], []⟩ >>= _) _ _ s
  unfold Builtin.Dict.dictSlotArgs
  refine wpAny_bind (wpAny_bind (wpAny_notOrdered_dict da.typeIs ?_))
  show wpAny _ _ (pure (Value.ref a, Value.ref b)) _ _ s
  refine wpAny_pure (wpAny_bind (wpAny_isInstance (T := "dict") db.typeIs PySem.F.sub_dict_dict ?_))
  simp only [Bool.not_true, Bool.false_eq_true, if_false]
  refine wpAny_bind (wpAny_pure (wpAny_bind (wpAny_pure (wpAny_bind (pairs_same hu1 na nb da db hits ?_)))))
  refine wpAny_pure ⟨_, rfl, (fun z => nomatch z), ?_⟩
  simpa using q
end
end DL
end
section
set_option maxRecDepth 100000
set_option maxHeartbeats 2000000
/-! The data layer, part 28: == and != of dicts with tuple keys: the readings. -/
namespace DL
open PySem L2 PySem.W
open Classical
theorem rcN_dicts {prog : Program} {w : World} {κ : Type} [DecidableEq κ] {kd : HeapKind prog w κ} {A : Around} {s : Shared} {a b : Addr} {xa xb : List (κ × Addr × Value)} {r : Bool} (na : (a == sysModules) = false) (nb : (b == sysModules) = false) (da : s.heap.DictOfH kd a xa) (db : s.heap.DictOfH kd b xb) (hu : A.units < cLine) (hu1 : kd.room A.in1)
    (hits : xa.length = xb.length → HitsT prog w A.in1 s xb xa r) (E Q : Value → Shared → Prop) (q : Q (.bool (!(xa.length == xb.length && r))) s) : wpAny (model prog w) A (richCompare .NotEq (.ref a) (.ref b)) Q E s := by
  refine wpAny_richCompare_same_room (op := .NotEq) da.typeIs db.typeIs PySem.F.slot_dict_ne (wpAny_call_entry PySem.F.slot_dict_ne da.typeIs PySem.F.entry_dict_ne ?_ (PySem.F.args_dict_ne_2 _ _)) hu
  show wpAny _ _ (Builtin.Dict.dictSlotArgs "__ne__" ⟨[.ref a, .ref b], []⟩ >>= _) _ _ s
  unfold Builtin.Dict.dictSlotArgs
  refine wpAny_bind (wpAny_bind (wpAny_notOrdered_dict da.typeIs ?_))
  show wpAny _ _ (pure (Value.ref a, Value.ref b)) _ _ s
  refine wpAny_pure (wpAny_bind (wpAny_isInstance (T := "dict") db.typeIs PySem.F.sub_dict_dict ?_))
  simp only [Bool.not_true, Bool.false_eq_true, if_false]
  refine wpAny_bind (wpAny_pure (wpAny_bind (wpAny_pure (wpAny_bind (pairs_same hu1 na nb da db hits ?_)))))
  refine wpAny_pure ⟨_, rfl, (fun z => nomatch z), ?_⟩
  simpa using q
abbrev DPy := List (List Key × PyData)
def lkP : DPy → List Key → Option PyData
  | [], _ => none
  | p :: r, k => if p.1 = k then some p.2 else lkP r k
def eqP1 (ds : DPy) (p : List Key × PyData) : Bool := match lkP ds p.1 with
  | some y => PyData.eqv p.2 y
  | none => false
def eqDP (cs ds : DPy) : Bool := (cs.length == ds.length) && cs.all (eqP1 ds)
/-- what a dict holds, as data -/
structure DicP (K : PySem.W.Frag) (H : Hp) (a : Addr) (ks : List (List Key × V)) (cs : DPy) : Prop where
  rd : Rd H a (.dT ks)
  keys : ks.map (·.1) = cs.map (·.1)
  vals : DpAll K H (ks.map (·.2)) (cs.map (·.2))
  shp : ∀ p ∈ cs, SeqAt.shaped p.2 = true
theorem lkP_is {K : PySem.W.Frag} {H : Hp} {k : List Key} : ∀ {ls : List (List Key × V)} {ds : DPy}, ls.map (·.1) = ds.map (·.1) → DpAll K H (ls.map (·.2)) (ds.map (·.2)) → (∀ c, lkP ds k = some c → ∃ v, valV ls k = some v ∧ Dp K H v c) ∧ (lkP ds k = none → valV ls k = none)
  | [], [], _, _ => ⟨fun c h => (by cases h), fun _ => rfl⟩
  | [], _ :: _, h, _ => by simp at h
  | _ :: _, [], h, _ => by simp at h
  | p :: ls, q :: ds, h, l => by
    simp only [List.map_cons, List.cons.injEq] at h
    cases l with
    | cons i t =>
      by_cases e : q.1 = k
      · refine ⟨fun d hd => ?_, fun hd => ?_⟩
        · simp only [lkP, if_pos e] at hd
          cases hd
          exact ⟨p.2, valV_pos (h.1.trans e), i⟩
        · simp only [lkP, if_pos e] at hd
          cases hd
      · have ih := lkP_is (k := k) h.2 t
        have e' : ¬ p.1 = k := fun z => e (h.1.symm.trans z)
        rw [valV_neg e']
        simp only [lkP, if_neg e]
        exact ih
theorem lkP_mem {k : List Key} {c : PyData} : ∀ {ds : DPy}, lkP ds k = some c → ∃ p ∈ ds, p.2 = c
  | [], h => by cases h
  | p :: ds, h => by
    by_cases e : p.1 = k
    · simp only [lkP, if_pos e] at h
      cases h
      exact ⟨p, by simp, rfl⟩
    · simp only [lkP, if_neg e] at h
      obtain ⟨q, h1, h2⟩ := lkP_mem h
      exact ⟨q, by simp [h1], h2⟩
theorem hits_of {X : Cx} {pins : List (Addr × Obj)} {σ : St} {H : Hp} {s : Shared} {A : Around} {ls : List (List Key × V)} {ds : DPy} {xb : List (List Key × Addr × Value)} (I : Inv X pins σ H s) (hu : A.in1.units + 64 < cLine) (kb : KT H ls xb) (hk : ls.map (·.1) = ds.map (·.1)) (hd : DpAll X.K H (ls.map (·.2)) (ds.map (·.2))) (hs : ∀ p ∈ ds, SeqAt.shaped p.2 = true) :
    ∀ {ks : List (List Key × V)} {cs : DPy} {xa : List (List Key × Addr × Value)}, KT H ks xa → ks.map (·.1) = cs.map (·.1) → DpAll X.K H (ks.map (·.2)) (cs.map (·.2)) → (∀ p ∈ cs, SeqAt.shaped p.2 = true) → HitsT X.prog X.w A.in1 s xb xa (cs.all (eqP1 ds))
  | [], [], _, .nil, _, _, _ => .nil
  | [], _ :: _, _, _, h, _, _ => by simp at h
  | _ :: _, [], _, _, h, _, _ => by simp at h
  | p :: ks, c :: cs, x :: xa, .cons h t, e, l, sh => by
    simp only [List.map_cons, List.cons.injEq] at e
    cases l with
    | cons i l =>
      have ih := hits_of I hu kb hk hd hs t e.2 l fun q hq => sh q (by simp [hq])
      obtain ⟨h1, h2, h3⟩ := h
      have ek : x.1 = c.1 := h1.symm.trans e.1
      have kv := kb.val x.1
      obtain ⟨v1, v2⟩ := lkP_is (k := c.1) hk hd
      rw [List.all_cons]
      cases el : lkP ds c.1 with
      | none =>
        have ev := v2 el
        rw [← ek] at ev
        rw [ev] at kv
        have en : atKey xb x.1 = none := by
          cases ea : atKey xb x.1 with
          | none => rfl
          | some y => rw [ea] at kv; exact kv.elim
        have ef : eqP1 ds c = false := by unfold eqP1; rw [el]
        rw [ef, Bool.false_and]
        exact .miss en
      | some y =>
        obtain ⟨v, ev, dv⟩ := v1 y el
        rw [← ek] at ev
        rw [ev] at kv
        cases ea : atKey xb x.1 with
        | none => rw [ea] at kv; exact kv.elim
        | some z =>
          rw [ea] at kv
          have rz : RelV v z.2 := kv
          have ef : eqP1 ds c = PyData.eqv c.2 y := by unfold eqP1; rw [el]
          obtain ⟨_, r1⟩ := Dp.reads I _ _ _ i h3
          obtain ⟨_, r2⟩ := Dp.reads I _ _ _ dv rz
          obtain ⟨q, hq, eq⟩ := lkP_mem el
          rw [ef]
          exact .hit ea (SeqAt.EqAt.eqP (keq_at r1 r2 (sh c (by simp)) (by rw [← eq]; exact hs q hq) hu)) ih
def rEqT (K : PySem.W.Frag) (neg : Bool) : R2 := fun x y H Q => ∃ a b ks ls cs ds, x = .ref a ∧ y = .ref b ∧ DicP K H a ks cs ∧ DicP K H b ls ds ∧ Q (.bl (if neg then !eqDP cs ds else eqDP cs ds)) H
section
variable {X : Cx}
theorem dic_len {H : Hp} {ks : List (List Key × V)} {cs : DPy} {xa : List (List Key × Addr × Value)} (r : KT H ks xa) (e : ks.map (·.1) = cs.map (·.1)) : xa.length = cs.length := by
  have h1 : ks.length = xa.length := Paired.length r
  have h2 := congrArg List.length e
  rw [List.length_map, List.length_map] at h2
  omega
theorem op_eqT (hu : X.A.units + 66 < cLine) : OpR X (compareOp .Eq) (rEqT X.K false) := by
  intro pins s σ H x y v u Q I rx ry h
  obtain ⟨a, b, ks, ls, cs, ds, rfl, rfl, da, db, q⟩ := h
  cases (show v = Value.ref a from rx)
  cases (show u = Value.ref b from ry)
  obtain ⟨za, na, xa, ra, ta⟩ := dt_rd I.hok da.rd
  obtain ⟨zb, nb, xb, rb, tb⟩ := dt_rd I.hok db.rd
  refine rc_dicts na nb ta tb (by omega) (tupleKind_room_in1 (by omega)) (r := cs.all (eqP1 ds)) (fun _ => hits_of I (by show X.A.units + 1 + 64 < cLine; omega) rb db.keys db.vals db.shp ra da.keys da.vals da.shp) _ _ (fin_bl I q ?_)
  rw [dic_len ra da.keys, dic_len rb db.keys]
  rfl
theorem op_neT (hu : X.A.units + 66 < cLine) : OpR X (compareOp .NotEq) (rEqT X.K true) := by
  intro pins s σ H x y v u Q I rx ry h
  obtain ⟨a, b, ks, ls, cs, ds, rfl, rfl, da, db, q⟩ := h
  cases (show v = Value.ref a from rx)
  cases (show u = Value.ref b from ry)
  obtain ⟨za, na, xa, ra, ta⟩ := dt_rd I.hok da.rd
  obtain ⟨zb, nb, xb, rb, tb⟩ := dt_rd I.hok db.rd
  refine rcN_dicts na nb ta tb (by omega) (tupleKind_room_in1 (by omega)) (r := cs.all (eqP1 ds)) (fun _ => hits_of I (by show X.A.units + 1 + 64 < cLine; omega) rb db.keys db.vals db.shp ra da.keys da.vals da.shp) _ _ (fin_bl I q ?_)
  rw [dic_len ra da.keys, dic_len rb db.keys]
  rfl
end
/-! ### on data -/
def pyD (m : Mem) : List (List Key × D) → Option DPy
  | [] => some []
  | p :: r => match toPy m p.2, pyD m r with
    | some a, some b => some ((p.1, a) :: b)
    | _, _ => none
theorem pyD_ok {K : PySem.W.Frag} {g : Gh} {m : Mem} (rp : Rep K g m) : ∀ {vs : List (List Key × V)} {kvs : List (List Key × D)} {cs : DPy}, vs.map (·.1) = kvs.map (·.1) → IsGL K g m (vs.map (·.2)) (kvs.map (·.2)) → pyD m kvs = some cs → vs.map (·.1) = cs.map (·.1) ∧ DpAll K g.H (vs.map (·.2)) (cs.map (·.2))
  | [], [], _, _, _, h => by cases h; exact ⟨rfl, .nil⟩
  | [], _ :: _, _, h, _, _ => by simp at h
  | _ :: _, [], _, h, _, _ => by simp at h
  | p :: vs, q :: kvs, cs, e, l, h => by
    simp only [List.map_cons, List.cons.injEq] at e
    cases l with
    | cons i t =>
      simp only [pyD] at h
      split at h
      · rename_i a b e1 e2
        cases h
        obtain ⟨h1, h2⟩ := pyD_ok rp e.2 t e2
        exact ⟨by simp only [List.map_cons]; rw [h1, e.1], .cons (toPy_ok rp i e1) h2⟩
      · cases h
def shpAll (cs : DPy) : Bool := cs.all fun p => SeqAt.shaped p.2
def hEqT (neg : Bool) : H2 := fun x y m => match dicT m x, dicT m y with
  | some ks, some ls => (match pyD m ks, pyD m ls with
    | some cs, some ds => if shpAll cs = true ∧ shpAll ds = true then .ok (.bl (if neg then !eqDP cs ds else eqDP cs ds)) m else .bad
    | _, _ => .bad)
  | _, _ => .bad
theorem sd_eqT {K : PySem.W.Frag} (neg : Bool) : OpSd K (rEqT K neg) (hEqT neg) := fun W σ g m x y dx dy Q rp ix iy q => by
  unfold hEqT at q
  split at q
  · rename_i ks ls e1 e2
    split at q
    · rename_i cs ds e3 e4
      split at q
      · rename_i hs
        obtain ⟨a, vs, rfl, rd, hk, il⟩ := dicT_ok rp ix e1
        obtain ⟨b, ws, rfl, rd2, hk2, il2⟩ := dicT_ok rp iy e2
        obtain ⟨p1, p2⟩ := pyD_ok rp hk il e3
        obtain ⟨p3, p4⟩ := pyD_ok rp hk2 il2 e4
        exact ⟨a, b, vs, ws, cs, ds, rfl, rfl, ⟨rd, p1, p2, fun p hp => List.all_eq_true.mp hs.1 p hp⟩, ⟨rd2, p3, p4, fun p hp => List.all_eq_true.mp hs.2 p hp⟩, pre_val rp q (.bl _)⟩
      · exact q.elim
    · exact q.elim
  · exact q.elim
section
variable {X : Cx} {W : WX} {a b : Expr} {fa fb : FE} {pos : Pos} {k : Nat}
theorem units66 {k : Nat} {A : Around} (hr : Room k A) : A.units + 66 < cLine := by have := hr.un; omega
theorem cm_eqD (hr : Room k X.A) (ha : PD X W a fa) (hb : PD X W b fb) : PD X W (.Compare a [.Eq] [b] pos) (eOp (hEqT false) fa fb) := pd_cmp (op_eqT (units66 hr)) (sd_eqT false) ha hb
theorem cm_neD (hr : Room k X.A) (ha : PD X W a fa) (hb : PD X W b fb) : PD X W (.Compare a [.NotEq] [b] pos) (eOp (hEqT true) fa fb) := pd_cmp (op_neT (units66 hr)) (sd_eqT true) ha hb
theorem ct_eqD (hr : Room k X.A) (ha : PD X W a fa) (hb : PD X W b fb) : PDT X W (.Compare a [.Eq] [b] pos) (tTr (eOp (hEqT false) fa fb)) := pdt_cmp (op_eqT (units66 hr)) (sd_eqT false) ha hb
theorem ct_neD (hr : Room k X.A) (ha : PD X W a fa) (hb : PD X W b fb) : PDT X W (.Compare a [.NotEq] [b] pos) (tTr (eOp (hEqT true) fa fb)) := pdt_cmp (op_neT (units66 hr)) (sd_eqT true) ha hb
end
end DL
end
section
set_option maxRecDepth 100000
set_option maxHeartbeats 2000000
/-! The data layer, part 29: binary operators of own classes. -/
namespace DL
open PySem PySem.W PySem.Calls PyProof.Rows Builtin
open AutoSeq1 (wpAny_loadPart')
open MeetsSeq
section
variable {prog : Program} {w : World} {A : Around} {E : Value → Shared → Prop} {s : Shared} {K : Frag} {x C L f dx : Addr} {h₀ : Heap} {m : Str → Option Value} {ox : Obj} {od : Option Obj} {Q : Value → Shared → Prop}
theorem meet_mul (b : Int) (u : Tok) (l C dx : Addr) : Meets (Builtin.«int.__mul__» ⟨[.int b u, .ref l], []⟩) (fun _ R s => s.heap.get? l = some (instObj C dx) ∧ R (.ok (.ret .notImplemented)) s) :=
  .of_wp fun prog w A R s h => by obtain ⟨hp, g, d, tk, os⟩ := s; obtain ⟨hl, h⟩ := h; wp_walk using wpAny_loadPart' hl, wpAny_load hl; exact ⟨_, rfl, h⟩
theorem dec_mul {b : Int} {u : Tok} (I : InstAt s.heap x (instObj C dx) C od) (q : Q .notImplemented s) : wpAny (model prog w) A (call (.builtin "int.__mul__") [.int b u, .ref x]) Q E s :=
  call_meets PySem.F.slot_int_mul (typeIs_int s b u) PySem.F.entry_int_mul (PySem.F.args_int_mul_2 _ _) (meet_mul b u x C dx) ⟨I.at_, q⟩
/-- int * own -/
theorem rmul_K {n : Int} {t : Tok} {f2 : Addr} (F : Fr h₀ L s.heap m) (X₀ : K.In h₀) (I : InstAt s.heap x (instObj C dx) C od) (hc : selfFirst K C = true)
    (hs : findIn K (.ref C) "__mul__" = some (some (.ref f2))) (hr : findIn K (.ref C) "__rmul__" = some (some (.ref f))) (hf : isFn K (.ref f) = true) (hsub : subIn K (.ref C) (.type "int") = some false)
    (h : wpAny (model prog w) A (call (.ref f) [.ref x, .int n t]) (PySem.W.CmpBack Q) E s) : wpAny (model prog w) A (binaryOp .Mult (.int n t) (.ref x)) Q E s := by
  have X := X₀.keeps F.keep
  obtain ⟨cd, rest, hcd, hm⟩ := ksp_first hc
  have hs' : findIn K (.ref C) (PySem.dunder "mul") = some (some (.ref f2)) := hs
  have hr' : findIn K (.ref C) (dunderR "mul") = some (some (.ref f)) := hr
  have one := ksp_try (name := dunderR "mul") X I hr' hf h
  have L3 : Looks (model prog w) s.heap (fillsNumberSlot (.ref C) "mul") true := fills_K X hcd hm hs'
  have L5 : Looks (model prog w) s.heap (isSubtype (.ref C) (.type "int")) false := looks_subIn X hsub
  have hne : (Value.type "int" == Value.ref C) = false := Bool.eq_false_iff.mpr fun q => by cases beq_iff_eq.mp q
  unfold binaryOp
  refine wpAny_holding ?_
  show wpAny _ _ (binaryOp1 "mul" (.int n t) (.ref x) >>= _) _ _ s
  refine wpAny_bind ?_
  unfold binaryOp1
  refine wpAny_bind (wpAny_typeOf (typeIs_int s n t) (wpAny_bind (I.type.here ?_)))
  rw [PySem.F.fills_int_mul]
  refine wpAny_bind (wpAny_pure ?_)
  simp only [hne, Bool.false_eq_true, if_false]
  refine wpAny_bind (L3.here ?_)
  simp only [Bool.and_self, if_true]
  refine wpAny_bind (L5.here ?_)
  simp only [Bool.false_eq_true, if_false]
  refine wpAny_bind (wpAny_pure ?_)
  simp only [Bool.false_eq_true, if_false, Bool.not_false, Bool.and_true, Bool.and_self, if_true]
  refine wpAny_bind (m := tryMethod (.int n t) _ (.ref x)) ?_
  unfold tryMethod
  refine wpAny_bind (wpAny_callSpecial?_slot (typeIs_int s n t) PySem.F.slot_int_mul (dec_mul I (wpAny_pure ?_)))
  dsimp only
  refine wpAny_bind (wpAny_mono one (fun r s' hr' => ?_) fun _ _ e => e)
  obtain ⟨v, rfl, hq⟩ := hr'
  refine wpAny_bind (wpAny_rule (wpAny_pure (wpAny_pure hq)))
end
end DL
namespace DL
open PySem L2
open Classical
/-- facts of a class whose methods serve + - * -/
structure BinOk (K : PySem.W.Frag) (c : Str) (nm : String) : Prop where
  first : PySem.W.selfFirst K (He.ga K c) = true
  refl : ∃ rc, PySem.W.findIn K (.ref (He.ga K c)) (PySem.dunderR nm) = some rc ∧ (rc = none ∨ ∃ g : Addr, rc = some (.ref g))
  intF : ∃ fo, PySem.W.findIn K (.type "int") (PySem.dunder nm) = some fo
  intR : ∃ ro, PySem.W.findIn K (.type "int") (PySem.dunderR nm) = some ro
noncomputable def hBin (c : Str) (F : HL) : H2 := fun x y m => if isC c m x ∧ isC c m y then F [x, y] m else .bad
def isInt : D → Prop
  | .int _ => True
  | _ => False
noncomputable def hBinI (c : Str) (F : HL) : H2 := fun x y m => if isC c m x ∧ isInt y then F [x, y] m else .bad
noncomputable def hRBin (c : Str) (F : HL) : H2 := fun x y m => if isC c m y ∧ isInt x then F [y, x] m else .bad
def rBin (K : PySem.W.Frag) (c : Str) (n : Nat) (F : HL) (E : XK) : R2 := fun x y H Q => ∃ a dx fs b dy gs, x = .ref a ∧ H a = some (.ins (He.ga K c) dx fs) ∧ y = .ref b ∧ H b = some (.ins (He.ga K c) dy gs) ∧ spD K n F [x, y] H Q E
def rBinI (K : PySem.W.Frag) (c : Str) (n : Nat) (F : HL) (E : XK) : R2 := fun x y H Q => ∃ a dx fs i, x = .ref a ∧ H a = some (.ins (He.ga K c) dx fs) ∧ y = .int i ∧ spD K n F [x, y] H Q E
def rRBin (K : PySem.W.Frag) (c : Str) (n : Nat) (F : HL) (E : XK) : R2 := fun x y H Q => ∃ a dx fs i, y = .ref a ∧ H a = some (.ins (He.ga K c) dx fs) ∧ x = .int i ∧ spD K n F [y, x] H Q E
section
variable {X : Cx} {W : WX} {k : Nat} {c : Str} {ps : List Str} {F : HL} {own : List Str}
theorem bin_sd (hW : Flat W) (h2 : ps.length = 2) {σ σ0 : St} {g : Gh} {m : Mem} {x y : V} {dx dy : D} {Q : VK} (rp : Rep X.K g m) (ix : IsG X.K g m x dx) (iy : IsG X.K g m y dy) (q : Pre (RE X.K) X.K W σ g m Q (hBin c F dx dy m)) : rBin X.K c ps.length F (WE W σ0) x y g.H Q := by
  unfold hBin at q
  split at q
  · rename_i hcc
    obtain ⟨⟨fs, e1⟩, gs, e2⟩ := hcc
    obtain ⟨a, dd, vs, rfl, h1, _⟩ := insV_ok rp ix e1
    obtain ⟨b, de, ws, rfl, w1, _⟩ := insV_ok rp iy e2
    exact ⟨a, dd, vs, b, de, ws, rfl, h1, rfl, w1, by rw [h2]; rfl, g, m, [dx, dy], rfl, rp, .cons ix (.cons iy .nil), (Pre.flat (σ' := σ0) hW q).at⟩
  · exact q.elim
theorem binI_sd (hW : Flat W) (h2 : ps.length = 2) {σ σ0 : St} {g : Gh} {m : Mem} {x y : V} {dx dy : D} {Q : VK} (rp : Rep X.K g m) (ix : IsG X.K g m x dx) (iy : IsG X.K g m y dy) (q : Pre (RE X.K) X.K W σ g m Q (hBinI c F dx dy m)) : rBinI X.K c ps.length F (WE W σ0) x y g.H Q := by
  unfold hBinI at q
  split at q
  · rename_i hcc
    obtain ⟨⟨fs, e1⟩, hi⟩ := hcc
    obtain ⟨a, dd, vs, rfl, h1, _⟩ := insV_ok rp ix e1
    cases iy <;> try exact hi.elim
    exact ⟨a, dd, vs, _, rfl, h1, rfl, by rw [h2]; rfl, g, m, [dx, _], rfl, rp, .cons ix (.cons (.int _) .nil), (Pre.flat (σ' := σ0) hW q).at⟩
  · exact q.elim
theorem rbin_sd (hW : Flat W) (h2 : ps.length = 2) {σ σ0 : St} {g : Gh} {m : Mem} {x y : V} {dx dy : D} {Q : VK} (rp : Rep X.K g m) (ix : IsG X.K g m x dx) (iy : IsG X.K g m y dy) (q : Pre (RE X.K) X.K W σ g m Q (hRBin c F dx dy m)) : rRBin X.K c ps.length F (WE W σ0) x y g.H Q := by
  unfold hRBin at q
  split at q
  · rename_i hcc
    obtain ⟨⟨fs, e1⟩, hi⟩ := hcc
    obtain ⟨a, dd, vs, rfl, h1, _⟩ := insV_ok rp iy e1
    cases ix <;> try exact hi.elim
    exact ⟨a, dd, vs, _, rfl, h1, rfl, by rw [h2]; rfl, g, m, [dy, _], rfl, rp, .cons iy (.cons (.int _) .nil), (Pre.flat (σ' := σ0) hW q).at⟩
  · exact q.elim
theorem ow_bin {op : Operator} {mn : Str} (G : Met1 X.prog X.w X.K X.mg X.base k c mn ps [] F) (hr : Room k X.A) (tk : Takes X W) (hW : Flat W) (B : BinOk X.K c op.info.2) (h2 : ps.length = 2) (hmn : PySem.dunder op.info.2 = mn) : OW X W (binaryOp op) (hBin c F) := by
  obtain ⟨f, fd, hm, hF, hb⟩ := met_open G
  refine ⟨⟨rBin X.K c ps.length F (WE W []), ?_, fun σ g m x y dx dy Q rp ix iy q => bin_sd hW h2 rp ix iy q⟩⟩
  intro pins s σ H x y v u Q I rx ry q
  obtain ⟨a, dx, fs, b, dy, gs, rfl, ha, rfl, hb2, sp⟩ := q
  cases (show v = Value.ref a from rx)
  cases (show u = Value.ref b from ry)
  obtain ⟨mA, J, _⟩ := ins_get I.hok ha
  obtain ⟨od, J, _⟩ := J.look
  obtain ⟨mB, JB, _⟩ := ins_get I.hok hb2
  obtain ⟨od2, JB, _⟩ := JB.look
  obtain ⟨m, hFr⟩ := I.fr
  refine PySem.W.binop_K (op := op) hFr I.ok.mod.kin J JB.type B.first (by rw [hmn]; exact hm.at_) hm.fn ?_
  exact wpAny_mono (run_at hF ⟨hr, rfl⟩ hb tk hW I (.cons rx (.cons ry .nil)) sp) (fun w s' z => ep_cmp z) fun _ _ e => e
theorem ow_binI {op : Operator} {mn : Str} (G : Met1 X.prog X.w X.K X.mg X.base k c mn ps [] F) (hr : Room k X.A) (tk : Takes X W) (hW : Flat W) (kt : KitOk X.K own) (hc : c ∈ own) (B : BinOk X.K c op.info.2) (h2 : ps.length = 2) (hmn : PySem.dunder op.info.2 = mn) : OW X W (binaryOp op) (hBinI c F) := by
  obtain ⟨f, fd, hm, hF, hb⟩ := met_open G
  refine ⟨⟨rBinI X.K c ps.length F (WE W []), ?_, fun σ g m x y dx dy Q rp ix iy q => binI_sd hW h2 rp ix iy q⟩⟩
  intro pins s σ H x y v u Q I rx ry q
  obtain ⟨a, dx, fs, i, rfl, ha, rfl, sp⟩ := q
  cases (show v = Value.ref a from rx)
  have ry' := ry
  obtain ⟨t, rfl⟩ := ry'
  obtain ⟨mA, J, _⟩ := ins_get I.hok ha
  obtain ⟨od, J, _⟩ := J.look
  obtain ⟨m, hFr⟩ := I.fr
  obtain ⟨rc, e1, e2⟩ := B.refl
  obtain ⟨fo, e3⟩ := B.intF
  obtain ⟨ro, e4⟩ := B.intR
  refine PySem.W.ksp_binT (op := op) (T := "int") hFr I.ok.mod.kin J rfl B.first (by rw [hmn]; exact hm.at_) hm.fn e1 e2 e3 e4 (sub_of_kit (kt.bo "int" (by decide) c hc)) ?_
  exact wpAny_mono (run_at hF ⟨hr, rfl⟩ hb tk hW I (.cons rx (.cons ry .nil)) sp) (fun w s' z => ep_cmp z) fun _ _ e => e
theorem ow_rbin {ps2 : List Str} {F2 : HL} {k2 : Nat} (G : Met1 X.prog X.w X.K X.mg X.base k c "__rmul__" ps [] F) (G2 : Met1 X.prog X.w X.K X.mg X.base k2 c "__mul__" ps2 [] F2) (hr : Room k X.A) (tk : Takes X W) (hW : Flat W) (kt : KitOk X.K own) (hc : c ∈ own) (B : BinOk X.K c "mul") (h2 : ps.length = 2) : OW X W (binaryOp .Mult) (hRBin c F) := by
  obtain ⟨f, fd, hm, hF, hb⟩ := met_open G
  obtain ⟨f2, fd2, hm2, _, _⟩ := met_open G2
  refine ⟨⟨rRBin X.K c ps.length F (WE W []), ?_, fun σ g m x y dx dy Q rp ix iy q => rbin_sd hW h2 rp ix iy q⟩⟩
  intro pins s σ H x y v u Q I rx ry q
  obtain ⟨a, dx, fs, i, rfl, ha, rfl, sp⟩ := q
  cases (show u = Value.ref a from ry)
  have rx' := rx
  obtain ⟨t, rfl⟩ := rx'
  obtain ⟨mA, J, _⟩ := ins_get I.hok ha
  obtain ⟨od, J, _⟩ := J.look
  obtain ⟨m, hFr⟩ := I.fr
  refine rmul_K hFr I.ok.mod.kin J B.first hm2.at_ hm.at_ hm.fn (sub_of_kit (kt.ob c hc "int" (by decide))) ?_
  exact wpAny_mono (run_at hF ⟨hr, rfl⟩ hb tk hW I (.cons ry (.cons rx .nil)) sp) (fun w s' z => ep_cmp z) fun _ _ e => e
end
/-! the facts, told by a Bool -/
def exBin (K : PySem.W.Frag) (c : Str) (nm : String) : Bool :=
  PySem.W.selfFirst K (He.ga K c) && ((match PySem.W.findIn K (.ref (He.ga K c)) (PySem.dunderR nm) with
    | some none => true
    | some (some (.ref _)) => true
    | _ => false) && ((PySem.W.findIn K (.type "int") (PySem.dunder nm)).isSome && (PySem.W.findIn K (.type "int") (PySem.dunderR nm)).isSome))
theorem exBin_ok {K : PySem.W.Frag} {c : Str} {nm : String} (h : exBin K c nm = true) : BinOk K c nm := by
  obtain ⟨h1, h⟩ := band h
  obtain ⟨h2, h⟩ := band h
  obtain ⟨h3, h4⟩ := band h
  refine ⟨h1, ?_, Option.isSome_iff_exists.mp h3, Option.isSome_iff_exists.mp h4⟩
  split at h2
  · rename_i e; exact ⟨none, e, .inl rfl⟩
  · rename_i g e; exact ⟨_, e, .inr ⟨g, rfl⟩⟩
  · cases h2
end DL
end
section
set_option maxRecDepth 100000
set_option maxHeartbeats 2000000
/-! The data layer, part 30: x in a list of deep data; the values of a dict with tuple keys. -/
namespace DL
open PySem L2
open Classical
/-! ### x in xs, data of any depth -/
def hInD (neg : Bool) : H2 := fun x y m => match toPyM m x, toPyM m y with
  | some a, some (.list bs) => if SeqAt.shaped a = true ∧ SeqAt.shaped (.list bs) = true then .ok (.bl (if neg then !bs.any (fun z => PyData.eqv z a) else bs.any fun z => PyData.eqv z a)) m else .bad
  | _, _ => .bad
theorem sd_inD {K : PySem.W.Frag} : OpSd K (rInD K) (hInD false) := fun W σ g m x y dx dy Q rp ix iy q => by
  unfold hInD at q
  split at q
  · rename_i a bs e1 e2
    split at q
    · rename_i hs
      exact ⟨a, bs, toPyM_ok rp ix e1, toPyM_ok rp iy e2, hs.1, hs.2, pre_val rp q (.bl _)⟩
    · exact q.elim
  · exact q.elim
theorem sd_ninD {K : PySem.W.Frag} : OpSd K (rNotInD K) (hInD true) := fun W σ g m x y dx dy Q rp ix iy q => by
  unfold hInD at q
  split at q
  · rename_i a bs e1 e2
    split at q
    · rename_i hs
      exact ⟨a, bs, toPyM_ok rp ix e1, toPyM_ok rp iy e2, hs.1, hs.2, pre_val rp q (.bl _)⟩
    · exact q.elim
  · exact q.elim
section
variable {X : Cx} {W : WX} {a b : Expr} {fa fb : FE} {pos : Pos} {k : Nat}
theorem units65 {k : Nat} {A : Around} (hr : Room k A) : A.units + 65 < cLine := by have := hr.un; omega
theorem cm_inP (hr : Room k X.A) (ha : PD X W a fa) (hb : PD X W b fb) (hm : behindInMarks .In b = false := by rfl) : PD X W (.Compare a [.In] [b] pos) (eOp (hInD false) fa fb) := pd_cmp (op_inD (units65 hr)) sd_inD ha hb hm
theorem cm_ninP (hr : Room k X.A) (ha : PD X W a fa) (hb : PD X W b fb) (hm : behindInMarks .NotIn b = false := by rfl) : PD X W (.Compare a [.NotIn] [b] pos) (eOp (hInD true) fa fb) := pd_cmp (op_notInD (units65 hr)) sd_ninD ha hb hm
theorem ct_inP (hr : Room k X.A) (ha : PD X W a fa) (hb : PD X W b fb) (hm : behindInMarks .In b = false := by rfl) : PDT X W (.Compare a [.In] [b] pos) (tTr (eOp (hInD false) fa fb)) := pdt_cmp (op_inD (units65 hr)) sd_inD ha hb hm
theorem ct_ninP (hr : Room k X.A) (ha : PD X W a fa) (hb : PD X W b fb) (hm : behindInMarks .NotIn b = false := by rfl) : PDT X W (.Compare a [.NotIn] [b] pos) (tTr (eOp (hInD true) fa fb)) := pdt_cmp (op_notInD (units65 hr)) sd_ninD ha hb hm
end
/-! ### d.values() -/
def Jv (d : Addr) (o : Obj) (kvs : List (List Key × V)) : It :=
  ⟨fun i H => H d = some (.frz o (.dT kvs)) ∧ i < kvs.length, fun i H x H' => H' = H ∧ ∃ ks, kvs[i]? = some (ks, x), fun i H => H d = some (.frz o (.dT kvs)) ∧ kvs.length ≤ i⟩
theorem turn_valsT {P : Program} {w : World} {K : PySem.W.Frag} {tg : Expr} {d : Addr} {o : Obj} {es0 : Array DictEntry} {ep0 : Nat} {kvs : List (List Key × V)} (it : Addr) (hod : o.data = .dict es0 ep0) :
    Turn P w K tg (Jv d o kvs) [it] it (fun i h => h.IsValIter it d i kvs.length ep0) where
  mem := by simp
  obj := by
    rintro i h st c hc
    rw [List.mem_singleton] at hc
    subst hc
    obtain ⟨oi, e, cc, dd⟩ := st
    exact ⟨oi, e, fun v z => by rw [dd] at z; cases z⟩
  keep := fun i h h' st k => st.at fun oi e => k it (by simp) oi e
  item := by
    intro X hP hw hK hc i pins s σ H E I hf st hg
    subst hP hw hK
    obtain ⟨hd, hi⟩ := hg
    obtain ⟨f0, f1, f2, f3, f4, f5⟩ := hf it (by simp)
    obtain ⟨hs, es, ep, hraw, hdt, hsz, ent⟩ := frzT2 I hd
    obtain ⟨rfl, rfl⟩ := dict_ep hod hdt
    obtain ⟨⟨ks, v⟩, hkv⟩ : ∃ p, kvs[i]? = some p := ⟨kvs[i], List.getElem?_eq_getElem hi⟩
    have hi' : i < es.size := by rw [hsz]; exact hi
    obtain ⟨q, hkey, hq, rv⟩ := ent i hi' ks v hkv
    rw [← hsz] at st
    refine wpAny_pyNext_values_item_raw st hraw hi' fun h' st' sb => ?_
    have I1 : Inv X pins σ H { s with heap := h' } := I.turned (t' := s.toks) (fun b ob hb e => (sb.2 b hb).trans e) f0 f1 f3 f4 f5
    obtain ⟨oi, e, c, dd⟩ := id st'
    refine ⟨_, rfl, go_of (s := { s with heap := h' }) e c dd (by decide) ⟨v, H, I1, rv, ⟨rfl, ks, hkv⟩, ?_, fun b hb => (hf b hb).1⟩⟩
    rw [← hsz]
    exact st'
  done := by
    intro X hP hw hK hc i pins s σ H E I hf st hg
    subst hP hw hK
    obtain ⟨hd, hi⟩ := hg
    obtain ⟨f0, f1, f2, f3, f4, f5⟩ := hf it (by simp)
    obtain ⟨hs, es, ep, hraw, hdt, hsz, ent⟩ := frzT2 I hd
    obtain ⟨rfl, rfl⟩ := dict_ep hod hdt
    rw [← hsz] at st
    exact wpAny_pyNext_values_end_raw (I.ok.hd hc) st hraw (by rw [hsz]; exact hi) fun h' eb => ⟨rfl, I.turned (t' := s.toks) eb f0 f1 f3 f4 f5⟩
  self := fun A i s Q E st h => wpAny_pyIter_valiter st h
def iValsL (td : TE) : TI := fun σ H R => td σ H fun x H1 => ∃ d kvs, x = .ref d ∧ ((H1 d = some (.dT kvs) ∧ (kvs.length ≤ sizeLine → ∀ o, R (Jv d o kvs) (upd H1 d (.frz o (.dT kvs))))) ∨ ∃ o, H1 d = some (.frz o (.dT kvs)) ∧ (kvs.length ≤ sizeLine → R (Jv d o kvs) H1))
theorem pie_vals {X : Cx} {tg : Expr} {cpos : Pos} {pins : List (Addr × Obj)} {σ : St} {H : Hp} {s : Shared} {d : Addr} {o : Obj} {kvs : List (List Key × V)} {R : It → Hp → Prop} (I : Inv X pins σ H s) (h : H d = some (.frz o (.dT kvs))) (q : R (Jv d o kvs) H) :
    wpAny (model X.prog X.w) X.A (callWith cpos (.builtin "dict.values") [.ref d] [] []) (fun v s1 => wpAny (model X.prog X.w) X.A (pyIter v) (PIE X pins σ tg R) X.xe s1) X.xe s := by
  obtain ⟨hs, es, ep, hraw, hdt, hsz, ent⟩ := frzT2 I h
  have I2 : Inv X pins σ H { s with heap := s.heap.push { cls := .type "dict_values", data := .fields #[.ref d] } } := I.kept (t' := s.toks) fun b ob e => Heap.get?_push_of_some _ e
  refine method_meetsIn F.slot_dict_values F.entry_dict_values rfl (PySem.evalArgs_none ⟨rfl, hraw.typeIs, F.args_dict_values_1 _, _, meets_dict_values_raw d hs, ⟨es, ep, hraw⟩, ?_⟩)
  refine wpAny_pyIter_values_raw (d := d) ⟨_, Heap.get?_push_size _ rfl, rfl, rfl⟩ (hraw.at fun ob e => Heap.get?_push_of_some _ e) (pi_one (tk := s.toks) I2 _ (turn_valsT _ hdt) ⟨_, Heap.get?_push_size _ rfl, rfl, ?_⟩ q)
  rw [← hsz]
  rfl
theorem pi_valsL {X : Cx} {tg e : Expr} {td : TE} {apos cpos : Pos} (he : PE X e td) (hbase : attributeBase e "values" X.env (eval e X.env) = eval e X.env := by rfl) (hline : (apos.endLine == cpos.line) = true := by rfl) :
    PI X tg (.Call (.Attribute e "values" apos) [] [] cpos) (iValsL td) := by
  refine ⟨fun pins s σ H R I h => wpAny_Call_method (T := "dict") (id := "dict.values") hbase rfl hline F.plainAttrs_dict F.slot_dict_values F.type_dict_values (thn (he.run pins s σ H _ I h) fun u s1 ⟨x, H1, I1, rx, d, kvs, ex, q⟩ => ?_)⟩
  subst ex
  cases (show u = Value.ref d from rx)
  rcases q with ⟨hd, q⟩ | ⟨o, hd, q⟩
  · obtain ⟨od, I2⟩ := I1.lock hd True.intro
    obtain ⟨_, es, ep, hraw, _⟩ := frzT2 I2 upd_same
    refine ⟨hraw.typeIs, ?_, pie_vals I2 upd_same (q (dT_len I1 (.inl hd)) od)⟩
    rintro b ⟨⟩
    obtain ⟨ob, hob, hx, _⟩ := hraw
    exact ⟨ob, hob, hx.2.1⟩
  · obtain ⟨_, es, ep, hraw, _⟩ := frzT2 I1 hd
    refine ⟨hraw.typeIs, ?_, pie_vals I1 hd (q (dT_len I1 (.inr ⟨o, hd⟩)))⟩
    rintro b ⟨⟩
    obtain ⟨ob, hob, hx, _⟩ := hraw
    exact ⟨ob, hob, hx.2.1⟩
theorem iter_dv {K : PySem.W.Frag} {g : Gh} {m : Mem} {d : Addr} {o : Obj} {vs : List (List Key × V)} {kvs : List (List Key × D)} (hz : vs.length ≤ sizeLine) (h : g.H d = some (.frz o (.dT vs))) (hk : vs.map (·.1) = kvs.map (·.1)) (il : IsGL K g m (vs.map (·.2)) (kvs.map (·.2))) : IterOk K (Jv d o vs) g m (kvs.map (·.2)) where
  sz := by
    have := congrArg List.length hk
    rw [List.length_map, List.length_map] at this
    rw [List.length_map]
    omega
  go := fun g' m' rp le i x e => by
    obtain ⟨w, hw, iw⟩ := (il.lw le).get e
    rw [List.getElem?_map] at hw
    obtain ⟨p, hp, rfl⟩ := Option.map_eq_some_iff.mp hw
    refine ⟨⟨le.frz _ _ _ h, (List.getElem?_eq_some_iff.mp hp).1⟩, fun v H' y => ?_⟩
    obtain ⟨rfl, ks, h1⟩ := y
    rw [hp] at h1
    cases h1
    exact ⟨g', rfl, rp, Le.refl _ _, iw⟩
  stop := fun g' m' rp le => by
    refine ⟨le.frz _ _ _ h, ?_⟩
    have := congrArg List.length hk
    rw [List.length_map, List.length_map] at this
    rw [List.length_map]
    omega
def valsI (x : D) (m : Mem) : Res (List D) := match dicW m x with
  | some kvs => .ok (kvs.map (·.2)) m
  | none => .bad
def iVl (a : FE) : FI := fun ρ m => (a ρ m).bind fun x m1 => valsI x m1
theorem pdi_vals {X : Cx} {W : WX} {tg e : Expr} {f : FE} {apos cpos : Pos} (h : PD X W e f) (hb : attributeBase e "values" X.env (eval e X.env) = eval e X.env := by rfl) (hline : (apos.endLine == cpos.line) = true := by rfl) : PDI X W tg (.Call (.Attribute e "values" apos) [] [] cpos) (iVl f) := by
  obtain ⟨t, p, s⟩ := h.ex
  refine ⟨⟨_, pi_valsL p hb hline, fun g m σ ρ R rp en q => s g m σ ρ _ rp en (pre_bind q fun g1 m1 x dx rp1 l1 ix q1 => ?_)⟩⟩
  unfold valsI at q1
  split at q1
  · rename_i kvs ek
    obtain ⟨d, vs, rfl, hk, il, ho⟩ := dicW_ok rp1 ix ek
    refine ⟨d, vs, rfl, ?_⟩
    rcases ho with ⟨hd, ho⟩ | ⟨o, hd⟩
    · exact .inl ⟨hd, fun hz o => q1 _ _ (ho o).1 (ho o).2 (iter_dv hz upd_same hk (il.le (ho o).2))⟩
    · exact .inr ⟨o, hd, fun hz => q1 g1 _ rp1 (Le.refl _ _) (iter_dv hz hd hk il)⟩
  · exact q1.elim
end DL
end
section
set_option maxRecDepth 100000
set_option maxHeartbeats 4000000
namespace Cm
open PySem L2 DL
noncomputable def b__law_start : FS :=
  sRt (eLstM (aCons (eCB hListM (aCons (eVar 0) (aNil))) (aCons (eC (.int 0)) (aCons (eC (.int 0)) (aCons (eC (.int 11)) (aNil))))))
noncomputable def F__law_start : HL := runF 1 (b__law_start)
noncomputable def b__law_draw : FS :=
  sSeq (sAsg (eOp hAdd (eOp hIx (eVar 0) (eC (.int 2))) (eC (.int 1))) (gIx (eVar 0) (eC (.int 2))))
  (sSeq (sIf (tAn (tTr (eOp (hEqP false) (eOp hIx (eVar 0) (eC (.int 1))) (eC (.int 0)))) (tTr (eOp (hEqP true) (eOp hIx (eVar 0) (eC (.int 0))) (eLst (aNil))))) (sSeq (sSet 3 (eM1 isLst hPop (eOp hIx (eVar 0) (eC (.int 0))) (eC (.int 0))))
  (sSeq (sAsg (eOp hMod (eCB hInt (aCons (eOp hAdd (eOp hAdd (eOp hMul (eOp hIx (eVar 0) (eC (.int 3))) (eC (.int 8191))) (eVar 3)) (eC (.int 3))) (aNil))) (eC (.int 2147483647))) (gIx (eVar 0) (eC (.int 3))))
  (sAsg (eIf (tTr (eOp hGe (eVar 3) (eOp hPow (eC (.int 10)) (eC (.int 18))))) (eVar 3) (eC (.int 0))) (gIx (eVar 0) (eC (.int 1)))))) (sNx))
  (sSeq (sIf (tTr (eOp hGt (eOp hIx (eVar 0) (eC (.int 1))) (eC (.int 0)))) (sSeq (sSet 4 (eOp hMod (eCB hInt (aCons (eOp hIx (eVar 0) (eC (.int 1))) (aNil))) (eVar 1)))
  (sSeq (sAsg (eOp hFdiv (eOp hIx (eVar 0) (eC (.int 1))) (eVar 1)) (gIx (eVar 0) (eC (.int 1))))
  (sRt (eVar 4)))) (sNx))
  (sSeq (sSet 2 (eOp hMod (eCB hInt (aCons (eOp hPow (eOp hAdd (eOp hAdd (eOp hIx (eVar 0) (eC (.int 3))) (eOp hMul (eC (.int 7919)) (eOp hIx (eVar 0) (eC (.int 2))))) (eC (.int 104729))) (eC (.int 5))) (aNil))) (eC (.int 2147483629))))
  (sRt (eOp hMod (eOp hMod (eCB hInt (aCons (eOp hPow (eOp hAdd (eOp hAdd (eOp hMul (eVar 2) (eC (.int 48271))) (eOp hMul (eC (.int 30011)) (eOp hIx (eVar 0) (eC (.int 2))))) (eC (.int 29))) (eC (.int 3))) (aNil))) (eC (.int 1000000007))) (eVar 1))))))
noncomputable def F__law_draw : HL := runF 5 (b__law_draw)
noncomputable def b__law_pick : FS :=
  sRt (eOp hIx (eVar 1) (eCall 2 F__law_draw [] (aCons (eVar 0) (aCons (eCB hLen (aCons (eVar 1) (aNil))) (aNil)))))
noncomputable def F__law_pick : HL := runF 2 (b__law_pick)
noncomputable def b__law_name : FS :=
  sSeq (sSet 1 (eOp hIx (eLst (aCons (eC (.int 1)) (aCons (eC (.int 1)) (aCons (eC (.int 2)) (aCons (eC (.int 3)) (aCons (eC (.int 5)) (aCons (eC (.int 8)) (aNil)))))))) (eCall 2 F__law_draw [] (aCons (eVar 0) (aCons (eC (.int 6)) (aNil))))))
  (sRt (eM1 isStr hJoin (eC (.str "")) (eLc false [2] (iRg1 (eVar 1)) (gN 2) (tY) (eCall 2 F__law_pick [] (aCons (eVar 0) (aCons (eC (.str "abcdefghijklmnopqrstuvwxyz")) (aNil)))))))
noncomputable def F__law_name : HL := runF 3 (b__law_name)
noncomputable def b__law_names : FS :=
  sSeq (sSet 2 (eLstM (aNil)))
  (sSeq (sFor (iRg1 (eVar 1)) (gN 3) (sSeq (sSet 4 (eOp hAdd (eLst (aCons (eCall 1 F__law_name [] (aCons (eVar 0) (aNil))) (aNil))) (eLc false [5] (iSeq (eC (.str "abcdefghijklmnop"))) (gN 5) (tY) (eOp hAdd (eVar 5) (eC (.str "jq"))))))
  (sEx (eApp (eVar 2) (eOp hIx (eLc false [6] (iSeq (eVar 4)) (gN 6) (tTr (eOp (hIn true) (eVar 6) (eVar 2))) (eVar 6)) (eC (.int 0)))))))
  (sRt (eFrz (eVar 2))))
noncomputable def F__law_names : HL := runF 7 (b__law_names)
noncomputable def b__law_spare : FS :=
  sRt (eOp hIx (eLc false [1] (iSeq (eLc false [2] (iSeq (eC (.str "zyxwvutsrqponmlkjihg"))) (gN 2) (tY) (eOp hAdd (eC (.str "z")) (eVar 2)))) (gN 1) (tTr (eOp (hIn true) (eVar 1) (eVar 0))) (eVar 1)) (eC (.int 0)))
noncomputable def F__law_spare : HL := runF 3 (b__law_spare)
noncomputable def b__law_same (own : List Str) (self_ : HL) : FS :=
  sSeq (sIf (tTr (eCB (hIsi own) (aCons (eVar 1) (aCons (eTup (aCons (eC (.ty "list")) (aCons (eC (.ty "tuple")) (aNil)))) (aNil))))) (sSeq (sIf (tOr' (tTr (eOp (hEqP true) (eCB (hIsi own) (aCons (eVar 0) (aCons (eC (.ty "list")) (aNil)))) (eCB (hIsi own) (aCons (eVar 1) (aCons (eC (.ty "list")) (aNil)))))) (tTr (eOp (hEqP true) (eCB (hIsi own) (aCons (eVar 0) (aCons (eC (.ty "tuple")) (aNil)))) (eCB (hIsi own) (aCons (eVar 1) (aCons (eC (.ty "tuple")) (aNil))))))) (sRt (eC (.bl false))) (sNx))
  (sRt (eAn (eOp (hEqP false) (eCB hLen (aCons (eVar 0) (aNil))) (eCB hLen (aCons (eVar 1) (aNil)))) (eCB (hBls (·.all id)) (aCons (eLkO 0 (eLc false [2, 3] (iZpA (eVar 0) (eVar 1)) (gT 2 (gsCons (gN 2) (gsCons (gN 3) (gsNil)))) (tY) (eCall 2 self_ [] (aCons (eVar 2) (aCons (eVar 3) (aNil)))))) (aNil)))))) (sNx))
  (sSeq (sIf (tTr (eCB (hIsi own) (aCons (eVar 1) (aCons (eC (.ty "int")) (aNil))))) (sRt (eAn (eCB (hIsi own) (aCons (eVar 0) (aCons (eC (.ty "int")) (aNil)))) (eAn (eOp (hEqP false) (eCB (hIsi own) (aCons (eVar 0) (aCons (eC (.ty "bool")) (aNil)))) (eCB (hIsi own) (aCons (eVar 1) (aCons (eC (.ty "bool")) (aNil))))) (eOp (hEqP false) (eVar 0) (eVar 1))))) (sNx))
  (sRt (eAn (eOp (hIsN false) (eCB (hIsi own) (aCons (eVar 0) (aCons (eTup (aCons (eC (.ty "int")) (aCons (eC (.ty "list")) (aCons (eC (.ty "tuple")) (aNil))))) (aNil)))) (eC (.bl false))) (eOp (hEqP false) (eVar 0) (eVar 1)))))
noncomputable def F__law_same (own : List Str) : Nat → HL
  | 0 => fun _ _ => .bad
  | n + 1 => runF 4 (b__law_same own (F__law_same own n))
noncomputable def b__law_b_rows (self_ : HL) : FS :=
  sSeq (sSet 2 (eLstM (aNil)))
  (sSeq (sFor (iSeq (eIf (tTr (eOp hGt (eVar 0) (eC (.int 0)))) (eCall 2 self_ [] (aCons (eOp hSub (eVar 0) (eC (.int 1))) (aCons (eVar 1) (aNil)))) (eLst (aNil)))) (gN 3) (sEx (eM1 isLst hExt (eVar 2) (eLc false [4] (iRg2 (eIf (tTr (eOp (hEqP true) (eVar 3) (eTup (aNil)))) (eOp hAdd (eOp hIx (eVar 3) (eUn hNeg (eC (.int 1)))) (eC (.int 1))) (eC (.int 0))) (eVar 1)) (gN 4) (tY) (eOp hAdd (eVar 3) (eTup (aCons (eVar 4) (aNil))))))))
  (sRt (eFrz (eIf (tTr (eOp hGt (eVar 0) (eC (.int 0)))) (eVar 2) (eLst (aCons (eTup (aNil)) (aNil)))))))
noncomputable def F__law_b_rows : Nat → HL
  | 0 => fun _ _ => .bad
  | n + 1 => runF 5 (b__law_b_rows (F__law_b_rows n))
noncomputable def b__law_b_lots : FS :=
  sSeq (sSet 2 (eLstM (aNil)))
  (sSeq (sFor (iRg2 (eC (.int 1)) (eOp hAdd (eCB hLen (aCons (eVar 0) (aNil))) (eC (.int 1)))) (gN 3) (sIf (tTr (eVar 1)) (sEx (eM1 isLst hExt (eVar 2) (eLc false [4] (iRg1 (eOp hAdd (eOp hSub (eCB hLen (aCons (eVar 0) (aNil))) (eVar 3)) (eC (.int 1)))) (gN 4) (tY) (eCB hTuple (aCons (eSl false (eVar 0) (oSo (eVar 4)) (oSo (eOp hAdd (eVar 4) (eVar 3)))) (aNil)))))) (sEx (eM1 isLst hExt (eVar 2) (eLc false [5] (iSeq (eCall 2 (F__law_b_rows 6) [] (aCons (eVar 3) (aCons (eCB hLen (aCons (eVar 0) (aNil))) (aNil))))) (gN 5) (tY) (eCB hTuple (aCons (eLc false [4] (iSeq (eVar 5)) (gN 4) (tY) (eOp hIx (eVar 0) (eVar 4))) (aNil))))))))
  (sRt (eFrz (eVar 2))))
noncomputable def F__law_b_lots : HL := runF 6 (b__law_b_lots)
noncomputable def b_is_list (own : List Str) : FS :=
  sRt (eCB (hIsi own) (aCons (eVar 0) (aCons (eTup (aCons (eC (.ty "list")) (aCons (eC (.ty "tuple")) (aNil)))) (aNil))))
noncomputable def F_is_list (own : List Str) : HL := runF 1 (b_is_list own)
noncomputable def b_is_name (own : List Str) : FS :=
  sRt (eAn (eCB (hIsi own) (aCons (eVar 0) (aCons (eC (.ty "str")) (aNil)))) (eAn (eCh hLe hLe (eC (.int 1)) (eCB hLen (aCons (eVar 0) (aNil))) (eC (.int 8))) (eCB (hBls (·.all id)) (aCons (eLc false [1] (iSeq (eVar 0)) (gN 1) (tY) (eOp (hIn false) (eVar 1) (eC (.str "abcdefghijklmnopqrstuvwxyz")))) (aNil)))))
noncomputable def F_is_name (own : List Str) : HL := runF 2 (b_is_name own)
noncomputable def b_Folders___init__ (own : List Str) : FS :=
  sSeq (sIf (tOr' (tNo (tTr (eCall 1 (F_is_list own) [] (aCons (eVar 1) (aNil))))) (tTr (eOp (hEqP false) (eCB hLen (aCons (eVar 1) (aNil))) (eC (.int 0))))) (sBad) (sNx))
  (sSeq (sSet 3 (eLstM (aNil)))
  (sSeq (sLkO 1 (sFor (iEnA (eVar 1)) (gT 2 (gsCons (gN 4) (gsCons (gN 5) (gsNil)))) (sSeq (sIf (tOr' (tNo (tTr (eCall 1 (F_is_name own) [] (aCons (eVar 5) (aNil))))) (tOr' (tTr (eOp (hIn false) (eVar 5) (eVar 3))) (tTr (eOp hGe (eVar 4) (eIf (tTr (eVar 2)) (eC (.int 12)) (eC (.int 5))))))) (sBad) (sNx))
  (sEx (eApp (eVar 3) (eVar 5))))))
  (sSeq (sFl ["Folders"] "names" (eVar 0) (eCB hTuple (aCons (eVar 3) (aNil))))
  (sFl ["Folders"] "chain" (eVar 0) (eVar 2)))))
noncomputable def F_Folders___init__ (own : List Str) : HL := runF 6 (b_Folders___init__ own)
noncomputable def b_Folders___len__ : FS :=
  sRt (eCB hLen (aCons (eAt ["Folders"] "names" (eVar 0)) (aNil)))
noncomputable def F_Folders___len__ : HL := runF 1 (b_Folders___len__)
noncomputable def b_Folders___contains__ (own : List Str) : FS :=
  sRt (eAn (eCB (hIsi own) (aCons (eVar 1) (aCons (eC (.ty "str")) (aNil)))) (eOp (hIn false) (eVar 1) (eAt ["Folders"] "names" (eVar 0))))
noncomputable def F_Folders___contains__ (own : List Str) : HL := runF 2 (b_Folders___contains__ own)
noncomputable def b_Folders___eq__ (own : List Str) : FS :=
  sRt (eAn (eCB (hIsi own) (aCons (eVar 1) (aCons (eC (.glo "Folders")) (aNil)))) (eAn (eOp (hEqP false) (eAt ["Folders"] "names" (eVar 0)) (eAt ["Folders"] "names" (eVar 1))) (eOp (hEqP false) (eAt ["Folders"] "chain" (eVar 0)) (eAt ["Folders"] "chain" (eVar 1)))))
noncomputable def F_Folders___eq__ (own : List Str) : HL := runF 2 (b_Folders___eq__ own)
noncomputable def b_chosen_places : FS :=
  sSeq (sSet 2 (eLst (aCons (eTup (aNil)) (aNil))))
  (sSeq (sFor (iRg1 (eVar 0)) (gN 3) (sSet 2 (eLc2 false [4, 5] [5] (iSeq (eVar 2)) (gN 4) (tY) (iRg2 (eIf (tTr (eOp (hEqP true) (eVar 4) (eTup (aNil)))) (eOp hAdd (eOp hIx (eVar 4) (eUn hNeg (eC (.int 1)))) (eC (.int 1))) (eC (.int 0))) (eVar 1)) (gN 5) (tY) (eTup (aStar (eVar 4) (aCons (eVar 5) (aNil)))))))
  (sRt (eVar 2)))
noncomputable def F_chosen_places : HL := runF 6 (b_chosen_places)
noncomputable def b_Folders_lots : FS :=
  sSeq (sSet 1 (eCB hLen (aCons (eAt ["Folders"] "names" (eVar 0)) (aNil))))
  (sSeq (sIf (tTr (eAt ["Folders"] "chain" (eVar 0))) (sRt (eLc2 true [3, 5] [5] (iRg2 (eC (.int 1)) (eOp hAdd (eVar 1) (eC (.int 1)))) (gN 3) (tY) (iRg1 (eOp hAdd (eOp hSub (eVar 1) (eVar 3)) (eC (.int 1)))) (gN 5) (tY) (eSl false (eAt ["Folders"] "names" (eVar 0)) (oSo (eVar 5)) (oSo (eOp hAdd (eVar 5) (eVar 3)))))) (sNx))
  (sSeq (sSet 2 (eLc2 false [3, 4] [4] (iRg2 (eC (.int 1)) (eOp hAdd (eVar 1) (eC (.int 1)))) (gN 3) (tY) (iSeq (eCall 2 F_chosen_places [] (aCons (eVar 3) (aCons (eVar 1) (aNil))))) (gN 4) (tY) (eVar 4)))
  (sRt (eLc true [4] (iSeq (eVar 2)) (gN 4) (tY) (eCB hTuple (aCons (eLc false [5] (iSeq (eVar 4)) (gN 5) (tY) (eOp hIx (eAt ["Folders"] "names" (eVar 0)) (eVar 5))) (aNil)))))))
noncomputable def F_Folders_lots : HL := runF 6 (b_Folders_lots)
end Cm
end
section
set_option maxRecDepth 100000
set_option maxHeartbeats 4000000
namespace Cm
open PySem L2 DL
noncomputable def b__law_mixed : FS :=
  sSeq (sSet 2 (eCB hListM (aCons (eVar 1) (aNil))))
  (sRt (eLc false [3] (iRg1 (eCB hLen (aCons (eVar 2) (aNil)))) (gN 3) (tY) (eM1 isLst hPop (eVar 2) (eCall 2 F__law_draw [] (aCons (eVar 0) (aCons (eCB hLen (aCons (eVar 2) (aNil))) (aNil)))))))
noncomputable def F__law_mixed : HL := runF 4 (b__law_mixed)
noncomputable def b__law_q_counted : FS :=
  sSeq (sIf (tTr (eOp (hEqP false) (eVar 0) (eC (.str "refers")))) (sRt (eLc false [3] (iSeq (eVar 2)) (gN 3) (tY) (eCB hInt (aCons (eCB (hBls (·.any id)) (aCons (eLc false [4] (iSeq (eVar 3)) (gN 4) (tY) (eOp (hIn false) (eVar 4) (eVar 1))) (aNil))) (aNil))))) (sNx))
  (sSeq (sIf (tTr (eOp (hEqP false) (eVar 0) (eC (.str "freed")))) (sRt (eLc false [3] (iSeq (eVar 2)) (gN 3) (tY) (eCB hInt (aCons (eCB (hBls (·.all id)) (aCons (eLc false [4] (iSeq (eVar 3)) (gN 4) (tY) (eOp (hIn false) (eVar 4) (eVar 1))) (aNil))) (aNil))))) (sNx))
  (sSeq (sIf (tTr (eOp (hEqP false) (eVar 0) (eC (.str "shared")))) (sRt (eLc false [3] (iSeq (eVar 2)) (gN 3) (tY) (eCB hInt (aCons (eCB (hBls (·.all id)) (aCons (eLc false [4] (iSeq (eVar 1)) (gN 4) (tY) (eOp (hIn false) (eVar 4) (eVar 3))) (aNil))) (aNil))))) (sNx))
  (sSeq (sIf (tTr (eOp (hEqP false) (eVar 0) (eC (.str "just")))) (sRt (eLc false [3] (iSeq (eVar 2)) (gN 3) (tY) (eCB hInt (aCons (eAn (eOp (hEqP false) (eCB hLen (aCons (eVar 3) (aNil))) (eCB hLen (aCons (eVar 1) (aNil)))) (eCB (hBls (·.all id)) (aCons (eLc false [4] (iSeq (eVar 1)) (gN 4) (tY) (eOp (hIn false) (eVar 4) (eVar 3))) (aNil)))) (aNil))))) (sNx))
  (sSeq (sIf (tTr (eOp (hEqP false) (eVar 0) (eC (.str "sent")))) (sRt (eLc false [3] (iSeq (eVar 2)) (gN 3) (tY) (eCB hInt (aCons (eAn (eOp (hIn false) (eOp hIx (eVar 1) (eC (.int 1))) (eVar 3)) (eOp (hIn true) (eOp hIx (eVar 1) (eC (.int 0))) (eVar 3))) (aNil))))) (sNx))
  (sRt (eLc false [3] (iSeq (eVar 2)) (gN 3) (tY) (eC (.int 1))))))))
noncomputable def F__law_q_counted : HL := runF 5 (b__law_q_counted)
noncomputable def b_Folders_chosen (own : List Str) : FS :=
  sSeq (sFor (iSeq (eVar 1)) (gN 2) (sIf (tTr (eOp (hInO true "Folders" (F_Folders___contains__ own)) (eVar 2) (eVar 0))) (sBad) (sNx)))
  (sRt (eCB hTuple (aCons (eLc false [2] (iSeq (eAt ["Folders"] "names" (eVar 0))) (gN 2) (tTr (eOp (hIn false) (eVar 2) (eVar 1))) (eVar 2)) (aNil))))
noncomputable def F_Folders_chosen (own : List Str) : HL := runF 3 (b_Folders_chosen own)
noncomputable def b_Folders_lot_of (own : List Str) : FS :=
  sSeq (sIf (tOr' (tNo (tTr (eCall 1 (F_is_list own) [] (aCons (eVar 1) (aNil))))) (tTr (eOp (hEqP false) (eCB hLen (aCons (eVar 1) (aNil))) (eC (.int 0))))) (sRt (eC .non)) (sNx))
  (sSeq (sSet 2 (eCB hTuple (aCons (eLc false [3] (iSeq (eAt ["Folders"] "names" (eVar 0))) (gN 3) (tTr (eOp (hIn false) (eVar 3) (eVar 1))) (eVar 3)) (aNil))))
  (sSeq (sIf (tTr (eOp (hEqP true) (eCB hLen (aCons (eVar 2) (aNil))) (eCB hLen (aCons (eVar 1) (aNil))))) (sRt (eC .non)) (sNx))
  (sSeq (sIf (tAn (tTr (eAt ["Folders"] "chain" (eVar 0))) (tNo (tTr (eCB (hBls (·.any id)) (aCons (eLc false [4] (iRg1 (eCB hLen (aCons (eAt ["Folders"] "names" (eVar 0)) (aNil)))) (gN 4) (tY) (eOp (hEqP false) (eSl false (eAt ["Folders"] "names" (eVar 0)) (oSo (eVar 4)) (oSo (eOp hAdd (eVar 4) (eCB hLen (aCons (eVar 2) (aNil)))))) (eVar 2))) (aNil)))))) (sRt (eC .non)) (sNx))
  (sRt (eVar 2)))))
noncomputable def F_Folders_lot_of (own : List Str) : HL := runF 5 (b_Folders_lot_of own)
noncomputable def b_is_whole (own : List Str) : FS :=
  sRt (eAn (eCB (hIsi own) (aCons (eVar 0) (aCons (eC (.ty "int")) (aNil)))) (eNo (eCB (hIsi own) (aCons (eVar 0) (aCons (eC (.ty "bool")) (aNil))))))
noncomputable def F_is_whole (own : List Str) : HL := runF 1 (b_is_whole own)
noncomputable def b_row_of (own : List Str) : FS :=
  sSeq (sLkD 1 (sSet 2 (eLc false [6, 7] (iIt (eVar 1)) (gT 2 (gsCons (gN 6) (gsCons (gN 7) (gsNil)))) (tY) (eTup (aCons (eMeth "Folders" "lot_of" 2 (F_Folders_lot_of own) [] (eVar 0) (aCons (eVar 6) (aNil))) (aCons (eVar 6) (aCons (eVar 7) (aNil))))))))
  (sSeq (sFor (iEnA (eVar 2)) (gT 2 (gsCons (gN 4) (gsCons (gT 3 (gsCons (gN 5) (gsCons (gN 6) (gsCons (gN 7) (gsNil))))) (gsNil)))) (sSeq (sIf (tOr' (tTr (eOp (hIsN false) (eVar 5) (eC .non))) (tTr (eOp (hInD false) (eVar 5) (eLc false [8] (iSeq (eSl false (eVar 2) (oNo) (oSo (eVar 4)))) (gN 8) (tY) (eOp hIx (eVar 8) (eC (.int 0))))))) (sBad) (sNx))
  (sIf (tNo (tTr (eCall 1 (F_is_whole own) [] (aCons (eVar 7) (aNil))))) (sBad) (sNx))))
  (sSeq (sSet 3 (eCB (hDict false) (aCons (eLc false [5, 6, 7] (iSeq (eVar 2)) (gT 3 (gsCons (gN 5) (gsCons (gN 6) (gsCons (gN 7) (gsNil))))) (tY) (eTup (aCons (eVar 5) (aCons (eVar 7) (aNil))))) (aNil))))
  (sRt (eCB (hDict false) (aCons (eLc false [5] (iSeq (eFrz (eMeth "Folders" "lots" 1 F_Folders_lots [] (eVar 0) (aNil)))) (gN 5) (tY) (eTup (aCons (eVar 5) (aCons (eDGet2 (eVar 3) (eVar 5) (eC (.int 0))) (aNil))))) (aNil))))))
noncomputable def F_row_of (own : List Str) : HL := runF 9 (b_row_of own)
noncomputable def b_Question___init__ (own : List Str) : FS :=
  sSeq (sFl ["Question"] "folders" (eVar 0) (eVar 1))
  (sFl ["Question"] "row" (eVar 0) (eCall 2 (F_row_of own) [] (aCons (eVar 1) (aCons (eIf (tTr (eOp (hIsN false) (eVar 2) (eC .non))) (eD0T) (eVar 2)) (aNil)))))
noncomputable def F_Question___init__ (own : List Str) : HL := runF 3 (b_Question___init__ own)
noncomputable def b_counted (own : List Str) : FS :=
  sRt (eFrz (eMake "Question" 3 (F_Question___init__ own) [] (aCons (eVar 0) (aCons (eCB (hDict false) (aCons (eLc false [2] (iSeq (eVar 1)) (gN 2) (tY) (eTup (aCons (eVar 2) (aCons (eC (.int 1)) (aNil))))) (aNil))) (aNil)))))
noncomputable def F_counted (own : List Str) : HL := runF 3 (b_counted own)
noncomputable def b_refers (own : List Str) : FS :=
  sSeq (sSet 2 (eMeth "Folders" "chosen" 2 (F_Folders_chosen own) [] (eVar 0) (aCons (eVar 1) (aNil))))
  (sRt (eCall 2 (F_counted own) [] (aCons (eVar 0) (aCons (eLc false [3] (iSeq (eFrz (eMeth "Folders" "lots" 1 F_Folders_lots [] (eVar 0) (aNil)))) (gN 3) (tTr (eCB (hBls (·.any id)) (aCons (eLc false [4] (iSeq (eVar 3)) (gN 4) (tY) (eOp (hIn false) (eVar 4) (eVar 2))) (aNil)))) (eVar 3)) (aNil)))))
noncomputable def F_refers (own : List Str) : HL := runF 5 (b_refers own)
noncomputable def b_freed (own : List Str) : FS :=
  sSeq (sSet 2 (eMeth "Folders" "chosen" 2 (F_Folders_chosen own) [] (eVar 0) (aCons (eVar 1) (aNil))))
  (sRt (eCall 2 (F_counted own) [] (aCons (eVar 0) (aCons (eLc false [3] (iSeq (eFrz (eMeth "Folders" "lots" 1 F_Folders_lots [] (eVar 0) (aNil)))) (gN 3) (tTr (eCB (hBls (·.all id)) (aCons (eLc false [4] (iSeq (eVar 3)) (gN 4) (tY) (eOp (hIn false) (eVar 4) (eVar 2))) (aNil)))) (eVar 3)) (aNil)))))
noncomputable def F_freed (own : List Str) : HL := runF 5 (b_freed own)
noncomputable def b_shared (own : List Str) : FS :=
  sSeq (sSet 2 (eMeth "Folders" "chosen" 2 (F_Folders_chosen own) [] (eVar 0) (aCons (eVar 1) (aNil))))
  (sRt (eCall 2 (F_counted own) [] (aCons (eVar 0) (aCons (eLc false [3] (iSeq (eFrz (eMeth "Folders" "lots" 1 F_Folders_lots [] (eVar 0) (aNil)))) (gN 3) (tTr (eCB (hBls (·.all id)) (aCons (eLc false [4] (iSeq (eVar 2)) (gN 4) (tY) (eOp (hIn false) (eVar 4) (eVar 3))) (aNil)))) (eVar 3)) (aNil)))))
noncomputable def F_shared (own : List Str) : HL := runF 5 (b_shared own)
noncomputable def b_just (own : List Str) : FS :=
  sSeq (sSet 2 (eMeth "Folders" "chosen" 2 (F_Folders_chosen own) [] (eVar 0) (aCons (eVar 1) (aNil))))
  (sRt (eCall 2 (F_counted own) [] (aCons (eVar 0) (aCons (eLc false [3] (iSeq (eFrz (eMeth "Folders" "lots" 1 F_Folders_lots [] (eVar 0) (aNil)))) (gN 3) (tTr (eOp (hEqP false) (eVar 3) (eVar 2))) (eVar 3)) (aNil)))))
noncomputable def F_just (own : List Str) : HL := runF 4 (b_just own)
noncomputable def b_sent (own : List Str) : FS :=
  sSeq (sEx (eMeth "Folders" "chosen" 2 (F_Folders_chosen own) [] (eVar 0) (aCons (eLst (aCons (eVar 1) (aCons (eVar 2) (aNil)))) (aNil))))
  (sRt (eCall 2 (F_counted own) [] (aCons (eVar 0) (aCons (eLc false [3] (iSeq (eFrz (eMeth "Folders" "lots" 1 F_Folders_lots [] (eVar 0) (aNil)))) (gN 3) (tAn (tTr (eOp (hIn false) (eVar 2) (eVar 3))) (tTr (eOp (hIn true) (eVar 1) (eVar 3)))) (eVar 3)) (aNil)))))
noncomputable def F_sent (own : List Str) : HL := runF 4 (b_sent own)
noncomputable def b_whole (own : List Str) : FS :=
  sRt (eCall 2 (F_counted own) [] (aCons (eVar 0) (aCons (eFrz (eMeth "Folders" "lots" 1 F_Folders_lots [] (eVar 0) (aNil))) (aNil))))
noncomputable def F_whole (own : List Str) : HL := runF 1 (b_whole own)
noncomputable def b__law_q_made (own : List Str) : FS :=
  sSeq (sIf (tTr (eOp (hEqP false) (eVar 0) (eC (.str "refers")))) (sRt (eCall 2 (F_refers own) [] (aCons (eVar 1) (aCons (eVar 2) (aNil))))) (sNx))
  (sSeq (sIf (tTr (eOp (hEqP false) (eVar 0) (eC (.str "freed")))) (sRt (eCall 2 (F_freed own) [] (aCons (eVar 1) (aCons (eVar 2) (aNil))))) (sNx))
  (sSeq (sIf (tTr (eOp (hEqP false) (eVar 0) (eC (.str "shared")))) (sRt (eCall 2 (F_shared own) [] (aCons (eVar 1) (aCons (eVar 2) (aNil))))) (sNx))
  (sSeq (sIf (tTr (eOp (hEqP false) (eVar 0) (eC (.str "just")))) (sRt (eCall 2 (F_just own) [] (aCons (eVar 1) (aCons (eVar 2) (aNil))))) (sNx))
  (sRt (eIf (tTr (eOp (hEqP false) (eVar 0) (eC (.str "sent")))) (eCall 3 (F_sent own) [] (aCons (eVar 1) (aCons (eOp hIx (eVar 2) (eC (.int 0))) (aCons (eOp hIx (eVar 2) (eC (.int 1))) (aNil))))) (eCall 1 (F_whole own) [] (aCons (eVar 1) (aNil))))))))
noncomputable def F__law_q_made (own : List Str) : HL := runF 3 (b__law_q_made own)
noncomputable def b__law_q_named (own : List Str) : FS :=
  sSeq (sSet 4 (eCall 2 F__law_pick [] (aCons (eVar 0) (aCons (eLst (aCons (eC (.str "refers")) (aCons (eC (.str "refers")) (aCons (eC (.str "freed")) (aCons (eC (.str "freed")) (aCons (eC (.str "shared")) (aCons (eC (.str "just")) (aCons (eC (.str "sent")) (aCons (eC (.str "whole")) (aNil)))))))))) (aNil)))))
  (sSeq (sSet 5 (eLc false [7] (iSeq (eVar 2)) (gN 7) (tTr (eOp (hEqP false) (eCall 2 F__law_draw [] (aCons (eVar 0) (aCons (eC (.int 2)) (aNil)))) (eC (.int 0)))) (eVar 7)))
  (sSeq (sIf (tAn (tTr (eOp (hIn false) (eVar 4) (eTup (aCons (eC (.str "refers")) (aCons (eC (.str "freed")) (aNil)))))) (tTr (eOp (hEqP false) (eVar 5) (eLst (aNil))))) (sSet 5 (eLst (aCons (eCall 2 F__law_pick [] (aCons (eVar 0) (aCons (eVar 2) (aNil)))) (aNil)))) (sNx))
  (sSeq (sIf (tTr (eOp (hEqP false) (eVar 4) (eC (.str "sent")))) (sSet 5 (eLst (aCons (eCall 2 F__law_pick [] (aCons (eVar 0) (aCons (eVar 2) (aNil)))) (aCons (eCall 2 F__law_pick [] (aCons (eVar 0) (aCons (eVar 2) (aNil)))) (aNil))))) (sNx))
  (sSeq (sSet 6 (eIf (tTr (eOp (hEqP false) (eVar 4) (eC (.str "sent")))) (eVar 5) (eCall 2 F__law_mixed [] (aCons (eVar 0) (aCons (eVar 5) (aNil))))))
  (sRt (eTup (aCons (eCall 3 (F__law_q_made own) [] (aCons (eVar 4) (aCons (eVar 1) (aCons (eVar 6) (aNil))))) (aCons (eCall 3 F__law_q_counted [] (aCons (eVar 4) (aCons (eVar 5) (aCons (eVar 3) (aNil))))) (aNil)))))))))
noncomputable def F__law_q_named (own : List Str) : HL := runF 8 (b__law_q_named own)
noncomputable def b_Question_check (own : List Str) : FS :=
  sIf (tTr (eOp (hNeO own "Folders" (F_Folders___eq__ own)) (eAt ["Question"] "folders" (eVar 0)) (eAt ["Question"] "folders" (eVar 1)))) (sBad) (sNx)
noncomputable def F_Question_check (own : List Str) : HL := runF 2 (b_Question_check own)
noncomputable def b_Question___add__ (own : List Str) : FS :=
  sSeq (sEx (eMeth "Question" "check" 2 (F_Question_check own) [] (eVar 0) (aCons (eVar 1) (aNil))))
  (sRt (eFrz (eMake "Question" 3 (F_Question___init__ own) [] (aCons (eAt ["Question"] "folders" (eVar 0)) (aCons (eCB (hDict false) (aCons (eLc false [2] (iKy (eAt ["Question"] "row" (eVar 0))) (gN 2) (tY) (eTup (aCons (eVar 2) (aCons (eOp hAdd (eOp hDGet (eAt ["Question"] "row" (eVar 0)) (eVar 2)) (eOp hDGet (eAt ["Question"] "row" (eVar 1)) (eVar 2))) (aNil))))) (aNil))) (aNil))))))
noncomputable def F_Question___add__ (own : List Str) : HL := runF 3 (b_Question___add__ own)
noncomputable def b_Question___sub__ (own : List Str) : FS :=
  sSeq (sEx (eMeth "Question" "check" 2 (F_Question_check own) [] (eVar 0) (aCons (eVar 1) (aNil))))
  (sRt (eFrz (eMake "Question" 3 (F_Question___init__ own) [] (aCons (eAt ["Question"] "folders" (eVar 0)) (aCons (eCB (hDict false) (aCons (eLc false [2] (iKy (eAt ["Question"] "row" (eVar 0))) (gN 2) (tY) (eTup (aCons (eVar 2) (aCons (eOp hSub (eOp hDGet (eAt ["Question"] "row" (eVar 0)) (eVar 2)) (eOp hDGet (eAt ["Question"] "row" (eVar 1)) (eVar 2))) (aNil))))) (aNil))) (aNil))))))
noncomputable def F_Question___sub__ (own : List Str) : HL := runF 3 (b_Question___sub__ own)
noncomputable def b__law_q_drawn (own : List Str) : FS :=
  sSeq (sSet 4 (eCall 2 F__law_draw [] (aCons (eVar 0) (aCons (eC (.int 6)) (aNil)))))
  (sSeq (sAsg (eCall 4 (F__law_q_named own) [] (aCons (eVar 0) (aCons (eVar 1) (aCons (eVar 2) (aCons (eVar 3) (aNil)))))) (gT 2 (gsCons (gN 6) (gsCons (gN 5) (gsNil)))))
  (sSeq (sIf (tTr (eOp hLt (eVar 4) (eC (.int 3)))) (sRt (eTup (aCons (eVar 6) (aCons (eVar 5) (aNil))))) (sNx))
  (sSeq (sIf (tTr (eOp hLt (eVar 4) (eC (.int 5)))) (sSeq (sAsg (eCall 4 (F__law_q_named own) [] (aCons (eVar 0) (aCons (eVar 1) (aCons (eVar 2) (aCons (eVar 3) (aNil)))))) (gT 2 (gsCons (gN 7) (gsCons (gN 8) (gsNil)))))
  (sSeq (sIf (tTr (eOp (hEqP false) (eVar 4) (eC (.int 3)))) (sRt (eTup (aCons (eOp (hBin "Question" (F_Question___add__ own)) (eVar 6) (eVar 7)) (aCons (eLc false [10, 11] (iZpA (eVar 5) (eVar 8)) (gT 2 (gsCons (gN 10) (gsCons (gN 11) (gsNil)))) (tY) (eOp hAdd (eVar 10) (eVar 11))) (aNil))))) (sNx))
  (sRt (eTup (aCons (eOp (hBin "Question" (F_Question___sub__ own)) (eVar 6) (eVar 7)) (aCons (eLc false [10, 11] (iZpA (eVar 5) (eVar 8)) (gT 2 (gsCons (gN 10) (gsCons (gN 11) (gsNil)))) (tY) (eOp hSub (eVar 10) (eVar 11))) (aNil))))))) (sNx))
  (sSeq (sSet 5 (eLc false [9] (iSeq (eVar 3)) (gN 9) (tY) (eOp hSub (eCall 2 F__law_draw [] (aCons (eVar 0) (aCons (eC (.int 7)) (aNil)))) (eC (.int 3)))))
  (sRt (eTup (aCons (eFrz (eMake "Question" 3 (F_Question___init__ own) [] (aCons (eVar 1) (aCons (eCB (hDict false) (aCons (eLc false [9, 10] (iZpA (eVar 3) (eVar 5)) (gT 2 (gsCons (gN 9) (gsCons (gN 10) (gsNil)))) (tY) (eTup (aCons (eVar 9) (aCons (eVar 10) (aNil))))) (aNil))) (aNil))))) (aCons (eVar 5) (aNil)))))))))
noncomputable def F__law_q_drawn (own : List Str) : HL := runF 12 (b__law_q_drawn own)
noncomputable def b_Question_in_freed : FS :=
  sSeq (sSet 1 (eD0T))
  (sSeq (sFor (iSeq (eUn hRev (eCB (hListD false) (aCons (eAt ["Question"] "row" (eVar 0)) (aNil))))) (gN 2) (sSeq (sLkD 1 (sSet 3 (eLc false [4] (iKy (eVar 1)) (gN 4) (tTr (eCB (hBls (·.all id)) (aCons (eLc false [5] (iSeq (eVar 2)) (gN 5) (tY) (eOp (hIn false) (eVar 5) (eVar 4))) (aNil)))) (eOp hDGet (eVar 1) (eVar 4)))))
  (sAsg (eOp hSub (eOp hDGet (eAt ["Question"] "row" (eVar 0)) (eVar 2)) (eCB hSum (aCons (eVar 3) (aNil)))) (gDx (eVar 1) (eVar 2)))))
  (sRt (eCB (hDict true) (aCons (eLc false [2] (iKy (eAt ["Question"] "row" (eVar 0))) (gN 2) (tTr (eOp (hEqP true) (eOp hDGet (eVar 1) (eVar 2)) (eC (.int 0)))) (eTup (aCons (eVar 2) (aCons (eOp hDGet (eVar 1) (eVar 2)) (aNil))))) (aNil)))))
noncomputable def F_Question_in_freed : HL := runF 6 (b_Question_in_freed)
noncomputable def b_Question___mul__ (own : List Str) : FS :=
  sSeq (sIf (tNo (tTr (eCall 1 (F_is_whole own) [] (aCons (eVar 1) (aNil))))) (sBad) (sNx))
  (sRt (eFrz (eMake "Question" 3 (F_Question___init__ own) [] (aCons (eAt ["Question"] "folders" (eVar 0)) (aCons (eCB (hDict false) (aCons (eLc false [2] (iKy (eAt ["Question"] "row" (eVar 0))) (gN 2) (tY) (eTup (aCons (eVar 2) (aCons (eOp hMul (eOp hDGet (eAt ["Question"] "row" (eVar 0)) (eVar 2)) (eVar 1)) (aNil))))) (aNil))) (aNil))))))
noncomputable def F_Question___mul__ (own : List Str) : HL := runF 3 (b_Question___mul__ own)
noncomputable def b_Question___rmul__ (own : List Str) : FS :=
  sRt (eOp (hBinI "Question" (F_Question___mul__ own)) (eVar 0) (eVar 1))
noncomputable def F_Question___rmul__ (own : List Str) : HL := runF 2 (b_Question___rmul__ own)
noncomputable def b__law_summed (own : List Str) : FS :=
  sSeq (sSet 3 (eFrz (eMake "Question" 3 (F_Question___init__ own) [.non] (aCons (eVar 0) (aNil)))))
  (sSeq (sFor (iSeq (eVar 1)) (gN 4) (sIf (tTr (eOp (hDIn false) (eVar 4) (eVar 2))) (sSet 3 (eOp (hBin "Question" (F_Question___add__ own)) (eVar 3) (eOp (hRBin "Question" (F_Question___rmul__ own)) (eOp hDGet (eVar 2) (eVar 4)) (eCall 2 (F_freed own) [] (aCons (eVar 0) (aCons (eVar 4) (aNil))))))) (sNx)))
  (sRt (eVar 3)))
noncomputable def F__law_summed (own : List Str) : HL := runF 5 (b__law_summed own)
noncomputable def b_Question___eq__ (own : List Str) : FS :=
  sRt (eAn (eCB (hIsi own) (aCons (eVar 1) (aCons (eC (.glo "Question")) (aNil)))) (eAn (eOp (hOwn own "Folders" (F_Folders___eq__ own)) (eAt ["Question"] "folders" (eVar 0)) (eAt ["Question"] "folders" (eVar 1))) (eOp (hEqT false) (eAt ["Question"] "row" (eVar 0)) (eAt ["Question"] "row" (eVar 1)))))
noncomputable def F_Question___eq__ (own : List Str) : HL := runF 2 (b_Question___eq__ own)
end Cm
end
section
set_option maxRecDepth 100000
set_option maxHeartbeats 4000000
/-! Plain mathematics, part 1: how the functions of data reckon, as rewriting rules (what is left to do stands in a frame, so that only the first thing is reckoned). -/
namespace DM
open PySem L2 DL
def kOp2 (h : H2) (x0 : D) (r : Res D) : Res D := r.bind fun x m => h x0 x m
@[simp] theorem kOp2_ok (h : H2) (x0 : D) (x : D) (m : Mem) : kOp2 h x0 (.ok x m) = h x0 x m := Eq.trans rfl rfl
@[simp] theorem kOp2_exc (h : H2) (x0 : D) (x : Exn) (m : Mem) : kOp2 h x0 (.exc x m) = .exc x m := Eq.trans rfl rfl
def kOp1 (h : H2) (b : FE) (ρ : EnvD) (r : Res D) : Res D := r.bind fun x m => kOp2 h x (b ρ m)
@[simp] theorem kOp1_ok (h : H2) (b : FE) (ρ : EnvD) (x : D) (m : Mem) : kOp1 h b ρ (.ok x m) = kOp2 h x (b ρ m) := Eq.trans rfl rfl
@[simp] theorem kOp1_exc (h : H2) (b : FE) (ρ : EnvD) (x : Exn) (m : Mem) : kOp1 h b ρ (.exc x m) = .exc x m := Eq.trans rfl rfl
def kUn (h : H1) (r : Res D) : Res D := r.bind fun x m => h x m
@[simp] theorem kUn_ok (h : H1) (x : D) (m : Mem) : kUn h (.ok x m) = h x m := Eq.trans rfl rfl
@[simp] theorem kUn_exc (h : H1) (x : Exn) (m : Mem) : kUn h (.exc x m) = .exc x m := Eq.trans rfl rfl
def kCB (h : HL) (r : Res (List D)) : Res D := r.bind fun x m => h x m
@[simp] theorem kCB_ok (h : HL) (x : (List D)) (m : Mem) : kCB h (.ok x m) = h x m := Eq.trans rfl rfl
@[simp] theorem kCB_exc (h : HL) (x : Exn) (m : Mem) : kCB h (.exc x m) = .exc x m := Eq.trans rfl rfl
def kC2 (x0 : D) (r : Res (List D)) : Res (List D) := r.bind fun x m => .ok (x0 :: x) m
@[simp] theorem kC2_ok (x0 : D) (x : (List D)) (m : Mem) : kC2 x0 (.ok x m) = .ok (x0 :: x) m := Eq.trans rfl rfl
@[simp] theorem kC2_exc (x0 : D) (x : Exn) (m : Mem) : kC2 x0 (.exc x m) = .exc x m := Eq.trans rfl rfl
def kC1 (ra : FA) (ρ : EnvD) (r : Res D) : Res (List D) := r.bind fun x m => kC2 x (ra ρ m)
@[simp] theorem kC1_ok (ra : FA) (ρ : EnvD) (x : D) (m : Mem) : kC1 ra ρ (.ok x m) = kC2 x (ra ρ m) := Eq.trans rfl rfl
@[simp] theorem kC1_exc (ra : FA) (ρ : EnvD) (x : Exn) (m : Mem) : kC1 ra ρ (.exc x m) = .exc x m := Eq.trans rfl rfl
def kSt2 (ys : List D) (r : Res (List D)) : Res (List D) := r.bind fun x m => .ok (ys ++ x) m
@[simp] theorem kSt2_ok (ys : List D) (x : (List D)) (m : Mem) : kSt2 ys (.ok x m) = .ok (ys ++ x) m := Eq.trans rfl rfl
@[simp] theorem kSt2_exc (ys : List D) (x : Exn) (m : Mem) : kSt2 ys (.exc x m) = .exc x m := Eq.trans rfl rfl
def kNo  (r : Res Bool) : Res Bool := r.bind fun x m => .ok (!x) m
@[simp] theorem kNo_ok  (x : Bool) (m : Mem) : kNo  (.ok x m) = .ok (!x) m := Eq.trans rfl rfl
@[simp] theorem kNo_exc  (x : Exn) (m : Mem) : kNo  (.exc x m) = .exc x m := Eq.trans rfl rfl
def kTup  (r : Res (List D)) : Res D := r.bind fun x m => if x.length ≤ sizeLine then .ok (.tup x) m else .bad
@[simp] theorem kTup_ok  (x : (List D)) (m : Mem) : kTup  (.ok x m) = if x.length ≤ sizeLine then .ok (.tup x) m else .bad := Eq.trans rfl rfl
@[simp] theorem kTup_exc  (x : Exn) (m : Mem) : kTup  (.exc x m) = .exc x m := Eq.trans rfl rfl
def kLst  (r : Res (List D)) : Res D := r.bind fun x m => if x.length ≤ sizeLine then .ok (.lst x) m else .bad
@[simp] theorem kLst_ok  (x : (List D)) (m : Mem) : kLst  (.ok x m) = if x.length ≤ sizeLine then .ok (.lst x) m else .bad := Eq.trans rfl rfl
@[simp] theorem kLst_exc  (x : Exn) (m : Mem) : kLst  (.exc x m) = .exc x m := Eq.trans rfl rfl
def kLsM  (r : Res (List D)) : Res D := r.bind fun x m => if x.length ≤ sizeLine then .ok (.mref m.length) (m ++ [.lst x]) else .bad
@[simp] theorem kLsM_ok  (x : (List D)) (m : Mem) : kLsM  (.ok x m) = if x.length ≤ sizeLine then .ok (.mref m.length) (m ++ [.lst x]) else .bad := Eq.trans rfl rfl
@[simp] theorem kLsM_exc  (x : Exn) (m : Mem) : kLsM  (.exc x m) = .exc x m := Eq.trans rfl rfl
def kCall (n : Nat) (F : HL) (dds : List D) (r : Res (List D)) : Res D := r.bind fun x m => if (x ++ dds).length = n then F (x ++ dds) m else .bad
@[simp] theorem kCall_ok (n : Nat) (F : HL) (dds : List D) (x : (List D)) (m : Mem) : kCall n F dds (.ok x m) = if (x ++ dds).length = n then F (x ++ dds) m else .bad := Eq.trans rfl rfl
@[simp] theorem kCall_exc (n : Nat) (F : HL) (dds : List D) (x : Exn) (m : Mem) : kCall n F dds (.exc x m) = .exc x m := Eq.trans rfl rfl
def kM2 (h : D → D → Mem → Res D) (x0 : D) (r : Res D) : Res D := r.bind fun x m => h x0 x m
@[simp] theorem kM2_ok (h : D → D → Mem → Res D) (x0 : D) (x : D) (m : Mem) : kM2 h x0 (.ok x m) = h x0 x m := Eq.trans rfl rfl
@[simp] theorem kM2_exc (h : D → D → Mem → Res D) (x0 : D) (x : Exn) (m : Mem) : kM2 h x0 (.exc x m) = .exc x m := Eq.trans rfl rfl
def kM1 (T : D → Mem → Bool) (h : D → D → Mem → Res D) (e : FE) (ρ : EnvD) (r : Res D) : Res D := r.bind fun x m => if T x m = true then kM2 h x (e ρ m) else .bad
@[simp] theorem kM1_ok (T : D → Mem → Bool) (h : D → D → Mem → Res D) (e : FE) (ρ : EnvD) (x : D) (m : Mem) : kM1 T h e ρ (.ok x m) = if T x m = true then kM2 h x (e ρ m) else .bad := Eq.trans rfl rfl
@[simp] theorem kM1_exc (T : D → Mem → Bool) (h : D → D → Mem → Res D) (e : FE) (ρ : EnvD) (x : Exn) (m : Mem) : kM1 T h e ρ (.exc x m) = .exc x m := Eq.trans rfl rfl
def kTr (r : Res D) : Res Bool := r.bind fun x m => match x with
  | .bl b => .ok b m
  | _ => .bad
@[simp] theorem kTr_ok (b : Bool) (m : Mem) : kTr (.ok (.bl b) m) = .ok b m := Eq.trans rfl rfl
@[simp] theorem kTr_exc (x : Exn) (m : Mem) : kTr (.exc x m) = .exc x m := Eq.trans rfl rfl
def kAn (b : FT) (ρ : EnvD) (r : Res Bool) : Res Bool := r.bind fun x m1 => if x = true then b ρ m1 else .ok false m1
@[simp] theorem kAn_t (b : FT) (ρ : EnvD) (m : Mem) : kAn b ρ (.ok true m) = b ρ m := Eq.trans rfl rfl
@[simp] theorem kAn_f (b : FT) (ρ : EnvD) (m : Mem) : kAn b ρ (.ok false m) = .ok false m := Eq.trans rfl rfl
def kOr (b : FT) (ρ : EnvD) (r : Res Bool) : Res Bool := r.bind fun x m1 => if x = true then .ok true m1 else b ρ m1
@[simp] theorem kOr_t (b : FT) (ρ : EnvD) (m : Mem) : kOr b ρ (.ok true m) = .ok true m := Eq.trans rfl rfl
@[simp] theorem kOr_f (b : FT) (ρ : EnvD) (m : Mem) : kOr b ρ (.ok false m) = b ρ m := Eq.trans rfl rfl
def kEAn (b : FE) (ρ : EnvD) (r : Res D) : Res D := r.bind fun x m1 => match x with
  | .bl c => if c = true then b ρ m1 else .ok (.bl false) m1
  | _ => .bad
@[simp] theorem kEAn_t (b : FE) (ρ : EnvD) (m : Mem) : kEAn b ρ (.ok (.bl true) m) = b ρ m := Eq.trans rfl rfl
@[simp] theorem kEAn_f (b : FE) (ρ : EnvD) (m : Mem) : kEAn b ρ (.ok (.bl false) m) = .ok (.bl false) m := Eq.trans rfl rfl
def kEOr (b : FE) (ρ : EnvD) (r : Res D) : Res D := r.bind fun x m1 => match x with
  | .bl c => if c = true then .ok (.bl true) m1 else b ρ m1
  | _ => .bad
@[simp] theorem kEOr_t (b : FE) (ρ : EnvD) (m : Mem) : kEOr b ρ (.ok (.bl true) m) = .ok (.bl true) m := Eq.trans rfl rfl
@[simp] theorem kEOr_f (b : FE) (ρ : EnvD) (m : Mem) : kEOr b ρ (.ok (.bl false) m) = b ρ m := Eq.trans rfl rfl
def kENo (r : Res D) : Res D := r.bind fun x m1 => match x with
  | .bl c => .ok (.bl (!c)) m1
  | _ => .bad
@[simp] theorem kENo_ok (c : Bool) (m : Mem) : kENo (.ok (.bl c) m) = .ok (.bl (!c)) m := Eq.trans rfl rfl
def kEIf (a b : FE) (ρ : EnvD) (r : Res Bool) : Res D := r.bind fun x m1 => if x = true then a ρ m1 else b ρ m1
@[simp] theorem kEIf_t (a b : FE) (ρ : EnvD) (m : Mem) : kEIf a b ρ (.ok true m) = a ρ m := Eq.trans rfl rfl
@[simp] theorem kEIf_f (a b : FE) (ρ : EnvD) (m : Mem) : kEIf a b ρ (.ok false m) = b ρ m := Eq.trans rfl rfl
def kCh4 (h' : H2) (y : D) (r : Res D) : Res D := r.bind fun w m4 => h' y w m4
@[simp] theorem kCh4_ok (h' : H2) (y w : D) (m : Mem) : kCh4 h' y (.ok w m) = h' y w m := Eq.trans rfl rfl
def kCh3 (h' : H2) (y : D) (c : FE) (ρ : EnvD) (r : Res D) : Res D := r.bind fun z m3 => match z with
  | .bl k => if k = true then (c ρ m3).bind fun w m4 => h' y w m4 else .ok (.bl false) m3
  | _ => .bad
@[simp] theorem kCh3_t (h' : H2) (y : D) (c : FE) (ρ : EnvD) (m : Mem) : kCh3 h' y c ρ (.ok (.bl true) m) = kCh4 h' y (c ρ m) := Eq.trans rfl rfl
@[simp] theorem kCh3_f (h' : H2) (y : D) (c : FE) (ρ : EnvD) (m : Mem) : kCh3 h' y c ρ (.ok (.bl false) m) = .ok (.bl false) m := Eq.trans rfl rfl
def kCh2 (h h' : H2) (x : D) (c : FE) (ρ : EnvD) (r : Res D) : Res D := r.bind fun y m2 => kCh3 h' y c ρ (h x y m2)
@[simp] theorem kCh2_ok (h h' : H2) (x : D) (c : FE) (ρ : EnvD) (y : D) (m : Mem) : kCh2 h h' x c ρ (.ok y m) = kCh3 h' y c ρ (h x y m) := Eq.trans rfl rfl
def kCh1 (h h' : H2) (b c : FE) (ρ : EnvD) (r : Res D) : Res D := r.bind fun x m1 => kCh2 h h' x c ρ (b ρ m1)
@[simp] theorem kCh1_ok (h h' : H2) (b c : FE) (ρ : EnvD) (x : D) (m : Mem) : kCh1 h h' b c ρ (.ok x m) = kCh2 h h' x c ρ (b ρ m) := Eq.trans rfl rfl
def kSt1 (r : FA) (ρ : EnvD) (q : Res D) : Res (List D) := q.bind fun x m1 => match seqV m1 x with
  | some ys => kSt2 ys (r ρ m1)
  | none => .bad
theorem kSt1_ok (r : FA) (ρ : EnvD) (x : D) (m : Mem) {ys : List D} (h : seqV m x = some ys) : kSt1 r ρ (.ok x m) = kSt2 ys (r ρ m) := by unfold kSt1; simp only [bind_ok, h]
@[simp] theorem kSt1_tup (r : FA) (ρ : EnvD) (xs : List D) (m : Mem) : kSt1 r ρ (.ok (.tup xs) m) = kSt2 xs (r ρ m) := Eq.trans rfl rfl
@[simp] theorem kSt1_lst (r : FA) (ρ : EnvD) (xs : List D) (m : Mem) : kSt1 r ρ (.ok (.lst xs) m) = kSt2 xs (r ρ m) := Eq.trans rfl rfl
def varR (o : Option (Option D)) (m : Mem) : Res D := match o with
  | some (some d) => .ok d m
  | _ => .bad
@[simp] theorem varR_ok (d : D) (m : Mem) : varR (some (some d)) m = .ok d m := Eq.trans rfl rfl
/-! statements -/
def kSeq (b : FS) (r : RS) : RS := match r with
  | .nx ρ m => b ρ m
  | r => r
@[simp] theorem kSeq_nx (b : FS) (ρ : EnvD) (m : Mem) : kSeq b (.nx ρ m) = b ρ m := Eq.trans rfl rfl
@[simp] theorem kSeq_rt (b : FS) (d : D) (m : Mem) : kSeq b (.rt d m) = .rt d m := Eq.trans rfl rfl
@[simp] theorem kSeq_exc (b : FS) (x : Exn) (ρ : EnvD) (m : Mem) : kSeq b (.exc x ρ m) = .exc x ρ m := Eq.trans rfl rfl
@[simp] theorem kSeq_bk (b : FS) (ρ : EnvD) (m : Mem) : kSeq b (.bk ρ m) = .bk ρ m := Eq.trans rfl rfl
@[simp] theorem kSeq_ct (b : FS) (ρ : EnvD) (m : Mem) : kSeq b (.ct ρ m) = .ct ρ m := Eq.trans rfl rfl
def kEx (ρ : EnvD) (r : Res D) : RS := onE r ρ fun _ m1 => .nx ρ m1
@[simp] theorem kEx_ok (ρ : EnvD) (d : D) (m : Mem) : kEx ρ (.ok d m) = .nx ρ m := Eq.trans rfl rfl
@[simp] theorem kEx_exc (ρ : EnvD) (x : Exn) (m : Mem) : kEx ρ (.exc x m) = .exc x ρ m := Eq.trans rfl rfl
def kRt (ρ : EnvD) (r : Res D) : RS := onE r ρ fun d m1 => .rt d m1
@[simp] theorem kRt_ok (ρ : EnvD) (d : D) (m : Mem) : kRt ρ (.ok d m) = .rt d m := Eq.trans rfl rfl
@[simp] theorem kRt_exc (ρ : EnvD) (x : Exn) (m : Mem) : kRt ρ (.exc x m) = .exc x ρ m := Eq.trans rfl rfl
def kIf (a b : FS) (ρ : EnvD) (r : Res Bool) : RS := onE r ρ fun x m1 => if x = true then a ρ m1 else b ρ m1
@[simp] theorem kIf_t (a b : FS) (ρ : EnvD) (m : Mem) : kIf a b ρ (.ok true m) = a ρ m := Eq.trans rfl rfl
@[simp] theorem kIf_f (a b : FS) (ρ : EnvD) (m : Mem) : kIf a b ρ (.ok false m) = b ρ m := Eq.trans rfl rfl
def kSet (i : Nat) (ρ : EnvD) (r : Res D) : RS := onE r ρ fun d m1 => .nx (ρ.set i (some d)) m1
@[simp] theorem kSet_ok (i : Nat) (ρ : EnvD) (d : D) (m : Mem) : kSet i ρ (.ok d m) = .nx (ρ.set i (some d)) m := Eq.trans rfl rfl
@[simp] theorem kSet_exc (i : Nat) (ρ : EnvD) (x : Exn) (m : Mem) : kSet i ρ (.exc x m) = .exc x ρ m := Eq.trans rfl rfl
def kPar (i j : Nat) (ρ : EnvD) (r : Res (List D)) : RS := onE r ρ fun ds m1 => match ds with
  | [x, y] => .nx ((ρ.set i (some x)).set j (some y)) m1
  | _ => .bad
@[simp] theorem kPar_ok (i j : Nat) (ρ : EnvD) (x y : D) (m : Mem) : kPar i j ρ (.ok [x, y] m) = .nx ((ρ.set i (some x)).set j (some y)) m := Eq.trans rfl rfl
def kAsg2 (ρ : EnvD) (r : Res EnvD) : RS := onE r ρ fun ρ1 m2 => .nx ρ1 m2
@[simp] theorem kAsg2_ok (ρ ρ1 : EnvD) (m : Mem) : kAsg2 ρ (.ok ρ1 m) = .nx ρ1 m := Eq.trans rfl rfl
def kAsg (g : FG) (ρ : EnvD) (r : Res D) : RS := onE r ρ fun d m1 => kAsg2 ρ (g d ρ m1)
@[simp] theorem kAsg_ok (g : FG) (ρ : EnvD) (d : D) (m : Mem) : kAsg g ρ (.ok d m) = kAsg2 ρ (g d ρ m) := Eq.trans rfl rfl
def kFor (g : FG) (b : FS) (ρ : EnvD) (r : Res (List D)) : RS := onE r ρ fun ds m1 => forGo g b ds ρ m1
@[simp] theorem kFor_ok (g : FG) (b : FS) (ρ : EnvD) (ds : List D) (m : Mem) : kFor g b ρ (.ok ds m) = forGo g b ds ρ m := Eq.trans rfl rfl
/-! o[i] = v -/
def setR (x y : D) (d : D) (ρ : EnvD) (m2 : Mem) : Res EnvD := match x, y with
  | .mref i, .int k => (match m2[i]? with
    | some (.lst xs) => (match ixN xs.length k with
      | some j => .ok ρ (m2.set i (.lst (xs.set j d)))
      | none => .bad)
    | _ => .bad)
  | _, _ => .bad
def kIx2 (x d : D) (ρ : EnvD) (r : Res D) : Res EnvD := r.bind fun y m => setR x y d ρ m
@[simp] theorem kIx2_ok (x d : D) (ρ : EnvD) (y : D) (m : Mem) : kIx2 x d ρ (.ok y m) = setR x y d ρ m := Eq.trans rfl rfl
def kIx1 (fi : FE) (d : D) (ρ : EnvD) (r : Res D) : Res EnvD := r.bind fun x m => kIx2 x d ρ (fi ρ m)
@[simp] theorem kIx1_ok (fi : FE) (d : D) (ρ : EnvD) (x : D) (m : Mem) : kIx1 fi d ρ (.ok x m) = kIx2 x d ρ (fi ρ m) := Eq.trans rfl rfl
/-! comprehensions -/
def kFin (mu : Bool) (r : Res (List D)) : Res D := bindN r fun ys m2 => finL mu ys m2
@[simp] theorem kFin_ok (mu : Bool) (ys : List D) (m : Mem) : kFin mu (.ok ys m) = finL mu ys m := Eq.trans rfl rfl
def kLc (mu : Bool) (fg : FG) (ft : FT) (fe : FE) (ρ : EnvD) (r : Res (List D)) : Res D := r.bind fun ds m1 => kFin mu (lcGo fg ft fe ρ ds [] m1)
@[simp] theorem kLc_ok (mu : Bool) (fg : FG) (ft : FT) (fe : FE) (ρ : EnvD) (ds : List D) (m : Mem) : kLc mu fg ft fe ρ (.ok ds m) = kFin mu (lcGo fg ft fe ρ ds [] m) := Eq.trans rfl rfl
noncomputable def kLc2 (mu : Bool) (fg : FG) (ft : FT) (fi1 : FI) (fg1 : FG) (ft1 : FT) (fe : FE) (vs1 : List Nat) (ρ : EnvD) (r : Res (List D)) : Res D := r.bind fun ds m1 => kFin mu (lc2Go fg ft fi1 fg1 ft1 fe vs1 ρ ds [] m1)
@[simp] theorem kLc2_ok (mu : Bool) (fg : FG) (ft : FT) (fi1 : FI) (fg1 : FG) (ft1 : FT) (fe : FE) (vs1 : List Nat) (ρ : EnvD) (ds : List D) (m : Mem) : kLc2 mu fg ft fi1 fg1 ft1 fe vs1 ρ (.ok ds m) = kFin mu (lc2Go fg ft fi1 fg1 ft1 fe vs1 ρ ds [] m) := Eq.trans rfl rfl
@[simp] theorem finL_f (ys : List D) (m : Mem) : finL false ys m = .ok (.lst ys) m := Eq.trans rfl rfl
@[simp] theorem finL_t (ys : List D) (m : Mem) : finL true ys m = .ok (.mref m.length) (m ++ [.lst ys]) := Eq.trans rfl rfl
/-! what is walked -/
def seqI (x : D) (m1 : Mem) : Res (List D) := match x with
  | .tup xs => .ok xs m1
  | .str z => if z.length ≤ sizeLine then .ok (z.cps.toList.map fun c => .str ⟨#[c]⟩) m1 else .bad
  | x => match lstK m1 x with
    | some xs => .ok xs m1
    | none => .bad
@[simp] theorem seqI_tup (xs : List D) (m : Mem) : seqI (.tup xs) m = .ok xs m := Eq.trans rfl rfl
@[simp] theorem seqI_lst (xs : List D) (m : Mem) : seqI (.lst xs) m = .ok xs m := Eq.trans rfl rfl
@[simp] theorem seqI_slst (xs : List D) (m : Mem) : seqI (.slst xs) m = .ok xs m := Eq.trans rfl rfl
@[simp] theorem seqI_str (z : Str) (m : Mem) : seqI (.str z) m = if z.length ≤ sizeLine then .ok (z.cps.toList.map fun c => .str ⟨#[c]⟩) m else .bad := Eq.trans rfl rfl
def kSq (r : Res D) : Res (List D) := r.bind fun x m => seqI x m
@[simp] theorem kSq_ok (x : D) (m : Mem) : kSq (.ok x m) = seqI x m := Eq.trans rfl rfl
/-- lo, lo + 1, .. -/
def rgD (lo : Int) (n : Nat) : List D := (List.range n).map fun i => D.int (lo + (i : Nat))
@[simp] theorem rgD_length (lo : Int) (n : Nat) : (rgD lo n).length = n := by simp [rgD]
theorem rgD_get {lo : Int} {n i : Nat} {x : D} (h : (rgD lo n)[i]? = some x) : x = .int (lo + (i : Nat)) ∧ i < n := by
  unfold rgD at h
  rw [List.getElem?_map] at h
  obtain ⟨j, h1, h2⟩ := Option.map_eq_some_iff.mp h
  obtain ⟨h3, h4⟩ := List.getElem?_eq_some_iff.mp h1
  simp at h3 h4
  subst h4
  exact ⟨h2.symm, h3⟩
theorem rgD_mem {lo : Int} {n : Nat} {x : D} (h : x ∈ rgD lo n) : ∃ i : Nat, i < n ∧ x = .int (lo + (i : Nat)) := by
  unfold rgD at h
  obtain ⟨i, h1, h2⟩ := List.mem_map.mp h
  exact ⟨i, List.mem_range.mp h1, h2.symm⟩
def kR1 (r : Res D) : Res (List D) := r.bind fun x m1 => match x with
  | .int j => if -(2 ^ 62) ≤ j ∧ j < 2 ^ 62 ∧ j.toNat ≤ sizeLine then .ok ((List.range j.toNat).map fun i => D.int (0 + (i : Nat))) m1 else .bad
  | _ => .bad
theorem kR1_ok (j : Int) (m : Mem) : kR1 (.ok (.int j) m) = if -(2 ^ 62) ≤ j ∧ j < 2 ^ 62 ∧ j.toNat ≤ sizeLine then .ok (rgD 0 j.toNat) m else .bad := rfl
theorem rg1_small {b : Nat} (hb : b ≤ 100) (m : Mem) : kR1 (.ok (.int b) m) = .ok (rgD 0 b) m := by
  have z : ((b : Int)).toNat = b := by omega
  have c1 : -(2 ^ 62) ≤ (b : Int) ∧ (b : Int) < 2 ^ 62 ∧ (b : Int).toNat ≤ sizeLine := by
    rw [z]
    exact ⟨by omega, by omega, Nat.le_trans hb (by decide)⟩
  rw [kR1_ok, if_pos c1, z]
theorem rg1_int {j : Int} (h0 : 0 ≤ j) (hb : j ≤ 100) (m : Mem) : kR1 (.ok (.int j) m) = .ok (rgD 0 j.toNat) m := by
  have e := rg1_small (b := j.toNat) (by omega) m
  rw [Int.toNat_of_nonneg h0] at e
  exact e
def kR2b (x : D) (r : Res D) : Res (List D) := r.bind fun y m2 => match x, y with
  | .int i, .int j => if (-(2 ^ 62) ≤ i ∧ i < 2 ^ 62 ∧ -(2 ^ 62) ≤ j ∧ j < 2 ^ 62) ∧ (j - i).toNat ≤ sizeLine then .ok ((List.range (j - i).toNat).map fun k => D.int (i + (k : Nat))) m2 else .bad
  | _, _ => .bad
theorem kR2b_ok (i j : Int) (m : Mem) : kR2b (.int i) (.ok (.int j) m) = if (-(2 ^ 62) ≤ i ∧ i < 2 ^ 62 ∧ -(2 ^ 62) ≤ j ∧ j < 2 ^ 62) ∧ (j - i).toNat ≤ sizeLine then .ok (rgD i (j - i).toNat) m else .bad := rfl
theorem rg_small {a b : Nat} (ha : a ≤ 100) (hb : b ≤ 100) (m : Mem) : kR2b (.int a) (.ok (.int b) m) = .ok (rgD a (b - a)) m := by
  have z : ((b : Int) - (a : Int)).toNat = b - a := by omega
  have c1 : (-(2 ^ 62) ≤ (a : Int) ∧ (a : Int) < 2 ^ 62 ∧ -(2 ^ 62) ≤ (b : Int) ∧ (b : Int) < 2 ^ 62) ∧ ((b : Int) - (a : Int)).toNat ≤ sizeLine := by
    rw [z]
    exact ⟨⟨by omega, by omega, by omega, by omega⟩, Nat.le_trans (by omega : b - a ≤ 100) (by decide)⟩
  rw [kR2b_ok, if_pos c1, z]
def kR2 (b : FE) (ρ : EnvD) (r : Res D) : Res (List D) := r.bind fun x m => kR2b x (b ρ m)
@[simp] theorem kR2_ok (b : FE) (ρ : EnvD) (x : D) (m : Mem) : kR2 b ρ (.ok x m) = kR2b x (b ρ m) := Eq.trans rfl rfl
def kZ2 (x : D) (r : Res D) : Res (List D) := r.bind fun y m => zipR x y m
@[simp] theorem kZ2_ok (x y : D) (m : Mem) : kZ2 x (.ok y m) = zipR x y m := Eq.trans rfl rfl
def kZ1 (b : FE) (ρ : EnvD) (r : Res D) : Res (List D) := r.bind fun x m => kZ2 x (b ρ m)
@[simp] theorem kZ1_ok (b : FE) (ρ : EnvD) (x : D) (m : Mem) : kZ1 b ρ (.ok x m) = kZ2 x (b ρ m) := Eq.trans rfl rfl
@[simp] theorem zipR_tup (xs ys : List D) (m : Mem) : zipR (.tup xs) (.tup ys) m = .ok (pairsD xs ys) m := Eq.trans rfl rfl
@[simp] theorem zipR_lst (xs ys : List D) (m : Mem) : zipR (.lst xs) (.lst ys) m = .ok (pairsD xs ys) m := Eq.trans rfl rfl
def enumI (x : D) (m1 : Mem) : Res (List D) := match x with
  | .tup xs => .ok (enumD 0 xs) m1
  | x => match lstK m1 x with
    | some xs => .ok (enumD 0 xs) m1
    | none => .bad
@[simp] theorem enumI_tup (xs : List D) (m : Mem) : enumI (.tup xs) m = .ok (enumD 0 xs) m := Eq.trans rfl rfl
@[simp] theorem enumI_lst (xs : List D) (m : Mem) : enumI (.lst xs) m = .ok (enumD 0 xs) m := Eq.trans rfl rfl
def kEn (r : Res D) : Res (List D) := r.bind fun x m => enumI x m
@[simp] theorem kEn_ok (x : D) (m : Mem) : kEn (.ok x m) = enumI x m := Eq.trans rfl rfl
/-! slices -/
def kSo (r : Res D) : Res (Option Int) := r.bind fun x m1 => match x with
  | .int i => .ok (some i) m1
  | _ => .bad
@[simp] theorem kSo_ok (i : Int) (m : Mem) : kSo (.ok (.int i) m) = .ok (some i) m := Eq.trans rfl rfl
def kSl3 (mu : Bool) (x : D) (lo : Option Int) (r : Res (Option Int)) : Res D := r.bind fun hi m => hSl mu x lo hi m
@[simp] theorem kSl3_ok (mu : Bool) (x : D) (lo hi : Option Int) (m : Mem) : kSl3 mu x lo (.ok hi m) = hSl mu x lo hi m := Eq.trans rfl rfl
def kSl2 (mu : Bool) (x : D) (h : FO) (ρ : EnvD) (r : Res (Option Int)) : Res D := r.bind fun lo m => kSl3 mu x lo (h ρ m)
@[simp] theorem kSl2_ok (mu : Bool) (x : D) (h : FO) (ρ : EnvD) (lo : Option Int) (m : Mem) : kSl2 mu x h ρ (.ok lo m) = kSl3 mu x lo (h ρ m) := Eq.trans rfl rfl
def kSl1 (mu : Bool) (l h : FO) (ρ : EnvD) (r : Res D) : Res D := r.bind fun x m => kSl2 mu x h ρ (l ρ m)
@[simp] theorem kSl1_ok (mu : Bool) (l h : FO) (ρ : EnvD) (x : D) (m : Mem) : kSl1 mu l h ρ (.ok x m) = kSl2 mu x h ρ (l ρ m) := Eq.trans rfl rfl
/-! attributes, methods, making -/
def atR (cs : List Str) (f : Str) (x : D) (m1 : Mem) : Res D := match insV m1 x with
  | some (c, fs) => if c ∈ cs then (match fs.lookup f with
    | some d => .ok d m1
    | none => .bad) else .bad
  | none => .bad
def kAt (cs : List Str) (f : Str) (r : Res D) : Res D := r.bind fun x m => atR cs f x m
@[simp] theorem kAt_ok (cs : List Str) (f : Str) (x : D) (m : Mem) : kAt cs f (.ok x m) = atR cs f x m := Eq.trans rfl rfl
def kMt2 (x : D) (n : Nat) (F : HL) (dds : List D) (r : Res (List D)) : Res D := r.bind fun ds m2 => if (x :: (ds ++ dds)).length = n then F (x :: (ds ++ dds)) m2 else .bad
@[simp] theorem kMt2_ok (x : D) (n : Nat) (F : HL) (dds ds : List D) (m : Mem) : kMt2 x n F dds (.ok ds m) = if (x :: (ds ++ dds)).length = n then F (x :: (ds ++ dds)) m else .bad := Eq.trans rfl rfl
def kMt1 (c mn : Str) (n : Nat) (F : HL) (dds : List D) (a : FA) (ρ : EnvD) (r : Res D) : Res D := r.bind fun x m1 => match insV m1 x with
  | some (c', fs) => if c' = c ∧ fs.lookup mn = none then kMt2 x n F dds (a ρ m1) else .bad
  | none => .bad
theorem kMt1_ok (c mn : Str) (n : Nat) (F : HL) (dds : List D) (a : FA) (ρ : EnvD) (x : D) (m : Mem) {fs : List (Str × D)} (h : insV m x = some (c, fs)) (h2 : fs.lookup mn = none) : kMt1 c mn n F dds a ρ (.ok x m) = kMt2 x n F dds (a ρ m) := by
  unfold kMt1
  simp [h, h2]
def kMk (c : Str) (n : Nat) (F : HL) (dds : List D) (r : Res (List D)) : Res D := r.bind fun ds m1 => mkR c n F (ds ++ dds) m1
@[simp] theorem kMk_ok (c : Str) (n : Nat) (F : HL) (dds ds : List D) (m : Mem) : kMk c n F dds (.ok ds m) = mkR c n F (ds ++ dds) m := Eq.trans rfl rfl
def kMkK2 (c : Str) (n np nk : Nat) (F : HL) (ds : List D) (r : Res (List D)) : Res D := r.bind fun es m2 => if ds.length = np ∧ es.length = nk then mkR c n F (ds ++ es) m2 else .bad
@[simp] theorem kMkK2_ok (c : Str) (n np nk : Nat) (F : HL) (ds es : List D) (m : Mem) : kMkK2 c n np nk F ds (.ok es m) = if ds.length = np ∧ es.length = nk then mkR c n F (ds ++ es) m else .bad := Eq.trans rfl rfl
def kMkK1 (c : Str) (n np nk : Nat) (F : HL) (b : FA) (ρ : EnvD) (r : Res (List D)) : Res D := r.bind fun ds m1 => kMkK2 c n np nk F ds (b ρ m1)
@[simp] theorem kMkK1_ok (c : Str) (n np nk : Nat) (F : HL) (b : FA) (ρ : EnvD) (ds : List D) (m : Mem) : kMkK1 c n np nk F b ρ (.ok ds m) = kMkK2 c n np nk F ds (b ρ m) := Eq.trans rfl rfl
noncomputable def kFrz (m0 : Mem) (r : Res D) : Res D := r.bind fun d m1 => frzR m0 d m1
@[simp] theorem kFrz_ok (m0 : Mem) (d : D) (m : Mem) : kFrz m0 (.ok d m) = frzR m0 d m := Eq.trans rfl rfl
def appR (x d : D) (m2 : Mem) : Res D := match x with
  | .mref i => (match m2[i]? with
    | some (.lst xs) => if xs.length < sizeLine then .ok .non (m2.set i (.lst (xs ++ [d]))) else .bad
    | _ => .bad)
  | _ => .bad
def kAp2 (x : D) (r : Res D) : Res D := r.bind fun d m2 => appR x d m2
@[simp] theorem kAp2_ok (x d : D) (m : Mem) : kAp2 x (.ok d m) = appR x d m := Eq.trans rfl rfl
def kAp1 (e : FE) (ρ : EnvD) (r : Res D) : Res D := r.bind fun x m1 => match lstE m1 x with
  | some _ => kAp2 x (e ρ m1)
  | none => .bad
theorem kAp1_ok (e : FE) (ρ : EnvD) (x : D) (m : Mem) {xs : List D} (h : lstE m x = some xs) : kAp1 e ρ (.ok x m) = kAp2 x (e ρ m) := by
  unfold kAp1
  simp [h]
def flR (cs : List Str) (f : Str) (ρ : EnvD) (d x : D) (m2 : Mem) : RS := match x with
  | .mref i => (match m2[i]? with
    | some (.ins c fs) => if c ∈ cs ∧ fs.length < 1000 then .nx ρ (m2.set i (.ins c (putD f d fs))) else .bad
    | _ => .bad)
  | _ => .bad
def kFl2 (cs : List Str) (f : Str) (ρ : EnvD) (d : D) (r : Res D) : RS := onE r ρ fun x m2 => flR cs f ρ d x m2
@[simp] theorem kFl2_ok (cs : List Str) (f : Str) (ρ : EnvD) (d x : D) (m : Mem) : kFl2 cs f ρ d (.ok x m) = flR cs f ρ d x m := Eq.trans rfl rfl
def kFl1 (cs : List Str) (f : Str) (o : FE) (ρ : EnvD) (r : Res D) : RS := onE r ρ fun d m1 => kFl2 cs f ρ d (o ρ m1)
@[simp] theorem kFl1_ok (cs : List Str) (f : Str) (o : FE) (ρ : EnvD) (d : D) (m : Mem) : kFl1 cs f o ρ (.ok d m) = kFl2 cs f ρ d (o ρ m) := Eq.trans rfl rfl
noncomputable def kRun (m : Mem) (r : RS) : Res D := match r with
  | .rt d m' => .ok d (cut m m' [d])
  | .nx _ m' => .ok .non (cut m m' [])
  | .exc x _ m' => .exc x (cut m m' (x.att.map (·.2)))
  | _ => .bad
@[simp] theorem kRun_rt (m m' : Mem) (d : D) : kRun m (.rt d m') = .ok d (cut m m' [d]) := Eq.trans rfl rfl
@[simp] theorem kRun_nx (m m' : Mem) (ρ : EnvD) : kRun m (.nx ρ m') = .ok .non (cut m m' []) := Eq.trans rfl rfl
@[simp] theorem kRun_exc (m m' : Mem) (x : Exn) (ρ : EnvD) : kRun m (.exc x ρ m') = .exc x (cut m m' (x.att.map (·.2))) := Eq.trans rfl rfl
theorem x_runF (n : Nat) (b : FS) (ds : List D) (m : Mem) : runF n b ds m = kRun m (b (startD n ds) m) := rfl
/-! lists of targets -/
def kGs (r : FGs) (ds : List D) (q : Res EnvD) : Res EnvD := q.bind fun ρ1 m1 => r ds ρ1 m1
@[simp] theorem kGs_ok (r : FGs) (ds : List D) (ρ : EnvD) (m : Mem) : kGs r ds (.ok ρ m) = r ds ρ m := Eq.trans rfl rfl
section
variable (ρ : EnvD) (m : Mem)
@[simp] theorem x_eVar (i : Nat) : eVar i ρ m = varR ρ[i]? m := Eq.trans rfl rfl
@[simp] theorem x_eC (d : D) : eC d ρ m = .ok d m := Eq.trans rfl rfl
@[simp] theorem x_eOp (h : H2) (a b : FE) : eOp h a b ρ m = kOp1 h b ρ (a ρ m) := Eq.trans rfl rfl
@[simp] theorem x_eUn (h : H1) (a : FE) : eUn h a ρ m = kUn h (a ρ m) := Eq.trans rfl rfl
@[simp] theorem x_eCB (h : HL) (a : FA) : eCB h a ρ m = kCB h (a ρ m) := Eq.trans rfl rfl
@[simp] theorem x_aNil : aNil ρ m = .ok [] m := Eq.trans rfl rfl
@[simp] theorem x_aCons (a : FE) (r : FA) : aCons a r ρ m = kC1 r ρ (a ρ m) := Eq.trans rfl rfl
@[simp] theorem x_aStar (a : FE) (r : FA) : aStar a r ρ m = kSt1 r ρ (a ρ m) := Eq.trans rfl rfl
@[simp] theorem x_tTr (a : FE) : tTr a ρ m = kTr (a ρ m) := Eq.trans rfl rfl
@[simp] theorem x_tAn (a b : FT) : tAn a b ρ m = kAn b ρ (a ρ m) := Eq.trans rfl rfl
@[simp] theorem x_tOr (a b : FT) : tOr' a b ρ m = kOr b ρ (a ρ m) := Eq.trans rfl rfl
@[simp] theorem x_tNo (a : FT) : tNo a ρ m = kNo (a ρ m) := Eq.trans rfl rfl
@[simp] theorem x_eAn (a b : FE) : eAn a b ρ m = kEAn b ρ (a ρ m) := Eq.trans rfl rfl
@[simp] theorem x_eOr (a b : FE) : eOr a b ρ m = kEOr b ρ (a ρ m) := Eq.trans rfl rfl
@[simp] theorem x_eNo (a : FE) : eNo a ρ m = kENo (a ρ m) := Eq.trans rfl rfl
@[simp] theorem x_eIf (c : FT) (a b : FE) : eIf c a b ρ m = kEIf a b ρ (c ρ m) := Eq.trans rfl rfl
@[simp] theorem x_eCh (h h' : H2) (a b c : FE) : eCh h h' a b c ρ m = kCh1 h h' b c ρ (a ρ m) := Eq.trans rfl rfl
@[simp] theorem x_sSeq (a b : FS) : sSeq a b ρ m = kSeq b (a ρ m) := Eq.trans rfl rfl
@[simp] theorem x_sNx : sNx ρ m = .nx ρ m := Eq.trans rfl rfl
@[simp] theorem x_sEx (a : FE) : sEx a ρ m = kEx ρ (a ρ m) := Eq.trans rfl rfl
@[simp] theorem x_sRt (a : FE) : sRt a ρ m = kRt ρ (a ρ m) := Eq.trans rfl rfl
@[simp] theorem x_sRtN : sRtN ρ m = .rt .non m := Eq.trans rfl rfl
@[simp] theorem x_sIf (c : FT) (a b : FS) : sIf c a b ρ m = kIf a b ρ (c ρ m) := Eq.trans rfl rfl
@[simp] theorem x_sSet (i : Nat) (a : FE) : sSet i a ρ m = kSet i ρ (a ρ m) := Eq.trans rfl rfl
@[simp] theorem x_sPar (i j : Nat) (a : FA) : sPar i j a ρ m = kPar i j ρ (a ρ m) := Eq.trans rfl rfl
@[simp] theorem x_sAsg (a : FE) (g : FG) : sAsg a g ρ m = kAsg g ρ (a ρ m) := Eq.trans rfl rfl
@[simp] theorem x_sFor (fi : FI) (fg : FG) (fb : FS) : sFor fi fg fb ρ m = kFor fg fb ρ (fi ρ m) := Eq.trans rfl rfl
@[simp] theorem x_sFl (cs : List Str) (f : Str) (o e : FE) : sFl cs f o e ρ m = kFl1 cs f o ρ (e ρ m) := Eq.trans rfl rfl
@[simp] theorem x_eTup (a : FA) : eTup a ρ m = kTup (a ρ m) := Eq.trans rfl rfl
@[simp] theorem x_eLst (a : FA) : eLst a ρ m = kLst (a ρ m) := Eq.trans rfl rfl
@[simp] theorem x_eLstM (a : FA) : eLstM a ρ m = kLsM (a ρ m) := Eq.trans rfl rfl
@[simp] theorem x_eCall (n : Nat) (F : HL) (dds : List D) (a : FA) : eCall n F dds a ρ m = kCall n F dds (a ρ m) := Eq.trans rfl rfl
@[simp] theorem x_eMeth (c mn : Str) (n : Nat) (F : HL) (dds : List D) (o : FE) (a : FA) : eMeth c mn n F dds o a ρ m = kMt1 c mn n F dds a ρ (o ρ m) := Eq.trans rfl rfl
@[simp] theorem x_eMake (c : Str) (n : Nat) (F : HL) (dds : List D) (a : FA) : eMake c n F dds a ρ m = kMk c n F dds (a ρ m) := Eq.trans rfl rfl
@[simp] theorem x_eMakeK (c : Str) (n np nk : Nat) (F : HL) (a b : FA) : eMakeK c n np nk F a b ρ m = kMkK1 c n np nk F b ρ (a ρ m) := Eq.trans rfl rfl
@[simp] theorem x_eFrz (a : FE) : eFrz a ρ m = kFrz m (a ρ m) := Eq.trans rfl rfl
@[simp] theorem x_eAt (cs : List Str) (f : Str) (o : FE) : eAt cs f o ρ m = kAt cs f (o ρ m) := Eq.trans rfl rfl
@[simp] theorem x_eApp (o e : FE) : eApp o e ρ m = kAp1 e ρ (o ρ m) := Eq.trans rfl rfl
@[simp] theorem x_eM1 (T : D → Mem → Bool) (h : D → D → Mem → Res D) (o e : FE) : eM1 T h o e ρ m = kM1 T h e ρ (o ρ m) := Eq.trans rfl rfl
@[simp] theorem x_eLc (mu : Bool) (vs : List Nat) (fi : FI) (fg : FG) (ft : FT) (fe : FE) : eLc mu vs fi fg ft fe ρ m = kLc mu fg ft fe (wipeD ρ vs) (fi ρ m) := Eq.trans rfl rfl
@[simp] theorem x_eLc2 (mu : Bool) (vs vs1 : List Nat) (fi : FI) (fg : FG) (ft : FT) (fi1 : FI) (fg1 : FG) (ft1 : FT) (fe : FE) : eLc2 mu vs vs1 fi fg ft fi1 fg1 ft1 fe ρ m = kLc2 mu fg ft fi1 fg1 ft1 fe vs1 (wipeD ρ vs) (fi ρ m) := Eq.trans rfl rfl
@[simp] theorem x_eSl (mu : Bool) (a : FE) (l h : FO) : eSl mu a l h ρ m = kSl1 mu l h ρ (a ρ m) := Eq.trans rfl rfl
@[simp] theorem x_oNo : oNo ρ m = .ok none m := Eq.trans rfl rfl
@[simp] theorem x_oSo (a : FE) : oSo a ρ m = kSo (a ρ m) := Eq.trans rfl rfl
@[simp] theorem x_iSeq (a : FE) : iSeq a ρ m = kSq (a ρ m) := Eq.trans rfl rfl
@[simp] theorem x_iRg1 (a : FE) : iRg1 a ρ m = kR1 (a ρ m) := Eq.trans rfl rfl
@[simp] theorem x_iRg2 (a b : FE) : iRg2 a b ρ m = kR2 b ρ (a ρ m) := Eq.trans rfl rfl
@[simp] theorem x_iZpA (a b : FE) : iZpA a b ρ m = kZ1 b ρ (a ρ m) := Eq.trans rfl rfl
@[simp] theorem x_iEnA (a : FE) : iEnA a ρ m = kEn (a ρ m) := Eq.trans rfl rfl
@[simp] theorem x_eD0K : eD0K ρ m = .ok (.mref m.length) (m ++ [.dK []]) := Eq.trans rfl rfl
@[simp] theorem x_gN (i : Nat) (d : D) : gN i d ρ m = .ok (ρ.set i (some d)) m := Eq.trans rfl rfl
@[simp] theorem x_gIx (fo fi : FE) (d : D) : gIx fo fi d ρ m = kIx1 fi d ρ (fo ρ m) := Eq.trans rfl rfl
@[simp] theorem x_gsNil : gsNil [] ρ m = .ok ρ m := Eq.trans rfl rfl
@[simp] theorem x_gsCons (f : FG) (r : FGs) (d : D) (ds : List D) : gsCons f r (d :: ds) ρ m = kGs r ds (f d ρ m) := Eq.trans rfl rfl
@[simp] theorem x_gT (n : Nat) (f : FGs) (xs : List D) : gT n f (.tup xs) ρ m = if xs.length = n then f xs ρ m else .bad := Eq.trans rfl rfl
@[simp] theorem x_tY : tY ρ m = .ok true m := Eq.trans rfl rfl
@[simp] theorem x_wipe0 : wipeD ρ [] = ρ := Eq.trans rfl rfl
@[simp] theorem x_wipe (v : Nat) (vs : List Nat) : wipeD ρ (v :: vs) = (wipeD ρ vs).set v none := Eq.trans rfl rfl
end
/-! ### operators -/
section
variable (m : Mem)
@[simp] theorem h_add (i j : Int) : hAdd (.int i) (.int j) m = .ok (.int (i + j)) m := Eq.trans rfl rfl
@[simp] theorem h_addS (a b : Str) : hAdd (.str a) (.str b) m = if a.length + b.length ≤ sizeLine then .ok (.str (a ++ b)) m else .bad := Eq.trans rfl rfl
@[simp] theorem h_addT (a b : List D) : hAdd (.tup a) (.tup b) m = if a.length + b.length ≤ sizeLine then .ok (.tup (a ++ b)) m else .bad := Eq.trans rfl rfl
@[simp] theorem h_addL (a b : List D) : hAdd (.lst a) (.lst b) m = if a.length + b.length ≤ sizeLine then .ok (.lst (a ++ b)) m else .bad := Eq.trans rfl rfl
@[simp] theorem h_sub (i j : Int) : hI (fun _ _ => True) (fun i j => .int (i - j)) (.int i) (.int j) m = .ok (.int (i - j)) m := by simp [hI]
theorem h_fdiv {i j : Int} (h : 0 < j ∧ j.natAbs.log2 < 9000) : hI CDivW (fun i j => .int (i / j)) (.int i) (.int j) m = .ok (.int (i / j)) m := if_pos h
theorem h_mod {i j : Int} (h : 0 < j) : hI (fun _ j => 0 < j) (fun i j => .int (i % j)) (.int i) (.int j) m = .ok (.int (i % j)) m := if_pos h
theorem h_pow {i j : Int} (h : 0 ≤ j ∧ j ≤ 1000000 ∧ i.natAbs < 2 ^ 64) : hI CPow (fun i j => .int (i ^ j.toNat)) (.int i) (.int j) m = .ok (.int (i ^ j.toNat)) m := if_pos h
theorem h_mul {i j : Int} (h : CMul i j) : hMul (.int i) (.int j) m = .ok (.int (i * j)) m := if_pos (.inl h)
@[simp] theorem h_neg (i : Int) : hNeg (.int i) m = .ok (.int (-i)) m := Eq.trans rfl rfl
@[simp] theorem h_cmp (p : Int → Int → Bool) (i j : Int) : hCmp p (.int i) (.int j) m = .ok (.bl (p i j)) m := Eq.trans rfl rfl
@[simp] theorem h_int (i : Int) : hInt [.int i] m = .ok (.int i) m := Eq.trans rfl rfl
@[simp] theorem h_eqI (n : Bool) (i j : Int) : hEqP n (.int i) (.int j) m = .ok (.bl (if n then !decide (i = j) else decide (i = j))) m := by
  have h1 : ∀ z : Int, SeqAt.shaped (.int z) = true := fun z => rfl
  simp only [hEqP, toPyM, toPy, h1, PyData.eqv, and_self, if_true]
  cases n <;> rfl
@[simp] theorem h_eqB (n : Bool) (i j : Bool) : hEqP n (.bl i) (.bl j) m = .ok (.bl (if n then !decide (i = j) else decide (i = j))) m := by
  have h1 : ∀ z : Bool, SeqAt.shaped (.bool z) = true := fun z => rfl
  cases i <;> cases j <;> simp [hEqP, toPyM, toPy, h1, PyData.eqv]
end
end DM
end
section
set_option maxRecDepth 100000
set_option maxHeartbeats 4000000
/-! Plain mathematics, part 2: the law's stream of draws. -/
namespace DM
open PySem L2 DL
/-- the draws' memory: the cells that are left, the number that is used up, how many draws, the mixed number -/
abbrev strm (cs : List Int) (r c x : Int) (tl : Mem) : Mem := .lst (cs.map .int) :: .lst [.mref 0, .int r, .int c, .int x] :: tl
/-- after at most C draws -/
def St (C : Nat) (tl : Mem) (m : Mem) : Prop := ∃ cs r c x, m = strm cs r c x tl ∧ 0 ≤ r ∧ 0 ≤ c ∧ c ≤ C ∧ 0 ≤ x ∧ x < 2147483647
theorem St.mono {C C' : Nat} {tl m : Mem} (h : St C tl m) (hc : C ≤ C') : St C' tl m := by
  obtain ⟨cs, r, c, x, e, h1, h2, h3, h4⟩ := h
  exact ⟨cs, r, c, x, e, h1, h2, by omega, h4⟩
theorem cmulR {i j : Int} (h1 : -(2 ^ 64) < j) (h2 : j < 2 ^ 64) : CMul i j := .inr ⟨h1, h2⟩
theorem cmulL {i j : Int} (h1 : -(2 ^ 64) < i) (h2 : i < 2 ^ 64) : CMul i j := .inl ⟨h1, h2⟩
theorem log2_small {k : Int} (h : 0 < k) (h2 : k < 2 ^ 62) : k.natAbs.log2 < 9000 := by
  have h3 : k.natAbs < 2 ^ 62 := by omega
  have h4 : k.natAbs.log2 < 62 := (Nat.log2_lt (by omega)).mpr h3
  omega
/-- behind the choice of a cell -/
noncomputable def drawTl : FS := sSeq (sIf (tTr (eOp hGt (eOp hIx (eVar 0) (eC (.int 1))) (eC (.int 0)))) (sSeq (sSet 4 (eOp hMod (eCB hInt (aCons (eOp hIx (eVar 0) (eC (.int 1))) (aNil))) (eVar 1)))
  (sSeq (sAsg (eOp hFdiv (eOp hIx (eVar 0) (eC (.int 1))) (eVar 1)) (gIx (eVar 0) (eC (.int 1))))
  (sRt (eVar 4)))) (sNx))
  (sSeq (sSet 2 (eOp hMod (eCB hInt (aCons (eOp hPow (eOp hAdd (eOp hAdd (eOp hIx (eVar 0) (eC (.int 3))) (eOp hMul (eC (.int 7919)) (eOp hIx (eVar 0) (eC (.int 2))))) (eC (.int 104729))) (eC (.int 5))) (aNil))) (eC (.int 2147483629))))
  (sRt (eOp hMod (eOp hMod (eCB hInt (aCons (eOp hPow (eOp hAdd (eOp hAdd (eOp hMul (eVar 2) (eC (.int 48271))) (eOp hMul (eC (.int 30011)) (eOp hIx (eVar 0) (eC (.int 2))))) (eC (.int 29))) (eC (.int 3))) (aNil))) (eC (.int 1000000007))) (eVar 1))))
def drawA : FS := sAsg (eOp hAdd (eOp hIx (eVar 0) (eC (.int 2))) (eC (.int 1))) (gIx (eVar 0) (eC (.int 2)))
noncomputable def drawB : FS := sIf (tAn (tTr (eOp (hEqP false) (eOp hIx (eVar 0) (eC (.int 1))) (eC (.int 0)))) (tTr (eOp (hEqP true) (eOp hIx (eVar 0) (eC (.int 0))) (eLst (aNil))))) (sSeq (sSet 3 (eM1 isLst hPop (eOp hIx (eVar 0) (eC (.int 0))) (eC (.int 0))))
  (sSeq (sAsg (eOp hMod (eCB hInt (aCons (eOp hAdd (eOp hAdd (eOp hMul (eOp hIx (eVar 0) (eC (.int 3))) (eC (.int 8191))) (eVar 3)) (eC (.int 3))) (aNil))) (eC (.int 2147483647))) (gIx (eVar 0) (eC (.int 3))))
  (sAsg (eIf (tTr (eOp hGe (eVar 3) (eOp hPow (eC (.int 10)) (eC (.int 18))))) (eVar 3) (eC (.int 0))) (gIx (eVar 0) (eC (.int 1)))))) (sNx)
theorem draw_parts : Cm.b__law_draw = sSeq drawA (sSeq drawB drawTl) := rfl
theorem draw_tl (cs : List Int) (r c x k : Int) (tl : Mem) (o : Option D) (hr : 0 ≤ r) (hc : 0 ≤ c) (hc2 : c < 2 ^ 41) (hx : 0 ≤ x) (hx2 : x < 2147483647) (hk : 0 < k) (hk2 : k < 2 ^ 62) :
    ∃ d r', drawTl [some (.mref 1), some (.int k), none, o, none] (strm cs r c x tl) = .rt (.int d) (strm cs r' c x tl) ∧ 0 ≤ d ∧ d < k ∧ 0 ≤ r' := by
  unfold drawTl
  by_cases h : 0 < r
  · have e1 := log2_small hk hk2
    refine ⟨r % k, r / k, ?_, Int.emod_nonneg _ (by omega), Int.emod_lt_of_pos _ hk, Int.ediv_nonneg hr (by omega)⟩
    simp [hIx, atI, ixN, seqV, lstV, setR, h, h_mod, h_fdiv, hk, e1]
  · have p1 : CMul 7919 c := cmulL (by decide) (by decide)
    have q0 : 0 ≤ (x + 7919 * c + 104729) ^ 5 % 2147483629 := Int.emod_nonneg _ (by omega)
    have q1 : (x + 7919 * c + 104729) ^ 5 % 2147483629 < 2147483629 := Int.emod_lt_of_pos _ (by omega)
    generalize hq : (x + 7919 * c + 104729) ^ 5 % 2147483629 = y at q0 q1
    have p2 : CMul y 48271 := cmulR (by decide) (by decide)
    have p3 : CMul 30011 c := cmulL (by decide) (by decide)
    have w1 : (x + 7919 * c + 104729).natAbs < 18446744073709551616 := by omega
    have w2 : (y * 48271 + 30011 * c + 29).natAbs < 18446744073709551616 := by omega
    refine ⟨(y * 48271 + 30011 * c + 29) ^ 3 % 1000000007 % k, r, ?_, Int.emod_nonneg _ (by omega), Int.emod_lt_of_pos _ hk, hr⟩
    simp [hIx, atI, ixN, seqV, lstV, setR, h, h_mod, h_pow, h_mul, hk, p1, p2, p3, w1, w2, hq]
/-! ### == of plain data -/
theorem py_ints (m : Mem) : ∀ cs : List Int, toPyL m (cs.map .int) = some (cs.map .int)
  | [] => rfl
  | c :: cs => by simp [toPyL, toPy, py_ints m cs]
theorem lay_ints : ∀ cs : List Int, PyData.canLayAll0 (cs.map .int) = true ∧ PyData.depthAll (cs.map .int) = 0
  | [] => ⟨rfl, rfl⟩
  | c :: cs => by
    obtain ⟨h1, h2⟩ := lay_ints cs
    exact ⟨by simp [PyData.canLayAll0, PyData.canLay0, h1], by simp [PyData.depthAll, PyData.depth, h2]⟩
theorem shaped_ints (cs : List Int) : SeqAt.shaped (.list (cs.map .int)) = true := by
  obtain ⟨h1, h2⟩ := lay_ints cs
  simp [SeqAt.shaped, PyData.canLay0, PyData.depth, h1, h2]
theorem h_neNil {m : Mem} {i : Nat} {cs : List Int} (h : m[i]? = some (.lst (cs.map .int))) : hEqP true (.mref i) (.lst []) m = .ok (.bl (decide (cs ≠ []))) m := by
  have e : lstE m (.mref i) = some (cs.map .int) := by simp [lstE, h]
  have e2 : toPyM m (.mref i) = some (.list (cs.map .int)) := by simp [toPyM, e, py_ints]
  have e3 : toPyM m (.lst []) = some (.list []) := rfl
  have e4 := shaped_ints cs
  have e5 : SeqAt.shaped (.list []) = true := shaped_ints []
  simp only [hEqP, e2, e3, e4, e5, and_self, if_true]
  cases cs with
  | nil => rfl
  | cons c cs => rfl
theorem h_pop0 {m : Mem} {i : Nat} {d : D} {ds : List D} (h : m[i]? = some (.lst (d :: ds))) : hPop (.mref i) (.int 0) m = .ok d (m.set i (.lst ds)) := by
  simp [hPop, h, seqIndex?]
/-! ### a draw -/
theorem draw_ok {C : Nat} {tl m : Mem} (hs : St C tl m) (hC : C < 2 ^ 40) {k : Int} (hk : 0 < k) (hk2 : k < 2 ^ 62) :
    ∃ d m', Cm.F__law_draw [.mref 1, .int k] m = .ok (.int d) m' ∧ 0 ≤ d ∧ d < k ∧ St (C + 1) tl m' := by
  obtain ⟨cs, r, c, x, rfl, hr, hc, hc2, hx, hx2⟩ := hs
  have fin : ∀ (cs' : List Int) (r' x' : Int) (o : Option D), 0 ≤ r' → 0 ≤ x' → x' < 2147483647 → Cm.b__law_draw [some (.mref 1), some (.int k), none, none, none] (strm cs r c x tl) = drawTl [some (.mref 1), some (.int k), none, o, none] (strm cs' r' (c + 1) x' tl) →
      ∃ d m', Cm.F__law_draw [.mref 1, .int k] (strm cs r c x tl) = .ok (.int d) m' ∧ 0 ≤ d ∧ d < k ∧ St (C + 1) tl m' := fun cs' r' x' o h1 h2 h3 e => by
    obtain ⟨d, r2, e2, h4, h5, h6⟩ := draw_tl cs' r' (c + 1) x' k tl o h1 (by omega) (by omega) h2 h3 hk hk2
    refine ⟨d, strm cs' r2 (c + 1) x' tl, ?_, h4, h5, cs', r2, c + 1, x', rfl, h6, by omega, by omega, h2, h3⟩
    unfold Cm.F__law_draw
    rw [x_runF, show startD 5 [D.mref 1, D.int k] = [some (.mref 1), some (.int k), none, none, none] from rfl, e, e2, kRun_rt, cut_same]
    rfl
  by_cases h0 : r = 0
  · cases cs with
    | nil =>
      refine fin [] r x none hr hx hx2 ?_
      rw [draw_parts]
      simp [drawA, drawB, hIx, atI, ixN, seqV, lstV, setR, h0, h_neNil (cs := []) (i := 0)]
      rfl
    | cons c0 cs =>
      have p1 : CMul x 8191 := cmulR (by decide) (by decide)
      refine fin cs (if 1000000000000000000 ≤ c0 then c0 else 0) ((x * 8191 + c0 + 3) % 2147483647) (some (.int c0)) (by split <;> omega) (Int.emod_nonneg _ (by omega)) (Int.emod_lt_of_pos _ (by omega)) ?_
      rw [draw_parts]
      by_cases h1 : 1000000000000000000 ≤ c0
      · simp [drawA, drawB, hIx, atI, ixN, seqV, lstV, setR, h0, h_neNil (cs := c0 :: cs) (i := 0), isLst, lstE, h_pop0 (d := .int c0) (ds := cs.map .int) (i := 0), h_mul, p1, h_mod, h_pow, h1]
      · simp [drawA, drawB, hIx, atI, ixN, seqV, lstV, setR, h0, h_neNil (cs := c0 :: cs) (i := 0), isLst, lstE, h_pop0 (d := .int c0) (ds := cs.map .int) (i := 0), h_mul, p1, h_mod, h_pow, h1]
  · refine fin cs r x none hr hx hx2 ?_
    rw [draw_parts]
    simp [drawA, drawB, hIx, atI, ixN, seqV, lstV, setR, h0]
end DM
end
section
set_option maxRecDepth 100000
set_option maxHeartbeats 4000000
/-! Plain mathematics, part 3: comprehensions and loops in general; picks and names. -/
namespace DM
open PySem L2 DL
/-! ### comprehensions -/
theorem lc_pure {fg : FG} {ft : FT} {fe : FE} {ρ : EnvD} {m : Mem} (p : D → Bool) (f : D → D) : ∀ (ds acc : List D), (∀ x ∈ ds, ∃ ρx, fg x ρ m = .ok ρx m ∧ ft ρx m = .ok (p x) m ∧ (p x = true → fe ρx m = .ok (f x) m)) → lcGo fg ft fe ρ ds acc m = .ok (acc ++ (ds.filter p).map f) m
  | [], acc, _ => by simp [lcGo]
  | x :: xs, acc, h => by
    obtain ⟨ρx, h1, h2, h3⟩ := h x (by simp)
    have ih := fun acc' => lc_pure p f xs acc' fun y hy => h y (by simp [hy])
    cases hp : p x with
    | true => simp [lcGo, h1, h2, hp, h3 hp, ih, List.filter_cons, List.append_assoc]
    | false => simp [lcGo, h1, h2, hp, ih, List.filter_cons]
/-- without a test -/
theorem lc_map {fg : FG} {fe : FE} {ρ : EnvD} {m : Mem} (f : D → D) (ds : List D) (h : ∀ x ∈ ds, ∃ ρx, fg x ρ m = .ok ρx m ∧ fe ρx m = .ok (f x) m) : lcGo fg tY fe ρ ds [] m = .ok (ds.map f) m := by
  have e := lc_pure (fg := fg) (ft := tY) (fe := fe) (ρ := ρ) (m := m) (fun _ => true) f ds [] fun x hx => let ⟨ρx, h1, h2⟩ := h x hx; ⟨ρx, h1, rfl, fun _ => h2⟩
  have e2 : ds.filter (fun _ => true) = ds := List.filter_eq_self.mpr fun _ _ => rfl
  rw [e, e2, List.nil_append]
inductive All2 {A B : Type} (R : A → B → Prop) : List A → List B → Prop
  | nil : All2 R [] []
  | cons {a : A} {b : B} {as : List A} {bs : List B} : R a b → All2 R as bs → All2 R (a :: as) (b :: bs)
theorem All2.length {A B : Type} {R : A → B → Prop} : ∀ {as : List A} {bs : List B}, All2 R as bs → bs.length = as.length
  | _, _, .nil => rfl
  | _, _, .cons _ t => by simp [All2.length t]
theorem All2.right {A B : Type} {R : A → B → Prop} {P : B → Prop} (h : ∀ a b, R a b → P b) : ∀ {as : List A} {bs : List B}, All2 R as bs → ∀ b ∈ bs, P b
  | _, _, .nil, b, hb => by simp at hb
  | _, _, .cons r t, b, hb => by
    rcases List.mem_cons.mp hb with rfl | hb
    · exact h _ _ r
    · exact All2.right h t b hb
/-- with a memory that changes -/
theorem lc_st {fg : FG} {fe : FE} {ρ : EnvD} {I : Nat → Mem → Prop} {R : D → D → Prop} : ∀ (ds acc : List D) (n : Nat) (m : Mem), I n m → (∀ x ∈ ds, ∀ k m, n ≤ k → k < n + ds.length → I k m → ∃ ρx y m', fg x ρ m = .ok ρx m ∧ fe ρx m = .ok y m' ∧ R x y ∧ I (k + 1) m') →
    ∃ ys m', lcGo fg tY fe ρ ds acc m = .ok (acc ++ ys) m' ∧ All2 R ds ys ∧ I (n + ds.length) m'
  | [], acc, n, m, hI, _ => ⟨[], m, by simp [lcGo], .nil, hI⟩
  | x :: xs, acc, n, m, hI, h => by
    obtain ⟨ρx, y, m1, h1, h2, h3, h4⟩ := h x (by simp) n m (Nat.le_refl _) (by simp) hI
    obtain ⟨ys, m', e, ha, hI'⟩ := lc_st xs (acc ++ [y]) (n + 1) m1 h4 fun z hz k m2 k1 k2 => h z (by simp [hz]) k m2 (by omega) (by simp at k2 ⊢; omega)
    refine ⟨y :: ys, m', ?_, .cons h3 ha, ?_⟩
    · simp [lcGo, h1, h2, e]
    · have e2 : n + 1 + xs.length = n + (x :: xs).length := by simp; omega
      rw [← e2]
      exact hI'
/-- a for loop -/
theorem for_st {fg : FG} {fb : FS} {I : Nat → EnvD → Mem → Prop} : ∀ (ds : List D) (n : Nat) (ρ : EnvD) (m : Mem), I n ρ m → (∀ (i : Nat) x, ds[i]? = some x → ∀ ρ m, I (n + i) ρ m → ∃ ρx m1 ρ' m', fg x ρ m = .ok ρx m1 ∧ fb ρx m1 = .nx ρ' m' ∧ I (n + i + 1) ρ' m') →
    ∃ ρ' m', forGo fg fb ds ρ m = .nx ρ' m' ∧ I (n + ds.length) ρ' m'
  | [], n, ρ, m, hI, _ => ⟨ρ, m, rfl, hI⟩
  | x :: xs, n, ρ, m, hI, h => by
    obtain ⟨ρx, m1, ρ2, m2, h1, h2, h3⟩ := h 0 x rfl ρ m hI
    obtain ⟨ρ', m', e, hI'⟩ := for_st xs (n + 1) ρ2 m2 h3 fun i z hz ρ m hi => by
      obtain ⟨a, b, c, d, e1, e2, e3⟩ := h (i + 1) z (by simpa using hz) ρ m (by rw [show n + (i + 1) = n + 1 + i by omega]; exact hi)
      exact ⟨a, b, c, d, e1, e2, by rw [show n + 1 + i + 1 = n + (i + 1) + 1 by omega]; exact e3⟩
    refine ⟨ρ', m', ?_, ?_⟩
    · simp [forGo, h1, h2, e]
    · rw [show n + (x :: xs).length = n + 1 + xs.length by simp; omega]
      exact hI'
/-! ### picks -/
theorem atI_nat {α : Type} (xs : List α) (i : Int) (h0 : 0 ≤ i) (h1 : i < xs.length) : ∃ a, atI xs i = some a ∧ a ∈ xs := by
  have h : i.toNat < xs.length := by omega
  refine ⟨xs[i.toNat], ?_, List.getElem_mem h⟩
  simp [atI, ixN, h0, h1, h]
theorem startD2 (n : Nat) (a b : D) : startD (n + 2) [a, b] = some a :: some b :: List.replicate n none := by simp [startD]
theorem pick_lst {C : Nat} {tl m : Mem} (hs : St C tl m) (hC : C < 2 ^ 40) {xs : List D} (hx : xs ≠ []) (hx2 : xs.length < 2 ^ 40) :
    ∃ d m', Cm.F__law_pick [.mref 1, .lst xs] m = .ok d m' ∧ d ∈ xs ∧ St (C + 1) tl m' := by
  have hl : 0 < xs.length := List.length_pos_iff.mpr hx
  obtain ⟨k, m', e, h0, h1, hs'⟩ := draw_ok hs hC (k := xs.length) (by omega) (by omega)
  obtain ⟨d, ed, hd⟩ := atI_nat xs k h0 h1
  refine ⟨d, m', ?_, hd, hs'⟩
  have hlen : m'.length = m.length := by
    obtain ⟨_, _, _, _, rfl, _⟩ := hs
    obtain ⟨_, _, _, _, rfl, _⟩ := hs'
    simp
  unfold Cm.F__law_pick
  rw [x_runF, show startD 2 [D.mref 1, D.lst xs] = [some (.mref 1), some (.lst xs)] from rfl]
  unfold Cm.b__law_pick
  simp [hLen, seqV, lstV, e, hIx, ed, cut_same _ _ _ hlen]
theorem pick_str {C : Nat} {tl m : Mem} (hs : St C tl m) (hC : C < 2 ^ 40) {z : Str} (hx : 0 < z.length) (hx2 : z.length ≤ sizeLine) :
    ∃ c m', Cm.F__law_pick [.mref 1, .str z] m = .ok (.str ⟨#[c]⟩) m' ∧ c ∈ z.cps.toList ∧ St (C + 1) tl m' := by
  have hz : sizeLine < 2 ^ 40 := by decide
  have hl : z.length = z.cps.toList.length := by simp [Str.length]
  obtain ⟨k, m', e, h0, h1, hs'⟩ := draw_ok hs hC (k := z.length) (by omega) (by omega)
  obtain ⟨d, ed, hd⟩ := atI_nat z.cps.toList k h0 (by omega)
  refine ⟨d, m', ?_, hd, hs'⟩
  have hlen : m'.length = m.length := by
    obtain ⟨_, _, _, _, rfl, _⟩ := hs
    obtain ⟨_, _, _, _, rfl, _⟩ := hs'
    simp
  unfold Cm.F__law_pick
  rw [x_runF, show startD 2 [D.mref 1, D.str z] = [some (.mref 1), some (.str z)] from rfl]
  unfold Cm.b__law_pick
  simp [hLen, seqV, lstV, e, hIx, ed, hx2, cut_same _ _ _ hlen]
end DM
end
section
set_option maxRecDepth 100000
set_option maxHeartbeats 4000000
/-! Plain mathematics, part 4: names. -/
namespace DM
open PySem L2 DL
/-- one to eight small letters -/
def IsName (s : Str) : Prop := 1 ≤ s.length ∧ s.length ≤ 8 ∧ ∀ c ∈ s.cps.toList, 97 ≤ c ∧ c ≤ 122
theorem join_chars : ∀ cs : List Nat, Txt.join "" (cs.map fun c => (⟨#[c]⟩ : Str)) = ⟨cs.toArray⟩ := fun cs => by
  rw [TL.join_eq]
  have e : TL.tl (Str.join "" (cs.map fun c => (⟨#[c]⟩ : Str))) = cs := by
    rw [TL.tl_join]
    have e0 : TL.tl ("" : Str) = [] := by decide +kernel
    rw [e0]
    have go : ∀ cs : List Nat, TL.joinL [] ((cs.map fun c => (⟨#[c]⟩ : Str)).map TL.tl) = cs := by
      intro cs
      induction cs with
      | nil => rfl
      | cons c cs ih =>
        cases cs with
        | nil => rfl
        | cons d ds =>
          show [c] ++ ([] ++ TL.joinL [] (((d :: ds).map fun c => (⟨#[c]⟩ : Str)).map TL.tl)) = c :: d :: ds
          rw [ih]
          rfl
    exact go cs
  have e2 : (Str.join "" (cs.map fun c => (⟨#[c]⟩ : Str))).cps.toList = cs := e
  cases h : Str.join "" (cs.map fun c => (⟨#[c]⟩ : Str)) with
  | mk a =>
    rw [h] at e2
    simp only at e2
    rw [← e2]
theorem strs_chars : ∀ cs : List Nat, strsV (cs.map fun c => D.str ⟨#[c]⟩) = some (cs.map fun c => (⟨#[c]⟩ : Str))
  | [] => rfl
  | c :: cs => by simp [strsV, strs_chars cs]
theorem sum_chars : ∀ cs : List Nat, ((cs.map fun c => (⟨#[c]⟩ : Str)).map (·.length)).sum = cs.length
  | [] => rfl
  | c :: cs => by
    have h := sum_chars cs
    have h1 : (⟨#[c]⟩ : Str).length = 1 := rfl
    rw [List.map_cons, List.map_cons, List.sum_cons, h, h1, List.length_cons]
    omega
theorem join_name {cs : List Nat} (h : cs.length ≤ 8) (m : Mem) : hJoin (.str "") (.lst (cs.map fun c => D.str ⟨#[c]⟩)) m = .ok (.str ⟨cs.toArray⟩) m := by
  have c2 : ((cs.map fun c => (⟨#[c]⟩ : Str)).map (·.length)).sum + (cs.map fun c => (⟨#[c]⟩ : Str)).length * ("" : Str).length ≤ 16777216 := by
    rw [sum_chars, show ("" : Str).length = 0 by decide +kernel, Nat.mul_zero]
    omega
  unfold hJoin
  simp only [seqV, lstV, strs_chars, join_chars]
  rw [if_pos c2]
theorem lets : ∀ c ∈ ("abcdefghijklmnopqrstuvwxyz" : Str).cps.toList, 97 ≤ c ∧ c ≤ 122 := by decide +kernel
theorem lets_len : ("abcdefghijklmnopqrstuvwxyz" : Str).length = 26 := by decide +kernel
theorem widths (k : Int) (h0 : 0 ≤ k) (h1 : k < 6) : ∃ w : Int, atI [D.int 1, D.int 1, D.int 2, D.int 3, D.int 5, D.int 8] k = some (.int w) ∧ 1 ≤ w ∧ w ≤ 8 := by
  have h : k = 0 ∨ k = 1 ∨ k = 2 ∨ k = 3 ∨ k = 4 ∨ k = 5 := by omega
  rcases h with rfl | rfl | rfl | rfl | rfl | rfl
  · exact ⟨1, rfl, by omega, by omega⟩
  · exact ⟨1, rfl, by omega, by omega⟩
  · exact ⟨2, rfl, by omega, by omega⟩
  · exact ⟨3, rfl, by omega, by omega⟩
  · exact ⟨5, rfl, by omega, by omega⟩
  · exact ⟨8, rfl, by omega, by omega⟩
theorem chars_of {R : D → D → Prop} (hR : ∀ x y, R x y → ∃ c : Nat, y = .str ⟨#[c]⟩ ∧ 97 ≤ c ∧ c ≤ 122) : ∀ {xs ys : List D}, All2 R xs ys → ∃ cs : List Nat, ys = cs.map (fun c => D.str ⟨#[c]⟩) ∧ cs.length = xs.length ∧ ∀ c ∈ cs, 97 ≤ c ∧ c ≤ 122
  | _, _, .nil => ⟨[], rfl, rfl, by simp⟩
  | _, _, .cons h t => by
    obtain ⟨cs, e, l, q⟩ := chars_of hR t
    obtain ⟨c, rfl, h1, h2⟩ := hR _ _ h
    refine ⟨c :: cs, by simp [e], by simp [l], fun d hd => ?_⟩
    rcases List.mem_cons.mp hd with rfl | hd
    · exact ⟨h1, h2⟩
    · exact q d hd
theorem St.len {C C' : Nat} {tl m m' : Mem} (h : St C tl m) (h' : St C' tl m') : m'.length = m.length := by
  obtain ⟨_, _, _, _, rfl, _⟩ := h
  obtain ⟨_, _, _, _, rfl, _⟩ := h'
  simp
theorem name_ok {C : Nat} {tl m : Mem} (hs : St C tl m) (hC : C + 10 < 2 ^ 40) :
    ∃ s m', Cm.F__law_name [.mref 1] m = .ok (.str s) m' ∧ IsName s ∧ St (C + 9) tl m' := by
  obtain ⟨k, m1, e, h0, h1, hs1⟩ := draw_ok hs (by omega) (k := 6) (by omega) (by omega)
  obtain ⟨w, ew, w1, w2⟩ := widths k h0 h1
  obtain ⟨ys, m2, e2, ha, hs2⟩ := lc_st (fg := gN 2) (fe := eCall 2 Cm.F__law_pick [] (aCons (eVar 0) (aCons (eC (.str "abcdefghijklmnopqrstuvwxyz")) (aNil)))) (ρ := [some (.mref 1), some (.int w), none]) (I := fun n m => St (C + 1 + n) tl m) (R := fun _ y => ∃ c : Nat, y = .str ⟨#[c]⟩ ∧ 97 ≤ c ∧ c ≤ 122)
    (rgD 0 w.toNat) [] 0 m1 hs1 (fun x hx j m hj hj2 hI => by
      simp at hj2
      obtain ⟨c, m', e', hc, hs'⟩ := pick_str hI (by omega) (z := "abcdefghijklmnopqrstuvwxyz") (by rw [lets_len]; omega) (by rw [lets_len]; decide)
      exact ⟨_, _, m', rfl, by simp [e'], ⟨c, rfl, lets c hc⟩, hs'⟩)
  obtain ⟨cs, rfl, hl, hc⟩ := chars_of (fun x y h => h) ha
  simp only [rgD_length, Nat.zero_add] at hl hs2
  have hw : w.toNat ≤ 8 := by omega
  have hw1 : 1 ≤ w.toNat := by omega
  have hs3 : St (C + 9) tl m2 := hs2.mono (by omega)
  refine ⟨⟨cs.toArray⟩, m2, ?_, ⟨by simp [Str.length, hl]; omega, by simp [Str.length, hl]; omega, by simpa using hc⟩, hs3⟩
  have b1 : ¬ sizeLine < 6 := by decide
  have c1 : -4611686018427387904 ≤ w ∧ w < 4611686018427387904 ∧ w.toNat ≤ sizeLine := ⟨by omega, by omega, Nat.le_trans hw (by decide)⟩
  unfold Cm.F__law_name
  rw [x_runF, show startD 3 [D.mref 1] = [some (.mref 1), none, none] from rfl]
  unfold Cm.b__law_name
  simp only [List.nil_append] at e2
  simp [show (6 : Nat) ≤ sizeLine by decide, e, hIx, seqV, lstV, ew, rg1_int (by omega : 0 ≤ w) (by omega : w ≤ 100), e2, isStr, join_name (by omega : cs.length ≤ 8), cut_same _ _ _ (hs.len hs3)]
end DM
end
section
set_option maxRecDepth 100000
set_option maxHeartbeats 4000000
/-! Plain mathematics, part 5: lists of names. -/
namespace DM
open PySem L2 DL
/-! ### the memory behind the stream -/
@[simp] theorem stm_get (cs : List Int) (r c x : Int) (tl tl2 : Mem) (o : MO) : (strm cs r c x (tl ++ o :: tl2))[tl.length + 2]? = some o := by simp
@[simp] theorem stm_set (cs : List Int) (r c x : Int) (tl tl2 : Mem) (o o' : MO) : (strm cs r c x (tl ++ o :: tl2)).set (tl.length + 2) o' = strm cs r c x (tl ++ o' :: tl2) := by simp
theorem St.get {C : Nat} {tl tl2 m : Mem} {o : MO} (h : St C (tl ++ o :: tl2) m) : m[tl.length + 2]? = some o := by
  obtain ⟨cs, r, c, x, rfl, _⟩ := h
  simp
theorem St.set {C : Nat} {tl tl2 m : Mem} {o : MO} (h : St C (tl ++ o :: tl2) m) (o' : MO) : St C (tl ++ o' :: tl2) (m.set (tl.length + 2) o') := by
  obtain ⟨cs, r, c, x, rfl, h1, h2, h3, h4, h5⟩ := h
  exact ⟨cs, r, c, x, by simp, h1, h2, h3, h4, h5⟩
theorem St.length {C : Nat} {tl m : Mem} (h : St C tl m) : m.length = tl.length + 2 := by
  obtain ⟨cs, r, c, x, rfl, _⟩ := h
  simp
theorem St.app {C : Nat} {tl m : Mem} (h : St C tl m) (o : Mem) : St C (tl ++ o) (m ++ o) := by
  obtain ⟨cs, r, c, x, rfl, h1, h2, h3, h4, h5⟩ := h
  exact ⟨cs, r, c, x, by simp, h1, h2, h3, h4, h5⟩
/-- what was made since is forgotten -/
theorem St.cut {C C' : Nat} {tl loc m m' : Mem} {ds : List D} (h : St C tl m) (h' : St C' (tl ++ loc) m') (hd : ∀ d ∈ ds, Bel (tl.length + 2) d) : ∃ m2, DL.cut m m' ds = m2 ∧ St C' tl m2 := by
  obtain ⟨cs, r, c, x, rfl, h1, h2, h3, h4, h5⟩ := h
  obtain ⟨cs', r', c', x', rfl, k1, k2, k3, k4, k5⟩ := h'
  refine ⟨strm cs' r' c' x' tl, ?_, cs', r', c', x', rfl, k1, k2, k3, k4, k5⟩
  have e : strm cs' r' c' x' (tl ++ loc) = strm cs' r' c' x' tl ++ loc := by simp
  rw [e]
  refine cut_two _ _ _ _ (by simp) (by simpa using hd) fun i hi => ?_
  match i with
  | 0 => exact .inr ⟨_, rfl, fun d hd => by
      obtain ⟨z, _, rfl⟩ := List.mem_map.mp hd
      exact .int z⟩
  | 1 => exact .inr ⟨_, rfl, fun d hd => by
      simp only [List.mem_cons, List.not_mem_nil, or_false] at hd
      rcases hd with rfl | rfl | rfl | rfl
      · exact .mref (by simp)
      · exact .int _
      · exact .int _
      · exact .int _⟩
  | i + 2 => exact .inl (by simp)
/-! ### texts -/
theorem seq_strs {m : Mem} {y : D} (ns : List Str) (a : Str) (hy : seqV m y = some (ns.map .str)) (neg : Bool) : hIn neg (.str a) y m = .ok (.bl (if neg then !decide (a ∈ ns) else decide (a ∈ ns))) m := by
  have h1 : (ns.map D.str).all flatD = true := by simp [flatD]
  have h2 : inV (toV (.str a)) ((ns.map D.str).map toV) = decide (a ∈ ns) := by
    simp only [inV, List.map_map, List.any_map]
    rw [Bool.eq_iff_iff]
    simp [toV, eqV]
  cases y <;> simp [seqV, lstV] at hy
  all_goals simp only [hIn, seqV, lstV, hy]
  all_goals first | (rw [if_pos ⟨rfl, h1⟩, h2]; done) | skip
/-! ### the spare names -/
def spareS : List Str := ("abcdefghijklmnop" : Str).cps.toList.map fun c => (⟨#[c]⟩ : Str) ++ ("jq" : Str)
instance (s : Str) : Decidable (IsName s) := by unfold IsName; infer_instance
theorem spare_len : spareS.length = 16 := by decide +kernel
theorem spare_nodup : spareS.Nodup := by decide +kernel
theorem spare_name : ∀ s ∈ spareS, IsName s := by decide +kernel
theorem len_le {α : Type} [DecidableEq α] : ∀ {l l' : List α}, l.Nodup → (∀ x ∈ l, x ∈ l') → l.length ≤ l'.length
  | [], _, _, _ => Nat.zero_le _
  | x :: l, l', hn, hs => by
    have hx : x ∈ l' := hs x (by simp)
    have h2 := len_le (l' := l'.erase x) (List.nodup_cons.mp hn).2 fun y hy => by
      have hne : y ≠ x := fun e => (List.nodup_cons.mp hn).1 (e ▸ hy)
      exact (List.mem_erase_of_ne hne).mpr (hs y (by simp [hy]))
    have h3 := List.length_erase_of_mem hx
    have h4 : 0 < l'.length := List.length_pos_of_mem hx
    simp
    omega
theorem spare_free {found : List Str} (h : found.length < 16) : ∃ s ∈ spareS, s ∉ found := by
  apply Classical.byContradiction
  intro hc
  have h2 := len_le (l' := found) spare_nodup fun x hx => Classical.byContradiction fun hx2 => hc ⟨x, hx, hx2⟩
  rw [spare_len] at h2
  omega
/-- the first of these that is not found yet -/
theorem first_free {found xs : List Str} (h : ∃ s ∈ xs, s ∉ found) : ∃ s r, (xs.filter fun s => !decide (s ∈ found)) = s :: r ∧ s ∈ xs ∧ s ∉ found := by
  obtain ⟨s, h1, h2⟩ := h
  have hm : s ∈ xs.filter fun s => !decide (s ∈ found) := List.mem_filter.mpr ⟨h1, by simpa using h2⟩
  cases e : xs.filter (fun s => !decide (s ∈ found)) with
  | nil => rw [e] at hm; cases hm
  | cons a r =>
    have h3 : a ∈ xs.filter fun s => !decide (s ∈ found) := by rw [e]; simp
    obtain ⟨h4, h5⟩ := List.mem_filter.mp h3
    exact ⟨a, r, rfl, h4, by simpa using h5⟩
/-- one turn's body -/
noncomputable def namesB : FS := sSeq (sSet 4 (eOp hAdd (eLst (aCons (eCall 1 Cm.F__law_name [] (aCons (eVar 0) (aNil))) (aNil))) (eLc false [5] (iSeq (eC (.str "abcdefghijklmnop"))) (gN 5) (tY) (eOp hAdd (eVar 5) (eC (.str "jq"))))))
  (sEx (eApp (eVar 2) (eOp hIx (eLc false [6] (iSeq (eVar 4)) (gN 6) (tTr (eOp (hIn true) (eVar 6) (eVar 2))) (eVar 6)) (eC (.int 0)))))
theorem names_parts : Cm.b__law_names = sSeq (sSet 2 (eLstM aNil)) (sSeq (sFor (iRg1 (eVar 1)) (gN 3) namesB) (sRt (eFrz (eVar 2)))) := rfl
theorem names_step {C : Nat} {tl m : Mem} {found : List Str} (hs : St C (tl ++ [.lst (found.map .str)]) m) (hC : C + 10 < 2 ^ 40) (hf : found.length < 16) (a b k : Option D) :
    ∃ s b' m', namesB [some (.mref 1), a, some (.mref (tl.length + 2)), k, b, none, none] m = .nx [some (.mref 1), a, some (.mref (tl.length + 2)), k, b', none, none] m' ∧ IsName s ∧ s ∉ found ∧ St (C + 9) (tl ++ [.lst ((found ++ [s]).map .str)]) m' := by
  obtain ⟨nm, m1, e1, hn, hs1⟩ := name_ok hs hC
  obtain ⟨s, r, e3, h1, h2⟩ := first_free (found := found) (xs := nm :: spareS) (let ⟨s, p, q⟩ := spare_free hf; ⟨s, by simp [p], q⟩)
  have hsz : (found.map D.str).length < sizeLine := by
    have : (16 : Nat) ≤ sizeLine := by decide
    simp; omega
  refine ⟨s, some (.lst ((nm :: spareS).map .str)), m1.set (tl.length + 2) (.lst ((found ++ [s]).map .str)), ?_, ?_, h2, hs1.set _⟩
  · have l1 : lcGo (gN 5) tY (eOp hAdd (eVar 5) (eC (.str "jq"))) [some (.mref 1), a, some (.mref (tl.length + 2)), k, b, none, none] (("abcdefghijklmnop" : Str).cps.toList.map fun c => D.str ⟨#[c]⟩) [] m1 = .ok (spareS.map .str) m1 := by
      rw [lc_map (fun d => match d with | .str s => .str (s ++ ("jq" : Str)) | d => d)]
      · unfold spareS
        rw [List.map_map, List.map_map]
        rfl
      · intro x hx
        obtain ⟨c, _, rfl⟩ := List.mem_map.mp hx
        refine ⟨_, rfl, ?_⟩
        have z : (⟨#[c]⟩ : Str).length + ("jq" : Str).length ≤ sizeLine := by
          rw [show ("jq" : Str).length = 2 by decide +kernel, show (⟨#[c]⟩ : Str).length = 1 from rfl]
          decide
        simp [z]
    have l2 : lcGo (gN 6) (tTr (eOp (hIn true) (eVar 6) (eVar 2))) (eVar 6) [some (.mref 1), a, some (.mref (tl.length + 2)), k, some (.lst ((nm :: spareS).map .str)), none, none] ((nm :: spareS).map .str) [] m1 = .ok ((s :: r).map .str) m1 := by
      rw [lc_pure (fun d => match d with | .str s => !decide (s ∈ found) | _ => false) id]
      · rw [List.map_id, List.nil_append, List.filter_map, ← e3]
        rfl
      · intro x hx
        obtain ⟨z, _, rfl⟩ := List.mem_map.mp hx
        refine ⟨_, rfl, ?_, fun _ => by simp⟩
        have e5 : seqV m1 (.mref (tl.length + 2)) = some (found.map .str) := by simp [seqV, lstV, hs1.get]
        simp [seq_strs found z e5]
    have z1 : (1 : Nat) ≤ sizeLine := by decide
    have z2 : ("abcdefghijklmnop" : Str).length ≤ sizeLine := by rw [show ("abcdefghijklmnop" : Str).length = 16 by decide +kernel]; decide
    have z3 : 1 + spareS.length ≤ sizeLine := by rw [spare_len]; decide
    have e6 : lstE m1 (.mref (tl.length + 2)) = some (found.map .str) := by simp [lstE, hs1.get]
    unfold namesB
    simp only [List.map_cons] at l2
    simp only [List.length_map] at hsz
    simp [e1, z1, z2, l1, z3, kAp1_ok _ _ _ _ e6, l2, hIx, seqV, lstV, atI, ixN, appR, hs1.get, hsz]
  · rcases List.mem_cons.mp h1 with rfl | h
    · exact hn
    · exact spare_name s h
theorem names_ok {C : Nat} {tl m : Mem} (hs : St C tl m) {n : Int} (h0 : 0 ≤ n) (h1 : n ≤ 15) (hC : C + 200 < 2 ^ 40) :
    ∃ (ns : List Str) (m' : Mem), Cm.F__law_names [.mref 1, .int n] m = .ok (.lst (ns.map .str)) m' ∧ (ns.length : Int) = n ∧ ns.Nodup ∧ (∀ s ∈ ns, IsName s) ∧ St (C + 9 * n.toNat) tl m' := by
  have hs0 := hs.app [.lst []]
  obtain ⟨ρ', m1, e1, found, f1, f2, f3, a, b, rfl, hs1⟩ := for_st (fg := gN 3) (fb := namesB)
    (I := fun i ρ m => ∃ found : List Str, found.length = i ∧ found.Nodup ∧ (∀ s ∈ found, IsName s) ∧ ∃ a b, ρ = [some (.mref 1), some (.int n), some (.mref (tl.length + 2)), a, b, none, none] ∧ St (C + 9 * i) (tl ++ [.lst (found.map .str)]) m)
    (rgD 0 n.toNat) 0 [some (.mref 1), some (.int n), some (.mref (tl.length + 2)), none, none, none, none] (m ++ [.lst []]) ⟨[], rfl, List.nodup_nil, by simp, none, none, rfl, hs0⟩ (fun i x hx ρ m hI => by
      obtain ⟨found, f1, f2, f3, a, b, rfl, hs⟩ := hI
      obtain ⟨_, hi⟩ := rgD_get hx
      simp only [Nat.zero_add] at f1 hs
      obtain ⟨s, b', m', e, k1, k2, k3⟩ := names_step hs (by omega) (by omega) (some (.int n)) b (some x)
      refine ⟨_, _, _, m', rfl, e, found ++ [s], by simp [f1], ?_, ?_, some x, b', rfl, ?_⟩
      · rw [List.nodup_append]
        refine ⟨f2, by simp, fun y hy z hz => ?_⟩
        simp at hz
        subst hz
        exact fun e => k2 (e ▸ hy)
      · intro y hy
        rcases List.mem_append.mp hy with hy | hy
        · exact f3 y hy
        · simp at hy; subst hy; exact k1
      · rw [show C + 9 * (0 + i + 1) = C + 9 * i + 9 by omega]
        exact k3)
  simp only [Nat.zero_add, rgD_length] at f1 hs1
  have hz : (0 : Nat) ≤ sizeLine := by decide
  have c1 : -4611686018427387904 ≤ n ∧ n < 4611686018427387904 ∧ n.toNat ≤ sizeLine := ⟨by omega, by omega, Nat.le_trans (by omega : n.toNat ≤ 16) (by decide)⟩
  have hl : m.length = tl.length + 2 := hs.length
  have hg : St (C + 9 * n.toNat) (tl ++ [.gone]) (m1.set (tl.length + 2) .gone) := hs1.set .gone
  have hb : ∀ d ∈ [D.lst (found.map .str)], Bel (tl.length + 2) d := fun d hd => by
    simp at hd
    subst hd
    refine .lst (belL_iff.mpr fun x hx => ?_)
    obtain ⟨s, _, rfl⟩ := List.mem_map.mp hx
    exact .str s
  obtain ⟨m2, e2, hs2⟩ := hs.cut hg hb
  refine ⟨found, m2, ?_, by omega, f2, f3, hs2⟩
  unfold Cm.F__law_names
  rw [x_runF, show startD 7 [D.mref 1, D.int n] = [some (.mref 1), some (.int n), none, none, none, none, none] from rfl, names_parts]
  simp [rg1_int h0 (by omega : n ≤ 100), hl, e1, frzR, hs1.get, cut_same, e2]
end DM
end
section
set_option maxRecDepth 100000
set_option maxHeartbeats 4000000
/-! Plain mathematics, part 6: isinstance, == of texts, the law's own sameness. -/
namespace DM
open PySem L2 DL
open PySem.PyData (strOk)
/-! ### isinstance of built-in types -/
def ans (n c : String) : Bool := decide (n = c) || (decide (n = "bool") && decide (c = "int"))
section
variable {own : List Str} {m : Mem} {x : D} {n c c1 c2 c3 : String}
theorem isi_ty (h : tagD own m x = some (.b n)) (hn : n ∈ bTys) (hc : c ∈ bTys) : hIsi own [x, .ty c] m = .ok (.bl (ans n c)) m := by
  simp only [hIsi, h, clsD, kit, if_pos (And.intro hn hc)]
  rfl
theorem isi_o (h : tagD own m x = some (.b n)) (hn : n ∈ bTys) {k : Str} (hk : k ∈ own) : hIsi own [x, .glo k] m = .ok (.bl false) m := by
  simp only [hIsi, h, clsD, kit, if_pos (And.intro hn hk)]
theorem isi_2 (h : tagD own m x = some (.b n)) (hn : n ∈ bTys) (h1 : c1 ∈ bTys) (h2 : c2 ∈ bTys) : hIsi own [x, .tup [.ty c1, .ty c2]] m = .ok (.bl (ans n c1 || ans n c2)) m := by
  have e1 : kit own (.b n) (.b c1) = some (ans n c1) := if_pos ⟨hn, h1⟩
  have e2 : kit own (.b n) (.b c2) = some (ans n c2) := if_pos ⟨hn, h2⟩
  simp only [hIsi, h, clsDs, clsD, kitL, e1, e2]
  cases ans n c1 <;> cases ans n c2 <;> rfl
theorem isi_3 (h : tagD own m x = some (.b n)) (hn : n ∈ bTys) (h1 : c1 ∈ bTys) (h2 : c2 ∈ bTys) (h3 : c3 ∈ bTys) : hIsi own [x, .tup [.ty c1, .ty c2, .ty c3]] m = .ok (.bl (ans n c1 || (ans n c2 || ans n c3))) m := by
  have e1 : kit own (.b n) (.b c1) = some (ans n c1) := if_pos ⟨hn, h1⟩
  have e2 : kit own (.b n) (.b c2) = some (ans n c2) := if_pos ⟨hn, h2⟩
  have e3 : kit own (.b n) (.b c3) = some (ans n c3) := if_pos ⟨hn, h3⟩
  simp only [hIsi, h, clsDs, clsD, kitL, e1, e2, e3]
  cases ans n c1 <;> cases ans n c2 <;> cases ans n c3 <;> rfl
end
theorem b_none : "NoneType" ∈ bTys := by decide
theorem b_bool : "bool" ∈ bTys := by decide
theorem b_int : "int" ∈ bTys := by decide
theorem b_str : "str" ∈ bTys := by decide
theorem b_list : "list" ∈ bTys := by decide
theorem b_tuple : "tuple" ∈ bTys := by decide
theorem b_dict : "dict" ∈ bTys := by decide
/-! ### == -/
theorem h_eqS (n : Bool) {a b : Str} (ha : strOk a = true) (hb : strOk b = true) (m : Mem) : hEqP n (.str a) (.str b) m = .ok (.bl (if n then !decide (a = b) else decide (a = b))) m := by
  have h1 : ∀ z : Str, strOk z = true → SeqAt.shaped (.str z) = true := fun z hz => by simp [SeqAt.shaped, PyData.canLay0, PyData.depth, hz]
  simp only [hEqP, toPyM, toPy, h1 a ha, h1 b hb, PyData.eqv, and_self, if_true]
  cases n <;> rfl
theorem IsName.ok {s : Str} (h : IsName s) : strOk s = true := by
  obtain ⟨_, _, h3⟩ := h
  unfold strOk
  rw [← Array.all_toList, List.all_eq_true]
  intro c hc
  have := h3 c hc
  simp
  omega
/-! ### the law's own sameness -/
def Same (own : List Str) (n : Nat) (d : D) : Prop := ∀ m, Cm.F__law_same own n [d, d] m = .ok (.bl true) m
theorem pairs_mem : ∀ {xs : List D} {p : D}, p ∈ pairsD xs xs → ∃ x ∈ xs, p = .tup [x, x]
  | [], p, h => by simp [pairsD] at h
  | x :: xs, p, h => by
    simp only [pairsD, List.mem_cons] at h
    rcases h with rfl | h
    · exact ⟨x, by simp, rfl⟩
    · obtain ⟨y, h1, h2⟩ := pairs_mem h
      exact ⟨y, by simp [h1], h2⟩
theorem bls_true : ∀ n : Nat, blsV (List.replicate n (.bl true)) = some (List.replicate n true)
  | 0 => rfl
  | n + 1 => by simp [List.replicate_succ, blsV, bls_true n]
section
variable {own : List Str} {n : Nat}
theorem same_go {xs : List D} (h : ∀ x ∈ xs, Same own n x) (m : Mem) (a b : Option D) : lcGo (gT 2 (gsCons (gN 2) (gsCons (gN 3) gsNil))) tY (eCall 2 (Cm.F__law_same own n) [] (aCons (eVar 2) (aCons (eVar 3) aNil))) [a, b, none, none] (pairsD xs xs) [] m = .ok (List.replicate xs.length (.bl true)) m := by
  rw [lc_map (fun _ => .bl true)]
  · rw [List.map_const', pairsD_length, Nat.min_self]
  · intro p hp
    obtain ⟨x, hx, rfl⟩ := pairs_mem hp
    exact ⟨[a, b, some x, some x], by simp, by simp [h x hx m]⟩
theorem same_int (i : Int) : Same own (n + 1) (.int i) := fun m => by
  unfold Cm.F__law_same
  rw [x_runF, show startD 4 [D.int i, D.int i] = [some (.int i), some (.int i), none, none] from rfl]
  unfold Cm.b__law_same
  have t : tagD own m (.int i) = some (.b "int") := rfl
  simp [isi_ty t b_int b_int, isi_ty t b_int b_bool, isi_2 t b_int b_list b_tuple, ans, cut_same, show (2 : Nat) ≤ sizeLine by decide]
theorem same_bl (i : Bool) : Same own (n + 1) (.bl i) := fun m => by
  unfold Cm.F__law_same
  rw [x_runF, show startD 4 [D.bl i, D.bl i] = [some (.bl i), some (.bl i), none, none] from rfl]
  unfold Cm.b__law_same
  have t : tagD own m (.bl i) = some (.b "bool") := rfl
  simp [isi_ty t b_bool b_int, isi_ty t b_bool b_bool, isi_2 t b_bool b_list b_tuple, ans, cut_same, show (2 : Nat) ≤ sizeLine by decide]
theorem same_str {s : Str} (hs : strOk s = true) : Same own (n + 1) (.str s) := fun m => by
  unfold Cm.F__law_same
  rw [x_runF, show startD 4 [D.str s, D.str s] = [some (.str s), some (.str s), none, none] from rfl]
  unfold Cm.b__law_same
  have t : tagD own m (.str s) = some (.b "str") := rfl
  simp [isi_ty t b_str b_int, isi_2 t b_str b_list b_tuple, isi_3 t b_str b_int b_list b_tuple, ans, cut_same, show (2 : Nat) ≤ sizeLine by decide, show (3 : Nat) ≤ sizeLine by decide, hIsN, h_eqS false hs hs]
theorem same_lst {xs : List D} (h : ∀ x ∈ xs, Same own n x) : Same own (n + 1) (.lst xs) := fun m => by
  unfold Cm.F__law_same
  rw [x_runF, show startD 4 [D.lst xs, D.lst xs] = [some (.lst xs), some (.lst xs), none, none] from rfl]
  unfold Cm.b__law_same
  have t : tagD own m (.lst xs) = some (.b "list") := rfl
  simp [isi_ty t b_list b_list, isi_ty t b_list b_tuple, isi_2 t b_list b_list b_tuple, ans, cut_same, show (2 : Nat) ≤ sizeLine by decide, hLen, seqV, lstV, eLkO, lkAt, same_go h, hBls, bls_true]
theorem same_tup {xs : List D} (h : ∀ x ∈ xs, Same own n x) : Same own (n + 1) (.tup xs) := fun m => by
  unfold Cm.F__law_same
  rw [x_runF, show startD 4 [D.tup xs, D.tup xs] = [some (.tup xs), some (.tup xs), none, none] from rfl]
  unfold Cm.b__law_same
  have t : tagD own m (.tup xs) = some (.b "tuple") := rfl
  simp [isi_ty t b_tuple b_list, isi_ty t b_tuple b_tuple, isi_2 t b_tuple b_list b_tuple, ans, cut_same, show (2 : Nat) ≤ sizeLine by decide, hLen, seqV, lstV, eLkO, lkAt, same_go h, hBls, bls_true]
/-- a mutable list beside a frozen one -/
theorem same_mref {xs : List D} (h : ∀ x ∈ xs, Same own n x) {m : Mem} {i : Nat} (hm : m[i]? = some (.lst xs)) : Cm.F__law_same own (n + 1) [.mref i, .lst xs] m = .ok (.bl true) m := by
  unfold Cm.F__law_same
  rw [x_runF, show startD 4 [D.mref i, D.lst xs] = [some (.mref i), some (.lst xs), none, none] from rfl]
  unfold Cm.b__law_same
  have t : tagD own m (.lst xs) = some (.b "list") := rfl
  have t2 : tagD own m (.mref i) = some (.b "list") := by simp [tagD, hm]
  have hi : i < m.length := (List.getElem?_eq_some_iff.mp hm).1
  have e1 : zipR (.mref i) (.lst xs) (m.set i (.lkL xs)) = .ok (pairsD xs xs) (m.set i (.lkL xs)) := by
    simp [zipR, lstK, hi]
  have e2 : m.set i (.lst xs) = m := by
    obtain ⟨_, e⟩ := List.getElem?_eq_some_iff.mp hm
    rw [← e]
    exact List.set_getElem_self _
  simp [isi_ty t b_list b_list, isi_ty t b_list b_tuple, isi_2 t b_list b_list b_tuple, isi_ty t2 b_list b_list, isi_ty t2 b_list b_tuple, ans, cut_same, show (2 : Nat) ≤ sizeLine by decide, hLen, seqV, lstV, eLkO, lkAt, same_go h, hBls, bls_true, hm, e1, unlk, e2]
end
end DM
end
section
set_option maxRecDepth 100000
set_option maxHeartbeats 4000000
/-! Plain mathematics, part 7: Folders. -/
namespace DM
open PySem L2 DL
open PySem.PyData (strOk)
variable {own : List Str}
/-! ### names -/
theorem in_letters : ∀ c ∈ List.range' 97 26, (!(Builtin.Str.occurrences ("abcdefghijklmnopqrstuvwxyz" : Str) ⟨#[c]⟩ 0 ("abcdefghijklmnopqrstuvwxyz" : Str).length 1).isEmpty) = true := by decide +kernel
theorem is_name_ok {s : Str} (h : IsName s) (m : Mem) : Cm.F_is_name own [.str s] m = .ok (.bl true) m := by
  unfold Cm.F_is_name
  rw [x_runF, show startD 2 [D.str s] = [some (.str s), none] from rfl]
  unfold Cm.b_is_name
  have t : tagD own m (.str s) = some (.b "str") := rfl
  obtain ⟨h1, h2, h3⟩ := h
  have hz : s.length ≤ sizeLine := Nat.le_trans h2 (by decide)
  have e : lcGo (gN 1) tY (eOp (hIn false) (eVar 1) (eC (.str "abcdefghijklmnopqrstuvwxyz"))) [some (.str s), none] (s.cps.toList.map fun c => D.str ⟨#[c]⟩) [] m = .ok (List.replicate s.cps.toList.length (.bl true)) m := by
    rw [lc_map (fun _ => .bl true)]
    · rw [List.map_const', List.length_map]
    · intro x hx
      obtain ⟨c, hc, rfl⟩ := List.mem_map.mp hx
      have hc2 := h3 c hc
      have z := in_letters c (List.mem_range'_1.mpr ⟨hc2.1, by omega⟩)
      exact ⟨_, rfl, by simp only [x_eOp, x_eVar, x_eC]; simp [hIn]; simpa using z⟩
  simp [isi_ty t b_str b_str, ans, hLen, hz, hCmp, h2, e, hBls, lstV, bls_true, cut_same, show (1 : Int) ≤ s.length by omega, show (s.length : Int) ≤ 8 by omega]
/-- a list or tuple of these names -/
inductive NamesAre (m : Mem) (ns : List Str) : D → Prop
  | lst : NamesAre m ns (.lst (ns.map .str))
  | tup : NamesAre m ns (.tup (ns.map .str))
  | mref {i : Nat} : m[i]? = some (.lst (ns.map .str)) → NamesAre m ns (.mref i)
theorem is_list_ok {m : Mem} {ns : List Str} {d : D} (h : NamesAre m ns d) : Cm.F_is_list own [d] m = .ok (.bl true) m := by
  unfold Cm.F_is_list
  rw [x_runF, show startD 1 [d] = [some d] from rfl]
  unfold Cm.b_is_list
  have z : (2 : Nat) ≤ sizeLine := by decide
  cases h with
  | lst => simp [z, isi_2 (own := own) (m := m) (x := .lst (ns.map .str)) rfl b_list b_list b_tuple, ans, cut_same]
  | tup => simp [z, isi_2 (own := own) (m := m) (x := .tup (ns.map .str)) rfl b_tuple b_list b_tuple, ans, cut_same]
  | mref hm =>
    rename_i i
    have t : tagD own m (.mref i) = some (.b "list") := by simp [tagD, hm]
    simp [z, isi_2 t b_list b_list b_tuple, ans, cut_same]
theorem len_names {m : Mem} {ns : List Str} {d : D} (h : NamesAre m ns d) : hLen [d] m = .ok (.int ns.length) m := by
  cases h with
  | lst => simp [hLen, seqV, lstV]
  | tup => simp [hLen, seqV]
  | mref hm => simp [hLen, seqV, lstV, hm]
/-- as they are kept -/
def House (ns : List Str) (ch : Bool) : D := .ins "Folders" [("names", .tup (ns.map .str)), ("chain", .bl ch)]
structure GoodNames (ns : List Str) (ch : Bool) : Prop where
  ne : ns ≠ []
  nd : ns.Nodup
  nm : ∀ s ∈ ns, IsName s
  le : ns.length ≤ if ch then 12 else 5
/-- one turn of the loop -/
noncomputable def initB (own : List Str) : FS := sSeq (sIf (tOr' (tNo (tTr (eCall 1 (Cm.F_is_name own) [] (aCons (eVar 5) (aNil))))) (tOr' (tTr (eOp (hIn false) (eVar 5) (eVar 3))) (tTr (eOp hGe (eVar 4) (eIf (tTr (eVar 2)) (eC (.int 12)) (eC (.int 5))))))) (sBad) (sNx))
  (sEx (eApp (eVar 3) (eVar 5)))
theorem init_parts : Cm.b_Folders___init__ own = sSeq (sIf (tOr' (tNo (tTr (eCall 1 (Cm.F_is_list own) [] (aCons (eVar 1) (aNil))))) (tTr (eOp (hEqP false) (eCB hLen (aCons (eVar 1) (aNil))) (eC (.int 0))))) (sBad) (sNx))
    (sSeq (sSet 3 (eLstM (aNil)))
    (sSeq (sLkO 1 (sFor (iEnA (eVar 1)) (gT 2 (gsCons (gN 4) (gsCons (gN 5) (gsNil)))) (initB own)))
    (sSeq (sFl ["Folders"] "names" (eVar 0) (eCB hTuple (aCons (eVar 3) (aNil))))
    (sFl ["Folders"] "chain" (eVar 0) (eVar 2))))) := rfl
theorem init_step {ns kept : List Str} {ch : Bool} (g : GoodNames ns ch) (M : Mem) (a b : Option D) {s : Str} (h1 : s ∈ ns) (h2 : s ∉ kept) (h3 : kept.length < ns.length) :
    initB own [a, b, some (.bl ch), some (.mref M.length), some (.int kept.length), some (.str s)] (M ++ [.lst (kept.map .str)]) = .nx [a, b, some (.bl ch), some (.mref M.length), some (.int kept.length), some (.str s)] (M ++ [.lst ((kept ++ [s]).map .str)]) := by
  have e5 : seqV (M ++ [.lst (kept.map .str)]) (.mref M.length) = some (kept.map .str) := by simp [seqV, lstV]
  have e6 : lstE (M ++ [.lst (kept.map .str)]) (.mref M.length) = some (kept.map .str) := by simp [lstE]
  have hle := g.le
  have hsz : kept.length < sizeLine := by
    have : (13 : Nat) ≤ sizeLine := by decide
    split at hle <;> omega
  unfold initB
  cases ch
  · simp at hle
    have hc : ¬ (5 : Int) ≤ kept.length := by omega
    simp [is_name_ok (own := own) (g.nm s h1), seq_strs _ s e5, h2, hc, kAp1_ok _ _ _ _ e6, appR, hsz, hCmp]
  · simp at hle
    have hc : ¬ (12 : Int) ≤ kept.length := by omega
    simp [is_name_ok (own := own) (g.nm s h1), seq_strs _ s e5, h2, hc, kAp1_ok _ _ _ _ e6, appR, hsz, hCmp]
theorem init_loop {ns : List Str} {ch : Bool} (g : GoodNames ns ch) (M : Mem) (a b : Option D) :
    ∃ x y, forGo (gT 2 (gsCons (gN 4) (gsCons (gN 5) gsNil))) (initB own) (enumD 0 (ns.map .str)) [a, b, some (.bl ch), some (.mref M.length), none, none] (M ++ [.lst []]) = .nx [a, b, some (.bl ch), some (.mref M.length), x, y] (M ++ [.lst (ns.map .str)]) := by
  obtain ⟨ρ', m', e, h1, x, y, h2⟩ := for_st (fg := gT 2 (gsCons (gN 4) (gsCons (gN 5) gsNil))) (fb := initB own) (I := fun i ρ m => m = M ++ [.lst ((ns.take i).map .str)] ∧ ∃ x y, ρ = [a, b, some (.bl ch), some (.mref M.length), x, y])
    (enumD 0 (ns.map .str)) 0 [a, b, some (.bl ch), some (.mref M.length), none, none] (M ++ [.lst []]) ⟨by simp, none, none, rfl⟩ (fun i z hz ρ m hI => by
      obtain ⟨rfl, x, y, rfl⟩ := hI
      rw [enumD_get, Nat.zero_add] at hz
      obtain ⟨d, hd, rfl⟩ := Option.map_eq_some_iff.mp hz
      rw [List.getElem?_map] at hd
      obtain ⟨s, hs, rfl⟩ := Option.map_eq_some_iff.mp hd
      have hi : i < ns.length := (List.getElem?_eq_some_iff.mp hs).1
      have hmem : s ∈ ns := List.mem_of_getElem? hs
      have hnot : s ∉ ns.take i := fun hx => by
        obtain ⟨j, hj, hj2⟩ := List.getElem_of_mem hx
        have hj3 : j < i := by rw [List.length_take] at hj; omega
        have e1 : ns[j]? = some s := by rw [List.getElem?_eq_getElem (by omega)]; rw [List.getElem_take] at hj2; rw [hj2]
        obtain ⟨h1, h2⟩ := List.getElem?_eq_some_iff.mp hs
        obtain ⟨h3, h4⟩ := List.getElem?_eq_some_iff.mp e1
        have := (List.getElem_inj g.nd).mp (h4.trans h2.symm)
        omega
      simp only [Nat.zero_add]
      have htk : ns.take (i + 1) = ns.take i ++ [s] := by
        rw [List.take_succ, hs]
        rfl
      have hlen : (ns.take i).length = i := by rw [List.length_take]; omega
      have st := init_step (own := own) g M a b hmem hnot (by omega)
      rw [hlen, ← htk] at st
      exact ⟨_, _, _, _, rfl, st, rfl, _, _, rfl⟩)
  refine ⟨x, y, ?_⟩
  rw [e, h2, h1, enumD_length]
  simp
/-- the constructor -/
theorem init_ok {ns : List Str} {ch : Bool} (g : GoodNames ns ch) {m : Mem} {j : Nat} {d : D} (hm : m[j]? = some (.ins "Folders" [])) (hd : NamesAre m ns d) :
    Cm.F_Folders___init__ own [.mref j, d, .bl ch] m = .ok .non (m.set j (.ins "Folders" [("names", .tup (ns.map .str)), ("chain", .bl ch)])) := by
  have hj : j < m.length := (List.getElem?_eq_some_iff.mp hm).1
  have hne : ns.length ≠ 0 := fun e => g.ne (List.length_eq_zero_iff.mp e)
  -- behind the loop
  have tail : ∀ x y, (sSeq (sFl ["Folders"] "names" (eVar 0) (eCB hTuple (aCons (eVar 3) (aNil)))) (sFl ["Folders"] "chain" (eVar 0) (eVar 2))) [some (.mref j), some d, some (.bl ch), some (.mref m.length), x, y] (m ++ [.lst (ns.map .str)]) =
      .nx [some (.mref j), some d, some (.bl ch), some (.mref m.length), x, y] (m.set j (.ins "Folders" [("names", .tup (ns.map .str)), ("chain", .bl ch)]) ++ [.lst (ns.map .str)]) := fun x y => by
    have e1 : (m ++ [.lst (ns.map .str)])[j]? = some (.ins "Folders" []) := by rw [List.getElem?_append_left hj]; exact hm
    have e2 : (m ++ [MO.lst (ns.map .str)]).set j (.ins "Folders" [("names", .tup (ns.map .str))]) = m.set j (.ins "Folders" [("names", .tup (ns.map .str))]) ++ [.lst (ns.map .str)] := by rw [List.set_append_left _ _ hj]
    have e3 : (m.set j (.ins "Folders" [("names", D.tup (ns.map .str))]) ++ [MO.lst (ns.map .str)])[j]? = some (.ins "Folders" [("names", .tup (ns.map .str))]) := by
      rw [List.getElem?_append_left (by simpa using hj), List.getElem?_set_self hj]
    have e4 : ∀ o o' : MO, (m.set j o ++ [MO.lst (ns.map .str)]).set j o' = m.set j o' ++ [MO.lst (ns.map .str)] := fun o o' => by
      rw [List.set_append_left _ _ (by simpa using hj), List.set_set]
    have e5 : ¬ (("names" : Str) = ("chain" : Str)) := by decide +kernel
    simp [hTuple, lstV, flR, e1, putD, e2, e3, e4, e5]
  have loop : ∃ x y, sLkO 1 (sFor (iEnA (eVar 1)) (gT 2 (gsCons (gN 4) (gsCons (gN 5) (gsNil)))) (initB own)) [some (.mref j), some d, some (.bl ch), some (.mref m.length), none, none] (m ++ [.lst []]) = .nx [some (.mref j), some d, some (.bl ch), some (.mref m.length), x, y] (m ++ [.lst (ns.map .str)]) := by
    cases hd with
    | lst =>
      obtain ⟨x, y, e⟩ := init_loop (own := own) g m (some (.mref j)) (some (.lst (ns.map .str)))
      exact ⟨x, y, by simp [sLkO, lkAt, e]⟩
    | tup =>
      obtain ⟨x, y, e⟩ := init_loop (own := own) g m (some (.mref j)) (some (.tup (ns.map .str)))
      exact ⟨x, y, by simp [sLkO, lkAt, e]⟩
    | mref hi =>
      rename_i i
      have hil : i < m.length := (List.getElem?_eq_some_iff.mp hi).1
      obtain ⟨x, y, e⟩ := init_loop (own := own) g (m.set i (.lkL (ns.map .str))) (some (.mref j)) (some (.mref i))
      rw [List.length_set] at e
      have e1 : (m ++ [MO.lst []])[i]? = some (.lst (ns.map .str)) := by rw [List.getElem?_append_left hil]; exact hi
      have e2 : (m ++ [MO.lst []]).set i (.lkL (ns.map .str)) = m.set i (.lkL (ns.map .str)) ++ [.lst []] := List.set_append_left _ _ hil
      have e3 : (m.set i (.lkL (ns.map .str)) ++ [MO.lst []])[i]? = some (.lkL (ns.map .str)) := by
        rw [List.getElem?_append_left (by simpa using hil), List.getElem?_set_self hil]
      have e4 : m.set i (.lst (ns.map .str)) = m := by
        obtain ⟨_, z⟩ := List.getElem?_eq_some_iff.mp hi
        rw [← z]
        exact List.set_getElem_self _
      have e5 : (m.set i (.lkL (ns.map .str)) ++ [MO.lst (ns.map .str)]).set i (.lst (ns.map .str)) = m ++ [.lst (ns.map .str)] := by
        rw [List.set_append_left _ _ (by simpa using hil), List.set_set, e4]
      have e6 : enumI (.mref i) (m.set i (.lkL (ns.map .str)) ++ [MO.lst []]) = .ok (enumD 0 (ns.map .str)) (m.set i (.lkL (ns.map .str)) ++ [MO.lst []]) := by
        simp only [enumI, lstK, e3]
      have e7 : lkAt [some (.mref j), some (.mref i), some (.bl ch), some (.mref m.length), none, none] (m ++ [.lst []]) 1 = some (i, ns.map .str) := by
        simp only [lkAt, List.getElem?_cons_succ, List.getElem?_cons_zero, e1]
      refine ⟨x, y, ?_⟩
      simp only [sLkO, e7, e2]
      simp [e6, e, unlkS, e5]
  obtain ⟨x, y, loop⟩ := loop
  unfold Cm.F_Folders___init__
  rw [x_runF, show startD 6 [D.mref j, d, D.bl ch] = [some (.mref j), some d, some (.bl ch), none, none, none] from rfl, init_parts]
  have hc : DL.cut m (m.set j (.ins "Folders" [("names", .tup (ns.map .str)), ("chain", .bl ch)]) ++ [.lst (ns.map .str)]) [] = m.set j (.ins "Folders" [("names", .tup (ns.map .str)), ("chain", .bl ch)]) := by
    refine cut_two _ _ _ _ (by simp) (by simp) fun i hi => ?_
    by_cases e : j = i
    · subst e
      refine .inr ⟨_, List.getElem?_set_self hj, fun p hp => ?_⟩
      simp only [List.mem_cons, List.not_mem_nil, or_false] at hp
      rcases hp with rfl | rfl
      · refine .tup (belL_iff.mpr fun z hz => ?_)
        obtain ⟨s, _, rfl⟩ := List.mem_map.mp hz
        exact .str s
      · exact .bl _
    · exact .inl (List.getElem?_set_ne e)
  have hz : (0 : Nat) ≤ sizeLine := by decide
  generalize hL : sLkO 1 (sFor (iEnA (eVar 1)) (gT 2 (gsCons (gN 4) (gsCons (gN 5) (gsNil)))) (initB own)) = LP at loop
  generalize hT : sSeq (sFl ["Folders"] "names" (eVar 0) (eCB hTuple (aCons (eVar 3) (aNil)))) (sFl ["Folders"] "chain" (eVar 0) (eVar 2)) = TL at tail
  simp [is_list_ok (own := own) hd, len_names hd, hne, loop, tail, hc]
end DM
end
section
set_option maxRecDepth 100000
set_option maxHeartbeats 4000000
/-! Plain mathematics, part 8: Folders: made, len, in, ==. -/
namespace DM
open PySem L2 DL
open PySem.PyData (strOk)
variable {own : List Str}
theorem NamesAre.app {m : Mem} {ns : List Str} {d : D} (h : NamesAre m ns d) (o : Mem) : NamesAre (m ++ o) ns d := by
  cases h with
  | lst => exact .lst
  | tup => exact .tup
  | mref hm => exact .mref (by rw [List.getElem?_append_left (List.getElem?_eq_some_iff.mp hm).1]; exact hm)
theorem bel_strs {n : Nat} (ns : List Str) : Bel n (.tup (ns.map .str)) := by
  refine .tup (belL_iff.mpr fun z hz => ?_)
  obtain ⟨s, _, rfl⟩ := List.mem_map.mp hz
  exact .str s
theorem bel_house {n : Nat} (ns : List Str) (ch : Bool) : Bel n (House ns ch) := by
  refine .ins (belL_iff.mpr fun z hz => ?_)
  simp at hz
  rcases hz with rfl | rfl
  · exact bel_strs ns
  · exact .bl _
theorem mk_house {ns : List Str} {ch : Bool} (g : GoodNames ns ch) {m : Mem} {d : D} (hd : NamesAre m ns d) :
    kFrz m (mkR "Folders" 3 (Cm.F_Folders___init__ own) [d, .bl ch] m) = .ok (House ns ch) m := by
  have e := init_ok (own := own) g (m := m ++ [.ins "Folders" []]) (j := m.length) (by simp) (hd.app _)
  have e2 : (m ++ [MO.ins "Folders" []]).set m.length (.ins "Folders" [("names", .tup (ns.map .str)), ("chain", .bl ch)]) = m ++ [.ins "Folders" [("names", .tup (ns.map .str)), ("chain", .bl ch)]] := by simp
  have e3 : (m ++ [MO.ins "Folders" [("names", D.tup (ns.map .str)), ("chain", .bl ch)]]).set m.length .gone = m ++ [.gone] := by simp
  have e4 : (m ++ [MO.ins "Folders" [("names", D.tup (ns.map .str)), ("chain", .bl ch)]])[m.length]? = some (.ins "Folders" [("names", .tup (ns.map .str)), ("chain", .bl ch)]) := by simp
  have e5 : DL.cut m (m ++ [.gone]) [D.ins "Folders" [("names", D.tup (ns.map .str)), ("chain", .bl ch)]] = m := cut_app _ _ _ fun x hx => by
    simp at hx
    subst hx
    exact bel_house ns ch
  unfold mkR
  rw [if_pos (show [d, D.bl ch].length + 1 = 3 from rfl), e, e2]
  simp only [bind_ok, kFrz_ok, frzR, e4, e3, e5]
  rfl
@[simp] theorem house_ins (m : Mem) (ns : List Str) (ch : Bool) : insV m (House ns ch) = some (("Folders" : Str), [(("names" : Str), D.tup (ns.map .str)), (("chain" : Str), D.bl ch)]) := rfl
theorem house_C (m : Mem) (ns : List Str) (ch : Bool) : isC "Folders" m (House ns ch) := ⟨_, rfl⟩
@[simp] theorem house_names (m : Mem) (ns : List Str) (ch : Bool) : atR ["Folders"] "names" (House ns ch) m = .ok (.tup (ns.map .str)) m := by
  simp [atR]
@[simp] theorem house_chain (m : Mem) (ns : List Str) (ch : Bool) : atR ["Folders"] "chain" (House ns ch) m = .ok (.bl ch) m := by
  have e : (("chain" : Str) == ("names" : Str)) = false := by decide +kernel
  simp [atR, List.lookup, e]
theorem house_tag (h : ("Folders" : Str) ∈ own) (m : Mem) (ns : List Str) (ch : Bool) : tagD own m (House ns ch) = some (.o "Folders") := by
  simp [House, tagD, h]
theorem house_len (m : Mem) (ns : List Str) (ch : Bool) : Cm.F_Folders___len__ [House ns ch] m = .ok (.int ns.length) m := by
  unfold Cm.F_Folders___len__
  rw [x_runF, show startD 1 [House ns ch] = [some (House ns ch)] from rfl]
  unfold Cm.b_Folders___len__
  simp [hLen, seqV, cut_same]
theorem hlen_house {ns : List Str} (hn : ns.length < 1000) (m : Mem) (ch : Bool) : hLenO "Folders" Cm.F_Folders___len__ [House ns ch] m = .ok (.int ns.length) m := by
  have e : (0 : Int) ≤ ns.length ∧ (ns.length : Int) < 2 ^ 63 := ⟨by omega, by omega⟩
  unfold hLenO
  refine Eq.trans (if_pos (house_C m ns ch)) ?_
  rw [house_len, bind_ok]
  dsimp only
  rw [if_pos e]
theorem house_in (m : Mem) (ns : List Str) (ch : Bool) (s : Str) : hInO false "Folders" (Cm.F_Folders___contains__ own) (.str s) (House ns ch) m = .ok (.bl (decide (s ∈ ns))) m := by
  have e : Cm.F_Folders___contains__ own [House ns ch, .str s] m = .ok (.bl (decide (s ∈ ns))) m := by
    unfold Cm.F_Folders___contains__
    rw [x_runF, show startD 2 [House ns ch, D.str s] = [some (House ns ch), some (.str s)] from rfl]
    unfold Cm.b_Folders___contains__
    have e1 : seqV m (.tup (ns.map .str)) = some (ns.map .str) := rfl
    simp [isi_ty (own := own) (m := m) (x := .str s) rfl b_str b_str, ans, seq_strs ns s e1, cut_same]
  simp only [hInO, if_pos (house_C m ns ch), e, bind_ok]
  simp
theorem house_not (m : Mem) (ns : List Str) (ch : Bool) {x : D} (h : hIsi own [x, .ty "str"] m = .ok (.bl false) m) : hInO false "Folders" (Cm.F_Folders___contains__ own) x (House ns ch) m = .ok (.bl false) m := by
  have e : Cm.F_Folders___contains__ own [House ns ch, x] m = .ok (.bl false) m := by
    unfold Cm.F_Folders___contains__
    rw [x_runF, show startD 2 [House ns ch, x] = [some (House ns ch), some x] from rfl]
    unfold Cm.b_Folders___contains__
    simp [h, cut_same]
  simp only [hInO, if_pos (house_C m ns ch), e, bind_ok]
  simp
theorem isi_house (h : ("Folders" : Str) ∈ own) (m : Mem) (ns : List Str) (ch : Bool) {c : String} (hc : c ∈ bTys) : hIsi own [House ns ch, .ty c] m = .ok (.bl false) m := by
  simp only [hIsi, house_tag h, clsD, kit, if_pos (And.intro h hc)]
theorem isi_house_o (h : ("Folders" : Str) ∈ own) (m : Mem) (ns : List Str) (ch : Bool) : hIsi own [House ns ch, .glo "Folders"] m = .ok (.bl true) m := by
  simp only [hIsi, house_tag h, clsD, kit, if_pos (And.intro h h)]
  simp
/-! ### == of tuples of texts -/
theorem py_strs (m : Mem) : ∀ ns : List Str, toPyL m (ns.map .str) = some (ns.map .str)
  | [] => rfl
  | c :: cs => by simp [toPyL, toPy, py_strs m cs]
theorem lay_strs : ∀ {ns : List Str}, (∀ s ∈ ns, strOk s = true) → PyData.canLayAll0 (ns.map .str) = true ∧ PyData.depthAll (ns.map .str) = 0
  | [], _ => ⟨rfl, rfl⟩
  | c :: cs, h => by
    obtain ⟨h1, h2⟩ := lay_strs (ns := cs) fun s hs => h s (by simp [hs])
    exact ⟨by simp [PyData.canLayAll0, PyData.canLay0, h1, h c], by simp [PyData.depthAll, PyData.depth, h2]⟩
theorem eqv_strs : ∀ ns ms : List Str, PyData.eqvAll (ns.map .str) (ms.map .str) = decide (ns = ms)
  | [], [] => rfl
  | [], m :: ms => by simp [PyData.eqvAll]
  | n :: ns, [] => by simp [PyData.eqvAll]
  | n :: ns, m :: ms => by
    simp only [List.map_cons, PyData.eqvAll, PyData.eqv, eqv_strs ns ms, List.cons.injEq, Bool.decide_and]
    rfl
theorem h_eqT (neg : Bool) {ns ms : List Str} (h1 : ∀ s ∈ ns, strOk s = true) (h2 : ∀ s ∈ ms, strOk s = true) (m : Mem) : hEqP neg (.tup (ns.map .str)) (.tup (ms.map .str)) m = .ok (.bl (if neg then !decide (ns = ms) else decide (ns = ms))) m := by
  have sh : ∀ {l : List Str}, (∀ s ∈ l, strOk s = true) → SeqAt.shaped (.tuple (l.map .str)) = true := fun {l} h => by
    obtain ⟨a, b⟩ := lay_strs h
    simp [SeqAt.shaped, PyData.canLay0, PyData.depth, a, b]
  simp only [hEqP, toPyM, toPy, py_strs, Option.map_some, sh h1, sh h2, and_self, if_true, PyData.eqv, eqv_strs]
theorem eq_house (h : ("Folders" : Str) ∈ own) (m : Mem) {ns ms : List Str} (h1 : ∀ s ∈ ns, IsName s) (h2 : ∀ s ∈ ms, IsName s) (ch ch' : Bool) :
    Cm.F_Folders___eq__ own [House ns ch, House ms ch'] m = .ok (.bl (decide (ns = ms) && decide (ch = ch'))) m := by
  unfold Cm.F_Folders___eq__
  rw [x_runF, show startD 2 [House ns ch, House ms ch'] = [some (House ns ch), some (House ms ch')] from rfl]
  unfold Cm.b_Folders___eq__
  have e := h_eqT false (fun s hs => (h1 s hs).ok) (fun s hs => (h2 s hs).ok) m
  by_cases hc : ns = ms
  · subst hc
    simp [isi_house_o h, e, cut_same]
  · simp [isi_house_o h, e, hc, cut_same]
theorem eq_other (m : Mem) (ns : List Str) (ch : Bool) {x : D} (h : hIsi own [x, .glo "Folders"] m = .ok (.bl false) m) : Cm.F_Folders___eq__ own [House ns ch, x] m = .ok (.bl false) m := by
  unfold Cm.F_Folders___eq__
  rw [x_runF, show startD 2 [House ns ch, x] = [some (House ns ch), some x] from rfl]
  unfold Cm.b_Folders___eq__
  simp [h, cut_same]
theorem own_eq (h : ("Folders" : Str) ∈ own) (m : Mem) {ns ms : List Str} (h1 : ∀ s ∈ ns, IsName s) (h2 : ∀ s ∈ ms, IsName s) (ch ch' : Bool) :
    hOwn own "Folders" (Cm.F_Folders___eq__ own) (House ns ch) (House ms ch') m = .ok (.bl (decide (ns = ms) && decide (ch = ch'))) m := by
  unfold hOwn
  rw [if_pos ⟨house_C m ns ch, _, house_tag h m ms ch'⟩, eq_house h m h1 h2]
theorem own_ne (h : ("Folders" : Str) ∈ own) (m : Mem) {ns ms : List Str} (h1 : ∀ s ∈ ns, IsName s) (h2 : ∀ s ∈ ms, IsName s) (ch ch' : Bool) :
    hNeO own "Folders" (Cm.F_Folders___eq__ own) (House ns ch) (House ms ch') m = .ok (.bl (!(decide (ns = ms) && decide (ch = ch')))) m := by
  simp only [hNeO, own_eq h m h1 h2, bind_ok]
theorem own_eqB (h : ("Folders" : Str) ∈ own) (m : Mem) (ns : List Str) (ch : Bool) {x : D} {n : String} (t : tagD own m x = some (.b n)) (hn : n ∈ bTys) : hOwn own "Folders" (Cm.F_Folders___eq__ own) (House ns ch) x m = .ok (.bl false) m := by
  unfold hOwn
  rw [if_pos ⟨house_C m ns ch, _, t⟩, eq_other m ns ch (isi_o t hn h)]
theorem ref_eqB (h : ("Folders" : Str) ∈ own) (m : Mem) (ns : List Str) (ch : Bool) {x : D} {n : String} (t : tagD own m x = some (.b n)) (hn : n ∈ bTys) (hl : isLf m x) : hRef "Folders" (Cm.F_Folders___eq__ own) x (House ns ch) m = .ok (.bl false) m := by
  unfold hRef
  rw [if_pos ⟨house_C m ns ch, hl⟩, eq_other m ns ch (isi_o t hn h)]
end DM
end
section
set_option maxRecDepth 100000
set_option maxHeartbeats 4000000
/-! Plain mathematics, part 9: the lots. -/
namespace DM
open PySem L2 DL
open PySem.PyData (strOk)
variable {own : List Str}
/-! ### comprehensions of two clauses -/
theorem lc_pureA {fg : FG} {fe : FE} {ρ : EnvD} {m : Mem} (f : D → D) (ds acc : List D) (h : ∀ x ∈ ds, ∃ ρx, fg x ρ m = .ok ρx m ∧ fe ρx m = .ok (f x) m) : lcGo fg tY fe ρ ds acc m = .ok (acc ++ ds.map f) m := by
  have e := lc_pure (fg := fg) (ft := tY) (fe := fe) (ρ := ρ) (m := m) (fun _ => true) f ds acc fun x hx => let ⟨ρx, h1, h2⟩ := h x hx; ⟨ρx, h1, rfl, fun _ => h2⟩
  have e2 : ds.filter (fun _ => true) = ds := List.filter_eq_self.mpr fun _ _ => rfl
  rw [e, e2]
theorem lc2_pure {fg : FG} {fi1 : FI} {fg1 : FG} {fe : FE} {vs1 : List Nat} {ρ : EnvD} {m : Mem} (f1 : D → List D) (f : D → D → D) : ∀ (ds acc : List D),
    (∀ x ∈ ds, ∃ ρx, fg x ρ m = .ok ρx m ∧ fi1 ρx m = .ok (f1 x) m ∧ ∀ y ∈ f1 x, ∃ ρy, fg1 y (wipeD ρx vs1) m = .ok ρy m ∧ fe ρy m = .ok (f x y) m) →
    acc.length + (ds.flatMap f1).length ≤ sizeLine → lc2Go fg tY fi1 fg1 tY fe vs1 ρ ds acc m = .ok (acc ++ ds.flatMap fun x => (f1 x).map (f x)) m
  | [], acc, _, _ => by simp [lc2Go]
  | x :: xs, acc, h, hz => by
    obtain ⟨ρx, h1, h2, h3⟩ := h x (by simp)
    rw [List.flatMap_cons, List.length_append] at hz
    have ih := lc2_pure f1 f xs (acc ++ (f1 x).map (f x)) (fun y hy => h y (by simp [hy])) (by simp only [List.length_append, List.length_map]; omega)
    have e := lc_pureA (fg := fg1) (fe := fe) (ρ := wipeD ρx vs1) (m := m) (f x) (f1 x) acc h3
    simp only [lc2Go, h1, bindN_ok, x_tY, if_true, h2, e, ih]
    rw [if_pos (by omega)]
    simp [List.append_assoc]
/-! ### rows of places -/
/-- where the next place may stand -/
def nxt (r : List Nat) : Nat := match r.getLast? with
  | none => 0
  | some l => l + 1
def grow (n : Nat) (r : List Nat) : List (List Nat) := (List.range (n - nxt r)).map fun k => r ++ [nxt r + k]
def rows (n : Nat) : Nat → List (List Nat)
  | 0 => [[]]
  | k + 1 => (rows n k).flatMap (grow n)
def rowD (r : List Nat) : D := .tup (r.map fun i => .int (i : Nat))
theorem rows_lt {n : Nat} : ∀ {k : Nat} {r : List Nat}, r ∈ rows n k → ∀ i ∈ r, i < n
  | 0, r, h, i, hi => by simp [rows] at h; subst h; cases hi
  | k + 1, r, h, i, hi => by
    obtain ⟨q, h1, h2⟩ := List.mem_flatMap.mp h
    obtain ⟨j, h3, rfl⟩ := List.mem_map.mp h2
    have h4 := List.mem_range.mp h3
    rcases List.mem_append.mp hi with hi | hi
    · exact rows_lt h1 i hi
    · simp at hi; omega
theorem rows_few : ∀ n, n < 6 → ∀ k, k < 6 → (rows n k).length ≤ 10 ∧ ∀ r ∈ rows n k, nxt r ≤ 5 ∧ r.length ≤ 5 := by decide +kernel
theorem row_ne (m : Mem) (r : List Nat) : hEqP true (rowD r) (.tup []) m = .ok (.bl (decide (r ≠ []))) m := by
  have e0 : ∀ r : List Nat, toPyL m (r.map fun i => D.int (i : Nat)) = some (r.map fun i => .int (i : Nat)) := fun r => by
    have := py_ints m (r.map fun i => ((i : Nat) : Int))
    rw [List.map_map, List.map_map] at this
    exact this
  have e1 : toPyM m (rowD r) = some (.tuple (r.map fun i => .int (i : Nat))) := by simp only [rowD, toPyM, toPy, e0, Option.map_some]
  have e2 : toPyM m (.tup []) = some (.tuple []) := rfl
  have e3 : SeqAt.shaped (.tuple (r.map fun i => .int ((i : Nat) : Int))) = true := by
    obtain ⟨h1, h2⟩ := lay_ints (r.map fun i => ((i : Nat) : Int))
    rw [List.map_map] at h1 h2
    have h1' : PyData.canLayAll0 (r.map fun i => PyData.int ((i : Nat) : Int)) = true := h1
    have h2' : PyData.depthAll (r.map fun i => PyData.int ((i : Nat) : Int)) = 0 := h2
    simp [SeqAt.shaped, PyData.canLay0, PyData.depth, h1', h2']
  have e4 : SeqAt.shaped (.tuple []) = true := rfl
  simp only [hEqP, e1, e2, e3, e4, and_self, if_true]
  cases r <;> rfl
theorem row_last (m : Mem) {r : List Nat} (h : r ≠ []) : hIx (rowD r) (.int (-1)) m = .ok (.int ((nxt r : Nat) - 1)) m := by
  have hl : 0 < r.length := List.length_pos_iff.mpr h
  have e : atI (r.map fun i => D.int ((i : Nat) : Int)) (-1) = some (.int ((nxt r : Nat) - 1)) := by
    unfold atI ixN
    rw [if_neg (by omega), if_pos (by rw [List.length_map]; omega)]
    simp only [Option.bind_some, List.length_map]
    have e1 : (-1 + (r.length : Int)).toNat = r.length - 1 := by omega
    rw [e1, List.getElem?_map]
    have e2 : r.getLast? = r[r.length - 1]? := List.getLast?_eq_getElem? 
    unfold nxt
    rw [e2, List.getElem?_eq_getElem (by omega)]
    simp
  simp only [rowD, hIx, seqV, e]
/-! ### comprehensions over mapped lists -/
theorem lcm {α : Type} {fg : FG} {fe : FE} {ρ : EnvD} {m : Mem} (d f : α → D) : ∀ (as : List α) (acc : List D), (∀ a ∈ as, ∃ ρx, fg (d a) ρ m = .ok ρx m ∧ fe ρx m = .ok (f a) m) → lcGo fg tY fe ρ (as.map d) acc m = .ok (acc ++ as.map f) m
  | [], acc, _ => by simp [lcGo]
  | a :: as, acc, h => by
    obtain ⟨ρx, h1, h2⟩ := h a (by simp)
    have ih := lcm (fg := fg) (fe := fe) (ρ := ρ) (m := m) d f as (acc ++ [f a]) fun b hb => h b (by simp [hb])
    simp [lcGo, h1, h2, ih]
theorem lc2m {α β : Type} {fg : FG} {fi1 : FI} {fg1 : FG} {fe : FE} {vs1 : List Nat} {ρ : EnvD} {m : Mem} (d : α → D) (Li : α → List β) (e f : α → β → D) : ∀ (as : List α) (acc : List D),
    (∀ a ∈ as, ∃ ρx, fg (d a) ρ m = .ok ρx m ∧ fi1 ρx m = .ok ((Li a).map (e a)) m ∧ ∀ b ∈ Li a, ∃ ρy, fg1 (e a b) (wipeD ρx vs1) m = .ok ρy m ∧ fe ρy m = .ok (f a b) m) →
    acc.length + (as.flatMap Li).length ≤ sizeLine → lc2Go fg tY fi1 fg1 tY fe vs1 ρ (as.map d) acc m = .ok (acc ++ as.flatMap fun a => (Li a).map (f a)) m
  | [], acc, _, _ => by simp [lc2Go]
  | a :: as, acc, h, hz => by
    obtain ⟨ρx, h1, h2, h3⟩ := h a (by simp)
    rw [List.flatMap_cons, List.length_append] at hz
    have ih := lc2m (fg := fg) (fi1 := fi1) (fg1 := fg1) (fe := fe) (vs1 := vs1) (ρ := ρ) (m := m) d Li e f as (acc ++ (Li a).map (f a)) (fun y hy => h y (by simp [hy])) (by simp only [List.length_append, List.length_map]; omega)
    have e := lcm (fg := fg1) (fe := fe) (ρ := wipeD ρx vs1) (m := m) (e a) (f a) (Li a) acc h3
    simp only [List.map_cons, lc2Go, h1, bindN_ok, x_tY, if_true, h2, e, ih]
    rw [if_pos (by simp; omega)]
    simp [List.append_assoc]
/-! ### chosen_places, and the law's own rows -/
/-- range(row[-1] + 1 if row != () else 0, left) -/
theorem row_range (i j : Nat) {ρ : EnvD} {m : Mem} {r : List Nat} {n : Nat} (h1 : ρ[i]? = some (some (rowD r))) (h2 : ρ[j]? = some (some (.int n))) (hr : nxt r ≤ 5) (hn : n < 6) :
    iRg2 (eIf (tTr (eOp (hEqP true) (eVar i) (eTup (aNil)))) (eOp hAdd (eOp hIx (eVar i) (eUn hNeg (eC (.int 1)))) (eC (.int 1))) (eC (.int 0))) (eVar j) ρ m = .ok (rgD (nxt r) (n - nxt r)) m := by
  have e9 := rg_small (by omega : nxt r ≤ 100) (by omega : n ≤ 100) m
  have z0 : (0 : Nat) ≤ sizeLine := by decide
  have e : (eIf (tTr (eOp (hEqP true) (eVar i) (eTup (aNil)))) (eOp hAdd (eOp hIx (eVar i) (eUn hNeg (eC (.int 1)))) (eC (.int 1))) (eC (.int 0))) ρ m = .ok (.int (nxt r)) m := by
    by_cases hc : r = []
    · subst hc
      have e := row_ne m []
      simp only [ne_eq, not_true_eq_false, decide_false] at e
      simp [h1, e]
      rfl
    · have e := row_ne m r
      simp only [ne_eq, hc, not_false_eq_true, decide_true] at e
      have e2 := row_last m hc
      simp [h1, e, e2]
  rw [x_iRg2, e, kR2_ok, x_eVar, h2, varR_ok, e9]
theorem rgD_grow (n : Nat) (r : List Nat) : rgD (nxt r) (n - nxt r) = (List.range (n - nxt r)).map fun k => .int ((nxt r : Nat) + (k : Nat)) := rfl
theorem row_snoc (r : List Nat) (k : Nat) : D.tup ((r.map fun i => D.int ((i : Nat) : Int)) ++ [D.int ((nxt r : Nat) + (k : Nat))]) = rowD (r ++ [nxt r + k]) := by
  simp [rowD]
theorem map_grow {n : Nat} (rs : List (List Nat)) : (rs.flatMap fun r => (List.range (n - nxt r)).map fun k => rowD (r ++ [nxt r + k])) = (rs.flatMap (grow n)).map rowD := by
  rw [List.map_flatMap]
  congr 1
  funext r
  simp [grow, List.map_map, Function.comp_def]
theorem chosen_ok {n k : Nat} (hn : n < 6) (hk : k < 6) (m : Mem) : Cm.F_chosen_places [.int k, .int n] m = .ok (.lst ((rows n k).map rowD)) m := by
  obtain ⟨ρ', m', e, rfl, a, rfl⟩ := for_st (fg := gN 3) (fb := sSet 2 (eLc2 false [4, 5] [5] (iSeq (eVar 2)) (gN 4) (tY) (iRg2 (eIf (tTr (eOp (hEqP true) (eVar 4) (eTup (aNil)))) (eOp hAdd (eOp hIx (eVar 4) (eUn hNeg (eC (.int 1)))) (eC (.int 1))) (eC (.int 0))) (eVar 1)) (gN 5) (tY) (eTup (aStar (eVar 4) (aCons (eVar 5) (aNil))))))
    (I := fun i ρ m' => m' = m ∧ ∃ a, ρ = [some (.int k), some (.int n), some (.lst ((rows n i).map rowD)), a, none, none]) (rgD 0 k) 0 [some (.int k), some (.int n), some (.lst [.tup []]), none, none, none] m ⟨rfl, none, rfl⟩ (fun i x hx ρ m' hI => by
      obtain ⟨rfl, a, rfl⟩ := hI
      obtain ⟨rfl, hi⟩ := rgD_get hx
      simp only [Nat.zero_add]
      obtain ⟨f1, f2⟩ := rows_few n hn i (by omega)
      obtain ⟨f3, f4⟩ := rows_few n hn (i + 1) (by omega)
      refine ⟨_, _, _, m', rfl, ?_, rfl, some (.int (0 + (i : Nat))), rfl⟩
      have l := lc2m (fg := gN 4) (fi1 := iRg2 (eIf (tTr (eOp (hEqP true) (eVar 4) (eTup (aNil)))) (eOp hAdd (eOp hIx (eVar 4) (eUn hNeg (eC (.int 1)))) (eC (.int 1))) (eC (.int 0))) (eVar 1)) (fg1 := gN 5) (fe := eTup (aStar (eVar 4) (aCons (eVar 5) (aNil)))) (vs1 := [5])
        (ρ := [some (.int k), some (.int n), some (.lst ((rows n i).map rowD)), some (.int (0 + (i : Nat))), none, none]) (m := m') rowD (fun r => List.range (n - nxt r)) (fun r j => .int ((nxt r : Nat) + (j : Nat))) (fun r j => rowD (r ++ [nxt r + j])) (rows n i) [] (fun r hr => by
          obtain ⟨g1, g2⟩ := f2 r hr
          refine ⟨_, rfl, ?_, fun j hj => ⟨_, rfl, ?_⟩⟩
          · rw [← rgD_grow]
            exact row_range 4 1 rfl rfl g1 hn
          · have z : r.length + 1 ≤ sizeLine := Nat.le_trans (by omega : r.length + 1 ≤ 6) (by decide)
            simp [rowD, z]) (by
          have z2 : ((rows n i).flatMap fun r => List.range (n - nxt r)).length = (rows n (i + 1)).length := by
            show _ = ((rows n i).flatMap (grow n)).length
            simp [List.length_flatMap, grow]
          rw [z2]
          exact Nat.le_trans (by simp; omega : _ ≤ 10) (by decide))
      rw [map_grow] at l
      simp only [List.nil_append, Int.zero_add] at l
      simp [l]
      rfl)
  simp only [Nat.zero_add, rgD_length] at e
  unfold Cm.F_chosen_places
  rw [x_runF, show startD 6 [D.int k, D.int n] = [some (.int k), some (.int n), none, none, none, none] from rfl]
  unfold Cm.b_chosen_places
  have z1 : (1 : Nat) ≤ sizeLine := by decide
  have z2 : ([D.tup []] : List D).length ≤ sizeLine := z1
  have z3 : ([] : List D).length ≤ sizeLine := Nat.zero_le _
  simp only [x_sSeq, x_sSet, x_eLst, x_aCons, x_eTup, x_aNil, kTup_ok, if_pos z3, kC1_ok, kC2_ok, kLst_ok, if_pos z2, kSet_ok, kSeq_nx, List.set_cons_succ, List.set_cons_zero, x_sFor, x_iRg1, x_eVar, List.getElem?_cons_zero, varR_ok, rg1_small (by omega : k ≤ 100), kFor_ok]
  rw [e]
  simp only [kSeq_nx, x_sRt, x_eVar, List.getElem?_cons_zero, List.getElem?_cons_succ, varR_ok, kRt_ok, kRun_rt]
  rw [cut_same _ _ _ rfl]
end DM
end
section
set_option maxRecDepth 100000
set_option maxHeartbeats 4000000
/-! Plain mathematics, part 10: the law's own rows; the lots told by Folders and by the law. -/
namespace DM
open PySem L2 DL
open PySem.PyData (strOk)
variable {own : List Str}
theorem bel_row {n : Nat} (r : List Nat) : Bel n (rowD r) := by
  refine .tup (belL_iff.mpr fun z hz => ?_)
  obtain ⟨s, _, rfl⟩ := List.mem_map.mp hz
  exact .int _
theorem bel_rows {n : Nat} (rs : List (List Nat)) : Bel n (.lst (rs.map rowD)) := by
  refine .lst (belL_iff.mpr fun z hz => ?_)
  obtain ⟨s, _, rfl⟩ := List.mem_map.mp hz
  exact bel_row s
/-- extend of the thing made last -/
theorem ext_last (m : Mem) (xs ys : List D) (hz : xs.length + ys.length ≤ sizeLine) : hExt (.mref m.length) (.lst ys) (m ++ [.lst xs]) = .ok .non (m ++ [.lst (xs ++ ys)]) := by
  have e : (m ++ [MO.lst xs])[m.length]? = some (.lst xs) := by simp
  have e2 : (m ++ [MO.lst xs]).set m.length (.lst (xs ++ ys)) = m ++ [.lst (xs ++ ys)] := by simp
  simp only [hExt, e, lstE, if_pos hz, e2]
theorem isLst_last (m : Mem) (xs : List D) : isLst (.mref m.length) (m ++ [.lst xs]) = true := by simp [isLst, lstE]
/-- frozen and given back -/
theorem frz_last (m : Mem) (xs : List D) : frzR (m ++ [.lst xs]) (.mref m.length) (m ++ [.lst xs]) = .ok (.lst xs) (m ++ [.gone]) := by
  have e : (m ++ [MO.lst xs])[m.length]? = some (.lst xs) := by simp
  have e2 : (m ++ [MO.lst xs]).set m.length .gone = m ++ [.gone] := by simp
  simp only [frzR, e, e2]
  rw [cut_same _ _ _ (by simp)]
theorem cut_last (m : Mem) (o : MO) {d : D} (h : Bel m.length d) : DL.cut m (m ++ [o]) [d] = m := cut_app _ _ _ fun x hx => by
  simp at hx
  subst hx
  exact h
theorem flat_take {α β : Type} (as : List α) (f : α → List β) (i : Nat) (a : α) (h : as[i]? = some a) : (as.take (i + 1)).flatMap f = (as.take i).flatMap f ++ f a := by
  rw [List.take_succ, h]
  simp
noncomputable def rowsB : FS := sEx (eM1 isLst hExt (eVar 2) (eLc false [4] (iRg2 (eIf (tTr (eOp (hEqP true) (eVar 3) (eTup (aNil)))) (eOp hAdd (eOp hIx (eVar 3) (eUn hNeg (eC (.int 1)))) (eC (.int 1))) (eC (.int 0))) (eVar 1)) (gN 4) (tY) (eOp hAdd (eVar 3) (eTup (aCons (eVar 4) (aNil))))))
theorem b_rows_parts (s : HL) : Cm.b__law_b_rows s = sSeq (sSet 2 (eLstM (aNil))) (sSeq (sFor (iSeq (eIf (tTr (eOp hGt (eVar 0) (eC (.int 0)))) (eCall 2 s [] (aCons (eOp hSub (eVar 0) (eC (.int 1))) (aCons (eVar 1) (aNil)))) (eLst (aNil)))) (gN 3) rowsB)
  (sRt (eFrz (eIf (tTr (eOp hGt (eVar 0) (eC (.int 0)))) (eVar 2) (eLst (aCons (eTup (aNil)) (aNil))))))) := rfl
theorem rows_step {n : Nat} (hn : n < 6) {r : List Nat} (hr : nxt r ≤ 5) (hl : r.length ≤ 5) (m : Mem) {xs : List D} (hx : xs.length ≤ 100) (a : Option D) :
    rowsB [a, some (.int n), some (.mref m.length), some (rowD r), none] (m ++ [.lst xs]) = .nx [a, some (.int n), some (.mref m.length), some (rowD r), none] (m ++ [.lst (xs ++ (grow n r).map rowD)]) := by
  have e1 := row_range 3 1 (ρ := [a, some (.int n), some (.mref m.length), some (rowD r), none]) (m := m ++ [.lst xs]) rfl rfl hr hn
  have e2 := lcm (fg := gN 4) (fe := eOp hAdd (eVar 3) (eTup (aCons (eVar 4) (aNil)))) (ρ := [a, some (.int n), some (.mref m.length), some (rowD r), none]) (m := m ++ [.lst xs]) (fun k : Nat => .int ((nxt r : Nat) + (k : Nat))) (fun k => rowD (r ++ [nxt r + k])) (List.range (n - nxt r)) [] (fun k hk => by
    refine ⟨[a, some (.int n), some (.mref m.length), some (rowD r), some (.int ((nxt r : Nat) + (k : Nat)))], rfl, ?_⟩
    have z : r.length + 1 ≤ sizeLine := Nat.le_trans (by omega : r.length + 1 ≤ 6) (by decide)
    have z1 : 1 ≤ sizeLine := by decide
    simp [rowD, z, z1])
  rw [← rgD_grow, List.nil_append] at e2
  have e3 : (List.range (n - nxt r)).map (fun k => rowD (r ++ [nxt r + k])) = (grow n r).map rowD := by simp [grow, List.map_map, Function.comp_def]
  rw [e3] at e2
  have hz : xs.length + ((grow n r).map rowD).length ≤ sizeLine := by
    have : (106 : Nat) ≤ sizeLine := by decide
    simp [grow]; omega
  unfold rowsB
  simp only [x_sEx, x_eM1, x_eVar, List.getElem?_cons_zero, List.getElem?_cons_succ, varR_ok, kM1_ok, isLst_last, if_true, x_eLc, x_wipe, x_wipe0, List.set_cons_succ, List.set_cons_zero, e1, kLc_ok, e2, kFin_ok, finL_f, kM2_ok, ext_last m xs _ hz, kEx_ok]
theorem b_rows_ok {n : Nat} (hn : n < 6) : ∀ (k f : Nat) (m : Mem), k < 6 → k < f → Cm.F__law_b_rows f [.int k, .int n] m = .ok (.lst ((rows n k).map rowD)) m
  | k, 0, m, _, h => by omega
  | 0, f + 1, m, _, _ => by
    unfold Cm.F__law_b_rows
    rw [x_runF, show startD 5 [D.int ((0 : Nat) : Int), D.int n] = [some (.int ((0 : Nat) : Int)), some (.int n), none, none, none] from rfl, b_rows_parts]
    have z0 : (0 : Nat) ≤ sizeLine := Nat.zero_le _
    have z1 : (1 : Nat) ≤ sizeLine := by decide
    have b1 : Bel m.length (.lst [.tup []]) := bel_rows [[]]
    simp [hCmp, forGo, z1, frzR, cut_last m _ b1]
    rfl
  | k + 1, f + 1, m, hk, hf => by
    have ih := b_rows_ok hn k f (m ++ [.lst []]) (by omega) (by omega)
    obtain ⟨f1, f2⟩ := rows_few n hn k (by omega)
    obtain ⟨f3, f4⟩ := rows_few n hn (k + 1) (by omega)
    obtain ⟨ρ', m', e, rfl, a, rfl⟩ := for_st (fg := gN 3) (fb := rowsB) (I := fun i ρ m' => m' = m ++ [.lst ((((rows n k).take i).flatMap (grow n)).map rowD)] ∧ ∃ a, ρ = [some (.int ((k + 1 : Nat) : Int)), some (.int n), some (.mref m.length), a, none])
      ((rows n k).map rowD) 0 [some (.int ((k + 1 : Nat) : Int)), some (.int n), some (.mref m.length), none, none] (m ++ [.lst []]) ⟨by simp, none, rfl⟩ (fun i x hx ρ m' hI => by
        obtain ⟨rfl, a, rfl⟩ := hI
        rw [List.getElem?_map] at hx
        obtain ⟨r, hr, rfl⟩ := Option.map_eq_some_iff.mp hx
        obtain ⟨g1, g2⟩ := f2 r (List.mem_of_getElem? hr)
        simp only [Nat.zero_add]
        have hlen : (((rows n k).take i).flatMap (grow n)).length ≤ 10 := by
          have h1 : ((rows n k).take i).flatMap (grow n) ++ ((rows n k).drop i).flatMap (grow n) = rows n (k + 1) := by
            rw [← List.flatMap_append, List.take_append_drop]; rfl
          have h2 := congrArg List.length h1
          rw [List.length_append] at h2
          omega
        have st := rows_step hn g1 g2 m (xs := (((rows n k).take i).flatMap (grow n)).map rowD) (by rw [List.length_map]; omega) (some (.int ((k + 1 : Nat) : Int)))
        refine ⟨_, _, _, _, rfl, st, ?_, _, rfl⟩
        rw [flat_take _ _ i r hr, List.map_append])
    simp only [Nat.zero_add, List.length_map, List.take_length] at e
    have e5 : (rows n k).flatMap (grow n) = rows n (k + 1) := rfl
    rw [e5] at e
    unfold Cm.F__law_b_rows
    rw [x_runF, show startD 5 [D.int ((k + 1 : Nat) : Int), D.int n] = [some (.int ((k + 1 : Nat) : Int)), some (.int n), none, none, none] from rfl, b_rows_parts]
    have c1 : decide ((0 : Int) < ((k + 1 : Nat) : Int)) = true := by simp
    have c2 : ((k + 1 : Nat) : Int) - 1 = (k : Int) := by omega
    have hgt : ∀ m' : Mem, hGt (.int ((k + 1 : Nat) : Int)) (.int 0) m' = .ok (.bl true) m' := fun m' => by
      have : hGt (.int ((k + 1 : Nat) : Int)) (.int 0) m' = .ok (.bl (decide ((0 : Int) < ((k + 1 : Nat) : Int)))) m' := rfl
      rw [this, c1]
    have z0 : ([] : List D).length ≤ sizeLine := Nat.zero_le _
    have hz : ([D.int (k : Int), D.int n] : List D).length = 2 := rfl
    simp only [x_sSeq, x_sSet, x_eLstM, x_aNil, kLsM_ok, if_pos z0, kSet_ok, kSeq_nx, List.set_cons_succ, List.set_cons_zero, x_sFor, x_iSeq, x_eIf, x_tTr, x_eOp, x_eVar, List.getElem?_cons_zero, List.getElem?_cons_succ, varR_ok, kOp1_ok, x_eC, kOp2_ok, hgt, kTr_ok, kEIf_t, x_eCall, x_aCons, h_sub, c2, kC1_ok, kC2_ok, kCall_ok, if_pos hz, List.append_nil, ih, kSq_ok, seqI_lst, kFor_ok, e]
    simp only [x_sRt, x_eFrz, x_eIf, x_tTr, x_eOp, x_eVar, List.getElem?_cons_zero, List.getElem?_cons_succ, varR_ok, kOp1_ok, x_eC, kOp2_ok, hgt, kTr_ok, kEIf_t, kFrz_ok, frz_last, kRt_ok, kRun_rt, cut_last m _ (bel_rows _)]
end DM
end
section
set_option maxRecDepth 100000
set_option maxHeartbeats 4000000
/-! Plain mathematics, part 11: the lots. -/
namespace DM
open PySem L2 DL
open PySem.PyData (strOk)
variable {own : List Str}
def tupS (l : List Str) : D := .tup (l.map .str)
def lotOf (ns : List Str) (r : List Nat) : List Str := r.map fun i => ns.getD i Str.empty
/-- the lots of so many folders, less one -/
def piece (ns : List Str) (ch : Bool) (s : Nat) : List (List Str) := if ch then (List.range (ns.length - s)).map fun a => (ns.drop a).take (s + 1) else (rows ns.length (s + 1)).map (lotOf ns)
def lotsL (ns : List Str) (ch : Bool) : List (List Str) := (List.range ns.length).flatMap (piece ns ch)
theorem few_chain : ∀ n, n < 13 → ((List.range n).flatMap fun s => List.range (n - s)).length ≤ 100 := by decide +kernel
theorem few_rows : ∀ n, n < 6 → ((List.range n).flatMap fun s => rows n (s + 1)).length ≤ 100 := by decide +kernel
theorem cut_keep (m : Mem) (o : MO) : DL.cut m (m ++ [o]) [.mref m.length] = m ++ [o] := by
  unfold DL.cut
  rw [if_neg (by simp), if_neg]
  rintro ⟨h, _⟩
  have := h _ (List.mem_singleton.mpr rfl)
  cases this with
  | mref h => omega
theorem rg_from1 {n : Nat} (hn : n ≤ 50) (m : Mem) : kR2b (.int 1) (.ok (.int ((n : Int) + 1)) m) = .ok ((List.range n).map fun s : Nat => D.int (1 + (s : Nat))) m := by
  have e := rg_small (a := 1) (b := n + 1) (by omega) (by omega) m
  have e1 : ((n + 1 : Nat) : Int) = (n : Int) + 1 := by omega
  rw [e1] at e
  exact e
theorem rg_left {n s : Nat} (hs : s < n) (hn : n ≤ 50) (m : Mem) : kR1 (.ok (.int ((n : Int) - (1 + (s : Nat)) + 1)) m) = .ok ((List.range (n - s)).map fun a : Nat => D.int (0 + (a : Nat))) m := by
  have e := rg1_small (b := n - s) (by omega) m
  have e1 : ((n - s : Nat) : Int) = (n : Int) - (1 + (s : Nat)) + 1 := by omega
  rw [e1] at e
  exact e
theorem cut_part {ns : List Str} {a s : Nat} (h : a + s < ns.length) : cutD (ns.map .str) (some (0 + (a : Nat))) (some (0 + (a : Nat) + (1 + (s : Nat)))) = ((ns.drop a).take (s + 1)).map .str := by
  unfold cutD
  have e1 : HT.sIx (ns.map D.str).length 0 (some (0 + (a : Nat))) = a := by
    have e : (0 : Int) + (a : Nat) = (a : Nat) := by omega
    rw [e, HT.sIx_nat, List.length_map]; omega
  have e2 : HT.sIx (ns.map D.str).length (ns.map D.str).length (some (0 + (a : Nat) + (1 + (s : Nat)))) = a + s + 1 := by
    have e : (0 : Int) + (a : Nat) + (1 + (s : Nat)) = ((a + s + 1 : Nat) : Int) := by omega
    rw [e, HT.sIx_nat, List.length_map]; omega
  rw [e1, e2, show a + s + 1 - a = s + 1 by omega, List.map_take, List.map_drop]
theorem ix_name {ns : List Str} {i : Nat} (hi : i < ns.length) (m : Mem) : hIx (.tup (ns.map .str)) (.int (i : Nat)) m = .ok (.str (ns.getD i Str.empty)) m ∧ hIx (.lst (ns.map .str)) (.int (i : Nat)) m = .ok (.str (ns.getD i Str.empty)) m := by
  have e : atI (ns.map D.str) ((i : Nat) : Int) = some (.str (ns.getD i Str.empty)) := by
    unfold atI ixN
    rw [if_pos (by omega), if_pos (by rw [List.length_map]; omega)]
    simp [hi]
  exact ⟨by simp only [hIx, seqV, e], by simp only [hIx, seqV, lstV, e]⟩
theorem row_names {ns : List Str} {r : List Nat} (hr : ∀ i ∈ r, i < ns.length) : (r.map fun i => D.str (ns.getD i Str.empty)) = (lotOf ns r).map .str := by
  simp [lotOf, List.map_map, Function.comp_def]
theorem lots_ok {ns : List Str} {ch : Bool} (g : GoodNames ns ch) (m : Mem) : Cm.F_Folders_lots [House ns ch] m = .ok (.mref m.length) (m ++ [.lst ((lotsL ns ch).map tupS)]) := by
  unfold Cm.F_Folders_lots
  rw [x_runF, show startD 6 [House ns ch] = [some (House ns ch), none, none, none, none, none] from rfl]
  unfold Cm.b_Folders_lots
  have hl : hLen [.tup (ns.map .str)] m = .ok (.int ns.length) m := by simp [hLen, seqV]
  have hle := g.le
  cases ch with
  | true =>
    simp at hle
    have l := lc2m (fg := gN 3) (fi1 := iRg1 (eOp hAdd (eOp hSub (eVar 1) (eVar 3)) (eC (.int 1)))) (fg1 := gN 5) (fe := eSl false (eAt ["Folders"] "names" (eVar 0)) (oSo (eVar 5)) (oSo (eOp hAdd (eVar 5) (eVar 3)))) (vs1 := [5]) (ρ := [some (House ns true), some (.int ns.length), none, none, none, none]) (m := m)
      (fun s : Nat => .int (1 + (s : Nat))) (fun s => List.range (ns.length - s)) (fun _ a => .int (0 + (a : Nat))) (fun s a => tupS ((ns.drop a).take (s + 1))) (List.range ns.length) [] (fun s hs => by
        have hs := List.mem_range.mp hs
        refine ⟨[some (House ns true), some (.int ns.length), none, some (.int (1 + (s : Nat))), none, none], rfl, ?_, fun a ha => ⟨[some (House ns true), some (.int ns.length), none, some (.int (1 + (s : Nat))), none, some (.int (0 + (a : Nat)))], rfl, ?_⟩⟩
        · simp only [x_iRg1, x_eOp, x_eVar, List.getElem?_cons_zero, List.getElem?_cons_succ, varR_ok, kOp1_ok, kOp2_ok, h_sub, x_eC, h_add, rg_left hs (by omega)]
        · have ha := List.mem_range.mp ha
          simp only [x_eSl, x_eAt, x_eVar, List.getElem?_cons_zero, List.getElem?_cons_succ, varR_ok, kAt_ok, house_names, kSl1_ok, x_oSo, kSo_ok, kSl2_ok, x_eOp, kOp1_ok, kOp2_ok, h_add, kSl3_ok, hSl, cut_part (show a + s < ns.length by omega)]
          rfl) (Nat.le_trans (by simpa using few_chain ns.length (by omega) : _ ≤ 100) (by decide))
    have e2 : ((List.range ns.length).flatMap fun s => (List.range (ns.length - s)).map fun a => tupS ((ns.drop a).take (s + 1))) = (lotsL ns true).map tupS := by
      simp [lotsL, piece, List.map_flatMap, List.map_map, Function.comp_def]
    rw [e2, List.nil_append] at l
    simp only [x_sSeq, x_sSet, x_eCB, x_aCons, x_eAt, x_eVar, List.getElem?_cons_zero, List.getElem?_cons_succ, varR_ok, kAt_ok, house_names, kC1_ok, x_aNil, kC2_ok, kCB_ok, hl, kSet_ok, kSeq_nx, List.set_cons_succ, List.set_cons_zero, x_sIf, x_tTr, house_chain, kTr_ok, kIf_t, x_sRt, x_eLc2, x_wipe, x_wipe0, x_iRg2, x_eC, x_eOp, kOp1_ok, kOp2_ok, h_add, kR2_ok, rg_from1 (show ns.length ≤ 50 by omega), kLc2_ok, l, kFin_ok, finL_t, kRt_ok, kSeq_rt, kRun_rt, cut_keep]
  | false =>
    simp at hle
    have l := lc2m (fg := gN 3) (fi1 := iSeq (eCall 2 Cm.F_chosen_places [] (aCons (eVar 3) (aCons (eVar 1) (aNil))))) (fg1 := gN 4) (fe := eVar 4) (vs1 := [4]) (ρ := [some (House ns false), some (.int ns.length), none, none, none, none]) (m := m)
      (fun s : Nat => .int (1 + (s : Nat))) (fun s => rows ns.length (s + 1)) (fun _ r => rowD r) (fun _ r => rowD r) (List.range ns.length) [] (fun s hs => by
        have hs := List.mem_range.mp hs
        refine ⟨[some (House ns false), some (.int ns.length), none, some (.int (1 + (s : Nat))), none, none], rfl, ?_, fun r hr => ⟨[some (House ns false), some (.int ns.length), none, some (.int (1 + (s : Nat))), some (rowD r), none], rfl, rfl⟩⟩
        have e := chosen_ok (n := ns.length) (k := s + 1) (by omega) (by omega) m
        have e1 : ((s + 1 : Nat) : Int) = 1 + (s : Nat) := by omega
        rw [e1] at e
        have hz : ([D.int (1 + (s : Nat)), D.int ns.length] : List D).length = 2 := rfl
        simp only [x_iSeq, x_eCall, x_aCons, x_eVar, List.getElem?_cons_zero, List.getElem?_cons_succ, varR_ok, kC1_ok, x_aNil, kC2_ok, kCall_ok, List.append_nil, if_pos hz, e, kSq_ok, seqI_lst]) (Nat.le_trans (by simpa using few_rows ns.length (by omega) : _ ≤ 100) (by decide))
    have e2 : ((List.range ns.length).flatMap fun s => (rows ns.length (s + 1)).map fun r => rowD r) = ((List.range ns.length).flatMap fun s => rows ns.length (s + 1)).map rowD := by
      rw [List.map_flatMap]
    rw [e2, List.nil_append] at l
    have l2 := lcm (fg := gN 4) (fe := eCB hTuple (aCons (eLc false [5] (iSeq (eVar 4)) (gN 5) (tY) (eOp hIx (eAt ["Folders"] "names" (eVar 0)) (eVar 5))) (aNil))) (ρ := [some (House ns false), some (.int ns.length), some (.lst (((List.range ns.length).flatMap fun s => rows ns.length (s + 1)).map rowD)), none, none, none]) (m := m)
      rowD (fun r => tupS (lotOf ns r)) ((List.range ns.length).flatMap fun s => rows ns.length (s + 1)) [] (fun r hr => by
        obtain ⟨s, _, hr⟩ := List.mem_flatMap.mp hr
        have hlt := rows_lt hr
        refine ⟨[some (House ns false), some (.int ns.length), some (.lst (((List.range ns.length).flatMap fun s => rows ns.length (s + 1)).map rowD)), none, some (rowD r), none], rfl, ?_⟩
        have l3 := lcm (fg := gN 5) (fe := eOp hIx (eAt ["Folders"] "names" (eVar 0)) (eVar 5)) (ρ := [some (House ns false), some (.int ns.length), some (.lst (((List.range ns.length).flatMap fun s => rows ns.length (s + 1)).map rowD)), none, some (rowD r), none]) (m := m)
          (fun i : Nat => .int (i : Nat)) (fun i => .str (ns.getD i Str.empty)) r [] (fun i hi => by
            refine ⟨[some (House ns false), some (.int ns.length), some (.lst (((List.range ns.length).flatMap fun s => rows ns.length (s + 1)).map rowD)), none, some (rowD r), some (.int (i : Nat))], rfl, ?_⟩
            simp only [x_eOp, x_eAt, x_eVar, List.getElem?_cons_zero, List.getElem?_cons_succ, varR_ok, kAt_ok, house_names, kOp1_ok, kOp2_ok, (ix_name (hlt i hi) m).1])
        rw [row_names hlt, List.nil_append] at l3
        have sq : seqI (rowD r) m = .ok (r.map fun i => D.int ((i : Nat) : Int)) m := rfl
        simp only [x_eCB, x_aCons, x_eLc, x_iSeq, x_eVar, List.getElem?_cons_zero, List.getElem?_cons_succ, varR_ok, kSq_ok, sq, x_wipe, x_wipe0, List.set_cons_succ, List.set_cons_zero, kLc_ok, l3, kFin_ok, finL_f, kC1_ok, x_aNil, kC2_ok, kCB_ok, hTuple, lstV]
        rfl)
    have e3 : ((List.range ns.length).flatMap fun s => rows ns.length (s + 1)).map (fun r => tupS (lotOf ns r)) = (lotsL ns false).map tupS := by
      simp [lotsL, piece, List.map_flatMap, List.map_map, Function.comp_def]
    rw [e3, List.nil_append] at l2
    simp only [x_sSeq, x_sSet, x_eCB, x_aCons, x_eAt, x_eVar, List.getElem?_cons_zero, List.getElem?_cons_succ, varR_ok, kAt_ok, house_names, kC1_ok, x_aNil, kC2_ok, kCB_ok, hl, kSet_ok, kSeq_nx, List.set_cons_succ, List.set_cons_zero, x_sIf, x_tTr, house_chain, kTr_ok, kIf_f, x_sNx, x_sRt, x_eLc2, x_eLc, x_iSeq, x_wipe, x_wipe0, x_iRg2, x_eC, x_eOp, kOp1_ok, kOp2_ok, h_add, kR2_ok, rg_from1 (show ns.length ≤ 50 by omega), kLc2_ok, l, kFin_ok, finL_f, kSq_ok, seqI_lst, kLc_ok, l2, finL_t, kRt_ok, kSeq_rt, kRun_rt, cut_keep]
end DM
end
section
set_option maxRecDepth 100000
set_option maxHeartbeats 4000000
/-! Plain mathematics, part 12: the law's own lots; a spare name. -/
namespace DM
open PySem L2 DL
open PySem.PyData (strOk)
variable {own : List Str}
theorem bel_lots {n : Nat} (ls : List (List Str)) : Bel n (.lst (ls.map tupS)) := by
  refine .lst (belL_iff.mpr fun z hz => ?_)
  obtain ⟨s, _, rfl⟩ := List.mem_map.mp hz
  exact bel_strs s
noncomputable def lotsB : FS := sIf (tTr (eVar 1)) (sEx (eM1 isLst hExt (eVar 2) (eLc false [4] (iRg1 (eOp hAdd (eOp hSub (eCB hLen (aCons (eVar 0) (aNil))) (eVar 3)) (eC (.int 1)))) (gN 4) (tY) (eCB hTuple (aCons (eSl false (eVar 0) (oSo (eVar 4)) (oSo (eOp hAdd (eVar 4) (eVar 3)))) (aNil)))))) (sEx (eM1 isLst hExt (eVar 2) (eLc false [5] (iSeq (eCall 2 (Cm.F__law_b_rows 6) [] (aCons (eVar 3) (aCons (eCB hLen (aCons (eVar 0) (aNil))) (aNil))))) (gN 5) (tY) (eCB hTuple (aCons (eLc false [4] (iSeq (eVar 5)) (gN 4) (tY) (eOp hIx (eVar 0) (eVar 4))) (aNil))))))
theorem b_lots_parts : Cm.b__law_b_lots = sSeq (sSet 2 (eLstM (aNil))) (sSeq (sFor (iRg2 (eC (.int 1)) (eOp hAdd (eCB hLen (aCons (eVar 0) (aNil))) (eC (.int 1)))) (gN 3) lotsB) (sRt (eFrz (eVar 2)))) := rfl
theorem len_lst (m : Mem) (ns : List Str) : hLen [.lst (ns.map .str)] m = .ok (.int ns.length) m := by simp [hLen, seqV, lstV]
theorem b_lots_step {ns : List Str} {ch : Bool} (g : GoodNames ns ch) {s : Nat} (hs : s < ns.length) (m : Mem) {xs : List D} (hx : xs.length + (piece ns ch s).length ≤ sizeLine) :
    lotsB [some (.lst (ns.map .str)), some (.bl ch), some (.mref m.length), some (.int (1 + (s : Nat))), none, none] (m ++ [.lst xs]) = .nx [some (.lst (ns.map .str)), some (.bl ch), some (.mref m.length), some (.int (1 + (s : Nat))), none, none] (m ++ [.lst (xs ++ (piece ns ch s).map tupS)]) := by
  have hle := g.le
  have hz : xs.length + ((piece ns ch s).map tupS).length ≤ sizeLine := by rw [List.length_map]; exact hx
  unfold lotsB
  cases ch with
  | true =>
    simp at hle
    have l := lcm (fg := gN 4) (fe := eCB hTuple (aCons (eSl false (eVar 0) (oSo (eVar 4)) (oSo (eOp hAdd (eVar 4) (eVar 3)))) (aNil))) (ρ := [some (.lst (ns.map .str)), some (.bl true), some (.mref m.length), some (.int (1 + (s : Nat))), none, none]) (m := m ++ [.lst xs])
      (fun a : Nat => .int (0 + (a : Nat))) (fun a => tupS ((ns.drop a).take (s + 1))) (List.range (ns.length - s)) [] (fun a ha => by
        have ha := List.mem_range.mp ha
        refine ⟨[some (.lst (ns.map .str)), some (.bl true), some (.mref m.length), some (.int (1 + (s : Nat))), some (.int (0 + (a : Nat))), none], rfl, ?_⟩
        have e : hSl false (.lst (ns.map .str)) (some (0 + (a : Nat))) (some (0 + (a : Nat) + (1 + (s : Nat)))) (m ++ [.lst xs]) = .ok (.lst (((ns.drop a).take (s + 1)).map .str)) (m ++ [.lst xs]) := by
          rw [← cut_part (show a + s < ns.length by omega)]
          rfl
        simp only [x_eCB, x_aCons, x_eSl, x_eVar, List.getElem?_cons_zero, List.getElem?_cons_succ, varR_ok, kSl1_ok, x_oSo, kSo_ok, kSl2_ok, x_eOp, kOp1_ok, kOp2_ok, h_add, kSl3_ok, e, kC1_ok, x_aNil, kC2_ok, kCB_ok, hTuple, lstV]
        rfl)
    have e2 : (List.range (ns.length - s)).map (fun a => tupS ((ns.drop a).take (s + 1))) = (piece ns true s).map tupS := by
      simp [piece, List.map_map, Function.comp_def]
    rw [e2, List.nil_append] at l
    simp only [x_sIf, x_tTr, x_eVar, List.getElem?_cons_zero, List.getElem?_cons_succ, varR_ok, kTr_ok, kIf_t, x_sEx, x_eM1, kM1_ok, isLst_last, if_true, x_eLc, x_wipe, x_wipe0, List.set_cons_succ, List.set_cons_zero, x_iRg1, x_eOp, x_eCB, x_aCons, kC1_ok, x_aNil, kC2_ok, kCB_ok, len_lst, kOp1_ok, kOp2_ok, h_sub, x_eC, h_add, rg_left hs (show ns.length ≤ 50 by omega), kLc_ok, l, kFin_ok, finL_f, kM2_ok, ext_last m xs _ hz, kEx_ok]
  | false =>
    simp at hle
    have l := lcm (fg := gN 5) (fe := eCB hTuple (aCons (eLc false [4] (iSeq (eVar 5)) (gN 4) (tY) (eOp hIx (eVar 0) (eVar 4))) (aNil))) (ρ := [some (.lst (ns.map .str)), some (.bl false), some (.mref m.length), some (.int (1 + (s : Nat))), none, none]) (m := m ++ [.lst xs])
      rowD (fun r => tupS (lotOf ns r)) (rows ns.length (s + 1)) [] (fun r hr => by
        have hlt := rows_lt hr
        refine ⟨[some (.lst (ns.map .str)), some (.bl false), some (.mref m.length), some (.int (1 + (s : Nat))), none, some (rowD r)], rfl, ?_⟩
        have l3 := lcm (fg := gN 4) (fe := eOp hIx (eVar 0) (eVar 4)) (ρ := [some (.lst (ns.map .str)), some (.bl false), some (.mref m.length), some (.int (1 + (s : Nat))), none, some (rowD r)]) (m := m ++ [.lst xs])
          (fun i : Nat => .int (i : Nat)) (fun i => .str (ns.getD i Str.empty)) r [] (fun i hi => by
            refine ⟨[some (.lst (ns.map .str)), some (.bl false), some (.mref m.length), some (.int (1 + (s : Nat))), some (.int (i : Nat)), some (rowD r)], rfl, ?_⟩
            simp only [x_eOp, x_eVar, List.getElem?_cons_zero, List.getElem?_cons_succ, varR_ok, kOp1_ok, kOp2_ok, (ix_name (hlt i hi) _).2])
        rw [row_names hlt, List.nil_append] at l3
        have sq : seqI (rowD r) (m ++ [.lst xs]) = .ok (r.map fun i => D.int ((i : Nat) : Int)) (m ++ [.lst xs]) := rfl
        simp only [x_eCB, x_aCons, x_eLc, x_iSeq, x_eVar, List.getElem?_cons_zero, List.getElem?_cons_succ, varR_ok, kSq_ok, sq, x_wipe, x_wipe0, List.set_cons_succ, List.set_cons_zero, kLc_ok, l3, kFin_ok, finL_f, kC1_ok, x_aNil, kC2_ok, kCB_ok, hTuple, lstV]
        rfl)
    have e2 : (rows ns.length (s + 1)).map (fun r => tupS (lotOf ns r)) = (piece ns false s).map tupS := by
      simp [piece, List.map_map, Function.comp_def]
    rw [e2, List.nil_append] at l
    have e := b_rows_ok (n := ns.length) (by omega) (s + 1) 6 (m ++ [.lst xs]) (by omega) (by omega)
    have e1 : ((s + 1 : Nat) : Int) = 1 + (s : Nat) := by omega
    rw [e1] at e
    have h2 : ([D.int (1 + (s : Nat)), D.int ns.length] : List D).length = 2 := rfl
    simp only [x_sIf, x_tTr, x_eVar, List.getElem?_cons_zero, List.getElem?_cons_succ, varR_ok, kTr_ok, kIf_f, x_sEx, x_eM1, kM1_ok, isLst_last, if_true, x_eLc, x_wipe, x_wipe0, List.set_cons_succ, List.set_cons_zero, x_iSeq, x_eCall, x_eCB, x_aCons, kC1_ok, x_aNil, kC2_ok, kCB_ok, len_lst, kCall_ok, List.append_nil, if_pos h2, e, kSq_ok, seqI_lst, kLc_ok, l, kFin_ok, finL_f, kM2_ok, ext_last m xs _ hz, kEx_ok]
theorem piece_few {ns : List Str} {ch : Bool} (g : GoodNames ns ch) : (lotsL ns ch).length ≤ 100 := by
  have hle := g.le
  cases ch with
  | true =>
    have h := few_chain ns.length (by simp at hle; omega)
    have e : (lotsL ns true).length = ((List.range ns.length).flatMap fun s => List.range (ns.length - s)).length := by
      simp [lotsL, piece, List.length_flatMap]
    omega
  | false =>
    have h := few_rows ns.length (by simp at hle; omega)
    have e : (lotsL ns false).length = ((List.range ns.length).flatMap fun s => rows ns.length (s + 1)).length := by
      simp [lotsL, piece, List.length_flatMap]
    omega
theorem b_lots_ok {ns : List Str} {ch : Bool} (g : GoodNames ns ch) (m : Mem) : Cm.F__law_b_lots [.lst (ns.map .str), .bl ch] m = .ok (.lst ((lotsL ns ch).map tupS)) m := by
  have hle := g.le
  have hn : ns.length ≤ 12 := by split at hle <;> omega
  obtain ⟨ρ', m', e, rfl, a, rfl⟩ := for_st (fg := gN 3) (fb := lotsB) (I := fun i ρ m' => m' = m ++ [.lst ((((List.range ns.length).take i).flatMap (piece ns ch)).map tupS)] ∧ ∃ a, ρ = [some (.lst (ns.map .str)), some (.bl ch), some (.mref m.length), a, none, none])
    ((List.range ns.length).map fun s : Nat => D.int (1 + (s : Nat))) 0 [some (.lst (ns.map .str)), some (.bl ch), some (.mref m.length), none, none, none] (m ++ [.lst []]) ⟨by simp, none, rfl⟩ (fun i x hx ρ m' hI => by
      obtain ⟨rfl, a, rfl⟩ := hI
      rw [List.getElem?_map] at hx
      obtain ⟨s, hr, rfl⟩ := Option.map_eq_some_iff.mp hx
      obtain ⟨h3, h4⟩ := List.getElem?_eq_some_iff.mp hr
      simp at h3 h4
      subst h4
      simp only [Nat.zero_add]
      have hlen : (((List.range ns.length).take i).flatMap (piece ns ch)).length + (piece ns ch i).length ≤ 100 := by
        have h1 : ((List.range ns.length).take (i + 1)).flatMap (piece ns ch) ++ ((List.range ns.length).drop (i + 1)).flatMap (piece ns ch) = lotsL ns ch := by
          rw [← List.flatMap_append, List.take_append_drop]; rfl
        have h2 := congrArg List.length h1
        rw [flat_take _ _ i i hr, List.length_append, List.length_append] at h2
        have := piece_few g
        omega
      have st := b_lots_step g h3 m (xs := (((List.range ns.length).take i).flatMap (piece ns ch)).map tupS) (by
        rw [List.length_map]
        exact Nat.le_trans hlen (by decide))
      refine ⟨_, _, _, _, rfl, st, ?_, _, rfl⟩
      rw [flat_take _ _ i i hr, List.map_append])
  simp only [Nat.zero_add, List.length_map, List.length_range] at e
  have e5 : ((List.range ns.length).take ns.length).flatMap (piece ns ch) = lotsL ns ch := by
    rw [List.take_of_length_le (by simp)]
    rfl
  rw [e5] at e
  unfold Cm.F__law_b_lots
  rw [x_runF, show startD 6 [D.lst (ns.map .str), D.bl ch] = [some (.lst (ns.map .str)), some (.bl ch), none, none, none, none] from rfl, b_lots_parts]
  have z0 : ([] : List D).length ≤ sizeLine := Nat.zero_le _
  simp only [x_sSeq, x_sSet, x_eLstM, x_aNil, kLsM_ok, if_pos z0, kSet_ok, kSeq_nx, List.set_cons_succ, List.set_cons_zero, x_sFor, x_iRg2, x_eC, x_eOp, x_eCB, x_aCons, x_eVar, List.getElem?_cons_zero, List.getElem?_cons_succ, varR_ok, kC1_ok, kC2_ok, kCB_ok, len_lst, kOp1_ok, kOp2_ok, h_add, kR2_ok, rg_from1 (show ns.length ≤ 50 by omega), kFor_ok, e, x_sRt, x_eFrz, kFrz_ok, frz_last, kRt_ok, kRun_rt, cut_last m _ (bel_lots _)]
/-! ### a spare name -/
def zS : List Str := ("zyxwvutsrqponmlkjihg" : Str).cps.toList.map fun c => ("z" : Str) ++ (⟨#[c]⟩ : Str)
theorem zS_len : zS.length = 20 := by decide +kernel
theorem zS_nodup : zS.Nodup := by decide +kernel
theorem zS_name : ∀ s ∈ zS, IsName s := by decide +kernel
theorem spare_ok {ns : List Str} (h : ns.length < 20) : ∃ s, (∀ m, Cm.F__law_spare [.lst (ns.map .str)] m = .ok (.str s) m) ∧ IsName s ∧ s ∉ ns := by
  have hex : ∃ s ∈ zS, s ∉ ns := by
    apply Classical.byContradiction
    intro hc
    have h2 := len_le (l' := ns) zS_nodup fun x hx => Classical.byContradiction fun hx2 => hc ⟨x, hx, hx2⟩
    rw [zS_len] at h2
    omega
  obtain ⟨s, r, e, h1, h2⟩ := first_free hex
  refine ⟨s, fun m => ?_, zS_name s h1, h2⟩
  have l1 : lcGo (gN 2) tY (eOp hAdd (eC (.str "z")) (eVar 2)) [some (.lst (ns.map .str)), none, none] (("zyxwvutsrqponmlkjihg" : Str).cps.toList.map fun c => D.str ⟨#[c]⟩) [] m = .ok (zS.map .str) m := by
    rw [lcm (fun c : Nat => D.str ⟨#[c]⟩) (fun c => D.str (("z" : Str) ++ (⟨#[c]⟩ : Str)))]
    · unfold zS
      rw [List.map_map, List.nil_append]
      rfl
    · intro c hc
      refine ⟨[some (.lst (ns.map .str)), none, some (.str ⟨#[c]⟩)], rfl, ?_⟩
      have z : ("z" : Str).length + (⟨#[c]⟩ : Str).length ≤ sizeLine := by
        rw [show ("z" : Str).length = 1 by decide +kernel, show (⟨#[c]⟩ : Str).length = 1 from rfl]
        decide
      simp only [x_eOp, x_eC, kOp1_ok, x_eVar, List.getElem?_cons_zero, List.getElem?_cons_succ, varR_ok, kOp2_ok, h_addS, if_pos z]
  have l2 : lcGo (gN 1) (tTr (eOp (hIn true) (eVar 1) (eVar 0))) (eVar 1) [some (.lst (ns.map .str)), none, none] (zS.map .str) [] m = .ok ((s :: r).map .str) m := by
    rw [lc_pure (fun d => match d with | .str s => !decide (s ∈ ns) | _ => false) id]
    · rw [List.map_id, List.nil_append, List.filter_map, ← e]
      rfl
    · intro x hx
      obtain ⟨z, _, rfl⟩ := List.mem_map.mp hx
      refine ⟨_, rfl, ?_, fun _ => by simp⟩
      have e5 : seqV m (.lst (ns.map .str)) = some (ns.map .str) := rfl
      simp [seq_strs ns z e5]
  have z2 : ("zyxwvutsrqponmlkjihg" : Str).length ≤ sizeLine := by rw [show ("zyxwvutsrqponmlkjihg" : Str).length = 20 by decide +kernel]; decide
  unfold Cm.F__law_spare
  rw [x_runF, show startD 3 [D.lst (ns.map .str)] = [some (.lst (ns.map .str)), none, none] from rfl]
  unfold Cm.b__law_spare
  have e6 : hIx (.lst ((s :: r).map .str)) (.int 0) m = .ok (.str s) m := by simp [hIx, seqV, lstV, atI, ixN]
  simp only [x_sRt, x_eOp, x_eLc, x_iSeq, x_eC, kSq_ok, seqI_str, if_pos z2, x_wipe, x_wipe0, List.set_cons_succ, List.set_cons_zero, kLc_ok, l1, kFin_ok, finL_f, seqI_lst, l2, kOp1_ok, kOp2_ok, e6, kRt_ok, kRun_rt]
  rw [cut_same _ _ _ rfl]
end DM
end
section
set_option maxRecDepth 100000
set_option maxHeartbeats 4000000
/-! Plain mathematics, part 13: some more operators. -/
namespace DM
open PySem L2 DL
theorem rep_flat (d : D) : ∀ k : Nat, (List.replicate k [d]).flatten = List.replicate k d
  | 0 => rfl
  | k + 1 => by rw [List.replicate_succ, List.flatten_cons, rep_flat d k, List.replicate_succ]; rfl
theorem h_rep {k : Nat} (hk : k ≤ 100) (d : D) (m : Mem) : hMul (.lst [d]) (.int k) m = .ok (.lst (List.replicate k d)) m := by
  have c : -(2 ^ 63) ≤ (k : Int) ∧ (k : Int) < 2 ^ 63 ∧ ([d] : List D).length * (k : Int).toNat ≤ sizeLine := by
    refine ⟨by omega, by omega, ?_⟩
    have : (100 : Nat) ≤ sizeLine := by decide
    simp
    omega
  have e : hMul (.lst [d]) (.int k) m = if -(2 ^ 63) ≤ (k : Int) ∧ (k : Int) < 2 ^ 63 ∧ ([d] : List D).length * (k : Int).toNat ≤ sizeLine then .ok (.lst (List.replicate (k : Int).toNat [d]).flatten) m else .bad := Eq.trans rfl rfl
  rw [e, if_pos c]
  rw [Int.toNat_natCast, rep_flat]
theorem h_rep' {k : Nat} (hk : k ≤ 100) {j : Int} (hj : j = k) (d : D) (m : Mem) : hMul (.lst [d]) (.int j) m = .ok (.lst (List.replicate k d)) m := by rw [hj]; exact h_rep hk d m
theorem ix_head (m : Mem) (d : D) (ds : List D) : hIx (.lst (d :: ds)) (.int 0) m = .ok d m := by simp [hIx, seqV, lstV, atI, ixN]
theorem IsName.not_empty {s : Str} (h : IsName s) : s ≠ ("" : Str) := fun e => by
  have h1 := h.1
  rw [e, show ("" : Str).length = 0 by decide +kernel] at h1
  omega
theorem not_A : ¬ IsName ("A" : Str) := by decide +kernel
end DM
end
section
set_option maxRecDepth 100000
set_option maxHeartbeats 4000000
/-! Plain mathematics, part 14: slices of lists of names. -/
namespace DM
open PySem L2 DL
theorem sl_take (ns : List Str) (k : Nat) (m : Mem) : hSl false (.lst (ns.map .str)) none (some (k : Nat)) m = .ok (.lst ((ns.take k).map .str)) m := by
  have e : cutD (ns.map .str) none (some (k : Nat)) = (ns.take k).map .str := by
    unfold cutD
    rw [HT.sIx_none, HT.sIx_nat, List.drop_zero, Nat.sub_zero, List.length_map, List.map_take]
    by_cases h : k ≤ ns.length
    · rw [Nat.min_eq_left h]
    · rw [Nat.min_eq_right (by omega), List.take_of_length_le (by simp), List.take_of_length_le (by simp; omega)]
  show Res.ok (D.lst (cutD _ _ _)) m = _
  rw [e]
theorem sl_drop (ns : List Str) (k : Nat) (m : Mem) : hSl false (.lst (ns.map .str)) (some (k : Nat)) none m = .ok (.lst ((ns.drop k).map .str)) m := by
  have e : cutD (ns.map .str) (some (k : Nat)) none = (ns.drop k).map .str := by
    unfold cutD
    rw [HT.sIx_none, HT.sIx_nat, List.length_map, List.map_drop]
    by_cases h : k ≤ ns.length
    · rw [Nat.min_eq_left h, List.take_of_length_le (by simp)]
    · rw [Nat.min_eq_right (by omega), List.drop_of_length_le (by simp), List.drop_of_length_le (by simp; omega)]
      simp
  show Res.ok (D.lst (cutD _ _ _)) m = _
  rw [e]
/-- the last k -/
theorem sl_last (ns : List Str) (k : Nat) (hk : 0 < k) (m : Mem) : hSl false (.lst (ns.map .str)) (some (-(k : Nat))) none m = .ok (.lst ((ns.drop (ns.length - k)).map .str)) m := by
  have e : cutD (ns.map .str) (some (-(k : Nat))) none = (ns.drop (ns.length - k)).map .str := by
    unfold cutD
    have e1 : HT.sIx (ns.map D.str).length 0 (some (-(k : Nat))) = ns.length - k := by
      show (if (-(k : Nat) : Int) < 0 then ((-(k : Nat) : Int) + ((ns.map D.str).length : Int)).toNat else _) = _
      rw [if_pos (by omega), List.length_map]
      omega
    rw [HT.sIx_none, e1, List.length_map, List.map_drop, List.take_of_length_le (by simp)]
  show Res.ok (D.lst (cutD _ _ _)) m = _
  rw [e]
/-- all but the last k -/
theorem sl_init (ns : List Str) (k : Nat) (hk : 0 < k) (m : Mem) : hSl false (.lst (ns.map .str)) none (some (-(k : Nat))) m = .ok (.lst ((ns.take (ns.length - k)).map .str)) m := by
  have e : cutD (ns.map .str) none (some (-(k : Nat))) = (ns.take (ns.length - k)).map .str := by
    unfold cutD
    have e1 : HT.sIx (ns.map D.str).length (ns.map D.str).length (some (-(k : Nat))) = ns.length - k := by
      show (if (-(k : Nat) : Int) < 0 then ((-(k : Nat) : Int) + ((ns.map D.str).length : Int)).toNat else _) = _
      rw [if_pos (by omega), List.length_map]
      omega
    rw [HT.sIx_none, e1, List.drop_zero, Nat.sub_zero, List.map_take]
  show Res.ok (D.lst (cutD _ _ _)) m = _
  rw [e]
theorem rev_names (ns : List Str) (m : Mem) : hRev (.lst (ns.map .str)) m = .ok (.lst (ns.reverse.map .str)) m := by
  simp [hRev, lstV, List.map_reverse]
end DM
end
section
set_option maxRecDepth 100000
set_option maxHeartbeats 4000000
/-! Plain mathematics, part 15: lots as rows of places. -/
namespace DM
open PySem L2 DL
def idxP (n : Nat) (ch : Bool) (s : Nat) : List (List Nat) := if ch then (List.range (n - s)).map fun a => List.range' a (s + 1) else rows n (s + 1)
def idxL (n : Nat) (ch : Bool) : List (List Nat) := (List.range n).flatMap (idxP n ch)
def asc (n : Nat) (r : List Nat) : Bool := decide ((List.range n).filter (fun i => r.contains i) = r) && !r.isEmpty
def lenSorted : List (List Nat) → Bool
  | [] => true
  | r :: rs => rs.all (fun s => decide (r.length ≤ s.length)) && lenSorted rs
theorem idx_f : ∀ n, n < 6 → (idxL n false).Nodup ∧ (∀ r ∈ idxL n false, asc n r = true) ∧ lenSorted (idxL n false) = true := by decide +kernel
theorem idx_t : ∀ n, n < 13 → (idxL n true).Nodup ∧ (∀ r ∈ idxL n true, asc n r = true) ∧ lenSorted (idxL n true) = true := by decide +kernel
theorem asc_lt {n : Nat} {r : List Nat} (h : asc n r = true) : ∀ i ∈ r, i < n := by
  unfold asc at h
  rw [Bool.and_eq_true, decide_eq_true_eq] at h
  intro i hi
  rw [← h.1, List.mem_filter] at hi
  exact List.mem_range.mp hi.1
theorem asc_filter {n : Nat} {r : List Nat} (h : asc n r = true) : (List.range n).filter (fun i => decide (i ∈ r)) = r := by
  unfold asc at h
  rw [Bool.and_eq_true, decide_eq_true_eq] at h
  have e : (List.range n).filter (fun i => decide (i ∈ r)) = (List.range n).filter (fun i => r.contains i) := List.filter_congr fun i _ => by simp
  rw [e]
  exact h.1
theorem asc_ne {n : Nat} {r : List Nat} (h : asc n r = true) : r ≠ [] := by
  unfold asc at h
  rw [Bool.and_eq_true] at h
  intro e
  rw [e] at h
  simp at h
structure IdxOk (n : Nat) (ch : Bool) : Prop where
  nd : (idxL n ch).Nodup
  asc : ∀ r ∈ idxL n ch, asc n r = true
  srt : lenSorted (idxL n ch) = true
theorem GoodNames.idx {ns : List Str} {ch : Bool} (g : GoodNames ns ch) : IdxOk ns.length ch := by
  have hle := g.le
  cases ch with
  | true => obtain ⟨a, b, c⟩ := idx_t ns.length (by simp at hle; omega); exact ⟨a, b, c⟩
  | false => obtain ⟨a, b, c⟩ := idx_f ns.length (by simp at hle; omega); exact ⟨a, b, c⟩
theorem piece_idx (ns : List Str) (ch : Bool) {s : Nat} : piece ns ch s = (idxP ns.length ch s).map (lotOf ns) := by
  unfold piece idxP
  cases ch with
  | false => rfl
  | true =>
    simp only [if_true]
    rw [List.map_map]
    refine List.map_congr_left fun a ha => ?_
    have hl := List.mem_range.mp ha
    unfold Function.comp lotOf
    apply List.ext_getElem?
    intro i
    rw [List.getElem?_take, List.getElem?_map, List.getElem?_drop]
    by_cases hi : i < s + 1
    · rw [if_pos hi, List.getElem?_range' hi]
      simp only [Option.map_some, Nat.one_mul]
      rw [List.getElem?_eq_getElem (by omega), List.getD_eq_getElem?_getD, List.getElem?_eq_getElem (by omega)]
      rfl
    · rw [if_neg hi, List.getElem?_eq_none (by simp; omega)]
      rfl
theorem lots_idx (ns : List Str) (ch : Bool) : lotsL ns ch = (idxL ns.length ch).map (lotOf ns) := by
  unfold lotsL idxL
  rw [List.map_flatMap]
  congr 1
  funext s
  exact piece_idx ns ch
section
variable {ns : List Str} {ch : Bool} (g : GoodNames ns ch)
include g
theorem getD_inj {i j : Nat} (hi : i < ns.length) (hj : j < ns.length) (e : ns.getD i Str.empty = ns.getD j Str.empty) : i = j := by
  rw [List.getD_eq_getElem?_getD, List.getD_eq_getElem?_getD, List.getElem?_eq_getElem hi, List.getElem?_eq_getElem hj] at e
  exact (List.getElem_inj g.nd).mp e
theorem mem_lotOf {r : List Nat} (hr : ∀ i ∈ r, i < ns.length) {i : Nat} (hi : i < ns.length) : ns.getD i Str.empty ∈ lotOf ns r ↔ i ∈ r := by
  unfold lotOf
  rw [List.mem_map]
  constructor
  · rintro ⟨j, hj, e⟩
    have := getD_inj g (hr j hj) hi e
    rw [← this]; exact hj
  · exact fun h => ⟨i, h, rfl⟩
theorem lotOf_inj {r r' : List Nat} (hr : ∀ i ∈ r, i < ns.length) (hr' : ∀ i ∈ r', i < ns.length) (e : lotOf ns r = lotOf ns r') : r = r' := by
  induction r generalizing r' with
  | nil =>
    cases r' with
    | nil => rfl
    | cons _ _ => simp [lotOf] at e
  | cons a r ih =>
    cases r' with
    | nil => simp [lotOf] at e
    | cons b r' =>
      simp only [lotOf, List.map_cons, List.cons.injEq] at e
      rw [getD_inj g (hr a (by simp)) (hr' b (by simp)) e.1, ih (fun i hi => hr i (by simp [hi])) (fun i hi => hr' i (by simp [hi])) e.2]
theorem lots_nd : (lotsL ns ch).Nodup := by
  rw [lots_idx]
  have I := g.idx
  unfold List.Nodup
  rw [List.pairwise_map]
  refine (List.Pairwise.imp_of_mem ?_ I.nd)
  intro a b ha hb hab e
  exact hab (lotOf_inj g (asc_lt (I.asc a ha)) (asc_lt (I.asc b hb)) e)
theorem names_map : ns = (List.range ns.length).map fun i => ns.getD i Str.empty := by
  apply List.ext_getElem?
  intro i
  rw [List.getElem?_map]
  by_cases h : i < ns.length
  · rw [List.getElem?_range h, List.getElem?_eq_getElem h]
    simp [List.getD_eq_getElem?_getD, List.getElem?_eq_getElem h]
  · rw [List.getElem?_eq_none (by omega), List.getElem?_eq_none (by simp; omega)]
    rfl
/-- a lot as what is left of the names -/
theorem lot_filter {l : List Str} (hl : l ∈ lotsL ns ch) : ns.filter (fun x => decide (x ∈ l)) = l := by
  rw [lots_idx] at hl
  obtain ⟨r, hr, rfl⟩ := List.mem_map.mp hl
  have A := g.idx.asc r hr
  have gen : ∀ p : Str → Bool, ns.filter p = ((List.range ns.length).filter (p ∘ fun i => ns.getD i Str.empty)).map fun i => ns.getD i Str.empty := fun p => by
    conv => lhs; rw [names_map g]
    rw [List.filter_map]
  have e1 : ns.filter (fun x => decide (x ∈ lotOf ns r)) = ((List.range ns.length).filter fun i => decide (i ∈ r)).map fun i => ns.getD i Str.empty := by
    rw [gen]
    congr 1
    exact List.filter_congr fun i hi => decide_eq_decide.mpr (mem_lotOf g (asc_lt A) (List.mem_range.mp hi))
  rw [e1, asc_filter A]
  rfl
theorem lot_ne {l : List Str} (hl : l ∈ lotsL ns ch) : l ≠ [] := by
  rw [lots_idx] at hl
  obtain ⟨r, hr, rfl⟩ := List.mem_map.mp hl
  have := asc_ne (g.idx.asc r hr)
  intro e
  exact this (by simpa [lotOf] using e)
theorem lot_sub {l : List Str} (hl : l ∈ lotsL ns ch) : ∀ x ∈ l, x ∈ ns := fun x hx => by
  rw [← lot_filter g hl] at hx
  exact (List.mem_filter.mp hx).1
theorem lot_names {l : List Str} (hl : l ∈ lotsL ns ch) : ∀ x ∈ l, IsName x := fun x hx => g.nm x (lot_sub g hl x hx)
theorem lot_len {l : List Str} (hl : l ∈ lotsL ns ch) : l.length ≤ 12 := by
  have h := congrArg List.length (lot_filter g hl)
  have h2 := List.length_filter_le (fun x => decide (x ∈ l)) ns
  have h3 := g.le
  split at h3 <;> omega
theorem lots_few : (lotsL ns ch).length ≤ 100 := piece_few g
theorem lot_chain (hc : ch = true) {l : List Str} (hl : l ∈ lotsL ns ch) : ∃ a, a + l.length ≤ ns.length ∧ (ns.drop a).take l.length = l := by
  subst hc
  obtain ⟨s, hs, h2⟩ := List.mem_flatMap.mp hl
  unfold piece at h2
  simp only [if_true] at h2
  obtain ⟨a, ha, rfl⟩ := List.mem_map.mp h2
  have := List.mem_range.mp ha
  have hlen : ((ns.drop a).take (s + 1)).length = s + 1 := by rw [List.length_take, List.length_drop]; omega
  refine ⟨a, by rw [hlen]; omega, by rw [hlen]⟩
end
end DM
end
section
set_option maxRecDepth 100000
set_option maxHeartbeats 4000000
/-! Plain mathematics, part 16: how dicts are reckoned with; lots as things. -/
namespace DM
open PySem L2 DL
open PySem.PyData (strOk)
/-! ### rewriting rules -/
def kKy (r : Res D) : Res (List D) := r.bind fun x m => keysI x m
@[simp] theorem kKy_ok (x : D) (m : Mem) : kKy (.ok x m) = keysI x m := Eq.trans rfl rfl
def kItm (r : Res D) : Res (List D) := r.bind fun x m => itemsI x m
@[simp] theorem kItm_ok (x : D) (m : Mem) : kItm (.ok x m) = itemsI x m := Eq.trans rfl rfl
def kVls (r : Res D) : Res (List D) := r.bind fun x m => valsI x m
@[simp] theorem kVls_ok (x : D) (m : Mem) : kVls (.ok x m) = valsI x m := Eq.trans rfl rfl
@[simp] theorem keysI_dT (kvs : List (List Key × D)) (m : Mem) : keysI (.dT kvs) m = .ok (kvs.map fun p => .tup (p.1.map keyD)) m := Eq.trans rfl rfl
@[simp] theorem itemsI_dT (kvs : List (List Key × D)) (m : Mem) : itemsI (.dT kvs) m = .ok (kvs.map fun p => .tup [.tup (p.1.map keyD), p.2]) m := Eq.trans rfl rfl
@[simp] theorem valsI_dT (kvs : List (List Key × D)) (m : Mem) : valsI (.dT kvs) m = .ok (kvs.map (·.2)) m := Eq.trans rfl rfl
theorem keysI_lk {i : Nat} {m : Mem} {kvs : List (List Key × D)} (h : m[i]? = some (.lkT kvs)) : keysI (.mref i) m = .ok (kvs.map fun p => .tup (p.1.map keyD)) m := by simp only [keysI, dicW, h]
theorem itemsI_lk {i : Nat} {m : Mem} {kvs : List (List Key × D)} (h : m[i]? = some (.lkT kvs)) : itemsI (.mref i) m = .ok (kvs.map fun p => .tup [.tup (p.1.map keyD), p.2]) m := by simp only [itemsI, dicW, h]
theorem valsI_lk {i : Nat} {m : Mem} {kvs : List (List Key × D)} (h : m[i]? = some (.lkT kvs)) : valsI (.mref i) m = .ok (kvs.map (·.2)) m := by simp only [valsI, dicW, h]
def kDG3 (x y : D) (r : Res D) : Res D := r.bind fun z m => dGet2 x y z m
@[simp] theorem kDG3_ok (x y z : D) (m : Mem) : kDG3 x y (.ok z m) = dGet2 x y z m := Eq.trans rfl rfl
def kDG2 (x : D) (b : FE) (ρ : EnvD) (r : Res D) : Res D := r.bind fun y m => kDG3 x y (b ρ m)
@[simp] theorem kDG2_ok (x : D) (b : FE) (ρ : EnvD) (y : D) (m : Mem) : kDG2 x b ρ (.ok y m) = kDG3 x y (b ρ m) := Eq.trans rfl rfl
def kDG1 (a b : FE) (ρ : EnvD) (r : Res D) : Res D := r.bind fun x m1 => if isDc m1 x = true then kDG2 x b ρ (a ρ m1) else .bad
theorem kDG1_ok (a b : FE) (ρ : EnvD) (x : D) (m : Mem) (h : isDc m x = true) : kDG1 a b ρ (.ok x m) = kDG2 x b ρ (a ρ m) := by unfold kDG1; simp [h]
@[simp] theorem kDG1_dT (a b : FE) (ρ : EnvD) (kvs : List (List Key × D)) (m : Mem) : kDG1 a b ρ (.ok (.dT kvs) m) = kDG2 (.dT kvs) b ρ (a ρ m) := kDG1_ok _ _ _ _ _ rfl
def kDx2 (x d : D) (ρ : EnvD) (r : Res D) : Res EnvD := r.bind fun y m2 => match dPut x y d m2 with
  | some m3 => .ok ρ m3
  | none => .bad
theorem kDx2_ok (x d : D) (ρ : EnvD) (y : D) (m : Mem) {m3 : Mem} (h : dPut x y d m = some m3) : kDx2 x d ρ (.ok y m) = .ok ρ m3 := by unfold kDx2; simp [h]
def kDx1 (fi : FE) (d : D) (ρ : EnvD) (r : Res D) : Res EnvD := r.bind fun x m => kDx2 x d ρ (fi ρ m)
@[simp] theorem kDx1_ok (fi : FE) (d : D) (ρ : EnvD) (x : D) (m : Mem) : kDx1 fi d ρ (.ok x m) = kDx2 x d ρ (fi ρ m) := Eq.trans rfl rfl
section
variable (ρ : EnvD) (m : Mem)
@[simp] theorem x_iKy (a : FE) : iKy a ρ m = kKy (a ρ m) := Eq.trans rfl rfl
@[simp] theorem x_iIt (a : FE) : iIt a ρ m = kItm (a ρ m) := Eq.trans rfl rfl
@[simp] theorem x_iVl (a : FE) : iVl a ρ m = kVls (a ρ m) := Eq.trans rfl rfl
@[simp] theorem x_eDGet2 (o a b : FE) : eDGet2 o a b ρ m = kDG1 a b ρ (o ρ m) := Eq.trans rfl rfl
@[simp] theorem x_gDx (fo fi : FE) (d : D) : gDx fo fi d ρ m = kDx1 fi d ρ (fo ρ m) := Eq.trans rfl rfl
@[simp] theorem x_eD0T : eD0T ρ m = .ok (.mref m.length) (m ++ [.dT []]) := Eq.trans rfl rfl
@[simp] theorem newD_f (kvs : List (List Key × D)) : newD false kvs m = .ok (.dT kvs) m := Eq.trans rfl rfl
@[simp] theorem newD_t (kvs : List (List Key × D)) : newD true kvs m = .ok (.mref m.length) (m ++ [.dT kvs]) := Eq.trans rfl rfl
@[simp] theorem newL_f (xs : List D) : newL false xs m = .ok (.lst xs) m := Eq.trans rfl rfl
end
theorem sLkD_no {i : Nat} {f : FS} {ρ : EnvD} {m : Mem} (h : lkAtD ρ m i = none) : sLkD i f ρ m = f ρ m := by unfold sLkD; rw [h]
theorem sLkD_yes {i j : Nat} {f : FS} {ρ : EnvD} {m : Mem} {kvs : List (List Key × D)} (h : lkAtD ρ m i = some (j, kvs)) : sLkD i f ρ m = unlkDS j kvs (f ρ (m.set j (.lkT kvs))) := by unfold sLkD; rw [h]
theorem eLkD_yes {i j : Nat} {f : FE} {ρ : EnvD} {m : Mem} {kvs : List (List Key × D)} (h : lkAtD ρ m i = some (j, kvs)) : eLkD i f ρ m = unlkD j kvs (f ρ (m.set j (.lkT kvs))) := by unfold eLkD; rw [h]
theorem lkAtD_of {i j : Nat} {ρ : EnvD} {m : Mem} {kvs : List (List Key × D)} (h1 : ρ[i]? = some (some (.mref j))) (h2 : m[j]? = some (.dT kvs)) : lkAtD ρ m i = some (j, kvs) := by unfold lkAtD; simp only [h1, h2]
theorem lkAtD_dT {i : Nat} {ρ : EnvD} {m : Mem} {kvs : List (List Key × D)} (h1 : ρ[i]? = some (some (.dT kvs))) : lkAtD ρ m i = none := by unfold lkAtD; simp only [h1]
/-! ### keys that are lots -/
abbrev kL (l : List Str) : List Key := l.map .inr
@[simp] theorem keyD_kL (l : List Str) : (kL l).map keyD = l.map .str := by simp [kL, keyD]
theorem kL_inj {l l' : List Str} : kL l = kL l' ↔ l = l' := by
  constructor
  · intro h
    have := List.map_inj_right (f := fun x : Str => (Sum.inr x : Key)) (fun a b e => Sum.inr.inj e) |>.mp h
    exact this
  · intro h; rw [h]
theorem names_seq {m : Mem} {ns : List Str} {d : D} (h : NamesAre m ns d) : seqV m d = some (ns.map .str) := by
  cases h with
  | lst => simp [seqV, lstV]
  | tup => simp [seqV]
  | mref hm => simp [seqV, lstV, hm]
theorem filter_strs (p : Str → Bool) (q : D → Bool) (h : ∀ x, q (.str x) = p x) (ns : List Str) : (ns.map D.str).filter q = (ns.filter p).map .str := by
  rw [List.filter_map]
  congr 1
  exact List.filter_congr fun x _ => h x
theorem cut_gen {ns : List Str} {a k : Nat} : cutD (ns.map .str) (some (a : Nat)) (some ((a : Nat) + (k : Nat))) = ((ns.drop a).take k).map .str := by
  unfold cutD
  have e2 : ((a : Nat) : Int) + (k : Nat) = ((a + k : Nat) : Int) := by omega
  rw [e2, HT.sIx_nat, HT.sIx_nat, List.length_map, ← List.map_drop, ← List.map_take]
  congr 1
  by_cases h : a ≤ ns.length
  · rw [Nat.min_eq_left h]
    by_cases h2 : a + k ≤ ns.length
    · rw [Nat.min_eq_left h2]
      congr 1
      omega
    · rw [Nat.min_eq_right (by omega), List.take_of_length_le (by simp), List.take_of_length_le (by simp; omega)]
  · have e3 : ns.drop a = [] := List.drop_eq_nil_of_le (by omega)
    have e4 : ns.drop (min a ns.length) = [] := List.drop_eq_nil_of_le (by omega)
    rw [e3, e4]
    simp
variable {own : List Str}
theorem any_bls {α : Type} (p : α → Bool) (xs : List α) (m : Mem) : hBls (·.any id) [.lst (xs.map fun x => .bl (p x))] m = .ok (.bl (xs.any p)) m := by
  have e : ∀ xs : List α, blsV (xs.map fun x => D.bl (p x)) = some (xs.map p) := by
    intro xs
    induction xs with
    | nil => rfl
    | cons x xs ih => simp [blsV, ih]
  simp only [hBls, lstV, e]
  congr 2
  simp [List.any_map]
theorem all_bls {α : Type} (p : α → Bool) (xs : List α) (m : Mem) : hBls (·.all id) [.lst (xs.map fun x => .bl (p x))] m = .ok (.bl (xs.all p)) m := by
  have e : ∀ xs : List α, blsV (xs.map fun x => D.bl (p x)) = some (xs.map p) := by
    intro xs
    induction xs with
    | nil => rfl
    | cons x xs ih => simp [blsV, ih]
  simp only [hBls, lstV, e]
  congr 2
  simp [List.all_map]
theorem lot_of_ok {ns : List Str} {ch : Bool} (g : GoodNames ns ch) {l l' : List Str} (hl : l ∈ lotsL ns ch) (hs : ∀ x, x ∈ l' ↔ x ∈ l) (hn : l'.length = l.length) {X : D} {m : Mem} (hX : NamesAre m l' X) : Cm.F_Folders_lot_of own [House ns ch, X] m = .ok (tupS l) m := by
  have hz : l.length ≠ 0 := fun e => lot_ne g hl (List.length_eq_zero_iff.mp e)
  have hle := g.le
  have hn12 : ns.length ≤ 12 := by split at hle <;> omega
  have e1 : lcGo (gN 3) (tTr (eOp (hIn false) (eVar 3) (eVar 1))) (eVar 3) [some (House ns ch), some X, none, none, none] (ns.map .str) [] m = .ok (l.map .str) m := by
    rw [lc_pure (fun d => match d with | .str x => decide (x ∈ l') | _ => false) id]
    · rw [List.nil_append, List.map_id, filter_strs (fun x => decide (x ∈ l')) _ (fun _ => rfl)]
      have ef : ns.filter (fun x => decide (x ∈ l')) = l := by
        refine Eq.trans ?_ (lot_filter g hl)
        exact List.filter_congr fun x _ => decide_eq_decide.mpr (hs x)
      rw [ef]
    · intro x hx
      obtain ⟨z, _, rfl⟩ := List.mem_map.mp hx
      exact ⟨_, rfl, by simp [seq_strs l' z (names_seq hX)], fun _ => by simp⟩
  unfold Cm.F_Folders_lot_of
  rw [x_runF, show startD 5 [House ns ch, X] = [some (House ns ch), some X, none, none, none] from rfl]
  unfold Cm.b_Folders_lot_of
  have hle2 : hLen [D.tup (l.map .str)] m = .ok (.int l.length) m := by simp [hLen, seqV]
  cases ch with
  | false => simp [is_list_ok hX, len_names hX, hn, hz, e1, hTuple, lstV, hle2, cut_same, tupS]
  | true =>
    obtain ⟨a, ha, hc⟩ := lot_chain g rfl hl
    have e2 : lcGo (gN 4) tY (eOp (hEqP false) (eSl false (eAt ["Folders"] "names" (eVar 0)) (oSo (eVar 4)) (oSo (eOp hAdd (eVar 4) (eCB hLen (aCons (eVar 2) (aNil)))))) (eVar 2)) [some (House ns true), some X, some (.tup (l.map .str)), none, none] (rgD 0 ns.length) [] m = .ok ((List.range ns.length).map fun i => .bl (decide ((ns.drop i).take l.length = l))) m := by
      unfold rgD
      rw [lcm (fun i : Nat => D.int (0 + (i : Nat))) (fun i : Nat => .bl (decide ((ns.drop i).take l.length = l)))]
      · simp
      · intro i hi
        refine ⟨_, rfl, ?_⟩
        have e3 : hSl false (.tup (ns.map .str)) (some (i : Nat)) (some ((i : Nat) + (l.length : Nat))) m = .ok (.tup (((ns.drop i).take l.length).map .str)) m := by
          simp only [hSl, cut_gen]
        have e4 := h_eqT false (ns := (ns.drop i).take l.length) (ms := l) (fun s hs => (g.nm s (List.mem_of_mem_drop (List.mem_of_mem_take hs))).ok) (fun s hs => (lot_names g hl s hs).ok) m
        simp only [Bool.false_eq_true, if_false] at e4
        simp only [x_eOp, x_eSl, x_eAt, x_eVar, x_oSo, x_eCB, x_aCons, x_aNil, List.getElem?_cons_zero, List.getElem?_cons_succ, List.set_cons_succ, List.set_cons_zero, varR_ok, kAt_ok, house_names, kSl1_ok, kSo_ok, kSl2_ok, kOp1_ok, kC1_ok, kC2_ok, kCB_ok, hle2, kOp2_ok, h_add, kSl3_ok, Int.zero_add, e3, e4]
    have e5 := any_bls (fun i => decide ((ns.drop i).take l.length = l)) (List.range ns.length) m
    have e6 : (List.range ns.length).any (fun i => decide ((ns.drop i).take l.length = l)) = true := by
      rw [List.any_eq_true]
      refine ⟨a, List.mem_range.mpr ?_, by simpa using hc⟩
      omega
    rw [e6] at e5
    have e7 : hLen [D.tup (ns.map .str)] m = .ok (.int ns.length) m := by simp [hLen, seqV]
    have e8 := rg1_small (b := ns.length) (by omega) m
    simp [is_list_ok hX, len_names hX, hn, hz, e1, hTuple, lstV, hle2, cut_same, tupS, e7, e8, e2, e5]
theorem is_whole_int (i : Int) (m : Mem) : Cm.F_is_whole own [.int i] m = .ok (.bl true) m := by
  unfold Cm.F_is_whole
  rw [x_runF, show startD 1 [D.int i] = [some (.int i)] from rfl]
  unfold Cm.b_is_whole
  have t : tagD own m (.int i) = some (.b "int") := rfl
  simp [isi_ty t b_int b_int, isi_ty t b_int b_bool, ans, cut_same]
end DM
end
section
set_option maxRecDepth 100000
set_option maxHeartbeats 4000000
/-! Plain mathematics, part 17: the row of a question. -/
namespace DM
open PySem L2 DL
open PySem.PyData (strOk)
section
variable {κ : Type} [DecidableEq κ]
theorem putT_new {kvs : List (κ × D)} {k : κ} (d : D) (h : k ∉ kvs.map (·.1)) : putT kvs k d = kvs ++ [(k, d)] := by
  unfold putT
  rw [if_neg]
  intro z
  rw [List.any_eq_true] at z
  obtain ⟨p, hp, e⟩ := z
  exact h (by rw [← of_decide_eq_true e]; exact List.mem_map_of_mem hp)
theorem allT_new : ∀ (more acc : List (κ × D)), ((acc ++ more).map (·.1)).Nodup → allT acc more = acc ++ more
  | [], acc, _ => by simp [allT]
  | p :: r, acc, h => by
    have h1 : p.1 ∉ acc.map (·.1) := by
      rw [List.map_append, List.nodup_append] at h
      intro z
      exact h.2.2 _ z p.1 (by simp) rfl
    have e : allT acc (p :: r) = allT (putT acc p.1 p.2) r := rfl
    rw [e, putT_new _ h1, allT_new r]
    · simp
    · simpa using h
theorem allT_nil {kvs : List (κ × D)} (h : (kvs.map (·.1)).Nodup) : allT [] kvs = kvs := by
  have := allT_new kvs [] (by simpa using h)
  simpa using this
end
theorem nodup_kL {α : Type} {as : List α} {f : α → List Str} (h : (as.map f).Nodup) : (as.map fun a => kL (f a)).Nodup := by
  have e : (as.map fun a => kL (f a)) = (as.map f).map kL := by rw [List.map_map]; rfl
  rw [e]
  unfold List.Nodup at *
  rw [List.pairwise_map]
  exact h.imp fun hab z => hab (kL_inj.mp z)
theorem pairsT_lots {α : Type} (f : α → List Str) (v : α → D) : ∀ as : List α, pairsT (as.map fun a => .tup [tupS (f a), v a]) = some (as.map fun a => (kL (f a), v a))
  | [] => rfl
  | a :: as => by
    have h1 : pairT (.tup [tupS (f a), v a]) = some (kL (f a), v a) := by simp [pairT, tupS, keysV_strs]
    simp only [List.map_cons, pairsT, h1, pairsT_lots f v as]
theorem dict_lots {α : Type} (mu : Bool) (f : α → List Str) (v : α → D) {as : List α} (h : (as.map f).Nodup) (m : Mem) : hDict mu [.lst (as.map fun a => .tup [tupS (f a), v a])] m = newD mu (as.map fun a => (kL (f a), v a)) m := by
  have e := pairsT_lots f v as
  have e2 : allT [] (as.map fun a => (kL (f a), v a)) = as.map fun a => (kL (f a), v a) := allT_nil (by rw [List.map_map]; exact nodup_kL h)
  simp only [hDict, lstV, e, e2]
/-- by lots -/
def at0 (ps : List (List Str × Int)) (l : List Str) : Option Int := (ps.find? fun p => decide (p.1 = l)).map (·.2)
theorem valD_lots {α : Type} (f : α → List Str) (v : α → D) (l : List Str) : ∀ as : List α, valD (as.map fun a => (kL (f a), v a)) (kL l) = (as.find? fun a => decide (f a = l)).map v
  | [] => rfl
  | a :: as => by
    simp only [List.map_cons, valD, List.find?_cons]
    by_cases e : f a = l
    · rw [if_pos (by rw [e])]; simp [e]
    · rw [if_neg (fun z => e (kL_inj.mp z)), valD_lots f v l as]; simp [e]
theorem valD_at {α : Type} {f : α → List Str} {v : α → D} {as : List α} (h : (as.map f).Nodup) {a : α} (ha : a ∈ as) : valD (as.map fun a => (kL (f a), v a)) (kL (f a)) = some (v a) := by
  induction as with
  | nil => simp at ha
  | cons b as ih =>
    simp only [List.map_cons, List.nodup_cons] at h
    simp only [List.map_cons, valD]
    rcases List.mem_cons.mp ha with rfl | ha
    · rw [if_pos rfl]
    · rw [if_neg (fun z => h.1 (by rw [kL_inj.mp z]; exact List.mem_map_of_mem ha))]
      exact ih h.2 ha
theorem dget_tup (kvs : List (List Key × D)) (l : List Str) (m : Mem) {d : D} (h : valD kvs (kL l) = some d) : hDGet (.dT kvs) (tupS l) m = .ok d m := by
  simp only [hDGet, tupS, keysV_strs, dicT, h]
theorem dget_mref {i : Nat} {m : Mem} {kvs : List (List Key × D)} (l : List Str) {d : D} (hm : m[i]? = some (.dT kvs) ∨ m[i]? = some (.lkT kvs)) (h : valD kvs (kL l) = some d) : hDGet (.mref i) (tupS l) m = .ok d m := by
  rcases hm with hm | hm <;> simp only [hDGet, tupS, keysV_strs, dicT, hm, h]
theorem dget2_tup (kvs : List (List Key × D)) (l : List Str) (z : D) (m : Mem) : dGet2 (.dT kvs) (tupS l) z m = .ok ((valD kvs (kL l)).getD z) m := by
  simp only [dGet2, dHas, tupS, keysV_strs, dicT]
  cases valD kvs (kL l) <;> rfl
/-! ### x in a list of lots -/
theorem py_lots (m : Mem) : ∀ ls : List (List Str), toPyL m (ls.map tupS) = some (ls.map fun l => .tuple (l.map .str))
  | [] => rfl
  | l :: ls => by simp only [List.map_cons, toPyL, tupS, toPy, py_strs, Option.map_some]; rw [py_lots m ls]
theorem lay_lots : ∀ {ls : List (List Str)}, (∀ l ∈ ls, ∀ s ∈ l, strOk s = true) → PyData.canLayAll0 (ls.map fun l => .tuple (l.map .str)) = true ∧ PyData.depthAll (ls.map fun l => .tuple (l.map .str)) ≤ 1
  | [], _ => ⟨rfl, by simp [PyData.depthAll]⟩
  | l :: ls, h => by
    obtain ⟨a, b⟩ := lay_lots (ls := ls) fun x hx => h x (by simp [hx])
    obtain ⟨c, d⟩ := lay_strs (ns := l) (h l (by simp))
    refine ⟨by simp [PyData.canLayAll0, PyData.canLay0, a, c], ?_⟩
    simp only [List.map_cons, PyData.depthAll, PyData.depth, d]
    omega
theorem shp_lots {ls : List (List Str)} (h : ∀ l ∈ ls, ∀ s ∈ l, strOk s = true) : SeqAt.shaped (.list (ls.map fun l => .tuple (l.map .str))) = true := by
  obtain ⟨a, b⟩ := lay_lots h
  simp [SeqAt.shaped, PyData.canLay0, PyData.depth, a]
  omega
theorem shp_lot {l : List Str} (h : ∀ s ∈ l, strOk s = true) : SeqAt.shaped (.tuple (l.map .str)) = true := by
  obtain ⟨a, b⟩ := lay_strs h
  simp [SeqAt.shaped, PyData.canLay0, PyData.depth, a, b]
theorem in_lots (neg : Bool) {ls : List (List Str)} {l : List Str} (h : ∀ l ∈ ls, ∀ s ∈ l, strOk s = true) (hl : ∀ s ∈ l, strOk s = true) (m : Mem) : hInD neg (tupS l) (.lst (ls.map tupS)) m = .ok (.bl (if neg then !decide (l ∈ ls) else decide (l ∈ ls))) m := by
  have e1 : toPyM m (tupS l) = some (.tuple (l.map .str)) := by simp only [toPyM, tupS, toPy, py_strs, Option.map_some]
  have e2 : toPyM m (.lst (ls.map tupS)) = some (.list (ls.map fun l => .tuple (l.map .str))) := by simp only [toPyM, toPy, py_lots, Option.map_some]
  have e3 : ((ls.map fun l => PyData.tuple (l.map .str)).any fun z => PyData.eqv z (.tuple (l.map .str))) = decide (l ∈ ls) := by
    rw [List.any_map, Bool.eq_iff_iff, List.any_eq_true, decide_eq_true_eq]
    constructor
    · rintro ⟨x, hx, e⟩
      simp only [Function.comp, PyData.eqv, eqv_strs, decide_eq_true_eq] at e
      rw [← e]; exact hx
    · exact fun hx => ⟨l, hx, by simp only [Function.comp, PyData.eqv, eqv_strs, decide_true]⟩
  simp only [hInD, e1, e2, shp_lots h, shp_lot hl, and_self, if_true, e3]
end DM
end
section
set_option maxRecDepth 100000
set_option maxHeartbeats 4000000
/-! Plain mathematics, part 18: questions are made. -/
namespace DM
open PySem L2 DL
open PySem.PyData (strOk)
variable {own : List Str}
/-- a number for a lot, told by a key -/
structure Told where
  l : List Str
  k : List Str
  x : Int
structure ToldOk (ns : List Str) (ch : Bool) (ps : List Told) : Prop where
  lot : ∀ p ∈ ps, p.l ∈ lotsL ns ch
  key : ∀ p ∈ ps, (∀ x, x ∈ p.k ↔ x ∈ p.l) ∧ p.k.length = p.l.length
  nd : (ps.map (·.l)).Nodup
def tolD (p : Told) : D := .tup [tupS p.l, tupS p.k, .int p.x]
/-- the number of a lot -/
def numOf (ps : List Told) (l : List Str) : Int := ((ps.find? fun p => decide (p.l = l)).map (·.x)).getD 0
def rowT (ns : List Str) (ch : Bool) (w : List Str → Int) : List (List Key × D) := (lotsL ns ch).map fun l => (kL l, .int (w l))
theorem no_at (c f a b : Str) (x y : D) (h1 : (f == a) = false) (h2 : (f == b) = false) : List.lookup f [(a, x), (b, y)] = none := by simp [List.lookup, h1, h2]
theorem house_meth {f : Str} (h1 : (f == ("names" : Str)) = false) (h2 : (f == ("chain" : Str)) = false) (n : Nat) (F : HL) (dds : List D) (a : FA) (ρ : EnvD) (m : Mem) (ns : List Str) (ch : Bool) : kMt1 "Folders" f n F dds a ρ (.ok (House ns ch) m) = kMt2 (House ns ch) n F dds (a ρ m) :=
  kMt1_ok _ _ _ _ _ _ _ _ _ (house_ins m ns ch) (no_at "" _ _ _ _ _ h1 h2)
theorem frz_lots {ns : List Str} {ch : Bool} (g : GoodNames ns ch) (m : Mem) : kFrz m (Cm.F_Folders_lots [House ns ch] m) = .ok (.lst ((lotsL ns ch).map tupS)) m := by
  rw [lots_ok g m, kFrz_ok]
  unfold frzR
  have e : (m ++ [MO.lst ((lotsL ns ch).map tupS)])[m.length]? = some (.lst ((lotsL ns ch).map tupS)) := by simp
  have e2 : (m ++ [MO.lst ((lotsL ns ch).map tupS)]).set m.length .gone = m ++ [.gone] := by simp
  simp only [e, e2]
  rw [cut_last m .gone (bel_lots _)]
theorem lot_of_at {ns : List Str} {ch : Bool} (g : GoodNames ns ch) {ps : List Told} (h : ToldOk ns ch ps) {p : Told} (hp : p ∈ ps) (m : Mem) : Cm.F_Folders_lot_of own [House ns ch, tupS p.k] m = .ok (tupS p.l) m := lot_of_ok g (h.lot p hp) (h.key p hp).1 (h.key p hp).2 .tup
noncomputable def rowB (own : List Str) : FS := sSeq (sIf (tOr' (tTr (eOp (hIsN false) (eVar 5) (eC .non))) (tTr (eOp (hInD false) (eVar 5) (eLc false [8] (iSeq (eSl false (eVar 2) (oNo) (oSo (eVar 4)))) (gN 8) (tY) (eOp hIx (eVar 8) (eC (.int 0))))))) (sBad) (sNx))
  (sIf (tNo (tTr (eCall 1 (Cm.F_is_whole own) [] (aCons (eVar 7) (aNil))))) (sBad) (sNx))
noncomputable def rowTl (own : List Str) : FS := sSeq (sFor (iEnA (eVar 2)) (gT 2 (gsCons (gN 4) (gsCons (gT 3 (gsCons (gN 5) (gsCons (gN 6) (gsCons (gN 7) (gsNil))))) (gsNil)))) (rowB own))
  (sSeq (sSet 3 (eCB (hDict false) (aCons (eLc false [5, 6, 7] (iSeq (eVar 2)) (gT 3 (gsCons (gN 5) (gsCons (gN 6) (gsCons (gN 7) (gsNil))))) (tY) (eTup (aCons (eVar 5) (aCons (eVar 7) (aNil))))) (aNil))))
  (sRt (eCB (hDict false) (aCons (eLc false [5] (iSeq (eFrz (eMeth "Folders" "lots" 1 Cm.F_Folders_lots [] (eVar 0) (aNil)))) (gN 5) (tY) (eTup (aCons (eVar 5) (aCons (eDGet2 (eVar 3) (eVar 5) (eC (.int 0))) (aNil))))) (aNil)))))
noncomputable def rowHd (own : List Str) : FS := sSet 2 (eLc false [6, 7] (iIt (eVar 1)) (gT 2 (gsCons (gN 6) (gsCons (gN 7) (gsNil)))) (tY) (eTup (aCons (eMeth "Folders" "lot_of" 2 (Cm.F_Folders_lot_of own) [] (eVar 0) (aCons (eVar 6) (aNil))) (aCons (eVar 6) (aCons (eVar 7) (aNil))))))
theorem row_parts : Cm.b_row_of own = sSeq (sLkD 1 (rowHd own)) (rowTl own) := rfl
theorem cut_lst (xs : List D) (k : Nat) (m : Mem) : hSl false (.lst xs) none (some (k : Nat)) m = .ok (.lst (xs.take k)) m := by
  simp only [hSl, lstV, cutD, HT.sIx_none, HT.sIx_nat, Nat.sub_zero, List.drop_zero]
  simp only [Bool.false_eq_true, if_false]
  congr 2
  by_cases h : k ≤ xs.length
  · rw [Nat.min_eq_left h]
  · rw [Nat.min_eq_right (by omega), List.take_of_length_le (Nat.le_refl _), List.take_of_length_le (by omega)]
theorem row_tail {ns : List Str} {ch : Bool} (g : GoodNames ns ch) {ps : List Told} (h : ToldOk ns ch ps) (W : Option D) (m : Mem) :
    rowTl own [some (House ns ch), W, some (.lst (ps.map tolD)), none, none, none, none, none, none] m = .rt (.dT (rowT ns ch (numOf ps))) m := by
  have hok : ∀ l ∈ lotsL ns ch, ∀ s ∈ l, strOk s = true := fun l hl s hs => (lot_names g hl s hs).ok
  have zl : (3 : Nat) ≤ sizeLine := by decide
  have zl2 : (2 : Nat) ≤ sizeLine := by decide
  -- the walk
  obtain ⟨ρ', m', e, a4, a5, a6, a7, rfl, rfl⟩ := for_st (fg := gT 2 (gsCons (gN 4) (gsCons (gT 3 (gsCons (gN 5) (gsCons (gN 6) (gsCons (gN 7) (gsNil))))) (gsNil)))) (fb := rowB own)
    (I := fun i ρ m' => ∃ a4 a5 a6 a7, ρ = [some (House ns ch), W, some (.lst (ps.map tolD)), none, a4, a5, a6, a7, none] ∧ m' = m)
    (enumD 0 (ps.map tolD)) 0 [some (House ns ch), W, some (.lst (ps.map tolD)), none, none, none, none, none, none] m ⟨_, _, _, _, rfl, rfl⟩ (fun i x hx ρ m' hI => by
      obtain ⟨a4, a5, a6, a7, rfl, rfl⟩ := hI
      rw [enumD_get, List.getElem?_map] at hx
      cases hp : ps[i]? with
      | none => rw [hp] at hx; cases hx
      | some p =>
        rw [hp] at hx
        simp only [Option.map_some, Option.some.injEq] at hx
        subst hx
        have hmem := List.mem_of_getElem? hp
        have e1 : lcGo (gN 8) tY (eOp hIx (eVar 8) (eC (.int 0))) [some (House ns ch), W, some (.lst (ps.map tolD)), none, some (.int ((0 + i : Nat) : Int)), some (tupS p.l), some (tupS p.k), some (.int p.x), none] ((ps.map tolD).take (0 + i)) [] m' = .ok ((ps.take i).map fun p => tupS p.l) m' := by
          rw [← List.map_take, Nat.zero_add, lcm tolD (fun p => tupS p.l)]
          · simp
          · intro q hq
            exact ⟨_, rfl, by simp [tolD, hIx, seqV, atI, ixN]⟩
        have hno : p.l ∉ (ps.take i).map (·.l) := fun z => by
          obtain ⟨q, hq, e⟩ := List.mem_map.mp z
          obtain ⟨j, hj, e3⟩ := List.getElem_of_mem hq
          rw [List.length_take] at hj
          have e4 : ps[j]? = some q := by rw [← e3, List.getElem_take]; exact List.getElem?_eq_getElem (by omega)
          have hlt := (List.getElem?_eq_some_iff.mp hp).1
          have hjl : j < ps.length := by omega
          have q1 : ps[j] = q := Option.some.inj ((List.getElem?_eq_getElem hjl).symm.trans e4)
          have q2 : ps[i] = p := Option.some.inj ((List.getElem?_eq_getElem hlt).symm.trans hp)
          have n2 : (ps.map (·.l))[j]'(by rw [List.length_map]; exact hjl) = (ps.map (·.l))[i]'(by rw [List.length_map]; exact hlt) := by
            rw [List.getElem_map, List.getElem_map, q1, q2]
            exact e
          have n3 := (List.getElem_inj h.nd).mp n2
          omega
        have e2 := in_lots false (ls := (ps.take i).map (·.l)) (l := p.l) (fun l hl => by
          obtain ⟨q, hq, rfl⟩ := List.mem_map.mp hl
          exact hok _ (h.lot q (List.mem_of_mem_take hq))) (hok _ (h.lot p hmem)) m'
        rw [List.map_map, decide_eq_false hno] at e2
        have e3 : ((ps.take i).map fun p => tupS p.l) = (ps.take i).map (tupS ∘ fun p => p.l) := rfl
        refine ⟨_, m', [some (House ns ch), W, some (.lst (ps.map tolD)), none, some (.int ((0 + i : Nat) : Int)), some (tupS p.l), some (tupS p.k), some (.int p.x), none], m', rfl, ?_, _, _, _, _, rfl, rfl⟩
        have c1 := cut_lst (ps.map tolD) (0 + i) m'
        have n1 : hIsN false (tupS p.l) .non m' = .ok (.bl false) m' := rfl
        unfold rowB
        simp only [x_sSeq, x_sIf, x_tOr, x_tTr, x_eOp, x_eVar, List.getElem?_cons_zero, List.getElem?_cons_succ, varR_ok, kOp1_ok, x_eC, kOp2_ok, n1, kTr_ok, kOr_f, x_eLc, x_iSeq, x_eSl, x_oNo, x_oSo, kSl1_ok, kSl2_ok, kSo_ok, kSl3_ok, c1, kSq_ok, seqI_lst, x_wipe, x_wipe0, List.set_cons_succ, List.set_cons_zero, kLc_ok, e1, kFin_ok, finL_f, e3, e2, Bool.false_eq_true, if_false, kIf_f, x_sNx, kSeq_nx, x_tNo, x_eCall, x_aCons, kC1_ok, x_aNil, kC2_ok, kCall_ok, List.append_nil, List.length_cons, List.length_nil, if_true, is_whole_int, kNo_ok, Bool.not_true])
  -- what is given
  have e5 : lcGo (gT 3 (gsCons (gN 5) (gsCons (gN 6) (gsCons (gN 7) (gsNil))))) tY (eTup (aCons (eVar 5) (aCons (eVar 7) (aNil)))) [some (House ns ch), W, some (.lst (ps.map tolD)), none, a4, none, none, none, none] (ps.map tolD) [] m' = .ok (ps.map fun p => .tup [tupS p.l, .int p.x]) m' := by
    rw [lcm tolD (fun p => .tup [tupS p.l, .int p.x])]
    · simp
    · intro q hq
      exact ⟨_, rfl, by simp [zl2]⟩
  have e6 := dict_lots false (fun p : Told => p.l) (fun p => .int p.x) (as := ps) h.nd m'
  have e7 : lcGo (gN 5) tY (eTup (aCons (eVar 5) (aCons (eDGet2 (eVar 3) (eVar 5) (eC (.int 0))) (aNil)))) [some (House ns ch), W, some (.lst (ps.map tolD)), some (.dT (ps.map fun p => (kL p.l, .int p.x))), a4, none, a6, a7, none] ((lotsL ns ch).map tupS) [] m' = .ok ((lotsL ns ch).map fun l => .tup [tupS l, .int (numOf ps l)]) m' := by
    rw [lcm tupS (fun l => .tup [tupS l, .int (numOf ps l)])]
    · simp
    · intro l hl
      have e8 := valD_lots (fun p : Told => p.l) (fun p => D.int p.x) l ps
      have e9 : ((ps.find? fun p => decide (p.l = l)).map fun p => D.int p.x).getD (.int 0) = .int (numOf ps l) := by
        unfold numOf
        cases ps.find? fun p => decide (p.l = l) <;> rfl
      exact ⟨_, rfl, by simp [zl2, dget2_tup, e8, e9]⟩
  have e10 := dict_lots false (fun l : List Str => l) (fun l => .int (numOf ps l)) (as := lotsL ns ch) (by simpa using lots_nd g) m'
  have l1 : (("lots" : Str) == ("names" : Str)) = false := by decide +kernel
  have l2 : (("lots" : Str) == ("chain" : Str)) = false := by decide +kernel
  have e11 := frz_lots g m'
  unfold rowTl
  simp only [x_sSeq, x_sFor, x_iEnA, x_eVar, List.getElem?_cons_zero, List.getElem?_cons_succ, varR_ok, kEn_ok, enumI_lst, kFor_ok, e, kSeq_nx, x_sSet, x_eCB, x_aCons, x_eLc, x_iSeq, kSq_ok, seqI_lst, x_wipe, x_wipe0, List.set_cons_succ, List.set_cons_zero, kLc_ok, e5, kFin_ok, finL_f, kC1_ok, x_aNil, kC2_ok, kCB_ok, e6, newD_f, kSet_ok, x_sRt, x_eFrz, x_eMeth, house_meth l1 l2, kMt2_ok, List.append_nil, List.length_cons, List.length_nil, if_true, e11, e7, e10, kRt_ok]
  rfl
end DM
end
section
set_option maxRecDepth 100000
set_option maxHeartbeats 4000000
/-! Plain mathematics, part 19: questions are made, and counted. -/
namespace DM
open PySem L2 DL
open PySem.PyData (strOk)
variable {own : List Str}
theorem row_ok {ns : List Str} {ch : Bool} (g : GoodNames ns ch) {ps : List Told} (h : ToldOk ns ch ps) (m : Mem) : Cm.F_row_of own [House ns ch, .dT (ps.map fun p => (kL p.k, .int p.x))] m = .ok (.dT (rowT ns ch (numOf ps))) m := by
  have zl : (3 : Nat) ≤ sizeLine := by decide
  have l1 : (("lot_of" : Str) == ("names" : Str)) = false := by decide +kernel
  have l2 : (("lot_of" : Str) == ("chain" : Str)) = false := by decide +kernel
  have e1 : lcGo (gT 2 (gsCons (gN 6) (gsCons (gN 7) (gsNil)))) tY (eTup (aCons (eMeth "Folders" "lot_of" 2 (Cm.F_Folders_lot_of own) [] (eVar 0) (aCons (eVar 6) (aNil))) (aCons (eVar 6) (aCons (eVar 7) (aNil))))) [some (House ns ch), some (.dT (ps.map fun p => (kL p.k, .int p.x))), none, none, none, none, none, none, none] (ps.map fun p => .tup [.tup ((kL p.k).map keyD), .int p.x]) [] m = .ok (ps.map tolD) m := by
    rw [lcm (fun p : Told => D.tup [.tup ((kL p.k).map keyD), .int p.x]) tolD]
    · simp
    · intro p hp
      have e2 := lot_of_at (own := own) g h hp m
      refine ⟨_, rfl, ?_⟩
      have e3 : D.tup ((kL p.k).map keyD) = tupS p.k := by rw [keyD_kL]; rfl
      rw [e3]
      simp [house_meth l1 l2, e2, zl, tolD]
  unfold Cm.F_row_of
  rw [x_runF, show startD 9 [House ns ch, D.dT (ps.map fun p => (kL p.k, .int p.x))] = [some (House ns ch), some (.dT (ps.map fun p => (kL p.k, .int p.x))), none, none, none, none, none, none, none] from rfl, row_parts, x_sSeq, sLkD_no (lkAtD_dT (kvs := ps.map fun p => (kL p.k, .int p.x)) rfl)]
  unfold rowHd
  have e4 : itemsI (.dT (ps.map fun p => (kL p.k, D.int p.x))) m = .ok (ps.map fun p => .tup [.tup ((kL p.k).map keyD), .int p.x]) m := by rw [itemsI_dT, List.map_map]; rfl
  simp only [x_sSet, x_eLc, x_iIt, x_eVar, List.getElem?_cons_zero, List.getElem?_cons_succ, varR_ok, kItm_ok, e4, x_wipe, x_wipe0, List.set_cons_succ, List.set_cons_zero, kLc_ok, e1, kFin_ok, finL_f, kSet_ok, kSeq_nx, row_tail g h, kRun_rt, cut_same]
theorem row_none {ns : List Str} {ch : Bool} (g : GoodNames ns ch) {m : Mem} {j : Nat} (hj : m[j]? = some (.dT [])) : Cm.F_row_of own [House ns ch, .mref j] m = .ok (.dT (rowT ns ch (numOf []))) m := by
  unfold Cm.F_row_of
  have hjl : j < m.length := (List.getElem?_eq_some_iff.mp hj).1
  have hk : (m.set j (.lkT []))[j]? = some (.lkT []) := List.getElem?_set_self hjl
  have hb : (m.set j (.lkT [])).set j (.dT []) = m := by
    rw [List.set_set]
    apply List.ext_getElem?
    intro i
    by_cases hi : j = i
    · subst hi; rw [List.getElem?_set_self hjl, hj]
    · rw [List.getElem?_set_ne hi]
  rw [x_runF, show startD 9 [House ns ch, D.mref j] = [some (House ns ch), some (.mref j), none, none, none, none, none, none, none] from rfl, row_parts, x_sSeq, sLkD_yes (lkAtD_of (j := j) (kvs := []) rfl hj)]
  unfold rowHd
  have t : rowTl own [some (House ns ch), some (.mref j), some (.lst ([].map tolD)), none, none, none, none, none, none] m = _ := row_tail (own := own) g (ps := []) ⟨(fun p hp => nomatch hp), (fun p hp => nomatch hp), by simp⟩ (some (.mref j)) m
  simp only [List.map_nil] at t
  simp only [x_sSet, x_eLc, x_iIt, x_eVar, List.getElem?_cons_zero, List.getElem?_cons_succ, varR_ok, kItm_ok, itemsI_lk hk, List.map_nil, x_wipe, x_wipe0, List.set_cons_succ, List.set_cons_zero, kLc_ok, lcGo, kFin_ok, finL_f, kSet_ok, unlkDS, hb, kSeq_nx, t, kRun_rt, cut_same]
/-! ### a question -/
def Qn (ns : List Str) (ch : Bool) (w : List Str → Int) : D := .ins "Question" [("folders", House ns ch), ("row", .dT (rowT ns ch w))]
theorem bel_row_of {n : Nat} (ns : List Str) (ch : Bool) (w : List Str → Int) : Bel n (.dT (rowT ns ch w)) := by
  rw [bel_dT]
  intro p hp
  obtain ⟨l, _, rfl⟩ := List.mem_map.mp hp
  exact .int _
theorem bel_Qn {n : Nat} (ns : List Str) (ch : Bool) (w : List Str → Int) : Bel n (Qn ns ch w) := by
  unfold Qn
  rw [bel_ins]
  intro p hp
  simp only [List.mem_cons, List.not_mem_nil, or_false] at hp
  rcases hp with rfl | rfl
  · exact bel_house ns ch
  · exact bel_row_of ns ch w
theorem put_two (x y : D) : putD "row" y (putD "folders" x []) = [(("folders" : Str), x), (("row" : Str), y)] := by
  have e : ¬ (("folders" : Str) = ("row" : Str)) := by decide +kernel
  simp [putD, e]
theorem put_one (x : D) : putD "folders" x [] = [(("folders" : Str), x)] := rfl
theorem q_init_ok {ns : List Str} {ch : Bool} {w : List Str → Int} {W : D} {m : Mem} (j : Nat) (hj : m[j]? = some (.ins "Question" [])) (hW : W ≠ .non) (hr : ∀ m, Cm.F_row_of own [House ns ch, W] m = .ok (.dT (rowT ns ch w)) m) :
    Cm.F_Question___init__ own [.mref j, House ns ch, W] m = .ok .non (m.set j (.ins "Question" [("folders", House ns ch), ("row", .dT (rowT ns ch w))])) := by
  have hjl : j < m.length := (List.getElem?_eq_some_iff.mp hj).1
  unfold Cm.F_Question___init__
  rw [x_runF, show startD 3 [D.mref j, House ns ch, W] = [some (.mref j), some (House ns ch), some W] from rfl]
  unfold Cm.b_Question___init__
  have hn : hIsN false W .non m = .ok (.bl false) m := by cases W <;> first | rfl | exact absurd rfl hW
  have n1 : hIsN false W .non (m.set j (.ins "Question" (putD "folders" (House ns ch) []))) = .ok (.bl false) (m.set j (.ins "Question" (putD "folders" (House ns ch) []))) := by cases W <;> first | rfl | exact absurd rfl hW
  have f1 : flR ["Question"] "folders" [some (.mref j), some (House ns ch), some W] (House ns ch) (.mref j) m = .nx [some (.mref j), some (House ns ch), some W] (m.set j (.ins "Question" (putD "folders" (House ns ch) []))) := by
    simp [flR, hj]
  have h2 : (m.set j (.ins "Question" (putD "folders" (House ns ch) [])))[j]? = some (.ins "Question" (putD "folders" (House ns ch) [])) := List.getElem?_set_self hjl
  have f2 : flR ["Question"] "row" [some (.mref j), some (House ns ch), some W] (.dT (rowT ns ch w)) (.mref j) (m.set j (.ins "Question" (putD "folders" (House ns ch) []))) = .nx [some (.mref j), some (House ns ch), some W] (m.set j (.ins "Question" [("folders", House ns ch), ("row", .dT (rowT ns ch w))])) := by
    simp only [flR, h2]
    rw [if_pos ⟨by simp, by rw [put_one]; simp⟩, put_two, List.set_set]
  simp only [x_sSeq, x_sFl, x_eVar, List.getElem?_cons_zero, List.getElem?_cons_succ, varR_ok, kFl1_ok, kFl2_ok, f1, kSeq_nx, x_eCall, x_aCons, kC1_ok, x_eIf, x_tTr, x_eOp, kOp1_ok, x_eC, kOp2_ok, n1, kTr_ok, kEIf_f, x_aNil, kC2_ok, kCall_ok, List.append_nil, List.length_cons, List.length_nil, if_true, hr, f2, kRun_nx]
  rw [cut_same]
  simp
theorem q_frz {ns : List Str} {ch : Bool} {w : List Str → Int} {W : D} {m : Mem} (e : Cm.F_Question___init__ own [.mref m.length, House ns ch, W] (m ++ [MO.ins "Question" []]) = .ok .non ((m ++ [MO.ins "Question" []]).set m.length (MO.ins "Question" [("folders", House ns ch), ("row", .dT (rowT ns ch w))]))) :
    kFrz m (mkR "Question" 3 (Cm.F_Question___init__ own) [House ns ch, W] m) = .ok (Qn ns ch w) m := by
  have e2 : (m ++ [MO.ins "Question" []]).set m.length (.ins "Question" [("folders", House ns ch), ("row", .dT (rowT ns ch w))]) = m ++ [.ins "Question" [("folders", House ns ch), ("row", .dT (rowT ns ch w))]] := by simp
  have e3 : (m ++ [MO.ins "Question" [("folders", House ns ch), ("row", D.dT (rowT ns ch w))]]).set m.length .gone = m ++ [.gone] := by simp
  have e4 : (m ++ [MO.ins "Question" [("folders", House ns ch), ("row", D.dT (rowT ns ch w))]])[m.length]? = some (.ins "Question" [("folders", House ns ch), ("row", .dT (rowT ns ch w))]) := by simp
  have e5 : DL.cut m (m ++ [.gone]) [D.ins "Question" [("folders", House ns ch), ("row", D.dT (rowT ns ch w))]] = m := cut_last m .gone (bel_Qn ns ch w)
  unfold mkR
  rw [if_pos (show [House ns ch, W].length + 1 = 3 from rfl), e, e2]
  simp only [bind_ok, kFrz_ok, frzR, e4, e3, e5]
  rfl
theorem mk_q {ns : List Str} {ch : Bool} (g : GoodNames ns ch) {ps : List Told} (h : ToldOk ns ch ps) (m : Mem) : kFrz m (mkR "Question" 3 (Cm.F_Question___init__ own) [House ns ch, .dT (ps.map fun p => (kL p.k, .int p.x))] m) = .ok (Qn ns ch (numOf ps)) m :=
  q_frz (q_init_ok m.length (by simp) (fun z => by cases z) fun m => row_ok g h m)
end DM
end
section
set_option maxRecDepth 100000
set_option maxHeartbeats 4000000
/-! Plain mathematics, part 20: questions by functions. -/
namespace DM
open PySem L2 DL
open PySem.PyData (strOk)
variable {own : List Str}
theorem rowT_congr {ns : List Str} {ch : Bool} {w w' : List Str → Int} (h : ∀ l ∈ lotsL ns ch, w l = w' l) : rowT ns ch w = rowT ns ch w' := List.map_congr_left fun l hl => by rw [h l hl]
theorem Qn_congr {ns : List Str} {ch : Bool} {w w' : List Str → Int} (h : ∀ l ∈ lotsL ns ch, w l = w' l) : Qn ns ch w = Qn ns ch w' := by unfold Qn; rw [rowT_congr h]
/-! ### Question(folders) -/
theorem q_init0 {ns : List Str} {ch : Bool} (g : GoodNames ns ch) {m : Mem} (j : Nat) (hj : m[j]? = some (.ins "Question" [])) :
    Cm.F_Question___init__ own [.mref j, House ns ch, .non] m = .ok .non (m.set j (.ins "Question" [("folders", House ns ch), ("row", .dT (rowT ns ch (numOf [])))])) := by
  have hjl : j < m.length := (List.getElem?_eq_some_iff.mp hj).1
  unfold Cm.F_Question___init__
  rw [x_runF, show startD 3 [D.mref j, House ns ch, D.non] = [some (.mref j), some (House ns ch), some .non] from rfl]
  unfold Cm.b_Question___init__
  have n1 : ∀ m, hIsN false .non .non m = .ok (.bl true) m := fun m => rfl
  have f1 : flR ["Question"] "folders" [some (.mref j), some (House ns ch), some .non] (House ns ch) (.mref j) m = .nx [some (.mref j), some (House ns ch), some .non] (m.set j (.ins "Question" (putD "folders" (House ns ch) []))) := by
    simp [flR, hj]
  have hr := row_none (own := own) g (m := m.set j (.ins "Question" (putD "folders" (House ns ch) [])) ++ [.dT []]) (j := (m.set j (.ins "Question" (putD "folders" (House ns ch) []))).length) (by simp)
  have h2 : (m.set j (MO.ins "Question" (putD "folders" (House ns ch) [])) ++ [MO.dT []])[j]? = some (.ins "Question" (putD "folders" (House ns ch) [])) := by
    rw [List.getElem?_append_left (by rw [List.length_set]; exact hjl), List.getElem?_set_self hjl]
  have h3 : (m.set j (MO.ins "Question" (putD "folders" (House ns ch) [])) ++ [MO.dT []]).set j (.ins "Question" [("folders", House ns ch), ("row", .dT (rowT ns ch (numOf [])))]) = m.set j (.ins "Question" [("folders", House ns ch), ("row", .dT (rowT ns ch (numOf [])))]) ++ [.dT []] := by
    rw [List.set_append_left _ _ (by rw [List.length_set]; exact hjl), List.set_set]
  have f2 : flR ["Question"] "row" [some (.mref j), some (House ns ch), some .non] (.dT (rowT ns ch (numOf []))) (.mref j) (m.set j (.ins "Question" (putD "folders" (House ns ch) [])) ++ [.dT []]) = .nx [some (.mref j), some (House ns ch), some .non] (m.set j (.ins "Question" [("folders", House ns ch), ("row", .dT (rowT ns ch (numOf [])))]) ++ [.dT []]) := by
    simp only [flR, h2]
    rw [if_pos ⟨by simp, by rw [put_one]; simp⟩, put_two, h3]
  simp only [x_sSeq, x_sFl, x_eVar, List.getElem?_cons_zero, List.getElem?_cons_succ, varR_ok, kFl1_ok, kFl2_ok, f1, kSeq_nx, x_eCall, x_aCons, kC1_ok, x_eIf, x_tTr, x_eOp, kOp1_ok, x_eC, kOp2_ok, n1, kTr_ok, kEIf_t, x_eD0T, x_aNil, kC2_ok, kCall_ok, List.append_nil, List.length_cons, List.length_nil, if_true, hr, f2, kRun_nx]
  rw [cut_two m (m.set j (.ins "Question" [("folders", House ns ch), ("row", .dT (rowT ns ch (numOf [])))])) [.dT []] [] (by rw [List.length_set]) (fun x hx => nomatch hx) (fun i hi => ?_)]
  by_cases e : j = i
  · subst e
    refine .inr ⟨_, List.getElem?_set_self hjl, ?_⟩
    have := bel_Qn (n := m.length) ns ch (numOf [])
    unfold Qn at this
    rw [bel_ins] at this
    exact this
  · exact .inl (List.getElem?_set_ne e)
theorem mk_q0 {ns : List Str} {ch : Bool} (g : GoodNames ns ch) (m : Mem) : kFrz m (mkR "Question" 3 (Cm.F_Question___init__ own) [House ns ch, .non] m) = .ok (Qn ns ch fun _ => 0) m := by
  rw [q_frz (w := numOf []) (q_init0 g m.length (by simp)), Qn_congr (ns := ns) (ch := ch) (w := numOf []) (w' := fun _ => 0) fun l _ => rfl]
/-! ### numbers by lots -/
def told1 (v : List Str → Int) (l : List Str) : Told := ⟨l, l, v l⟩
theorem numOf_map (v : List Str → Int) (l : List Str) : ∀ as : List (List Str), numOf (as.map (told1 v)) l = if l ∈ as then v l else 0
  | [] => rfl
  | a :: as => by
    have ih := numOf_map v l as
    unfold numOf at ih ⊢
    simp only [List.map_cons, List.find?_cons, told1]
    by_cases e : a = l
    · subst e; simp
    · have e' : ¬ l = a := fun z => e z.symm
      simp only [decide_eq_false e, List.mem_cons, e', false_or]
      exact ih
theorem told_ok {ns : List Str} {ch : Bool} (v : List Str → Int) {as : List (List Str)} (h1 : ∀ l ∈ as, l ∈ lotsL ns ch) (h2 : as.Nodup) : ToldOk ns ch (as.map (told1 v)) := by
  refine ⟨fun p hp => ?_, fun p hp => ?_, ?_⟩
  · obtain ⟨l, hl, rfl⟩ := List.mem_map.mp hp; exact h1 l hl
  · obtain ⟨l, hl, rfl⟩ := List.mem_map.mp hp; exact ⟨fun x => Iff.rfl, rfl⟩
  · rw [List.map_map]
    have : (as.map ((fun p : Told => p.l) ∘ told1 v)) = as := by
      have e : ((fun p : Told => p.l) ∘ told1 v) = id := rfl
      rw [e, List.map_id]
    rw [this]
    exact h2
/-- a question made of a dict of lots -/
theorem mk_qd {ns : List Str} {ch : Bool} (g : GoodNames ns ch) (v : List Str → Int) {as : List (List Str)} (h1 : ∀ l ∈ as, l ∈ lotsL ns ch) (h2 : as.Nodup) (m : Mem) : kFrz m (mkR "Question" 3 (Cm.F_Question___init__ own) [House ns ch, .dT (as.map fun l => (kL l, .int (v l)))] m) = .ok (Qn ns ch fun l => if l ∈ as then v l else 0) m := by
  have e := mk_q (own := own) g (told_ok v h1 h2) m
  rw [List.map_map] at e
  rw [show (as.map fun l => (kL l, D.int (v l))) = as.map ((fun p : Told => (kL p.k, D.int p.x)) ∘ told1 v) from rfl, e, Qn_congr fun l _ => numOf_map v l as]
theorem mk_qall {ns : List Str} {ch : Bool} (g : GoodNames ns ch) (v : List Str → Int) (m : Mem) : kFrz m (mkR "Question" 3 (Cm.F_Question___init__ own) [House ns ch, .dT ((lotsL ns ch).map fun l => (kL l, .int (v l)))] m) = .ok (Qn ns ch v) m := by
  rw [mk_qd g v (fun _ h => h) (lots_nd g), Qn_congr fun l hl => if_pos hl]
theorem counted_ok {ns : List Str} {ch : Bool} (g : GoodNames ns ch) {as : List (List Str)} (h1 : ∀ l ∈ as, l ∈ lotsL ns ch) (h2 : as.Nodup) (m : Mem) : Cm.F_counted own [House ns ch, .lst (as.map tupS)] m = .ok (Qn ns ch fun l => if l ∈ as then 1 else 0) m := by
  have zl2 : (2 : Nat) ≤ sizeLine := by decide
  have e1 : lcGo (gN 2) tY (eTup (aCons (eVar 2) (aCons (eC (.int 1)) (aNil)))) [some (House ns ch), some (.lst (as.map tupS)), none] (as.map tupS) [] m = .ok (as.map fun l => .tup [tupS l, .int 1]) m := by
    rw [lcm tupS (fun l => .tup [tupS l, .int 1])]
    · simp
    · intro l hl
      exact ⟨_, rfl, by simp [zl2]⟩
  have e2 := dict_lots false (fun l : List Str => l) (fun _ => D.int 1) (as := as) (by simpa using h2) m
  have e3 := mk_qd (own := own) g (fun _ => 1) h1 h2 m
  unfold Cm.F_counted
  rw [x_runF, show startD 3 [House ns ch, D.lst (as.map tupS)] = [some (House ns ch), some (.lst (as.map tupS)), none] from rfl]
  unfold Cm.b_counted
  simp only [x_sRt, x_eFrz, x_eMake, x_aCons, x_eVar, List.getElem?_cons_zero, List.getElem?_cons_succ, varR_ok, kC1_ok, x_eCB, x_eLc, x_iSeq, kSq_ok, seqI_lst, x_wipe, x_wipe0, List.set_cons_succ, List.set_cons_zero, kLc_ok, e1, kFin_ok, finL_f, x_aNil, kC2_ok, kCB_ok, e2, newD_f, kMk_ok, List.append_nil, e3, kRt_ok, kRun_rt, cut_same]
/-! ### which folders are named -/
theorem ninO {ns : List Str} (m : Mem) (ch : Bool) (s : Str) : hInO true "Folders" (Cm.F_Folders___contains__ own) (.str s) (House ns ch) m = .ok (.bl (!decide (s ∈ ns))) m := by
  have e := house_in (own := own) m ns ch s
  generalize decide (s ∈ ns) = b at e ⊢
  unfold hInO at e ⊢
  split at e
  · rename_i h
    rw [if_pos h]
    cases ef : Cm.F_Folders___contains__ own [House ns ch, .str s] m with
    | bad => rw [ef] at e; cases e
    | exc x m' => rw [ef] at e; cases e
    | ok d m' =>
      rw [ef] at e
      simp only [bind_ok] at e ⊢
      cases d <;> simp only at e <;> try cases e
      simp
  · cases e
theorem fch_ok {ns : List Str} {ch : Bool} (g : GoodNames ns ch) {some_ : List Str} (hs : ∀ x ∈ some_, x ∈ ns) {X : D} {m : Mem} (hX : X = .lst (some_.map .str) ∨ X = .tup (some_.map .str)) : Cm.F_Folders_chosen own [House ns ch, X] m = .ok (tupS (ns.filter fun x => decide (x ∈ some_))) m := by
  have hN : NamesAre m some_ X := by rcases hX with rfl | rfl; exact .lst; exact .tup
  have hq : seqI X m = .ok (some_.map .str) m := by rcases hX with rfl | rfl <;> rfl
  obtain ⟨ρ', m', e, a2, rfl, rfl⟩ := for_st (fg := gN 2) (fb := sIf (tTr (eOp (hInO true "Folders" (Cm.F_Folders___contains__ own)) (eVar 2) (eVar 0))) (sBad) (sNx))
    (I := fun i ρ m' => ∃ a2, ρ = [some (House ns ch), some X, a2] ∧ m' = m) (some_.map .str) 0 [some (House ns ch), some X, none] m ⟨_, rfl, rfl⟩ (fun i x hx ρ m' hI => by
      obtain ⟨a2, rfl, rfl⟩ := hI
      obtain ⟨z, hz, rfl⟩ := List.mem_map.mp (List.mem_of_getElem? hx)
      refine ⟨_, m', [some (House ns ch), some X, some (.str z)], m', rfl, ?_, _, rfl, rfl⟩
      simp [ninO, hs z hz])
  have e1 : lcGo (gN 2) (tTr (eOp (hIn false) (eVar 2) (eVar 1))) (eVar 2) [some (House ns ch), some X, none] (ns.map .str) [] m' = .ok ((ns.filter fun x => decide (x ∈ some_)).map .str) m' := by
    rw [lc_pure (fun d => match d with | .str x => decide (x ∈ some_) | _ => false) id]
    · rw [List.nil_append, List.map_id, filter_strs (fun x => decide (x ∈ some_)) _ (fun _ => rfl)]
    · intro x hx
      obtain ⟨z, _, rfl⟩ := List.mem_map.mp hx
      exact ⟨_, rfl, by simp [seq_strs some_ z (names_seq hN)], fun _ => by simp⟩
  unfold Cm.F_Folders_chosen
  rw [x_runF, show startD 3 [House ns ch, X] = [some (House ns ch), some X, none] from rfl]
  unfold Cm.b_Folders_chosen
  have t1 : hTuple [.lst ((ns.filter fun x => decide (x ∈ some_)).map .str)] m' = .ok (tupS (ns.filter fun x => decide (x ∈ some_))) m' := rfl
  simp only [x_sSeq, x_sFor, x_iSeq, x_eVar, List.getElem?_cons_zero, List.getElem?_cons_succ, varR_ok, kSq_ok, hq, kFor_ok, e, kSeq_nx, x_sRt, x_eCB, x_aCons, x_eLc, x_eAt, kAt_ok, house_names, seqI_tup, x_wipe, x_wipe0, List.set_cons_succ, List.set_cons_zero, kLc_ok, e1, kFin_ok, finL_f, kC1_ok, x_aNil, kC2_ok, kCB_ok, t1, kRt_ok, kRun_rt, cut_same]
end DM
end
section
set_option maxRecDepth 100000
set_option maxHeartbeats 4000000
/-! Plain mathematics, part 21: the six functions. -/
namespace DM
open PySem L2 DL
open PySem.PyData (strOk)
variable {own : List Str}
section
variable {ns : List Str} {ch : Bool} (g : GoodNames ns ch)
include g
/-- some lots are chosen, and counted -/
theorem lots_where {fg : FG} {ft : FT} {ρ : EnvD} {m : Mem} {fe : FE} (p : List Str → Bool) (h : ∀ l ∈ lotsL ns ch, ∃ ρx, fg (tupS l) ρ m = .ok ρx m ∧ ft ρx m = .ok (p l) m ∧ fe ρx m = .ok (tupS l) m) : lcGo fg ft fe ρ ((lotsL ns ch).map tupS) [] m = .ok (((lotsL ns ch).filter p).map tupS) m := by
  have key : ∀ (ls : List (List Str)) (acc : List D), (∀ l ∈ ls, l ∈ lotsL ns ch) → lcGo fg ft fe ρ (ls.map tupS) acc m = .ok (acc ++ (ls.filter p).map tupS) m := by
    intro ls
    induction ls with
    | nil => intro acc _; simp [lcGo]
    | cons l ls ih =>
      intro acc hl
      obtain ⟨ρx, h1, h2, h3⟩ := h l (hl l (by simp))
      have hr := fun acc => ih acc fun x hx => hl x (by simp [hx])
      simp only [List.map_cons, lcGo, h1, bindN_ok, h2]
      cases hp : p l with
      | true => simp [h3, hr, hp]
      | false => simp [hr, hp]
  simpa using key _ [] fun _ h => h
theorem counted_where (p : List Str → Bool) (m : Mem) : Cm.F_counted own [House ns ch, .lst (((lotsL ns ch).filter p).map tupS)] m = .ok (Qn ns ch fun l => if p l then 1 else 0) m := by
  rw [counted_ok g (fun l hl => (List.mem_filter.mp hl).1) ((lots_nd g).sublist List.filter_sublist), Qn_congr (ns := ns) (ch := ch) (w' := fun l => if p l then 1 else 0)]
  intro l hl
  simp [List.mem_filter, hl]
theorem in_tup (neg : Bool) (x : Str) (l : List Str) (m : Mem) : hIn neg (.str x) (tupS l) m = .ok (.bl (if neg then !decide (x ∈ l) else decide (x ∈ l))) m := seq_strs l x (by simp [tupS, seqV]) neg
theorem any_in (ρ : EnvD) (i j : Nat) (hij : j ≠ i) (l s : List Str) (m : Mem) (hs : ρ[j]? = some (some (tupS s))) (hi : i < ρ.length) : lcGo (gN i) tY (eOp (hIn false) (eVar i) (eVar j)) ρ (l.map .str) [] m = .ok (l.map fun x => .bl (decide (x ∈ s))) m := by
  rw [lcm D.str (fun x => .bl (decide (x ∈ s)))]
  · simp
  · intro x hx
    refine ⟨ρ.set i (some (.str x)), rfl, ?_⟩
    have e1 : (ρ.set i (some (.str x)))[i]? = some (some (.str x)) := List.getElem?_set_self hi
    have e2 : (ρ.set i (some (.str x)))[j]? = some (some (tupS s)) := by rw [List.getElem?_set_ne (Ne.symm hij)]; exact hs
    simp only [x_eOp, x_eVar, e1, varR_ok, kOp1_ok, e2, kOp2_ok, in_tup g, Bool.false_eq_true, if_false]
end
section
variable {ns : List Str} {ch : Bool} (g : GoodNames ns ch) {sm : List Str} (hs : ∀ x ∈ sm, x ∈ ns) {X : D} {m : Mem} (hX : X = .lst (sm.map .str) ∨ X = .tup (sm.map .str))
include g hs hX
theorem refers_ok : Cm.F_refers own [House ns ch, X] m = .ok (Qn ns ch fun l => if l.any (fun x => decide (x ∈ sm)) then 1 else 0) m := by
  have l1 : (("lots" : Str) == ("names" : Str)) = false := by decide +kernel
  have l2 : (("lots" : Str) == ("chain" : Str)) = false := by decide +kernel
  have c1 : (("chosen" : Str) == ("names" : Str)) = false := by decide +kernel
  have c2 : (("chosen" : Str) == ("chain" : Str)) = false := by decide +kernel
  have e1 := fch_ok (own := own) g hs (m := m) hX
  have e2 : lcGo (gN 3) (tTr (eCB (hBls (·.any id)) (aCons (eLc false [4] (iSeq (eVar 3)) (gN 4) (tY) (eOp (hIn false) (eVar 4) (eVar 2))) (aNil)))) (eVar 3) [some (House ns ch), some X, some (tupS (ns.filter fun x => decide (x ∈ sm))), none, none] ((lotsL ns ch).map tupS) [] m = .ok (((lotsL ns ch).filter fun l => l.any fun x => decide (x ∈ sm)).map tupS) m := by
    refine lots_where g _ fun l hl => ⟨_, rfl, ?_, by simp⟩
    have e3 := any_in g [some (House ns ch), some X, some (tupS (ns.filter fun x => decide (x ∈ sm))), some (tupS l), none] 4 2 (by decide) l _ m rfl (by simp)
    have e4 := any_bls (fun x => decide (x ∈ ns.filter fun x => decide (x ∈ sm))) l m
    have e5 : (l.any fun x => decide (x ∈ ns.filter fun x => decide (x ∈ sm))) = l.any fun x => decide (x ∈ sm) := by
      rw [Bool.eq_iff_iff, List.any_eq_true, List.any_eq_true]
      constructor
      · rintro ⟨x, hx, h⟩; simp at h; exact ⟨x, hx, by simpa using h.2⟩
      · rintro ⟨x, hx, h⟩; simp at h; exact ⟨x, hx, by simp [h, lot_sub g hl x hx]⟩
    have e6 : seqI (tupS l) m = .ok (l.map .str) m := rfl
    simp only [x_tTr, x_eCB, x_aCons, x_eLc, x_iSeq, x_eVar, List.getElem?_cons_zero, List.getElem?_cons_succ, List.set_cons_succ, List.set_cons_zero, varR_ok, kSq_ok, e6, x_wipe, x_wipe0, kLc_ok, e3, kFin_ok, finL_f, kC1_ok, x_aNil, kC2_ok, kCB_ok, e4, e5, kTr_ok]
  have e7 := frz_lots g m
  have e8 := counted_where (own := own) g (fun l => l.any fun x => decide (x ∈ sm)) m
  unfold Cm.F_refers
  rw [x_runF, show startD 5 [House ns ch, X] = [some (House ns ch), some X, none, none, none] from rfl]
  unfold Cm.b_refers
  simp only [x_sSeq, x_sSet, x_eMeth, x_eVar, List.getElem?_cons_zero, List.getElem?_cons_succ, List.set_cons_succ, List.set_cons_zero, varR_ok, house_meth c1 c2, house_meth l1 l2, x_aCons, kC1_ok, x_aNil, kC2_ok, kMt2_ok, List.append_nil, List.length_cons, List.length_nil, if_true, e1, kSet_ok, kSeq_nx, x_sRt, x_eCall, x_eLc, x_iSeq, x_eFrz, e7, kSq_ok, seqI_lst, x_wipe, x_wipe0, kLc_ok, e2, kFin_ok, finL_f, kCall_ok, e8, kRt_ok, kRun_rt, cut_same]
theorem freed_ok : Cm.F_freed own [House ns ch, X] m = .ok (Qn ns ch fun l => if l.all (fun x => decide (x ∈ sm)) then 1 else 0) m := by
  have l1 : (("lots" : Str) == ("names" : Str)) = false := by decide +kernel
  have l2 : (("lots" : Str) == ("chain" : Str)) = false := by decide +kernel
  have c1 : (("chosen" : Str) == ("names" : Str)) = false := by decide +kernel
  have c2 : (("chosen" : Str) == ("chain" : Str)) = false := by decide +kernel
  have e1 := fch_ok (own := own) g hs (m := m) hX
  have e2 : lcGo (gN 3) (tTr (eCB (hBls (·.all id)) (aCons (eLc false [4] (iSeq (eVar 3)) (gN 4) (tY) (eOp (hIn false) (eVar 4) (eVar 2))) (aNil)))) (eVar 3) [some (House ns ch), some X, some (tupS (ns.filter fun x => decide (x ∈ sm))), none, none] ((lotsL ns ch).map tupS) [] m = .ok (((lotsL ns ch).filter fun l => l.all fun x => decide (x ∈ sm)).map tupS) m := by
    refine lots_where g _ fun l hl => ⟨_, rfl, ?_, by simp⟩
    have e3 := any_in g [some (House ns ch), some X, some (tupS (ns.filter fun x => decide (x ∈ sm))), some (tupS l), none] 4 2 (by decide) l _ m rfl (by simp)
    have e4 := all_bls (fun x => decide (x ∈ ns.filter fun x => decide (x ∈ sm))) l m
    have e5 : (l.all fun x => decide (x ∈ ns.filter fun x => decide (x ∈ sm))) = l.all fun x => decide (x ∈ sm) := by
      rw [Bool.eq_iff_iff, List.all_eq_true, List.all_eq_true]
      constructor
      · intro h x hx; have := h x hx; simp at this; simpa using this.2
      · intro h x hx; have := h x hx; simp at this; simp [this, lot_sub g hl x hx]
    have e6 : seqI (tupS l) m = .ok (l.map .str) m := rfl
    simp only [x_tTr, x_eCB, x_aCons, x_eLc, x_iSeq, x_eVar, List.getElem?_cons_zero, List.getElem?_cons_succ, List.set_cons_succ, List.set_cons_zero, varR_ok, kSq_ok, e6, x_wipe, x_wipe0, kLc_ok, e3, kFin_ok, finL_f, kC1_ok, x_aNil, kC2_ok, kCB_ok, e4, e5, kTr_ok]
  have e7 := frz_lots g m
  have e8 := counted_where (own := own) g (fun l => l.all fun x => decide (x ∈ sm)) m
  unfold Cm.F_freed
  rw [x_runF, show startD 5 [House ns ch, X] = [some (House ns ch), some X, none, none, none] from rfl]
  unfold Cm.b_freed
  simp only [x_sSeq, x_sSet, x_eMeth, x_eVar, List.getElem?_cons_zero, List.getElem?_cons_succ, List.set_cons_succ, List.set_cons_zero, varR_ok, house_meth c1 c2, house_meth l1 l2, x_aCons, kC1_ok, x_aNil, kC2_ok, kMt2_ok, List.append_nil, List.length_cons, List.length_nil, if_true, e1, kSet_ok, kSeq_nx, x_sRt, x_eCall, x_eLc, x_iSeq, x_eFrz, e7, kSq_ok, seqI_lst, x_wipe, x_wipe0, kLc_ok, e2, kFin_ok, finL_f, kCall_ok, e8, kRt_ok, kRun_rt, cut_same]
theorem shared_ok : Cm.F_shared own [House ns ch, X] m = .ok (Qn ns ch fun l => if sm.all (fun x => decide (x ∈ l)) then 1 else 0) m := by
  have l1 : (("lots" : Str) == ("names" : Str)) = false := by decide +kernel
  have l2 : (("lots" : Str) == ("chain" : Str)) = false := by decide +kernel
  have c1 : (("chosen" : Str) == ("names" : Str)) = false := by decide +kernel
  have c2 : (("chosen" : Str) == ("chain" : Str)) = false := by decide +kernel
  have e1 := fch_ok (own := own) g hs (m := m) hX
  have e2 : lcGo (gN 3) (tTr (eCB (hBls (·.all id)) (aCons (eLc false [4] (iSeq (eVar 2)) (gN 4) (tY) (eOp (hIn false) (eVar 4) (eVar 3))) (aNil)))) (eVar 3) [some (House ns ch), some X, some (tupS (ns.filter fun x => decide (x ∈ sm))), none, none] ((lotsL ns ch).map tupS) [] m = .ok (((lotsL ns ch).filter fun l => sm.all fun x => decide (x ∈ l)).map tupS) m := by
    refine lots_where g _ fun l hl => ⟨_, rfl, ?_, by simp⟩
    have e3 := any_in g [some (House ns ch), some X, some (tupS (ns.filter fun x => decide (x ∈ sm))), some (tupS l), none] 4 3 (by decide) (ns.filter fun x => decide (x ∈ sm)) l m rfl (by simp)
    have e4 := all_bls (fun x => decide (x ∈ l)) (ns.filter fun x => decide (x ∈ sm)) m
    have e5 : ((ns.filter fun x => decide (x ∈ sm)).all fun x => decide (x ∈ l)) = sm.all fun x => decide (x ∈ l) := by
      rw [Bool.eq_iff_iff, List.all_eq_true, List.all_eq_true]
      constructor
      · intro h x hx; exact h x (List.mem_filter.mpr ⟨hs x hx, by simpa using hx⟩)
      · intro h x hx; have := (List.mem_filter.mp hx).2; simp at this; exact h x this
    have e6 : seqI (tupS (ns.filter fun x => decide (x ∈ sm))) m = .ok ((ns.filter fun x => decide (x ∈ sm)).map .str) m := rfl
    simp only [x_tTr, x_eCB, x_aCons, x_eLc, x_iSeq, x_eVar, List.getElem?_cons_zero, List.getElem?_cons_succ, List.set_cons_succ, List.set_cons_zero, varR_ok, kSq_ok, e6, x_wipe, x_wipe0, kLc_ok, e3, kFin_ok, finL_f, kC1_ok, x_aNil, kC2_ok, kCB_ok, e4, e5, kTr_ok]
  have e7 := frz_lots g m
  have e8 := counted_where (own := own) g (fun l => sm.all fun x => decide (x ∈ l)) m
  unfold Cm.F_shared
  rw [x_runF, show startD 5 [House ns ch, X] = [some (House ns ch), some X, none, none, none] from rfl]
  unfold Cm.b_shared
  simp only [x_sSeq, x_sSet, x_eMeth, x_eVar, List.getElem?_cons_zero, List.getElem?_cons_succ, List.set_cons_succ, List.set_cons_zero, varR_ok, house_meth c1 c2, house_meth l1 l2, x_aCons, kC1_ok, x_aNil, kC2_ok, kMt2_ok, List.append_nil, List.length_cons, List.length_nil, if_true, e1, kSet_ok, kSeq_nx, x_sRt, x_eCall, x_eLc, x_iSeq, x_eFrz, e7, kSq_ok, seqI_lst, x_wipe, x_wipe0, kLc_ok, e2, kFin_ok, finL_f, kCall_ok, e8, kRt_ok, kRun_rt, cut_same]
theorem just_ok : Cm.F_just own [House ns ch, X] m = .ok (Qn ns ch fun l => if l = ns.filter (fun x => decide (x ∈ sm)) then 1 else 0) m := by
  have l1 : (("lots" : Str) == ("names" : Str)) = false := by decide +kernel
  have l2 : (("lots" : Str) == ("chain" : Str)) = false := by decide +kernel
  have c1 : (("chosen" : Str) == ("names" : Str)) = false := by decide +kernel
  have c2 : (("chosen" : Str) == ("chain" : Str)) = false := by decide +kernel
  have e1 := fch_ok (own := own) g hs (m := m) hX
  have e2 : lcGo (gN 3) (tTr (eOp (hEqP false) (eVar 3) (eVar 2))) (eVar 3) [some (House ns ch), some X, some (tupS (ns.filter fun x => decide (x ∈ sm))), none] ((lotsL ns ch).map tupS) [] m = .ok (((lotsL ns ch).filter fun l => decide (l = ns.filter fun x => decide (x ∈ sm))).map tupS) m := by
    refine lots_where g _ fun l hl => ⟨_, rfl, ?_, by simp⟩
    have e3 := h_eqT false (ns := l) (ms := ns.filter fun x => decide (x ∈ sm)) (fun s hs => (lot_names g hl s hs).ok) (fun s hs => (g.nm s (List.mem_filter.mp hs).1).ok) m
    simp only [Bool.false_eq_true, if_false] at e3
    have e3' : hEqP false (tupS l) (tupS (ns.filter fun x => decide (x ∈ sm))) m = _ := e3
    simp only [x_tTr, x_eOp, x_eVar, List.getElem?_cons_zero, List.getElem?_cons_succ, List.set_cons_succ, List.set_cons_zero, varR_ok, kOp1_ok, kOp2_ok, e3', kTr_ok]
  have e7 := frz_lots g m
  have e8 := counted_where (own := own) g (fun l => decide (l = ns.filter fun x => decide (x ∈ sm))) m
  unfold Cm.F_just
  rw [x_runF, show startD 4 [House ns ch, X] = [some (House ns ch), some X, none, none] from rfl]
  unfold Cm.b_just
  simp only [x_sSeq, x_sSet, x_eMeth, x_eVar, List.getElem?_cons_zero, List.getElem?_cons_succ, List.set_cons_succ, List.set_cons_zero, varR_ok, house_meth c1 c2, house_meth l1 l2, x_aCons, kC1_ok, x_aNil, kC2_ok, kMt2_ok, List.append_nil, List.length_cons, List.length_nil, if_true, e1, kSet_ok, kSeq_nx, x_sRt, x_eCall, x_eLc, x_iSeq, x_eFrz, e7, kSq_ok, seqI_lst, x_wipe, x_wipe0, kLc_ok, e2, kFin_ok, finL_f, kCall_ok, e8, kRt_ok, kRun_rt, cut_same, decide_eq_true_eq]
end
section
variable {ns : List Str} {ch : Bool} (g : GoodNames ns ch)
include g
theorem sent_ok {a b : Str} (ha : a ∈ ns) (hb : b ∈ ns) (m : Mem) : Cm.F_sent own [House ns ch, .str a, .str b] m = .ok (Qn ns ch fun l => if decide (b ∈ l) && !decide (a ∈ l) then 1 else 0) m := by
  have l1 : (("lots" : Str) == ("names" : Str)) = false := by decide +kernel
  have l2 : (("lots" : Str) == ("chain" : Str)) = false := by decide +kernel
  have c1 : (("chosen" : Str) == ("names" : Str)) = false := by decide +kernel
  have c2 : (("chosen" : Str) == ("chain" : Str)) = false := by decide +kernel
  have z2 : (2 : Nat) ≤ sizeLine := by decide
  have e1 := fch_ok (own := own) g (some_ := [a, b]) (fun x hx => by simp at hx; rcases hx with rfl | rfl <;> assumption) (m := m) (X := .lst [.str a, .str b]) (.inl rfl)
  have e2 : lcGo (gN 3) (tAn (tTr (eOp (hIn false) (eVar 2) (eVar 3))) (tTr (eOp (hIn true) (eVar 1) (eVar 3)))) (eVar 3) [some (House ns ch), some (.str a), some (.str b), none] ((lotsL ns ch).map tupS) [] m = .ok (((lotsL ns ch).filter fun l => decide (b ∈ l) && !decide (a ∈ l)).map tupS) m := by
    refine lots_where g _ fun l hl => ⟨_, rfl, ?_, by simp⟩
    have i1 := in_tup g false b l m
    have i2 := in_tup g true a l m
    cases hb : decide (b ∈ l) with
    | true =>
      rw [hb] at i1
      simp only [x_tAn, x_tTr, x_eOp, x_eVar, List.getElem?_cons_zero, List.getElem?_cons_succ, List.set_cons_succ, List.set_cons_zero, varR_ok, kOp1_ok, kOp2_ok, i1, i2, kTr_ok, Bool.false_eq_true, if_false, if_true, kAn_t, Bool.true_and]
    | false =>
      rw [hb] at i1
      simp only [x_tAn, x_tTr, x_eOp, x_eVar, List.getElem?_cons_zero, List.getElem?_cons_succ, List.set_cons_succ, List.set_cons_zero, varR_ok, kOp1_ok, kOp2_ok, i1, i2, kTr_ok, Bool.false_eq_true, if_false, if_true, kAn_f, Bool.false_and]
  have e7 := frz_lots g m
  have e8 := counted_where (own := own) g (fun l => decide (b ∈ l) && !decide (a ∈ l)) m
  unfold Cm.F_sent
  rw [x_runF, show startD 4 [House ns ch, D.str a, D.str b] = [some (House ns ch), some (.str a), some (.str b), none] from rfl]
  unfold Cm.b_sent
  simp only [x_sSeq, x_sEx, x_eMeth, x_eVar, List.getElem?_cons_zero, List.getElem?_cons_succ, List.set_cons_succ, List.set_cons_zero, varR_ok, house_meth c1 c2, house_meth l1 l2, x_aCons, x_eLst, kC1_ok, x_aNil, kC2_ok, kLst_ok, List.length_cons, List.length_nil, if_pos z2, kMt2_ok, List.append_nil, if_true, e1, kEx_ok, kSeq_nx, x_sRt, x_eCall, x_eLc, x_iSeq, x_eFrz, e7, kSq_ok, seqI_lst, x_wipe, x_wipe0, kLc_ok, e2, kFin_ok, finL_f, kCall_ok, e8, kRt_ok, kRun_rt, cut_same]
theorem whole_ok (m : Mem) : Cm.F_whole own [House ns ch] m = .ok (Qn ns ch fun _ => 1) m := by
  have l1 : (("lots" : Str) == ("names" : Str)) = false := by decide +kernel
  have l2 : (("lots" : Str) == ("chain" : Str)) = false := by decide +kernel
  have e7 := frz_lots g m
  have e8 := counted_ok (own := own) g (as := lotsL ns ch) (fun _ h => h) (lots_nd g) m
  rw [Qn_congr (ns := ns) (ch := ch) (w := fun l => if l ∈ lotsL ns ch then 1 else 0) (w' := fun _ => 1) fun l hl => if_pos hl] at e8
  unfold Cm.F_whole
  rw [x_runF, show startD 1 [House ns ch] = [some (House ns ch)] from rfl]
  unfold Cm.b_whole
  simp only [x_sRt, x_eCall, x_aCons, x_eVar, List.getElem?_cons_zero, varR_ok, kC1_ok, x_eFrz, x_eMeth, house_meth l1 l2, x_aNil, kMt2_ok, List.append_nil, List.length_cons, List.length_nil, if_true, e7, kC2_ok, kCall_ok, e8, kRt_ok, kRun_rt, cut_same]
end
end DM
end
section
set_option maxRecDepth 100000
set_option maxHeartbeats 4000000
/-! Plain mathematics, part 22: questions are reckoned with. -/
namespace DM
open PySem L2 DL
open PySem.PyData (strOk)
variable {own : List Str}
theorem q_ins (m : Mem) (ns : List Str) (ch : Bool) (w : List Str → Int) : insV m (Qn ns ch w) = some (("Question" : Str), [(("folders" : Str), House ns ch), (("row" : Str), D.dT (rowT ns ch w))]) := rfl
@[simp] theorem q_folders (m : Mem) (ns : List Str) (ch : Bool) (w : List Str → Int) : atR ["Question"] "folders" (Qn ns ch w) m = .ok (House ns ch) m := by simp [atR, q_ins]
@[simp] theorem q_row (m : Mem) (ns : List Str) (ch : Bool) (w : List Str → Int) : atR ["Question"] "row" (Qn ns ch w) m = .ok (.dT (rowT ns ch w)) m := by
  have e : (("row" : Str) == ("folders" : Str)) = false := by decide +kernel
  simp [atR, q_ins, List.lookup, e]
theorem q_C (m : Mem) (ns : List Str) (ch : Bool) (w : List Str → Int) : isC "Question" m (Qn ns ch w) := ⟨_, rfl⟩
theorem q_tag (h : ("Question" : Str) ∈ own) (m : Mem) (ns : List Str) (ch : Bool) (w : List Str → Int) : tagD own m (Qn ns ch w) = some (.o "Question") := by simp [Qn, tagD, h]
theorem q_meth {f : Str} (h1 : (f == ("folders" : Str)) = false) (h2 : (f == ("row" : Str)) = false) (n : Nat) (F : HL) (dds : List D) (a : FA) (ρ : EnvD) (m : Mem) (ns : List Str) (ch : Bool) (w : List Str → Int) : kMt1 "Question" f n F dds a ρ (.ok (Qn ns ch w) m) = kMt2 (Qn ns ch w) n F dds (a ρ m) :=
  kMt1_ok _ _ _ _ _ _ _ _ _ (q_ins m ns ch w) (no_at "" _ _ _ _ _ h1 h2)
section
variable {ns : List Str} {ch : Bool} (g : GoodNames ns ch) (hF : ("Folders" : Str) ∈ own)
include g
theorem row_at (w : List Str → Int) {l : List Str} (hl : l ∈ lotsL ns ch) (m : Mem) : hDGet (.dT (rowT ns ch w)) (tupS l) m = .ok (.int (w l)) m :=
  dget_tup _ l m (valD_at (f := fun l : List Str => l) (v := fun l => D.int (w l)) (by simpa using lots_nd g) hl)
theorem row_keys (w : List Str → Int) (m : Mem) : keysI (.dT (rowT ns ch w)) m = .ok ((lotsL ns ch).map tupS) m := by
  rw [keysI_dT]
  unfold rowT
  rw [List.map_map]
  congr 1
  refine List.map_congr_left fun l _ => ?_
  simp only [Function.comp, keyD_kL]
  rfl
include hF
theorem check_ok (w w' : List Str → Int) (m : Mem) : Cm.F_Question_check own [Qn ns ch w, Qn ns ch w'] m = .ok .non m := by
  have e := own_ne hF m g.nm g.nm ch ch
  simp only [decide_true, Bool.and_self, Bool.not_true] at e
  unfold Cm.F_Question_check
  rw [x_runF, show startD 2 [Qn ns ch w, Qn ns ch w'] = [some (Qn ns ch w), some (Qn ns ch w')] from rfl]
  unfold Cm.b_Question_check
  simp [e, cut_same]
/-- two rows are put together, lot by lot -/
theorem rows_with (f : List Str → D) (ρ : EnvD) (i : Nat) (hi : i < ρ.length) (fe : FE) (m : Mem) (h : ∀ l ∈ lotsL ns ch, fe (ρ.set i (some (tupS l))) m = .ok (f l) m) : lcGo (gN i) tY (eTup (aCons (eVar i) (aCons fe (aNil)))) ρ ((lotsL ns ch).map tupS) [] m = .ok ((lotsL ns ch).map fun l => .tup [tupS l, f l]) m := by
  have zl2 : (2 : Nat) ≤ sizeLine := by decide
  rw [lcm tupS (fun l => .tup [tupS l, f l])]
  · simp
  · intro l hl
    refine ⟨ρ.set i (some (tupS l)), rfl, ?_⟩
    have e1 : (ρ.set i (some (tupS l)))[i]? = some (some (tupS l)) := List.getElem?_set_self hi
    simp only [x_eTup, x_aCons, x_eVar, e1, varR_ok, kC1_ok, h l hl, x_aNil, kC2_ok, kTup_ok, List.length_cons, List.length_nil, if_pos zl2]
theorem add_ok (w w' : List Str → Int) (m : Mem) : Cm.F_Question___add__ own [Qn ns ch w, Qn ns ch w'] m = .ok (Qn ns ch fun l => w l + w' l) m := by
  have c1 : (("check" : Str) == ("folders" : Str)) = false := by decide +kernel
  have c2 : (("check" : Str) == ("row" : Str)) = false := by decide +kernel
  have e1 := check_ok g hF w w' m
  have e2 := rows_with g hF (fun l => .int (w l + w' l)) [some (Qn ns ch w), some (Qn ns ch w'), none] 2 (by simp) (eOp hAdd (eOp hDGet (eAt ["Question"] "row" (eVar 0)) (eVar 2)) (eOp hDGet (eAt ["Question"] "row" (eVar 1)) (eVar 2))) m (fun l hl => by simp [row_at g _ hl])
  have e3 := dict_lots false (fun l : List Str => l) (fun l => D.int (w l + w' l)) (as := lotsL ns ch) (by simpa using lots_nd g) m
  have e4 := mk_qall (own := own) g (fun l => w l + w' l) m
  unfold Cm.F_Question___add__
  rw [x_runF, show startD 3 [Qn ns ch w, Qn ns ch w'] = [some (Qn ns ch w), some (Qn ns ch w'), none] from rfl]
  unfold Cm.b_Question___add__
  simp only [x_sSeq, x_sEx, x_eMeth, x_eVar, List.getElem?_cons_zero, List.getElem?_cons_succ, List.set_cons_succ, List.set_cons_zero, varR_ok, q_meth c1 c2, x_aCons, kC1_ok, x_aNil, kC2_ok, kMt2_ok, List.append_nil, List.length_cons, List.length_nil, if_true, e1, kEx_ok, kSeq_nx, x_sRt, x_eFrz, x_eMake, x_eAt, kAt_ok, q_folders, q_row, x_eCB, x_eLc, x_iKy, kKy_ok, row_keys g, x_wipe, x_wipe0, kLc_ok, e2, kFin_ok, finL_f, kCB_ok, e3, newD_f, kMk_ok, e4, kRt_ok, kRun_rt, cut_same]
theorem sub_ok (w w' : List Str → Int) (m : Mem) : Cm.F_Question___sub__ own [Qn ns ch w, Qn ns ch w'] m = .ok (Qn ns ch fun l => w l - w' l) m := by
  have c1 : (("check" : Str) == ("folders" : Str)) = false := by decide +kernel
  have c2 : (("check" : Str) == ("row" : Str)) = false := by decide +kernel
  have e1 := check_ok g hF w w' m
  have e2 := rows_with g hF (fun l => .int (w l - w' l)) [some (Qn ns ch w), some (Qn ns ch w'), none] 2 (by simp) (eOp hSub (eOp hDGet (eAt ["Question"] "row" (eVar 0)) (eVar 2)) (eOp hDGet (eAt ["Question"] "row" (eVar 1)) (eVar 2))) m (fun l hl => by simp [row_at g _ hl])
  have e3 := dict_lots false (fun l : List Str => l) (fun l => D.int (w l - w' l)) (as := lotsL ns ch) (by simpa using lots_nd g) m
  have e4 := mk_qall (own := own) g (fun l => w l - w' l) m
  unfold Cm.F_Question___sub__
  rw [x_runF, show startD 3 [Qn ns ch w, Qn ns ch w'] = [some (Qn ns ch w), some (Qn ns ch w'), none] from rfl]
  unfold Cm.b_Question___sub__
  simp only [x_sSeq, x_sEx, x_eMeth, x_eVar, List.getElem?_cons_zero, List.getElem?_cons_succ, List.set_cons_succ, List.set_cons_zero, varR_ok, q_meth c1 c2, x_aCons, kC1_ok, x_aNil, kC2_ok, kMt2_ok, List.append_nil, List.length_cons, List.length_nil, if_true, e1, kEx_ok, kSeq_nx, x_sRt, x_eFrz, x_eMake, x_eAt, kAt_ok, q_folders, q_row, x_eCB, x_eLc, x_iKy, kKy_ok, row_keys g, x_wipe, x_wipe0, kLc_ok, e2, kFin_ok, finL_f, kCB_ok, e3, newD_f, kMk_ok, e4, kRt_ok, kRun_rt, cut_same]
theorem mul_ok (w : List Str → Int) (n : Int) (hm : ∀ l ∈ lotsL ns ch, CMul (w l) n) (m : Mem) : Cm.F_Question___mul__ own [Qn ns ch w, .int n] m = .ok (Qn ns ch fun l => w l * n) m := by
  have e2 := rows_with g hF (fun l => .int (w l * n)) [some (Qn ns ch w), some (.int n), none] 2 (by simp) (eOp hMul (eOp hDGet (eAt ["Question"] "row" (eVar 0)) (eVar 2)) (eVar 1)) m (fun l hl => by simp [row_at g _ hl, h_mul m (hm l hl)])
  have e3 := dict_lots false (fun l : List Str => l) (fun l => D.int (w l * n)) (as := lotsL ns ch) (by simpa using lots_nd g) m
  have e4 := mk_qall (own := own) g (fun l => w l * n) m
  unfold Cm.F_Question___mul__
  rw [x_runF, show startD 3 [Qn ns ch w, D.int n] = [some (Qn ns ch w), some (.int n), none] from rfl]
  unfold Cm.b_Question___mul__
  simp only [x_sSeq, x_sIf, x_tNo, x_tTr, x_eCall, x_eVar, List.getElem?_cons_zero, List.getElem?_cons_succ, List.set_cons_succ, List.set_cons_zero, varR_ok, x_aCons, kC1_ok, x_aNil, kC2_ok, kCall_ok, List.append_nil, List.length_cons, List.length_nil, if_true, is_whole_int, kTr_ok, kNo_ok, Bool.not_true, kIf_f, x_sNx, kSeq_nx, x_sRt, x_eFrz, x_eMake, x_eAt, kAt_ok, q_folders, q_row, x_eCB, x_eLc, x_iKy, kKy_ok, row_keys g, x_wipe, x_wipe0, kLc_ok, e2, kFin_ok, finL_f, kCB_ok, e3, newD_f, kMk_ok, e4, kRt_ok, kRun_rt, cut_same]
theorem rmul_ok (w : List Str → Int) (n : Int) (hm : ∀ l ∈ lotsL ns ch, CMul (w l) n) (m : Mem) : Cm.F_Question___rmul__ own [Qn ns ch w, .int n] m = .ok (Qn ns ch fun l => w l * n) m := by
  have e := mul_ok g hF w n hm m
  unfold Cm.F_Question___rmul__
  rw [x_runF, show startD 2 [Qn ns ch w, D.int n] = [some (Qn ns ch w), some (.int n)] from rfl]
  unfold Cm.b_Question___rmul__
  have e2 : hBinI "Question" (Cm.F_Question___mul__ own) (Qn ns ch w) (.int n) m = .ok (Qn ns ch fun l => w l * n) m := by
    unfold hBinI
    rw [if_pos ⟨q_C m ns ch w, trivial⟩, e]
  simp [e2, cut_same]
/-! ### as operators -/
theorem op_add (w w' : List Str → Int) (m : Mem) : hBin "Question" (Cm.F_Question___add__ own) (Qn ns ch w) (Qn ns ch w') m = .ok (Qn ns ch fun l => w l + w' l) m := by
  unfold hBin
  rw [if_pos ⟨q_C m ns ch w, q_C m ns ch w'⟩, add_ok g hF]
theorem op_sub (w w' : List Str → Int) (m : Mem) : hBin "Question" (Cm.F_Question___sub__ own) (Qn ns ch w) (Qn ns ch w') m = .ok (Qn ns ch fun l => w l - w' l) m := by
  unfold hBin
  rw [if_pos ⟨q_C m ns ch w, q_C m ns ch w'⟩, sub_ok g hF]
theorem op_rmul (w : List Str → Int) (n : Int) (hm : ∀ l ∈ lotsL ns ch, CMul (w l) n) (m : Mem) : hRBin "Question" (Cm.F_Question___rmul__ own) (.int n) (Qn ns ch w) m = .ok (Qn ns ch fun l => w l * n) m := by
  unfold hRBin
  rw [if_pos ⟨q_C m ns ch w, trivial⟩, rmul_ok g hF w n hm]
end
/-! ### == -/
theorem pyD_rows (m : Mem) (w : List Str → Int) : ∀ ls : List (List Str), pyD m (ls.map fun l => (kL l, .int (w l))) = some (ls.map fun l => (kL l, .int (w l)))
  | [] => rfl
  | l :: ls => by simp only [List.map_cons, pyD, toPy, pyD_rows m w ls]
theorem shp_rows (w : List Str → Int) (ls : List (List Str)) : shpAll (ls.map fun l => (kL l, .int (w l))) = true := by
  unfold shpAll
  rw [List.all_map, List.all_eq_true]
  intro l _
  rfl
theorem lkP_at {ls : List (List Str)} (w : List Str → Int) {l : List Str} (hl : l ∈ ls) : lkP (ls.map fun l => (kL l, PyData.int (w l))) (kL l) = some (.int (w l)) := by
  induction ls with
  | nil => simp at hl
  | cons a ls ih =>
    simp only [List.map_cons, lkP]
    by_cases e : a = l
    · subst e; rw [if_pos rfl]
    · rw [if_neg (fun z => e (kL_inj.mp z))]
      rcases List.mem_cons.mp hl with rfl | hl
      · exact absurd rfl e
      · exact ih hl
theorem eq_rows (neg : Bool) (ns : List Str) (ch : Bool) (w w' : List Str → Int) (m : Mem) : hEqT neg (.dT (rowT ns ch w)) (.dT (rowT ns ch w')) m = .ok (.bl (if neg then !decide (∀ l ∈ lotsL ns ch, w l = w' l) else decide (∀ l ∈ lotsL ns ch, w l = w' l))) m := by
  have e : eqDP ((lotsL ns ch).map fun l => (kL l, .int (w l))) ((lotsL ns ch).map fun l => (kL l, .int (w' l))) = decide (∀ l ∈ lotsL ns ch, w l = w' l) := by
    unfold eqDP
    rw [List.length_map, List.length_map, beq_self_eq_true, Bool.true_and, List.all_map, Bool.eq_iff_iff, List.all_eq_true, decide_eq_true_eq]
    refine forall_congr' fun l => forall_congr' fun hl => ?_
    simp only [Function.comp, eqP1, lkP_at w' hl, PyData.eqv, beq_iff_eq]
  simp only [hEqT, dicT, rowT, pyD_rows, shp_rows, and_self, if_true, e]
section
variable {ns : List Str} {ch : Bool} (g : GoodNames ns ch) (hF : ("Folders" : Str) ∈ own) (hQ : ("Question" : Str) ∈ own)
include g hF hQ
theorem isi_q (m : Mem) (w : List Str → Int) : hIsi own [Qn ns ch w, .glo "Question"] m = .ok (.bl true) m := by
  simp [hIsi, q_tag hQ, clsD, kit, hQ]
theorem eq_q (w w' : List Str → Int) (m : Mem) : Cm.F_Question___eq__ own [Qn ns ch w, Qn ns ch w'] m = .ok (.bl (decide (∀ l ∈ lotsL ns ch, w l = w' l))) m := by
  have e1 := isi_q g hF hQ m w'
  have e2 := own_eq hF m g.nm g.nm ch ch
  simp only [decide_true, Bool.and_self] at e2
  have e3 := eq_rows false ns ch w w' m
  simp only [Bool.false_eq_true, if_false] at e3
  unfold Cm.F_Question___eq__
  rw [x_runF, show startD 2 [Qn ns ch w, Qn ns ch w'] = [some (Qn ns ch w), some (Qn ns ch w')] from rfl]
  unfold Cm.b_Question___eq__
  simp only [x_sRt, x_eAn, x_eCB, x_aCons, x_eVar, List.getElem?_cons_zero, List.getElem?_cons_succ, varR_ok, kC1_ok, x_eC, x_aNil, kC2_ok, kCB_ok, e1, kEAn_t, x_eOp, x_eAt, kAt_ok, q_folders, q_row, kOp1_ok, kOp2_ok, e2, e3, kRt_ok, kRun_rt, cut_same]
theorem ne_q (w w' : List Str → Int) (m : Mem) : hNeO own "Question" (Cm.F_Question___eq__ own) (Qn ns ch w) (Qn ns ch w') m = .ok (.bl (!decide (∀ l ∈ lotsL ns ch, w l = w' l))) m := by
  have e := eq_q g hF hQ w w' m
  unfold hNeO hOwn
  rw [if_pos ⟨q_C m ns ch w, _, q_tag hQ m ns ch w'⟩, e]
  rfl
end
end DM
end
section
set_option maxRecDepth 100000
set_option maxHeartbeats 4000000
/-! Plain mathematics, part 23: the one way as a sum of what striking frees. -/
namespace DM
open PySem L2 DL
def subI (r r' : List Nat) : Bool := r.all fun i => r'.contains i
def noSup : List (List Nat) → Bool
  | [] => true
  | r :: rs => rs.all (fun s => !subI s r) && noSup rs
theorem sup_f : ∀ n, n < 6 → noSup (idxL n false) = true := by decide +kernel
theorem sup_t : ∀ n, n < 13 → noSup (idxL n true) = true := by decide +kernel
/-- each of the one is in the other -/
def sub (k l : List Str) : Bool := k.all fun x => decide (x ∈ l)
theorem sub_self (k : List Str) : sub k k = true := by simp [sub]
theorem noSup_pw : ∀ {ls : List (List Nat)}, noSup ls = true → ls.Pairwise fun a b => subI b a = false
  | [], _ => .nil
  | r :: rs, h => by
    simp only [noSup, Bool.and_eq_true, List.all_eq_true] at h
    exact .cons (fun b hb => by simpa using h.1 b hb) (noSup_pw h.2)
theorem lots_pw {ns : List Str} {ch : Bool} (g : GoodNames ns ch) : (lotsL ns ch).Pairwise fun a b => sub b a = false := by
  rw [lots_idx, List.pairwise_map]
  have hle := g.le
  have h0 : noSup (idxL ns.length ch) = true := by
    cases ch with
    | true => exact sup_t _ (by simp at hle; omega)
    | false => exact sup_f _ (by simp at hle; omega)
  refine List.Pairwise.imp_of_mem ?_ (noSup_pw h0)
  intro a b ha hb h
  have A := asc_lt (g.idx.asc a ha)
  have B := asc_lt (g.idx.asc b hb)
  have e : sub (lotOf ns b) (lotOf ns a) = subI b a := by
    unfold sub subI
    show ((b.map fun i => ns.getD i Str.empty).all _) = _
    rw [List.all_map, Bool.eq_iff_iff, List.all_eq_true, List.all_eq_true]
    refine forall_congr' fun i => forall_congr' fun hi => ?_
    simp only [Function.comp, decide_eq_true_eq, List.contains_iff_mem]
    exact mem_lotOf g A (B i hi)
  rw [e]
  exact h
/-- the sum over all that hold a lot -/
def Sm (ls : List (List Str)) (F : List Str → Int) (k : List Str) : Int := ((ls.filter fun l => sub k l).map F).sum
theorem Sm_nil (F : List Str → Int) (k : List Str) : Sm [] F k = 0 := rfl
theorem Sm_cons (a : List Str) (ls : List (List Str)) (F : List Str → Int) (k : List Str) : Sm (a :: ls) F k = (if sub k a then F a else 0) + Sm ls F k := by
  unfold Sm
  rw [List.filter_cons]
  split <;> simp
theorem Sm_app (as bs : List (List Str)) (F : List Str → Int) (k : List Str) : Sm (as ++ bs) F k = Sm as F k + Sm bs F k := by
  induction as with
  | nil => simp [Sm_nil]
  | cons a as ih => rw [List.cons_append, Sm_cons, Sm_cons, ih]; omega
theorem Sm_rev (ls : List (List Str)) (F : List Str → Int) (k : List Str) : Sm ls.reverse F k = Sm ls F k := by
  induction ls with
  | nil => rfl
  | cons a ls ih => rw [List.reverse_cons, Sm_app, ih, Sm_cons, Sm_cons, Sm_nil]; omega
theorem Sm_none {ls : List (List Str)} {F : List Str → Int} {k : List Str} (h : ∀ l ∈ ls, sub k l = false) : Sm ls F k = 0 := by
  induction ls with
  | nil => rfl
  | cons a ls ih => rw [Sm_cons, ih (fun l hl => h l (by simp [hl])), h a (by simp)]; simp
theorem Sm_add (ls : List (List Str)) (F G : List Str → Int) (k : List Str) : Sm ls (fun l => F l + G l) k = Sm ls F k + Sm ls G k := by
  induction ls with
  | nil => rfl
  | cons a ls ih => rw [Sm_cons, Sm_cons, Sm_cons, ih]; split <;> omega
theorem Sm_congr {ls : List (List Str)} {F G : List Str → Int} {k : List Str} (h : ∀ l ∈ ls, F l = G l) : Sm ls F k = Sm ls G k := by
  induction ls with
  | nil => rfl
  | cons a ls ih => rw [Sm_cons, Sm_cons, ih (fun l hl => h l (by simp [hl])), h a (by simp)]
/-! ### the reckoning -/
def frStep (w : List Str → Int) (acc : List (List Str × Int)) (l : List Str) : List (List Str × Int) := acc ++ [(l, w l - ((acc.filter fun p => sub l p.1).map (·.2)).sum)]
def frAll (w : List Str → Int) (ls : List (List Str)) : List (List Str × Int) := ls.foldl (frStep w) []
theorem frAll_snoc (w : List Str → Int) (ls : List (List Str)) (l : List Str) : frAll w (ls ++ [l]) = frStep w (frAll w ls) l := by simp [frAll, List.foldl_append]
/-- one solution: what is reckoned -/
def sol (w : List Str → Int) : List (List Str) → List Str → Int
  | [] => fun _ => 0
  | a :: ls => fun l => if l = a then w a - Sm ls (sol w ls) a else sol w ls l
theorem sol_ok (w : List Str → Int) : ∀ {ls : List (List Str)}, ls.Nodup → ls.Pairwise (fun a b => sub b a = false) → ∀ k ∈ ls, Sm ls (sol w ls) k = w k
  | [], _, _, k, h => by simp at h
  | a :: ls, nd, pw, k, hk => by
    rw [List.nodup_cons] at nd
    rw [List.pairwise_cons] at pw
    have e0 : ∀ k, Sm ls (sol w (a :: ls)) k = Sm ls (sol w ls) k := fun k => Sm_congr fun l hl => by
      show (if l = a then _ else _) = _
      exact if_neg fun z : l = a => nd.1 (z ▸ hl)
    rw [Sm_cons, e0]
    have ea : sol w (a :: ls) a = w a - Sm ls (sol w ls) a := if_pos rfl
    rcases List.mem_cons.mp hk with rfl | hk
    · rw [sub_self, if_pos rfl, ea]; omega
    · rw [pw.1 k hk, sol_ok w nd.2 pw.2 k hk]; simp
theorem fr_uniq {w F : List Str → Int} {ls : List (List Str)} (nd : ls.Nodup) (pw : ls.Pairwise fun a b => sub b a = false) (h : ∀ k ∈ ls, Sm ls F k = w k) : frAll w ls.reverse = ls.reverse.map fun l => (l, F l) := by
  have key : ∀ (post pre : List (List Str)), ls = pre ++ post → frAll w post.reverse = post.reverse.map fun l => (l, F l) := by
    intro post
    induction post with
    | nil => intro pre _; rfl
    | cons a post ih =>
      intro pre e
      have ih' := ih (pre ++ [a]) (by rw [e]; simp)
      rw [List.reverse_cons, frAll_snoc, ih', List.map_append]
      unfold frStep
      congr 1
      have e1 : (((post.reverse.map fun l => (l, F l)).filter fun p => sub a p.1).map (·.2)).sum = Sm post F a := by
        rw [List.filter_map, List.map_map]
        exact Sm_rev post F a
      have ha : a ∈ ls := by rw [e]; simp
      have e2 := h a ha
      rw [e, Sm_app, Sm_cons, sub_self, if_pos rfl] at e2
      have e3 : Sm pre F a = 0 := Sm_none fun l hl => by
        rw [e, List.pairwise_append] at pw
        exact pw.2.2 l hl a (by simp)
      rw [e1]
      simp only [List.map_cons, List.map_nil, List.cons.injEq, Prod.mk.injEq, true_and, and_true]
      omega
  exact key ls [] rfl
theorem fr_sol (w : List Str → Int) {ls : List (List Str)} (nd : ls.Nodup) (pw : ls.Pairwise fun a b => sub b a = false) : frAll w ls.reverse = ls.reverse.map fun l => (l, sol w ls l) := fr_uniq nd pw (sol_ok w nd pw)
theorem sol_uniq {w F : List Str → Int} {ls : List (List Str)} (nd : ls.Nodup) (pw : ls.Pairwise fun a b => sub b a = false) (h : ∀ k ∈ ls, Sm ls F k = w k) : ∀ l ∈ ls, sol w ls l = F l := fun l hl => by
  have e := (fr_sol w nd pw).symm.trans (fr_uniq nd pw h)
  have e2 := List.map_inj_left.mp e l (by simpa using hl)
  exact (Prod.mk.inj e2).2
end DM
end
section
set_option maxRecDepth 100000
set_option maxHeartbeats 4000000
/-! Plain mathematics, part 24: in_freed. -/
namespace DM
open PySem L2 DL
theorem ints_map {α : Type} (f : α → Int) : ∀ as : List α, intsV (as.map fun a => .int (f a)) = some (as.map f)
  | [] => rfl
  | a :: as => by simp [intsV, ints_map f as]
theorem sum_ints {α : Type} (f : α → Int) (as : List α) (m : Mem) : hSum [.lst (as.map fun a => .int (f a))] m = .ok (.int (as.map f).sum) m := by
  simp only [hSum, lstV, ints_map]
/-- numbers of lots, as a dict -/
def numT (ps : List (List Str × Int)) : List (List Key × D) := ps.map fun p => (kL p.1, .int p.2)
noncomputable def frB : FS := sSeq (sLkD 1 (sSet 3 (eLc false [4] (iKy (eVar 1)) (gN 4) (tTr (eCB (hBls (·.all id)) (aCons (eLc false [5] (iSeq (eVar 2)) (gN 5) (tY) (eOp (hIn false) (eVar 5) (eVar 4))) (aNil)))) (eOp hDGet (eVar 1) (eVar 4)))))
  (sAsg (eOp hSub (eOp hDGet (eAt ["Question"] "row" (eVar 0)) (eVar 2)) (eCB hSum (aCons (eVar 3) (aNil)))) (gDx (eVar 1) (eVar 2)))
theorem fr_parts : Cm.b_Question_in_freed = sSeq (sSet 1 (eD0T)) (sSeq (sFor (iSeq (eUn hRev (eCB (hListD false) (aCons (eAt ["Question"] "row" (eVar 0)) (aNil))))) (gN 2) frB)
  (sRt (eCB (hDict true) (aCons (eLc false [2] (iKy (eAt ["Question"] "row" (eVar 0))) (gN 2) (tTr (eOp (hEqP true) (eOp hDGet (eVar 1) (eVar 2)) (eC (.int 0)))) (eTup (aCons (eVar 2) (aCons (eOp hDGet (eVar 1) (eVar 2)) (aNil))))) (aNil))))) := rfl
section
variable {ns : List Str} {ch : Bool} (g : GoodNames ns ch)
include g
theorem lc_num {fg : FG} {ft : FT} {fe : FE} {ρ : EnvD} {m : Mem} {ps : List (List Str × Int)} (p : List Str × Int → Bool) (f : List Str × Int → D) (h : ∀ q ∈ ps, ∃ ρx, fg (tupS q.1) ρ m = .ok ρx m ∧ ft ρx m = .ok (p q) m ∧ (p q = true → fe ρx m = .ok (f q) m)) : lcGo fg ft fe ρ (ps.map fun q => tupS q.1) [] m = .ok ((ps.filter p).map f) m := by
  have key : ∀ (ls : List (List Str × Int)) (acc : List D), (∀ l ∈ ls, l ∈ ps) → lcGo fg ft fe ρ (ls.map fun q => tupS q.1) acc m = .ok (acc ++ (ls.filter p).map f) m := by
    intro ls
    induction ls with
    | nil => intro acc _; simp [lcGo]
    | cons l ls ih =>
      intro acc hl
      obtain ⟨ρx, h1, h2, h3⟩ := h l (hl l (by simp))
      have hr := fun acc => ih acc fun x hx => hl x (by simp [hx])
      simp only [List.map_cons, lcGo, h1, bindN_ok, h2]
      cases hp : p l with
      | true => simp [h3 hp, hr, hp]
      | false => simp [hr, hp]
  simpa using key _ [] fun _ h => h
theorem fr_step (w : List Str → Int) {m : Mem} {acc : List (List Str × Int)} (ha : (acc.map (·.1)).Nodup) {l : List Str} (hl : l ∈ lotsL ns ch) (hn : l ∉ acc.map (·.1)) (hz : acc.length ≤ 100) (b3 : Option D) :
    ∃ c3, frB [some (Qn ns ch w), some (.mref m.length), some (tupS l), b3, none, none] (m ++ [.dT (numT acc)]) = .nx [some (Qn ns ch w), some (.mref m.length), some (tupS l), c3, none, none] (m ++ [.dT (numT (frStep w acc l))]) := by
  have k1 : (m ++ [MO.dT (numT acc)])[m.length]? = some (.dT (numT acc)) := by simp
  have k2 : (m ++ [MO.dT (numT acc)]).set m.length (.lkT (numT acc)) = m ++ [.lkT (numT acc)] := by simp
  have k3 : (m ++ [MO.lkT (numT acc)])[m.length]? = some (.lkT (numT acc)) := by simp
  have k4 : (m ++ [MO.lkT (numT acc)]).set m.length (.dT (numT acc)) = m ++ [.dT (numT acc)] := by simp
  have e1 : keysI (.mref m.length) (m ++ [.lkT (numT acc)]) = .ok (acc.map fun q => tupS q.1) (m ++ [.lkT (numT acc)]) := by
    rw [keysI_lk k3]
    unfold numT
    rw [List.map_map]
    congr 1
    refine List.map_congr_left fun q _ => ?_
    simp only [Function.comp, keyD_kL]
    rfl
  have e2 : lcGo (gN 4) (tTr (eCB (hBls (·.all id)) (aCons (eLc false [5] (iSeq (eVar 2)) (gN 5) (tY) (eOp (hIn false) (eVar 5) (eVar 4))) (aNil)))) (eOp hDGet (eVar 1) (eVar 4)) [some (Qn ns ch w), some (.mref m.length), some (tupS l), b3, none, none] (acc.map fun q => tupS q.1) [] (m ++ [.lkT (numT acc)]) = .ok ((acc.filter fun q => sub l q.1).map fun q => .int q.2) (m ++ [.lkT (numT acc)]) := by
    refine lc_num g (fun q => sub l q.1) (fun q => .int q.2) fun q hq => ⟨_, rfl, ?_, fun _ => ?_⟩
    · have e3 := any_in g [some (Qn ns ch w), some (.mref m.length), some (tupS l), b3, some (tupS q.1), none] 5 4 (by decide) l q.1 (m ++ [.lkT (numT acc)]) rfl (by simp)
      have e4 := all_bls (fun x => decide (x ∈ q.1)) l (m ++ [.lkT (numT acc)])
      have e6 : seqI (tupS l) (m ++ [.lkT (numT acc)]) = .ok (l.map .str) (m ++ [.lkT (numT acc)]) := rfl
      have e5 : (l.all fun x => decide (x ∈ q.1)) = sub l q.1 := rfl
      simp only [x_tTr, x_eCB, x_aCons, x_eLc, x_iSeq, x_eVar, List.getElem?_cons_zero, List.getElem?_cons_succ, List.set_cons_succ, List.set_cons_zero, varR_ok, kSq_ok, e6, x_wipe, x_wipe0, kLc_ok, e3, kFin_ok, finL_f, kC1_ok, x_aNil, kC2_ok, kCB_ok, e4, e5, kTr_ok]
    · have e7 := dget_mref (i := m.length) (m := m ++ [.lkT (numT acc)]) q.1 (.inr k3) (valD_at (f := fun q : List Str × Int => q.1) (v := fun q => D.int q.2) ha hq)
      simp only [x_eOp, x_eVar, List.getElem?_cons_zero, List.getElem?_cons_succ, List.set_cons_succ, List.set_cons_zero, varR_ok, kOp1_ok, kOp2_ok, e7]
  have e8 := sum_ints (fun q : List Str × Int => q.2) (acc.filter fun q => sub l q.1) (m ++ [.dT (numT acc)])
  have e9 := row_at g w hl (m ++ [.dT (numT acc)])
  have z : acc.length < sizeLine := Nat.lt_of_le_of_lt hz (by decide)
  have e10 : dPut (.mref m.length) (tupS l) (.int (w l - ((acc.filter fun q => sub l q.1).map fun q => q.2).sum)) (m ++ [.dT (numT acc)]) = some (m ++ [.dT (numT (frStep w acc l))]) := by
    have hk : kL l ∉ (numT acc).map (·.1) := fun z => by
      unfold numT at z
      rw [List.map_map] at z
      obtain ⟨q, hq, e⟩ := List.mem_map.mp z
      exact hn (by rw [← kL_inj.mp e]; exact List.mem_map_of_mem hq)
    have hl2 : (numT acc).length < sizeLine := by unfold numT; rw [List.length_map]; exact z
    simp only [dPut, k1, tupS, keysV_strs, if_pos hl2, putT_new _ hk]
    congr 1
    rw [List.set_append_right _ _ (Nat.le_refl _)]
    simp [numT, frStep]
  have l1 : lkAtD [some (Qn ns ch w), some (D.mref m.length), some (tupS l), b3, none, none] (m ++ [.dT (numT acc)]) 1 = some (m.length, numT acc) := lkAtD_of rfl k1
  refine ⟨some (.lst ((acc.filter fun q => sub l q.1).map fun q => .int q.2)), ?_⟩
  · unfold frB
    rw [x_sSeq, sLkD_yes l1, k2]
    simp only [x_sSet, x_eLc, x_iKy, x_eVar, List.getElem?_cons_zero, List.getElem?_cons_succ, List.set_cons_succ, List.set_cons_zero, varR_ok, kKy_ok, e1, x_wipe, x_wipe0, kLc_ok, e2, kFin_ok, finL_f, kSet_ok, unlkDS, k4, kSeq_nx, x_sAsg, x_eOp, x_eAt, kAt_ok, q_row, kOp1_ok, kOp2_ok, e9, x_eCB, x_aCons, kC1_ok, x_aNil, kC2_ok, kCB_ok, e8, h_sub, kAsg_ok, x_gDx, kDx1_ok, kDx2_ok _ _ _ _ _ e10, kAsg2_ok]
theorem listD_row (w : List Str → Int) (m : Mem) : hListD false [.dT (rowT ns ch w)] m = .ok (.lst ((lotsL ns ch).map tupS)) m := by
  have e : ((rowT ns ch w).map fun p => D.tup (p.1.map keyD)) = (lotsL ns ch).map tupS := by
    unfold rowT
    rw [List.map_map]
    refine List.map_congr_left fun l _ => ?_
    simp only [Function.comp, keyD_kL]
    rfl
  simp only [hListD, dicT, newL_f, e]
/-- the numbers that are not 0 -/
def solT (ns : List Str) (ch : Bool) (F : List Str → Int) : List (List Key × D) := ((lotsL ns ch).filter fun l => decide (F l ≠ 0)).map fun l => (kL l, .int (F l))
theorem in_freed_ok (w : List Str → Int) (m : Mem) : ∃ o, Cm.F_Question_in_freed [Qn ns ch w] m = .ok (.mref (m.length + 1)) (m ++ [o, .dT (solT ns ch (sol w (lotsL ns ch)))]) := by
  have nd := lots_nd g
  have few := lots_few g
  have rd : (lotsL ns ch).reverse.Nodup := by unfold List.Nodup at *; rw [List.pairwise_reverse]; exact nd.imp fun h => Ne.symm h
  have keys : ∀ ls : List (List Str), (frAll w ls).map (·.1) = ls := by
    intro ls
    have : ∀ r : List (List Str), (frAll w r.reverse).map (·.1) = r.reverse := by
      intro r
      induction r with
      | nil => rfl
      | cons a r ih => rw [List.reverse_cons, frAll_snoc]; simp [frStep, ih]
    have e := this ls.reverse
    rwa [List.reverse_reverse] at e
  obtain ⟨ρ', m', e, b2, b3, rfl, rfl⟩ := for_st (fg := gN 2) (fb := frB)
    (I := fun i ρ m' => ∃ b2 b3, ρ = [some (Qn ns ch w), some (.mref m.length), b2, b3, none, none] ∧ m' = m ++ [.dT (numT (frAll w ((lotsL ns ch).reverse.take i)))])
    ((lotsL ns ch).reverse.map tupS) 0 [some (Qn ns ch w), some (.mref m.length), none, none, none, none] (m ++ [.dT []]) ⟨_, _, rfl, rfl⟩ (fun i x hx ρ m' hI => by
      obtain ⟨b2, b3, rfl, rfl⟩ := hI
      rw [List.getElem?_map] at hx
      obtain ⟨l, hl, rfl⟩ := Option.map_eq_some_iff.mp hx
      rw [Nat.zero_add]
      have hmem : l ∈ lotsL ns ch := by have := List.mem_of_getElem? hl; simpa using this
      have hlt := (List.getElem?_eq_some_iff.mp hl).1
      have hn : l ∉ (frAll w ((lotsL ns ch).reverse.take i)).map (·.1) := by
        rw [keys]
        intro z
        obtain ⟨j, hj, e3⟩ := List.getElem_of_mem z
        rw [List.length_take] at hj
        have hj2 : j < (lotsL ns ch).reverse.length := by omega
        have e4 : (lotsL ns ch).reverse[j] = l := by rw [← e3, List.getElem_take]
        have e5 : (lotsL ns ch).reverse[i] = l := Option.some.inj ((List.getElem?_eq_getElem hlt).symm.trans hl)
        have := (List.getElem_inj rd).mp (e4.trans e5.symm)
        omega
      have hz : (frAll w ((lotsL ns ch).reverse.take i)).length ≤ 100 := by
        have := congrArg List.length (keys ((lotsL ns ch).reverse.take i))
        rw [List.length_map, List.length_take, List.length_reverse] at this
        omega
      obtain ⟨c3, e6⟩ := fr_step g w (m := m) (by rw [keys]; exact rd.sublist (List.take_sublist _ _)) hmem hn hz b3
      refine ⟨_, _, _, _, rfl, e6, _, _, rfl, ?_⟩
      rw [List.take_succ, hl, Option.toList_some, frAll_snoc])
  have fs := fr_sol w nd (lots_pw g)
  have ef : frAll w ((lotsL ns ch).reverse.take (0 + ((lotsL ns ch).reverse.map tupS).length)) = (lotsL ns ch).reverse.map fun l => (l, sol w (lotsL ns ch) l) := by
    rw [Nat.zero_add, List.length_map, List.take_length, fs]
  rw [ef] at e
  generalize hM : m ++ [MO.dT (numT ((lotsL ns ch).reverse.map fun l => (l, sol w (lotsL ns ch) l)))] = M at e
  have fm : M[m.length]? = some (.dT (numT ((lotsL ns ch).reverse.map fun l => (l, sol w (lotsL ns ch) l)))) := by rw [← hM]; simp
  have lM : M.length = m.length + 1 := by rw [← hM]; simp
  have dg : ∀ l ∈ lotsL ns ch, hDGet (.mref m.length) (tupS l) M = .ok (.int (sol w (lotsL ns ch) l)) M := fun l hl => by
    refine dget_mref l (.inl fm) ?_
    unfold numT
    rw [List.map_map]
    exact valD_at (f := fun l : List Str => l) (v := fun l => D.int (sol w (lotsL ns ch) l)) (as := (lotsL ns ch).reverse) (by simpa using rd) (by simpa using hl)
  have z2 : (2 : Nat) ≤ sizeLine := by decide
  have e7 : lcGo (gN 2) (tTr (eOp (hEqP true) (eOp hDGet (eVar 1) (eVar 2)) (eC (.int 0)))) (eTup (aCons (eVar 2) (aCons (eOp hDGet (eVar 1) (eVar 2)) (aNil)))) [some (Qn ns ch w), some (.mref m.length), none, b3, none, none] ((lotsL ns ch).map tupS) [] M = .ok (((lotsL ns ch).filter fun l => decide (sol w (lotsL ns ch) l ≠ 0)).map fun l => .tup [tupS l, .int (sol w (lotsL ns ch) l)]) M := by
    have k := lc_num g (fg := gN 2) (ft := tTr (eOp (hEqP true) (eOp hDGet (eVar 1) (eVar 2)) (eC (.int 0)))) (fe := eTup (aCons (eVar 2) (aCons (eOp hDGet (eVar 1) (eVar 2)) (aNil)))) (ρ := [some (Qn ns ch w), some (.mref m.length), none, b3, none, none]) (m := M)
      (ps := (lotsL ns ch).map fun l => (l, sol w (lotsL ns ch) l)) (fun q => decide (q.2 ≠ 0)) (fun q => .tup [tupS q.1, .int q.2]) (fun q hq => by
        obtain ⟨l, hl, rfl⟩ := List.mem_map.mp hq
        refine ⟨_, rfl, ?_, fun _ => ?_⟩
        · simp only [x_tTr, x_eOp, x_eVar, List.getElem?_cons_zero, List.getElem?_cons_succ, List.set_cons_succ, List.set_cons_zero, varR_ok, kOp1_ok, kOp2_ok, dg l hl, x_eC, h_eqI, if_true, kTr_ok, decide_not]
        · simp only [x_eTup, x_aCons, x_aNil, x_eOp, x_eVar, List.getElem?_cons_zero, List.getElem?_cons_succ, List.set_cons_succ, List.set_cons_zero, varR_ok, kOp1_ok, kOp2_ok, dg l hl, kC1_ok, kC2_ok, kTup_ok, List.length_cons, List.length_nil, if_pos z2])
    rw [List.map_map, List.filter_map, List.map_map] at k
    exact k
  have e8 := dict_lots true (fun l : List Str => l) (fun l => D.int (sol w (lotsL ns ch) l)) (as := (lotsL ns ch).filter fun l => decide (sol w (lotsL ns ch) l ≠ 0)) (by simpa using nd.sublist List.filter_sublist) M
  have e9 : hRev (.lst ((lotsL ns ch).map tupS)) (m ++ [.dT []]) = .ok (.lst ((lotsL ns ch).reverse.map tupS)) (m ++ [.dT []]) := by simp [hRev, lstV, List.map_reverse]
  refine ⟨.dT (numT ((lotsL ns ch).reverse.map fun l => (l, sol w (lotsL ns ch) l))), ?_⟩
  unfold Cm.F_Question_in_freed
  rw [x_runF, show startD 6 [Qn ns ch w] = [some (Qn ns ch w), none, none, none, none, none] from rfl, fr_parts]
  simp only [x_sSeq, x_sSet, x_eD0T, kSet_ok, List.set_cons_succ, List.set_cons_zero, kSeq_nx, x_sFor, x_iSeq, x_eUn, x_eCB, x_aCons, x_eAt, x_eVar, List.getElem?_cons_zero, List.getElem?_cons_succ, varR_ok, kAt_ok, q_row, kC1_ok, x_aNil, kC2_ok, kCB_ok, listD_row g, kUn_ok, e9, kSq_ok, seqI_lst, kFor_ok, e, x_sRt, x_eLc, x_iKy, kKy_ok, row_keys g, x_wipe, x_wipe0, kLc_ok, e7, kFin_ok, finL_f, e8, newD_t, kRt_ok, kRun_rt]
  have c : ∀ o : MO, DL.cut m (M ++ [o]) [.mref M.length] = M ++ [o] := fun o => by
    unfold DL.cut
    rw [if_neg (by rw [List.length_append, lM]; simp; omega), if_neg]
    rintro ⟨h, _⟩
    have := h _ (List.mem_singleton.mpr rfl)
    cases this with
    | mref h => omega
  rw [c, lM, ← hM]
  simp [solT]
end
end DM
end
section
set_option maxRecDepth 100000
set_option maxHeartbeats 4000000
/-! Plain mathematics, part 25: things in a drawn order. -/
namespace DM
open PySem L2 DL
noncomputable def mixE : FE := eM1 isLst hPop (eVar 2) (eCall 2 Cm.F__law_draw [] (aCons (eVar 0) (aCons (eCB hLen (aCons (eVar 2) (aNil))) (aNil))))
theorem pop_at {m : Mem} {i : Nat} {xs : List D} (h : m[i]? = some (.lst xs)) {k : Int} (h0 : 0 ≤ k) (h1 : k < xs.length) (hb : xs.length < 2 ^ 40) : ∃ y, xs[k.toNat]? = some y ∧ hPop (.mref i) (.int k) m = .ok y (m.set i (.lst (xs.eraseIdx k.toNat))) := by
  have hk : k.toNat < xs.length := by omega
  refine ⟨xs[k.toNat], List.getElem?_eq_getElem hk, ?_⟩
  have e1 : seqIndex? k xs.length = some k.toNat := by
    have n0 : ¬ k < 0 := by omega
    simp [seqIndex?, n0, h0, h1]
  have e2 : -(2 ^ 63) ≤ k ∧ k < 2 ^ 63 := by omega
  simp only [hPop, h, if_pos e2, e1, List.getElem?_eq_getElem hk]
theorem erase_perm {α : Type} : ∀ (l : List α) (i : Nat) (h : i < l.length), l.Perm (l[i] :: l.eraseIdx i)
  | [], _, h => by simp at h
  | a :: l, 0, _ => .refl _
  | a :: l, i + 1, h => by
    have ih := erase_perm l i (by simpa using h)
    simp only [List.getElem_cons_succ, List.eraseIdx_cons_succ]
    exact (ih.cons a).trans (.swap _ _ _)
theorem mix_step {C : Nat} {tl m : Mem} {left : List D} (hs : St C (tl ++ [.lst left]) m) (hC : C < 2 ^ 39) (hl : left ≠ []) (hz : left.length < 2 ^ 39) {ρ : EnvD} (h0 : ρ[0]? = some (some (.mref 1))) (h2 : ρ[2]? = some (some (.mref (tl.length + 2)))) :
    ∃ y left' m', mixE ρ m = .ok y m' ∧ St (C + 1) (tl ++ [.lst left']) m' ∧ left.Perm (y :: left') := by
  have hp : 0 < left.length := List.length_pos_iff.mpr hl
  obtain ⟨d, m1, e, d0, d1, hs1⟩ := draw_ok hs (by omega) (k := (left.length : Nat)) (by omega) (by omega)
  have hm := hs.get
  have hm1 := hs1.get
  obtain ⟨y, ey, ep⟩ := pop_at hm1 d0 d1 (by omega)
  have hk : d.toNat < left.length := by omega
  refine ⟨y, left.eraseIdx d.toNat, _, ?_, hs1.set _, ?_⟩
  · have e1 : isLst (.mref (tl.length + 2)) m = true := by simp [isLst, lstE, hm]
    have e2 : hLen [.mref (tl.length + 2)] m = .ok (.int left.length) m := by simp [hLen, seqV, lstV, hm]
    unfold mixE
    simp only [x_eM1, x_eVar, h2, varR_ok, kM1_ok, e1, if_true, x_eCall, x_aCons, h0, kC1_ok, x_eCB, x_aNil, kC2_ok, kCB_ok, e2, kCall_ok, List.append_nil, List.length_cons, List.length_nil, e, kM2_ok, ep]
  · have e3 : left[d.toNat] = y := Option.some.inj ((List.getElem?_eq_getElem hk).symm.trans ey)
    rw [← e3]
    exact erase_perm left d.toNat hk
theorem mix_go {tl : Mem} {ρ : EnvD} (hρ : ∀ x, (ρ.set 3 x)[0]? = some (some (.mref 1)) ∧ (ρ.set 3 x)[2]? = some (some (.mref (tl.length + 2)))) : ∀ (xs left acc : List D) (C : Nat) (m : Mem), xs.length = left.length → St C (tl ++ [.lst left]) m → C + left.length < 2 ^ 39 →
    ∃ ys m', lcGo (gN 3) tY mixE ρ xs acc m = .ok (acc ++ ys) m' ∧ St (C + left.length) (tl ++ [.lst []]) m' ∧ ys.Perm left
  | [], left, acc, C, m, hl, hs, _ => by
    have : left = [] := List.length_eq_zero_iff.mp (by simpa using hl.symm)
    subst this
    exact ⟨[], m, by simp [lcGo], by simpa using hs, .nil⟩
  | x :: xs, left, acc, C, m, hl, hs, hC => by
    have hne : left ≠ [] := fun z => by rw [z] at hl; simp at hl
    obtain ⟨y, left', m1, e1, hs1, hp⟩ := mix_step hs (by omega) hne (by omega) (ρ := ρ.set 3 (some x)) (hρ _).1 (hρ _).2
    have hlen := hp.length_eq
    simp only [List.length_cons] at hlen hl
    obtain ⟨ys, m2, e2, hs2, hp2⟩ := mix_go hρ xs left' (acc ++ [y]) (C + 1) m1 (by omega) hs1 (by omega)
    refine ⟨y :: ys, m2, ?_, hs2.mono (by omega), (hp2.cons y).trans hp.symm⟩
    simp only [lcGo, x_gN, bindN_ok, x_tY, if_true, e1, e2, List.append_assoc, List.cons_append, List.nil_append]
/-- the same things in some order -/
theorem mixed_ok {C : Nat} {tl m : Mem} (hs : St C tl m) {X : D} {ds : List D} (hX : seqV m X = some ds) (hb : ∀ d ∈ ds, Bel (tl.length + 2) d) (hz : ds.length ≤ 100) (hC : C + 100 < 2 ^ 39) :
    ∃ ys m', Cm.F__law_mixed [.mref 1, X] m = .ok (.lst ys) m' ∧ ys.Perm ds ∧ St (C + ds.length) tl m' := by
  have hl := hs.length
  have hs0 := hs.app [.lst ds]
  obtain ⟨ys, m1, e1, hs1, hp⟩ := mix_go (tl := tl) (ρ := [some (.mref 1), some X, some (.mref (tl.length + 2)), none]) (fun x => ⟨rfl, rfl⟩) (rgD 0 ds.length) ds [] C _ (by simp) hs0 (by omega)
  obtain ⟨m2, ec, hs2⟩ := St.cut (ds := [.lst ys]) hs hs1 (fun d hd => by
    rw [List.mem_singleton] at hd
    subst hd
    rw [bel_lst]
    exact fun x hx => hb x (hp.mem_iff.mp hx))
  refine ⟨ys, m2, ?_, hp, hs2⟩
  have e2 : hListM [X] m = .ok (.mref m.length) (m ++ [.lst ds]) := by simp only [hListM, hX]
  have e3 : hLen [.mref (tl.length + 2)] (m ++ [.lst ds]) = .ok (.int ds.length) (m ++ [.lst ds]) := by
    have := hs0.get
    simp [hLen, seqV, lstV, this]
  have e4 := rg1_small (b := ds.length) hz (m ++ [.lst ds])
  unfold Cm.F__law_mixed
  rw [x_runF, show startD 4 [D.mref 1, X] = [some (.mref 1), some X, none, none] from rfl]
  unfold Cm.b__law_mixed
  have e5 : lcGo (gN 3) tY (eM1 isLst hPop (eVar 2) (eCall 2 Cm.F__law_draw [] (aCons (eVar 0) (aCons (eCB hLen (aCons (eVar 2) (aNil))) (aNil))))) [some (.mref 1), some X, some (.mref (tl.length + 2)), none] (rgD 0 ds.length) [] (m ++ [.lst ds]) = .ok ([] ++ ys) m1 := e1
  simp only [x_sSeq, x_sSet, x_eCB, x_aCons, x_eVar, List.getElem?_cons_zero, List.getElem?_cons_succ, List.set_cons_succ, List.set_cons_zero, varR_ok, kC1_ok, x_aNil, kC2_ok, kCB_ok, e2, kSet_ok, hl, kSeq_nx, x_sRt, x_eLc, x_iRg1, e3, e4, x_wipe, x_wipe0, kLc_ok, e5, List.nil_append, kFin_ok, finL_f, kRt_ok, kRun_rt, ec]
end DM
end
section
set_option maxRecDepth 100000
set_option maxHeartbeats 4000000
/-! Plain mathematics, part 26: the law's questions by words. -/
namespace DM
open PySem L2 DL
open PySem.PyData (strOk)
variable {own : List Str}
inductive Wd where
  | refers | freed | shared | just | sent | whole
def Wd.s : Wd → Str
  | .refers => "refers"
  | .freed => "freed"
  | .shared => "shared"
  | .just => "just"
  | .sent => "sent"
  | .whole => "whole"
/-- which lots a word counts -/
def cnt (wd : Wd) (sm l : List Str) : Bool := match wd with
  | .refers => l.any fun x => decide (x ∈ sm)
  | .freed => l.all fun x => decide (x ∈ sm)
  | .shared => sm.all fun x => decide (x ∈ l)
  | .just => decide (l.length = sm.length) && sm.all fun x => decide (x ∈ l)
  | .sent => (match sm with
    | [a, b] => decide (b ∈ l) && !decide (a ∈ l)
    | _ => false)
  | .whole => true
theorem weq {a b : Str} {r : Bool} (h : (strOk a && strOk b && (decide (a = b) == r)) = true) (m : Mem) : hEqP false (.str a) (.str b) m = .ok (.bl r) m := by
  rw [Bool.and_eq_true, Bool.and_eq_true] at h
  rw [h_eqS false h.1.1 h.1.2]
  simp only [Bool.false_eq_true, if_false]
  rw [beq_iff_eq.mp h.2]
def cntD (wd : Wd) (sm l : List Str) : D := .int (if cnt wd sm l then 1 else 0)
theorem int_bl (b : Bool) (m : Mem) : hInt [.bl b] m = .ok (.int (if b then 1 else 0)) m := rfl
theorem in_lst (neg : Bool) (x : Str) (l : List Str) (m : Mem) : hIn neg (.str x) (.lst (l.map .str)) m = .ok (.bl (if neg then !decide (x ∈ l) else decide (x ∈ l))) m := seq_strs l x (by simp [seqV, lstV]) neg
theorem in_tp (neg : Bool) (x : Str) (l : List Str) (m : Mem) : hIn neg (.str x) (tupS l) m = .ok (.bl (if neg then !decide (x ∈ l) else decide (x ∈ l))) m := seq_strs l x (by simp [tupS, seqV]) neg
theorem any_inL (ρ : EnvD) (i j : Nat) (hij : j ≠ i) (l s : List Str) (m : Mem) {S : D} (hS : S = tupS s ∨ S = .lst (s.map .str)) (hs : ρ[j]? = some (some S)) (hi : i < ρ.length) : lcGo (gN i) tY (eOp (hIn false) (eVar i) (eVar j)) ρ (l.map .str) [] m = .ok (l.map fun x => .bl (decide (x ∈ s))) m := by
  rw [lcm D.str (fun x => .bl (decide (x ∈ s)))]
  · simp
  · intro x hx
    refine ⟨ρ.set i (some (.str x)), rfl, ?_⟩
    have e1 : (ρ.set i (some (.str x)))[i]? = some (some (.str x)) := List.getElem?_set_self hi
    have e2 : (ρ.set i (some (.str x)))[j]? = some (some S) := by rw [List.getElem?_set_ne (Ne.symm hij)]; exact hs
    have e3 : hIn false (.str x) S m = .ok (.bl (decide (x ∈ s))) m := by
      rcases hS with rfl | rfl
      · have := in_tp false x s m; simpa using this
      · have := in_lst false x s m; simpa using this
    simp only [x_eOp, x_eVar, e1, varR_ok, kOp1_ok, e2, kOp2_ok, e3]
theorem q_counted_ok (wd : Wd) (sm : List Str) (h2 : wd.s = Wd.sent.s → sm.length = 2) (ls : List (List Str)) (m : Mem) : Cm.F__law_q_counted [.str wd.s, .lst (sm.map .str), .lst (ls.map tupS)] m = .ok (.lst (ls.map (cntD wd sm))) m := by
  unfold Cm.F__law_q_counted
  rw [x_runF, show startD 5 [D.str wd.s, D.lst (sm.map .str), D.lst (ls.map tupS)] = [some (.str wd.s), some (.lst (sm.map .str)), some (.lst (ls.map tupS)), none, none] from rfl]
  unfold Cm.b__law_q_counted
  have sq : ∀ l : List Str, seqI (tupS l) m = .ok (l.map .str) m := fun l => rfl
  have ln : ∀ l : List Str, hLen [tupS l] m = .ok (.int l.length) m := fun l => by simp [hLen, tupS, seqV]
  have ll : hLen [.lst (sm.map .str)] m = .ok (.int sm.length) m := len_lst m sm
  have fin : ∀ (fe : FE), (∀ l ∈ ls, fe [some (.str wd.s), some (.lst (sm.map .str)), some (.lst (ls.map tupS)), some (tupS l), none] m = .ok (cntD wd sm l) m) → lcGo (gN 3) tY fe [some (.str wd.s), some (.lst (sm.map .str)), some (.lst (ls.map tupS)), none, none] (ls.map tupS) [] m = .ok (ls.map (cntD wd sm)) m := fun fe h => by
    rw [lcm tupS (cntD wd sm)]
    · simp
    · exact fun l hl => ⟨_, rfl, h l hl⟩
  cases wd with
  | refers =>
    have w1 := weq (a := Wd.refers.s) (b := "refers") (r := true) (by decide +kernel) m
    have e := fin (eCB hInt (aCons (eCB (hBls (·.any id)) (aCons (eLc false [4] (iSeq (eVar 3)) (gN 4) (tY) (eOp (hIn false) (eVar 4) (eVar 1))) (aNil))) (aNil))) (fun l hl => by
      have e3 := any_inL [some (.str Wd.refers.s), some (.lst (sm.map .str)), some (.lst (ls.map tupS)), some (tupS l), none] 4 1 (by decide) l sm m (.inr rfl) rfl (by simp)
      have e4 := any_bls (fun x => decide (x ∈ sm)) l m
      simp only [x_eCB, x_aCons, x_eLc, x_iSeq, x_eVar, List.getElem?_cons_zero, List.getElem?_cons_succ, List.set_cons_succ, List.set_cons_zero, varR_ok, kSq_ok, sq, x_wipe, x_wipe0, kLc_ok, e3, kFin_ok, finL_f, kC1_ok, x_aNil, kC2_ok, kCB_ok, e4, int_bl]
      rfl)
    simp only [x_sSeq, x_sIf, x_tTr, x_eOp, x_eVar, List.getElem?_cons_zero, List.getElem?_cons_succ, List.set_cons_succ, List.set_cons_zero, varR_ok, kOp1_ok, x_eC, kOp2_ok, w1, kTr_ok, kIf_t, x_sRt, x_eLc, x_iSeq, kSq_ok, seqI_lst, x_wipe, x_wipe0, kLc_ok, e, kFin_ok, finL_f, kRt_ok, kSeq_rt, kRun_rt, cut_same]
  | freed =>
    have w1 := weq (a := Wd.freed.s) (b := "refers") (r := false) (by decide +kernel) m
    have w2 := weq (a := Wd.freed.s) (b := "freed") (r := true) (by decide +kernel) m
    have e := fin (eCB hInt (aCons (eCB (hBls (·.all id)) (aCons (eLc false [4] (iSeq (eVar 3)) (gN 4) (tY) (eOp (hIn false) (eVar 4) (eVar 1))) (aNil))) (aNil))) (fun l hl => by
      have e3 := any_inL [some (.str Wd.freed.s), some (.lst (sm.map .str)), some (.lst (ls.map tupS)), some (tupS l), none] 4 1 (by decide) l sm m (.inr rfl) rfl (by simp)
      have e4 := all_bls (fun x => decide (x ∈ sm)) l m
      simp only [x_eCB, x_aCons, x_eLc, x_iSeq, x_eVar, List.getElem?_cons_zero, List.getElem?_cons_succ, List.set_cons_succ, List.set_cons_zero, varR_ok, kSq_ok, sq, x_wipe, x_wipe0, kLc_ok, e3, kFin_ok, finL_f, kC1_ok, x_aNil, kC2_ok, kCB_ok, e4, int_bl]
      rfl)
    simp only [x_sSeq, x_sIf, x_tTr, x_eOp, x_eVar, List.getElem?_cons_zero, List.getElem?_cons_succ, List.set_cons_succ, List.set_cons_zero, varR_ok, kOp1_ok, x_eC, kOp2_ok, w1, w2, kTr_ok, kIf_t, kIf_f, x_sNx, kSeq_nx, x_sRt, x_eLc, x_iSeq, kSq_ok, seqI_lst, x_wipe, x_wipe0, kLc_ok, e, kFin_ok, finL_f, kRt_ok, kSeq_rt, kRun_rt, cut_same]
  | shared =>
    have w1 := weq (a := Wd.shared.s) (b := "refers") (r := false) (by decide +kernel) m
    have w2 := weq (a := Wd.shared.s) (b := "freed") (r := false) (by decide +kernel) m
    have w3 := weq (a := Wd.shared.s) (b := "shared") (r := true) (by decide +kernel) m
    have e := fin (eCB hInt (aCons (eCB (hBls (·.all id)) (aCons (eLc false [4] (iSeq (eVar 1)) (gN 4) (tY) (eOp (hIn false) (eVar 4) (eVar 3))) (aNil))) (aNil))) (fun l hl => by
      have e3 := any_inL [some (.str Wd.shared.s), some (.lst (sm.map .str)), some (.lst (ls.map tupS)), some (tupS l), none] 4 3 (by decide) sm l m (.inl rfl) rfl (by simp)
      have e4 := all_bls (fun x => decide (x ∈ l)) sm m
      simp only [x_eCB, x_aCons, x_eLc, x_iSeq, x_eVar, List.getElem?_cons_zero, List.getElem?_cons_succ, List.set_cons_succ, List.set_cons_zero, varR_ok, kSq_ok, seqI_lst, x_wipe, x_wipe0, kLc_ok, e3, kFin_ok, finL_f, kC1_ok, x_aNil, kC2_ok, kCB_ok, e4, int_bl]
      rfl)
    simp only [x_sSeq, x_sIf, x_tTr, x_eOp, x_eVar, List.getElem?_cons_zero, List.getElem?_cons_succ, List.set_cons_succ, List.set_cons_zero, varR_ok, kOp1_ok, x_eC, kOp2_ok, w1, w2, w3, kTr_ok, kIf_t, kIf_f, x_sNx, kSeq_nx, x_sRt, x_eLc, x_iSeq, kSq_ok, seqI_lst, x_wipe, x_wipe0, kLc_ok, e, kFin_ok, finL_f, kRt_ok, kSeq_rt, kRun_rt, cut_same]
  | just =>
    have w1 := weq (a := Wd.just.s) (b := "refers") (r := false) (by decide +kernel) m
    have w2 := weq (a := Wd.just.s) (b := "freed") (r := false) (by decide +kernel) m
    have w3 := weq (a := Wd.just.s) (b := "shared") (r := false) (by decide +kernel) m
    have w4 := weq (a := Wd.just.s) (b := "just") (r := true) (by decide +kernel) m
    have e := fin (eCB hInt (aCons (eAn (eOp (hEqP false) (eCB hLen (aCons (eVar 3) (aNil))) (eCB hLen (aCons (eVar 1) (aNil)))) (eCB (hBls (·.all id)) (aCons (eLc false [4] (iSeq (eVar 1)) (gN 4) (tY) (eOp (hIn false) (eVar 4) (eVar 3))) (aNil)))) (aNil))) (fun l hl => by
      have e3 := any_inL [some (.str Wd.just.s), some (.lst (sm.map .str)), some (.lst (ls.map tupS)), some (tupS l), none] 4 3 (by decide) sm l m (.inl rfl) rfl (by simp)
      have e4 := all_bls (fun x => decide (x ∈ l)) sm m
      by_cases hn : l.length = sm.length
      · have hn' : (l.length : Int) = sm.length := by omega
        have ec : cnt .just sm l = sm.all fun x => decide (x ∈ l) := by simp [cnt, hn]
        simp only [x_eCB, x_aCons, x_eAn, x_eOp, x_eLc, x_iSeq, x_eVar, List.getElem?_cons_zero, List.getElem?_cons_succ, List.set_cons_succ, List.set_cons_zero, varR_ok, kSq_ok, seqI_lst, x_wipe, x_wipe0, kLc_ok, e3, kFin_ok, finL_f, kC1_ok, x_aNil, kC2_ok, kCB_ok, ln, ll, kOp1_ok, kOp2_ok, h_eqI, Bool.false_eq_true, if_false, decide_eq_true hn', kEAn_t, e4, int_bl, cntD, ec]
      · have hn' : ¬ (l.length : Int) = sm.length := by omega
        have ec : cnt .just sm l = false := by simp [cnt, hn]
        simp only [x_eCB, x_aCons, x_eAn, x_eOp, x_eLc, x_iSeq, x_eVar, List.getElem?_cons_zero, List.getElem?_cons_succ, List.set_cons_succ, List.set_cons_zero, varR_ok, kC1_ok, x_aNil, kC2_ok, kCB_ok, ln, ll, kOp1_ok, kOp2_ok, h_eqI, Bool.false_eq_true, if_false, decide_eq_false hn', kEAn_f, int_bl, cntD, ec])
    simp only [x_sSeq, x_sIf, x_tTr, x_eOp, x_eVar, List.getElem?_cons_zero, List.getElem?_cons_succ, List.set_cons_succ, List.set_cons_zero, varR_ok, kOp1_ok, x_eC, kOp2_ok, w1, w2, w3, w4, kTr_ok, kIf_t, kIf_f, x_sNx, kSeq_nx, x_sRt, x_eLc, x_iSeq, kSq_ok, seqI_lst, x_wipe, x_wipe0, kLc_ok, e, kFin_ok, finL_f, kRt_ok, kSeq_rt, kRun_rt, cut_same]
  | sent =>
    have w1 := weq (a := Wd.sent.s) (b := "refers") (r := false) (by decide +kernel) m
    have w2 := weq (a := Wd.sent.s) (b := "freed") (r := false) (by decide +kernel) m
    have w3 := weq (a := Wd.sent.s) (b := "shared") (r := false) (by decide +kernel) m
    have w4 := weq (a := Wd.sent.s) (b := "just") (r := false) (by decide +kernel) m
    have w5 := weq (a := Wd.sent.s) (b := "sent") (r := true) (by decide +kernel) m
    have h2' := h2 rfl
    match sm, h2' with
    | [a, b], _ =>
    have ix0 : hIx (.lst [.str a, .str b]) (.int 0) m = .ok (.str a) m := by simp [hIx, seqV, lstV, atI, ixN]
    have ix1 : hIx (.lst [.str a, .str b]) (.int 1) m = .ok (.str b) m := by simp [hIx, seqV, lstV, atI, ixN]
    have e := fin (eCB hInt (aCons (eAn (eOp (hIn false) (eOp hIx (eVar 1) (eC (.int 1))) (eVar 3)) (eOp (hIn true) (eOp hIx (eVar 1) (eC (.int 0))) (eVar 3))) (aNil))) (fun l hl => by
      have i1 := in_tp false b l m
      have i2 := in_tp true a l m
      simp only [List.map_cons, List.map_nil]
      cases hb : decide (b ∈ l) with
      | true =>
        rw [hb] at i1
        simp only [x_eCB, x_aCons, x_eAn, x_eOp, x_eVar, List.getElem?_cons_zero, List.getElem?_cons_succ, varR_ok, kOp1_ok, x_eC, kOp2_ok, ix0, ix1, i1, i2, Bool.false_eq_true, if_false, if_true, kEAn_t, kC1_ok, x_aNil, kC2_ok, kCB_ok, int_bl, cntD, cnt, hb, Bool.true_and]
      | false =>
        rw [hb] at i1
        simp only [x_eCB, x_aCons, x_eAn, x_eOp, x_eVar, List.getElem?_cons_zero, List.getElem?_cons_succ, varR_ok, kOp1_ok, x_eC, kOp2_ok, ix0, ix1, i1, i2, Bool.false_eq_true, if_false, if_true, kEAn_f, kC1_ok, x_aNil, kC2_ok, kCB_ok, int_bl, cntD, cnt, hb, Bool.false_and])
    simp only [x_sSeq, x_sIf, x_tTr, x_eOp, x_eVar, List.getElem?_cons_zero, List.getElem?_cons_succ, List.set_cons_succ, List.set_cons_zero, varR_ok, kOp1_ok, x_eC, kOp2_ok, w1, w2, w3, w4, w5, kTr_ok, kIf_t, kIf_f, x_sNx, kSeq_nx, x_sRt, x_eLc, x_iSeq, kSq_ok, seqI_lst, x_wipe, x_wipe0, kLc_ok, e, kFin_ok, finL_f, kRt_ok, kSeq_rt, kRun_rt, cut_same]
  | whole =>
    have w1 := weq (a := Wd.whole.s) (b := "refers") (r := false) (by decide +kernel) m
    have w2 := weq (a := Wd.whole.s) (b := "freed") (r := false) (by decide +kernel) m
    have w3 := weq (a := Wd.whole.s) (b := "shared") (r := false) (by decide +kernel) m
    have w4 := weq (a := Wd.whole.s) (b := "just") (r := false) (by decide +kernel) m
    have w5 := weq (a := Wd.whole.s) (b := "sent") (r := false) (by decide +kernel) m
    have e := fin (eC (.int 1)) (fun l hl => rfl)
    simp only [x_sSeq, x_sIf, x_tTr, x_eOp, x_eVar, List.getElem?_cons_zero, List.getElem?_cons_succ, List.set_cons_succ, List.set_cons_zero, varR_ok, kOp1_ok, x_eC, kOp2_ok, w1, w2, w3, w4, w5, kTr_ok, kIf_t, kIf_f, x_sNx, kSeq_nx, x_sRt, x_eLc, x_iSeq, kSq_ok, seqI_lst, x_wipe, x_wipe0, kLc_ok, e, kFin_ok, finL_f, kRt_ok, kSeq_rt, kRun_rt, cut_same]
end DM
end
section
set_option maxRecDepth 100000
set_option maxHeartbeats 4000000
/-! Plain mathematics, part 27: the law's named questions. -/
namespace DM
open PySem L2 DL
open PySem.PyData (strOk)
variable {own : List Str}
/-- some are kept, by draws -/
theorem lc_flt {α : Type} {fg : FG} {ft : FT} {fe : FE} {ρ : EnvD} {I : Nat → Mem → Prop} (d : α → D) : ∀ (as : List α) (acc : List D) (n : Nat) (m : Mem), I n m → (∀ x ∈ as, ∀ k m, k < n + as.length → I k m → ∃ ρx b m1, fg (d x) ρ m = .ok ρx m ∧ ft ρx m = .ok b m1 ∧ fe ρx m1 = .ok (d x) m1 ∧ I (k + 1) m1) →
    ∃ (bs : List α) (m' : Mem), lcGo fg ft fe ρ (as.map d) acc m = .ok (acc ++ bs.map d) m' ∧ bs.Sublist as ∧ I (n + as.length) m'
  | [], acc, n, m, h, _ => ⟨[], m, by simp [lcGo], .slnil, by simpa using h⟩
  | a :: as, acc, n, m, h, s => by
    obtain ⟨ρx, b, m1, h1, h2, h3, h4⟩ := s a (by simp) n m (by simp) h
    have go := fun acc => lc_flt d as acc (n + 1) m1 h4 fun x hx k m hk hI => s x (by simp [hx]) k m (by simp only [List.length_cons]; omega) hI
    cases b with
    | true =>
      obtain ⟨bs, m', e1, e2, e3⟩ := go (acc ++ [d a])
      refine ⟨a :: bs, m', ?_, e2.cons_cons a, by rw [List.length_cons]; rw [show n + (as.length + 1) = n + 1 + as.length by omega]; exact e3⟩
      simp only [List.map_cons, lcGo, h1, bindN_ok, h2, if_true, h3, e1, List.append_assoc, List.cons_append, List.nil_append]
    | false =>
      obtain ⟨bs, m', e1, e2, e3⟩ := go acc
      refine ⟨bs, m', ?_, e2.cons a, by rw [List.length_cons]; rw [show n + (as.length + 1) = n + 1 + as.length by omega]; exact e3⟩
      simp only [List.map_cons, lcGo, h1, bindN_ok, h2, Bool.false_eq_true, if_false, e1]
theorem h_eqLs (neg : Bool) {ns ms : List Str} (h1 : ∀ s ∈ ns, strOk s = true) (h2 : ∀ s ∈ ms, strOk s = true) (m : Mem) : hEqP neg (.lst (ns.map .str)) (.lst (ms.map .str)) m = .ok (.bl (if neg then !decide (ns = ms) else decide (ns = ms))) m := by
  have sh : ∀ {l : List Str}, (∀ s ∈ l, strOk s = true) → SeqAt.shaped (.list (l.map .str)) = true := fun {l} h => by
    obtain ⟨a, b⟩ := lay_strs h
    simp [SeqAt.shaped, PyData.canLay0, PyData.depth, a, b]
  simp only [hEqP, toPyM, toPy, py_strs, Option.map_some, sh h1, sh h2, and_self, if_true, PyData.eqv, eqv_strs]
theorem just_eq {ns : List Str} {ch : Bool} (g : GoodNames ns ch) {sm l : List Str} (hs : ∀ x ∈ sm, x ∈ ns) (hn : sm.Nodup) (hl : l ∈ lotsL ns ch) : decide (l = ns.filter fun x => decide (x ∈ sm)) = cnt .just sm l := by
  rw [Bool.eq_iff_iff, decide_eq_true_eq]
  simp only [cnt, Bool.and_eq_true, decide_eq_true_eq, List.all_eq_true]
  have lnd : l.Nodup := by rw [← lot_filter g hl]; exact g.nd.sublist List.filter_sublist
  constructor
  · intro e
    have fwd : ∀ x ∈ sm, x ∈ l := fun x hx => by rw [e]; exact List.mem_filter.mpr ⟨hs x hx, by simpa using hx⟩
    have bwd : ∀ x ∈ l, x ∈ sm := fun x hx => by rw [e] at hx; have := (List.mem_filter.mp hx).2; simpa using this
    exact ⟨Nat.le_antisymm (len_le lnd bwd) (len_le hn fwd), fun x hx => fwd x hx⟩
  · rintro ⟨e1, e2⟩
    have bwd : ∀ x ∈ l, x ∈ sm := fun y hy => by
      by_cases hc : y ∈ sm
      · exact hc
      · exfalso
        have := len_le (l := y :: sm) (l' := l) (List.nodup_cons.mpr ⟨hc, hn⟩) fun x hx => by
          rcases List.mem_cons.mp hx with rfl | hx
          · exact hy
          · exact e2 x hx
        simp at this
        omega
    refine (lot_filter g hl).symm.trans (List.filter_congr fun x _ => decide_eq_decide.mpr ⟨fun h => bwd x h, fun h => e2 x h⟩)
section
variable {ns : List Str} {ch : Bool} (g : GoodNames ns ch)
include g
theorem made_ok (wd : Wd) {sm sm' : List Str} (hs : ∀ x ∈ sm, x ∈ ns) (hm : ∀ x, x ∈ sm' ↔ x ∈ sm) (hj : wd.s = Wd.just.s → sm.Nodup) (h2 : wd.s = Wd.sent.s → sm' = sm ∧ sm.length = 2) (m : Mem) :
    Cm.F__law_q_made own [.str wd.s, House ns ch, .lst (sm'.map .str)] m = .ok (Qn ns ch fun l => if cnt wd sm l then 1 else 0) m := by
  have hs' : ∀ x ∈ sm', x ∈ ns := fun x hx => hs x ((hm x).mp hx)
  have hdec : ∀ x, decide (x ∈ sm') = decide (x ∈ sm) := fun x => decide_eq_decide.mpr (hm x)
  unfold Cm.F__law_q_made
  rw [x_runF, show startD 3 [D.str wd.s, House ns ch, D.lst (sm'.map .str)] = [some (.str wd.s), some (House ns ch), some (.lst (sm'.map .str))] from rfl]
  unfold Cm.b__law_q_made
  cases wd with
  | refers =>
    have w1 := weq (a := Wd.refers.s) (b := "refers") (r := true) (by decide +kernel) m
    have e := refers_ok (own := own) g hs' (m := m) (X := .lst (sm'.map .str)) (.inl rfl)
    have e2 : Qn ns ch (fun l => if l.any (fun x => decide (x ∈ sm')) then 1 else 0) = Qn ns ch fun l => if cnt .refers sm l then 1 else 0 := by
      refine Qn_congr fun l _ => ?_
      have : (l.any fun x => decide (x ∈ sm')) = cnt .refers sm l := by simp only [hdec, cnt]
      rw [this]
    rw [e2] at e
    simp only [x_sSeq, x_sIf, x_tTr, x_eOp, x_eVar, List.getElem?_cons_zero, List.getElem?_cons_succ, varR_ok, kOp1_ok, x_eC, kOp2_ok, w1, kTr_ok, kIf_t, x_sRt, x_eCall, x_aCons, kC1_ok, x_aNil, kC2_ok, kCall_ok, List.append_nil, List.length_cons, List.length_nil, if_true, e, kRt_ok, kSeq_rt, kRun_rt, cut_same]
  | freed =>
    have w1 := weq (a := Wd.freed.s) (b := "refers") (r := false) (by decide +kernel) m
    have w2 := weq (a := Wd.freed.s) (b := "freed") (r := true) (by decide +kernel) m
    have e := freed_ok (own := own) g hs' (m := m) (X := .lst (sm'.map .str)) (.inl rfl)
    have e2 : Qn ns ch (fun l => if l.all (fun x => decide (x ∈ sm')) then 1 else 0) = Qn ns ch fun l => if cnt .freed sm l then 1 else 0 := by
      refine Qn_congr fun l _ => ?_
      have : (l.all fun x => decide (x ∈ sm')) = cnt .freed sm l := by simp only [hdec, cnt]
      rw [this]
    rw [e2] at e
    simp only [x_sSeq, x_sIf, x_tTr, x_eOp, x_eVar, List.getElem?_cons_zero, List.getElem?_cons_succ, varR_ok, kOp1_ok, x_eC, kOp2_ok, w1, w2, kTr_ok, kIf_t, kIf_f, x_sNx, kSeq_nx, x_sRt, x_eCall, x_aCons, kC1_ok, x_aNil, kC2_ok, kCall_ok, List.append_nil, List.length_cons, List.length_nil, if_true, e, kRt_ok, kSeq_rt, kRun_rt, cut_same]
  | shared =>
    have w1 := weq (a := Wd.shared.s) (b := "refers") (r := false) (by decide +kernel) m
    have w2 := weq (a := Wd.shared.s) (b := "freed") (r := false) (by decide +kernel) m
    have w3 := weq (a := Wd.shared.s) (b := "shared") (r := true) (by decide +kernel) m
    have e := shared_ok (own := own) g hs' (m := m) (X := .lst (sm'.map .str)) (.inl rfl)
    have e2 : Qn ns ch (fun l => if sm'.all (fun x => decide (x ∈ l)) then 1 else 0) = Qn ns ch fun l => if cnt .shared sm l then 1 else 0 := by
      refine Qn_congr fun l _ => ?_
      have : (sm'.all fun x => decide (x ∈ l)) = cnt .shared sm l := by
        simp only [cnt]
        rw [Bool.eq_iff_iff, List.all_eq_true, List.all_eq_true]
        exact ⟨fun h x hx => h x ((hm x).mpr hx), fun h x hx => h x ((hm x).mp hx)⟩
      rw [this]
    rw [e2] at e
    simp only [x_sSeq, x_sIf, x_tTr, x_eOp, x_eVar, List.getElem?_cons_zero, List.getElem?_cons_succ, varR_ok, kOp1_ok, x_eC, kOp2_ok, w1, w2, w3, kTr_ok, kIf_t, kIf_f, x_sNx, kSeq_nx, x_sRt, x_eCall, x_aCons, kC1_ok, x_aNil, kC2_ok, kCall_ok, List.append_nil, List.length_cons, List.length_nil, if_true, e, kRt_ok, kSeq_rt, kRun_rt, cut_same]
  | just =>
    have w1 := weq (a := Wd.just.s) (b := "refers") (r := false) (by decide +kernel) m
    have w2 := weq (a := Wd.just.s) (b := "freed") (r := false) (by decide +kernel) m
    have w3 := weq (a := Wd.just.s) (b := "shared") (r := false) (by decide +kernel) m
    have w4 := weq (a := Wd.just.s) (b := "just") (r := true) (by decide +kernel) m
    have e := just_ok (own := own) g hs' (m := m) (X := .lst (sm'.map .str)) (.inl rfl)
    have e2 : Qn ns ch (fun l => if l = ns.filter (fun x => decide (x ∈ sm')) then 1 else 0) = Qn ns ch fun l => if cnt .just sm l then 1 else 0 := by
      refine Qn_congr fun l hl => ?_
      have := just_eq g hs (hj rfl) hl
      simp only [hdec]
      rw [← this]
      simp only [decide_eq_true_eq]
    rw [e2] at e
    simp only [x_sSeq, x_sIf, x_tTr, x_eOp, x_eVar, List.getElem?_cons_zero, List.getElem?_cons_succ, varR_ok, kOp1_ok, x_eC, kOp2_ok, w1, w2, w3, w4, kTr_ok, kIf_t, kIf_f, x_sNx, kSeq_nx, x_sRt, x_eCall, x_aCons, kC1_ok, x_aNil, kC2_ok, kCall_ok, List.append_nil, List.length_cons, List.length_nil, if_true, e, kRt_ok, kSeq_rt, kRun_rt, cut_same]
  | sent =>
    have w1 := weq (a := Wd.sent.s) (b := "refers") (r := false) (by decide +kernel) m
    have w2 := weq (a := Wd.sent.s) (b := "freed") (r := false) (by decide +kernel) m
    have w3 := weq (a := Wd.sent.s) (b := "shared") (r := false) (by decide +kernel) m
    have w4 := weq (a := Wd.sent.s) (b := "just") (r := false) (by decide +kernel) m
    have w5 := weq (a := Wd.sent.s) (b := "sent") (r := true) (by decide +kernel) m
    obtain ⟨e0, hl⟩ := h2 rfl
    subst e0
    match sm', hl, hs with
    | [a, b], _, hs =>
    have ix0 : hIx (.lst [.str a, .str b]) (.int 0) m = .ok (.str a) m := by simp [hIx, seqV, lstV, atI, ixN]
    have ix1 : hIx (.lst [.str a, .str b]) (.int 1) m = .ok (.str b) m := by simp [hIx, seqV, lstV, atI, ixN]
    have e : Cm.F_sent own [House ns ch, .str a, .str b] m = .ok (Qn ns ch fun l => if cnt .sent [a, b] l then 1 else 0) m := sent_ok (own := own) g (hs a (by simp)) (hs b (by simp)) m
    simp only [List.map_cons, List.map_nil]
    simp only [x_sSeq, x_sIf, x_tTr, x_eOp, x_eVar, List.getElem?_cons_zero, List.getElem?_cons_succ, varR_ok, kOp1_ok, x_eC, kOp2_ok, w1, w2, w3, w4, w5, kTr_ok, kIf_t, kIf_f, x_sNx, kSeq_nx, x_sRt, x_eIf, kEIf_t, x_eCall, x_aCons, kC1_ok, ix0, ix1, x_aNil, kC2_ok, kCall_ok, List.append_nil, List.length_cons, List.length_nil, if_true, e, kRt_ok, kSeq_rt, kRun_rt, cut_same]
  | whole =>
    have w1 := weq (a := Wd.whole.s) (b := "refers") (r := false) (by decide +kernel) m
    have w2 := weq (a := Wd.whole.s) (b := "freed") (r := false) (by decide +kernel) m
    have w3 := weq (a := Wd.whole.s) (b := "shared") (r := false) (by decide +kernel) m
    have w4 := weq (a := Wd.whole.s) (b := "just") (r := false) (by decide +kernel) m
    have w5 := weq (a := Wd.whole.s) (b := "sent") (r := false) (by decide +kernel) m
    have e : Cm.F_whole own [House ns ch] m = .ok (Qn ns ch fun l => if cnt .whole sm l then 1 else 0) m := by rw [whole_ok (own := own) g m]; rfl
    simp only [x_sSeq, x_sIf, x_tTr, x_eOp, x_eVar, List.getElem?_cons_zero, List.getElem?_cons_succ, varR_ok, kOp1_ok, x_eC, kOp2_ok, w1, w2, w3, w4, w5, kTr_ok, kIf_t, kIf_f, x_sNx, kSeq_nx, x_sRt, x_eIf, kEIf_f, x_eCall, x_aCons, kC1_ok, x_aNil, kC2_ok, kCall_ok, List.append_nil, List.length_cons, List.length_nil, if_true, e, kRt_ok, kSeq_rt, kRun_rt, cut_same]
end
end DM
end
section
set_option maxRecDepth 100000
set_option maxHeartbeats 4000000
/-! Plain mathematics, part 28: a question drawn by a word. -/
namespace DM
open PySem L2 DL
open PySem.PyData (strOk)
variable {own : List Str}
theorem St.same {C C' : Nat} {tl m m' : Mem} (h : St C tl m) (h' : St C' tl m') (ds : List D) : DL.cut m m' ds = m' := cut_same _ _ _ (by rw [h.length, h'.length])
noncomputable def nA : FS := sSet 4 (eCall 2 Cm.F__law_pick [] (aCons (eVar 0) (aCons (eLst (aCons (eC (.str "refers")) (aCons (eC (.str "refers")) (aCons (eC (.str "freed")) (aCons (eC (.str "freed")) (aCons (eC (.str "shared")) (aCons (eC (.str "just")) (aCons (eC (.str "sent")) (aCons (eC (.str "whole")) (aNil)))))))))) (aNil))))
noncomputable def nB : FS := sSet 5 (eLc false [7] (iSeq (eVar 2)) (gN 7) (tTr (eOp (hEqP false) (eCall 2 Cm.F__law_draw [] (aCons (eVar 0) (aCons (eC (.int 2)) (aNil)))) (eC (.int 0)))) (eVar 7))
noncomputable def nC : FS := sIf (tAn (tTr (eOp (hIn false) (eVar 4) (eTup (aCons (eC (.str "refers")) (aCons (eC (.str "freed")) (aNil)))))) (tTr (eOp (hEqP false) (eVar 5) (eLst (aNil))))) (sSet 5 (eLst (aCons (eCall 2 Cm.F__law_pick [] (aCons (eVar 0) (aCons (eVar 2) (aNil)))) (aNil)))) (sNx)
noncomputable def nD : FS := sIf (tTr (eOp (hEqP false) (eVar 4) (eC (.str "sent")))) (sSet 5 (eLst (aCons (eCall 2 Cm.F__law_pick [] (aCons (eVar 0) (aCons (eVar 2) (aNil)))) (aCons (eCall 2 Cm.F__law_pick [] (aCons (eVar 0) (aCons (eVar 2) (aNil)))) (aNil))))) (sNx)
noncomputable def nE : FS := sSet 6 (eIf (tTr (eOp (hEqP false) (eVar 4) (eC (.str "sent")))) (eVar 5) (eCall 2 Cm.F__law_mixed [] (aCons (eVar 0) (aCons (eVar 5) (aNil)))))
noncomputable def nF (own : List Str) : FS := sRt (eTup (aCons (eCall 3 (Cm.F__law_q_made own) [] (aCons (eVar 4) (aCons (eVar 1) (aCons (eVar 6) (aNil))))) (aCons (eCall 3 Cm.F__law_q_counted [] (aCons (eVar 4) (aCons (eVar 5) (aCons (eVar 3) (aNil))))) (aNil))))
theorem named_parts : Cm.b__law_q_named own = sSeq nA (sSeq nB (sSeq nC (sSeq nD (sSeq nE (nF own))))) := rfl
theorem wd_ok (wd : Wd) : strOk wd.s = true := by cases wd <;> decide +kernel
def isSent : Wd → Bool
  | .sent => true
  | _ => false
theorem sent_eq (wd : Wd) (m : Mem) : hEqP false (.str wd.s) (.str "sent") m = .ok (.bl (isSent wd)) m := by cases wd <;> exact weq (by decide +kernel) m
theorem sent_wd {wd : Wd} (h : wd.s = Wd.sent.s) : wd = .sent := by
  cases wd with
  | sent => rfl
  | _ => exact absurd h (by decide +kernel)
theorem just_wd {wd : Wd} (h : wd.s = Wd.just.s) : wd = .just := by
  cases wd with
  | just => rfl
  | _ => exact absurd h (by decide +kernel)
section
variable {ns : List Str} {ch : Bool} (g : GoodNames ns ch) {C : Nat} {tl m : Mem} {L : D}
include g
theorem few_names : ns.length ≤ 12 := by
  have := g.le
  split at this <;> omega
theorem n_A (hs : St C tl m) (hC : C < 2 ^ 39) (a4 a5 a6 a7 : Option D) : ∃ (wd : Wd) (m' : Mem), nA [some (.mref 1), some (House ns ch), some (.lst (ns.map .str)), some L, a4, a5, a6, a7] m = .nx [some (.mref 1), some (House ns ch), some (.lst (ns.map .str)), some L, some (.str wd.s), a5, a6, a7] m' ∧ St (C + 1) tl m' := by
  obtain ⟨d, m', e, hd, hs'⟩ := pick_lst hs (by omega) (xs := [.str "refers", .str "refers", .str "freed", .str "freed", .str "shared", .str "just", .str "sent", .str "whole"]) (by simp) (by simp)
  have : ∃ wd : Wd, d = .str wd.s := by
    simp only [List.mem_cons, List.not_mem_nil, or_false] at hd
    rcases hd with h | h | h | h | h | h | h | h
    · exact ⟨.refers, h⟩
    · exact ⟨.refers, h⟩
    · exact ⟨.freed, h⟩
    · exact ⟨.freed, h⟩
    · exact ⟨.shared, h⟩
    · exact ⟨.just, h⟩
    · exact ⟨.sent, h⟩
    · exact ⟨.whole, h⟩
  obtain ⟨wd, rfl⟩ := this
  refine ⟨wd, m', ?_, hs'⟩
  have zl : (8 : Nat) ≤ sizeLine := by decide
  unfold nA
  simp [e, zl]
theorem n_B (hs : St C tl m) (hC : C < 2 ^ 39) (a4 a5 a6 a7 : Option D) : ∃ (sm : List Str) (m' : Mem), nB [some (.mref 1), some (House ns ch), some (.lst (ns.map .str)), some L, a4, a5, a6, a7] m = .nx [some (.mref 1), some (House ns ch), some (.lst (ns.map .str)), some L, a4, some (.lst (sm.map .str)), a6, a7] m' ∧ sm.Sublist ns ∧ St (C + 12) tl m' := by
  have hn := few_names g
  obtain ⟨bs, m', e, hb, hs'⟩ := lc_flt (fg := gN 7) (ft := tTr (eOp (hEqP false) (eCall 2 Cm.F__law_draw [] (aCons (eVar 0) (aCons (eC (.int 2)) (aNil)))) (eC (.int 0)))) (fe := eVar 7) (ρ := [some (.mref 1), some (House ns ch), some (.lst (ns.map .str)), some L, a4, a5, a6, none]) (I := fun n m => St (C + n) tl m) D.str ns [] 0 m hs fun x hx k m hk hI => by
    obtain ⟨d, m1, e1, h0, h1, hs1⟩ := draw_ok hI (by omega) (k := 2) (by omega) (by omega)
    have e2 : hEqP false (.int d) (.int 0) m1 = .ok (.bl (decide (d = 0))) m1 := by simp
    refine ⟨_, decide (d = 0), m1, rfl, ?_, ?_, by rw [show C + (k + 1) = C + k + 1 by omega]; exact hs1⟩
    · simp [e1]
    · simp
  refine ⟨bs, m', ?_, hb, St.mono hs' (by omega)⟩
  have sq : seqI (.lst (ns.map .str)) m = .ok (ns.map .str) m := rfl
  unfold nB
  simp only [x_sSet, x_eLc, x_iSeq, x_eVar, List.getElem?_cons_zero, List.getElem?_cons_succ, List.set_cons_succ, List.set_cons_zero, varR_ok, kSq_ok, sq, x_wipe, x_wipe0, kLc_ok, e, List.nil_append, kFin_ok, finL_f, kSet_ok]
theorem pick_name (hs : St C tl m) (hC : C < 2 ^ 39) : ∃ (x : Str) (m' : Mem), Cm.F__law_pick [.mref 1, .lst (ns.map .str)] m = .ok (.str x) m' ∧ x ∈ ns ∧ St (C + 1) tl m' := by
  have hn := few_names g
  obtain ⟨d, m', e, hd, hs'⟩ := pick_lst hs (by omega) (xs := ns.map .str) (by simp [g.ne]) (by simp; omega)
  obtain ⟨x, hx, rfl⟩ := List.mem_map.mp hd
  exact ⟨x, m', e, hx, hs'⟩
theorem n_C (hs : St C tl m) (hC : C < 2 ^ 39) (wd : Wd) {sm : List Str} (hsm : sm.Sublist ns) (a6 a7 : Option D) : ∃ (sm' : List Str) (m' : Mem), nC [some (.mref 1), some (House ns ch), some (.lst (ns.map .str)), some L, some (.str wd.s), some (.lst (sm.map .str)), a6, a7] m = .nx [some (.mref 1), some (House ns ch), some (.lst (ns.map .str)), some L, some (.str wd.s), some (.lst (sm'.map .str)), a6, a7] m' ∧ sm'.Sublist ns ∧ St (C + 1) tl m' := by
  have zl1 : (1 : Nat) ≤ sizeLine := by decide
  have zl2 : (2 : Nat) ≤ sizeLine := by decide
  have e1 : hIn false (.str wd.s) (.tup [.str "refers", .str "freed"]) m = .ok (.bl (decide (wd.s ∈ (["refers", "freed"] : List Str)))) m := in_tp false wd.s ["refers", "freed"] m
  have e2 : hEqP false (.lst (sm.map .str)) (.lst []) m = .ok (.bl (decide (sm = []))) m := h_eqLs false (ms := []) (fun s h => (g.nm s (hsm.subset h)).ok) (by simp) m
  generalize decide (wd.s ∈ (["refers", "freed"] : List Str)) = b1 at e1
  generalize decide (sm = []) = b2 at e2
  obtain ⟨x, m', e, hx, hs'⟩ := pick_name g hs hC
  have nx : sm.Sublist ns ∧ St (C + 1) tl m := ⟨hsm, hs.mono (by omega)⟩
  unfold nC
  cases b1 with
  | false => exact ⟨sm, m, by simp [e1, zl2], nx⟩
  | true => cases b2 with
    | false => exact ⟨sm, m, by simp [e1, e2, zl2], nx⟩
    | true => exact ⟨[x], m', by simp [e1, e2, e, zl2, zl1], List.singleton_sublist.mpr hx, hs'⟩
/-- who a word speaks of -/
structure Who (ns : List Str) (wd : Wd) (sm : List Str) : Prop where
  mem : ∀ x ∈ sm, x ∈ ns
  nd : wd.s = Wd.just.s → sm.Nodup
  two : wd.s = Wd.sent.s → sm.length = 2
  few : sm.length ≤ 12
theorem n_D (hs : St C tl m) (hC : C < 2 ^ 38) (wd : Wd) {sm : List Str} (hsm : sm.Sublist ns) (a6 a7 : Option D) : ∃ (sm' : List Str) (m' : Mem), nD [some (.mref 1), some (House ns ch), some (.lst (ns.map .str)), some L, some (.str wd.s), some (.lst (sm.map .str)), a6, a7] m = .nx [some (.mref 1), some (House ns ch), some (.lst (ns.map .str)), some L, some (.str wd.s), some (.lst (sm'.map .str)), a6, a7] m' ∧ Who ns wd sm' ∧ St (C + 2) tl m' := by
  have zl2 : (2 : Nat) ≤ sizeLine := by decide
  have hn := few_names g
  have e1 := sent_eq wd m
  unfold nD
  by_cases hw : isSent wd = true
  · obtain ⟨x, m1, e2, hx, hs1⟩ := pick_name g hs (by omega)
    obtain ⟨y, m2, e3, hy, hs2⟩ := pick_name g hs1 (by omega)
    refine ⟨[x, y], m2, by simp [e1, hw, e2, e3, zl2], ⟨by simp [hx, hy], fun z => ?_, fun _ => rfl, by simp⟩, hs2⟩
    rw [just_wd z] at hw
    exact absurd hw (by decide)
  · have hw' : isSent wd = false := by simpa using hw
    refine ⟨sm, m, by simp [e1, hw'], ⟨fun x hx => hsm.subset hx, fun _ => g.nd.sublist hsm, fun z => ?_, Nat.le_trans hsm.length_le hn⟩, hs.mono (by omega)⟩
    rw [sent_wd z] at hw'
    exact absurd hw' (by decide)
theorem n_E (hs : St C tl m) (hC : C < 2 ^ 38) (wd : Wd) {sm : List Str} (hw : Who ns wd sm) (a6 a7 : Option D) : ∃ (sm' : List Str) (m' : Mem), nE [some (.mref 1), some (House ns ch), some (.lst (ns.map .str)), some L, some (.str wd.s), some (.lst (sm.map .str)), a6, a7] m = .nx [some (.mref 1), some (House ns ch), some (.lst (ns.map .str)), some L, some (.str wd.s), some (.lst (sm.map .str)), some (.lst (sm'.map .str)), a7] m' ∧ (∀ x, x ∈ sm' ↔ x ∈ sm) ∧ (wd.s = Wd.sent.s → sm' = sm ∧ sm.length = 2) ∧ St (C + 12) tl m' := by
  have e1 := sent_eq wd m
  unfold nE
  by_cases hi : isSent wd = true
  · exact ⟨sm, m, by simp [e1, hi], fun _ => Iff.rfl, fun z => ⟨rfl, hw.two z⟩, hs.mono (by omega)⟩
  · have hi' : isSent wd = false := by simpa using hi
    have hf := hw.few
    obtain ⟨ys, m', e2, hp, hs'⟩ := mixed_ok hs (X := .lst (sm.map .str)) (ds := sm.map .str) rfl (fun d hd => by obtain ⟨x, _, rfl⟩ := List.mem_map.mp hd; simp) (by simp; omega) (by omega)
    have : ∃ sm' : List Str, ys = sm'.map D.str := by
      have hy : ∀ y ∈ ys, ∃ x, y = D.str x := fun y hy => by
        obtain ⟨x, _, rfl⟩ := List.mem_map.mp (hp.mem_iff.mp hy)
        exact ⟨x, rfl⟩
      clear e2 hp
      induction ys with
      | nil => exact ⟨[], rfl⟩
      | cons y ys ih =>
        obtain ⟨x, rfl⟩ := hy y (by simp)
        obtain ⟨sm', rfl⟩ := ih fun z hz => hy z (by simp [hz])
        exact ⟨x :: sm', rfl⟩
    obtain ⟨sm', rfl⟩ := this
    refine ⟨sm', m', by simp [e1, hi', e2], fun x => ?_, fun z => ?_, hs'.mono (by simp; omega)⟩
    · have := hp.mem_iff (a := D.str x)
      simpa using this
    · rw [sent_wd z] at hi'
      exact absurd hi' (by decide)
/-- a question and its numbers, by a word -/
theorem named_ok (hs : St C tl m) (hC : C < 2 ^ 37) : ∃ (w : List Str → Int) (m' : Mem), Cm.F__law_q_named own [.mref 1, House ns ch, .lst (ns.map .str), .lst ((lotsL ns ch).map tupS)] m = .ok (.tup [Qn ns ch w, .lst ((lotsL ns ch).map fun l => .int (w l))]) m' ∧ (∀ l, w l = 0 ∨ w l = 1) ∧ St (C + 40) tl m' := by
  obtain ⟨wd, m1, e1, s1⟩ := n_A (L := .lst ((lotsL ns ch).map tupS)) g hs (by omega) none none none none
  obtain ⟨k1, m2, e2, h2, s2⟩ := n_B (L := .lst ((lotsL ns ch).map tupS)) g s1 (by omega) (some (.str wd.s)) none none none
  obtain ⟨k2, m3, e3, h3, s3⟩ := n_C (L := .lst ((lotsL ns ch).map tupS)) g s2 (by omega) wd h2 none none
  obtain ⟨k3, m4, e4, h4, s4⟩ := n_D (L := .lst ((lotsL ns ch).map tupS)) g s3 (by omega) wd h3 none none
  obtain ⟨k4, m5, e5, h5, h6, s5⟩ := n_E (L := .lst ((lotsL ns ch).map tupS)) g s4 (by omega) wd h4 none none
  have e6 := made_ok (own := own) g wd h4.mem h5 h4.nd h6 m5
  have e7 : Cm.F__law_q_counted [.str wd.s, .lst (k3.map .str), .lst ((lotsL ns ch).map tupS)] m5 = .ok (.lst ((lotsL ns ch).map fun l => .int (if cnt wd k3 l then 1 else 0))) m5 := q_counted_ok wd k3 h4.two (lotsL ns ch) m5
  refine ⟨fun l => if cnt wd k3 l then 1 else 0, m5, ?_, fun l => by show (if cnt wd k3 l then (1 : Int) else 0) = 0 ∨ (if cnt wd k3 l then (1 : Int) else 0) = 1; split <;> simp, s5.mono (by omega)⟩
  have zl2 : (2 : Nat) ≤ sizeLine := by decide
  have ce := fun ds => hs.same s5 ds
  unfold Cm.F__law_q_named
  rw [x_runF, show startD 8 [D.mref 1, House ns ch, D.lst (ns.map .str), D.lst ((lotsL ns ch).map tupS)] = [some (.mref 1), some (House ns ch), some (.lst (ns.map .str)), some (.lst ((lotsL ns ch).map tupS)), none, none, none, none] from rfl, named_parts]
  simp only [x_sSeq, e1, kSeq_nx, e2, e3, e4, e5]
  unfold nF
  simp only [x_sRt, x_eTup, x_aCons, x_eCall, x_eVar, List.getElem?_cons_zero, List.getElem?_cons_succ, varR_ok, kC1_ok, x_aNil, kC2_ok, kCall_ok, List.append_nil, List.length_cons, List.length_nil, if_true, e6, e7, kTup_ok, zl2, Nat.zero_add, Nat.reduceAdd, kRt_ok, kRun_rt, ce]
end
end DM
end
section
set_option maxRecDepth 100000
set_option maxHeartbeats 4000000
/-! Plain mathematics, part 29: questions drawn; sums of freed questions. -/
namespace DM
open PySem L2 DL
open PySem.PyData (strOk)
variable {own : List Str}
theorem pairs_map {α : Type} (a b : α → D) : ∀ as : List α, pairsD (as.map a) (as.map b) = as.map fun x => .tup [a x, b x]
  | [] => rfl
  | x :: as => by simp only [List.map_cons, pairsD, pairs_map a b as]
/-- drawn numbers, as a function -/
theorem nums_fun {P : Int → Prop} : ∀ {as : List (List Str)} {ys : List D}, as.Nodup → All2 (fun (_ : D) y => ∃ k : Int, y = .int k ∧ P k) (as.map tupS) ys → ∃ w : List Str → Int, ys = as.map (fun l => .int (w l)) ∧ ∀ l ∈ as, P (w l)
  | [], ys, _, h => by
    cases h
    exact ⟨fun _ => 0, rfl, by simp⟩
  | a :: as, ys, nd, h => by
    rw [List.map_cons] at h
    cases h with
    | cons h1 h2 =>
      rw [List.nodup_cons] at nd
      obtain ⟨k, rfl, hk⟩ := h1
      obtain ⟨w, rfl, hw⟩ := nums_fun nd.2 h2
      have ne : ∀ l ∈ as, ¬ l = a := fun l hl z => nd.1 (z ▸ hl)
      refine ⟨fun l => if l = a then k else w l, ?_, fun l hl => ?_⟩
      · have e1 : (fun l => if l = a then k else w l) a = k := if_pos rfl
        rw [List.map_cons, e1]
        congr 1
        exact List.map_congr_left fun l hl => by show _ = D.int (if l = a then k else w l); rw [if_neg (ne l hl)]
      · rcases List.mem_cons.mp hl with rfl | hl
        · simpa using hk
        · simpa [ne l hl] using hw l hl
section
variable {ns : List Str} {ch : Bool} (g : GoodNames ns ch) (hF : ("Folders" : Str) ∈ own) {C : Nat} {tl m : Mem}
include g hF
/-- a question and its numbers -/
theorem drawn_ok (hs : St C tl m) (hC : C < 2 ^ 36) : ∃ (w : List Str → Int) (m' : Mem), Cm.F__law_q_drawn own [.mref 1, House ns ch, .lst (ns.map .str), .lst ((lotsL ns ch).map tupS)] m = .ok (.tup [Qn ns ch w, .lst ((lotsL ns ch).map fun l => .int (w l))]) m' ∧ (∀ l ∈ lotsL ns ch, -10 < w l ∧ w l < 10) ∧ St (C + 150) tl m' := by
  have zl2 : (2 : Nat) ≤ sizeLine := by decide
  have nd := lots_nd g
  have few := lots_few g
  obtain ⟨k, m1, e1, k0, k6, s1⟩ := draw_ok hs (by omega) (k := 6) (by omega) (by omega)
  obtain ⟨w, m2, e2, hw, s2⟩ := named_ok (own := own) g s1 (by omega)
  have bw : ∀ l, -5 < w l ∧ w l < 5 := fun l => by rcases hw l with h | h <;> rw [h] <;> omega
  have lt3 : hLt (.int k) (.int 3) m2 = .ok (.bl (decide (k < 3))) m2 := by simp
  have lt5 : hLt (.int k) (.int 5) m2 = .ok (.bl (decide (k < 5))) m2 := by simp
  have c2 := fun ds => hs.same s2 ds
  unfold Cm.F__law_q_drawn
  rw [x_runF, show startD 12 [D.mref 1, House ns ch, D.lst (ns.map .str), D.lst ((lotsL ns ch).map tupS)] = [some (.mref 1), some (House ns ch), some (.lst (ns.map .str)), some (.lst ((lotsL ns ch).map tupS)), none, none, none, none, none, none, none, none] from rfl]
  unfold Cm.b__law_q_drawn
  by_cases h3 : k < 3
  · refine ⟨w, m2, ?_, fun l _ => by have := bw l; omega, s2.mono (by omega)⟩
    simp [e1, e2, h3, zl2, c2]
  · by_cases h5 : k < 5
    · obtain ⟨w', m3, e3, hw', s3⟩ := named_ok (own := own) g s2 (by omega)
      have bw' : ∀ l, -5 < w' l ∧ w' l < 5 := fun l => by rcases hw' l with h | h <;> rw [h] <;> omega
      have c3 := fun ds => hs.same s3 ds
      have ea := op_add (own := own) g hF w w' m3
      have es := op_sub (own := own) g hF w w' m3
      have zp : pairsD ((lotsL ns ch).map fun l => .int (w l)) ((lotsL ns ch).map fun l => .int (w' l)) = (lotsL ns ch).map fun l => .tup [.int (w l), .int (w' l)] := pairs_map _ _ _
      by_cases h4 : k = 3
      · refine ⟨fun l => w l + w' l, m3, ?_, fun l _ => by have := bw l; have := bw' l; show -10 < w l + w' l ∧ w l + w' l < 10; omega, s3.mono (by omega)⟩
        have lc : ∀ a6 a7 : Option D, lcGo (gT 2 (gsCons (gN 10) (gsCons (gN 11) (gsNil)))) tY (eOp hAdd (eVar 10) (eVar 11)) [some (.mref 1), some (House ns ch), some (.lst (ns.map .str)), some (.lst ((lotsL ns ch).map tupS)), some (.int k), some (.lst ((lotsL ns ch).map fun l => .int (w l))), a6, a7, some (.lst ((lotsL ns ch).map fun l => .int (w' l))), none, none, none] ((lotsL ns ch).map fun l => .tup [.int (w l), .int (w' l)]) [] m3 = .ok ((lotsL ns ch).map fun l => .int (w l + w' l)) m3 := fun a6 a7 => by
          rw [lcm (fun l => .tup [.int (w l), .int (w' l)]) (fun l => .int (w l + w' l))]
          · simp
          · intro l _
            refine ⟨_, rfl, ?_⟩
            simp
        simp [e1, e2, h3, h5, e3, h4, zl2, zp, ea, lc, c3]
        subst h4
        simp [lc, zl2, c3]
      · refine ⟨fun l => w l - w' l, m3, ?_, fun l _ => by have := bw l; have := bw' l; show -10 < w l - w' l ∧ w l - w' l < 10; omega, s3.mono (by omega)⟩
        have lc : ∀ a6 a7 : Option D, lcGo (gT 2 (gsCons (gN 10) (gsCons (gN 11) (gsNil)))) tY (eOp hSub (eVar 10) (eVar 11)) [some (.mref 1), some (House ns ch), some (.lst (ns.map .str)), some (.lst ((lotsL ns ch).map tupS)), some (.int k), some (.lst ((lotsL ns ch).map fun l => .int (w l))), a6, a7, some (.lst ((lotsL ns ch).map fun l => .int (w' l))), none, none, none] ((lotsL ns ch).map fun l => .tup [.int (w l), .int (w' l)]) [] m3 = .ok ((lotsL ns ch).map fun l => .int (w l - w' l)) m3 := fun a6 a7 => by
          rw [lcm (fun l => .tup [.int (w l), .int (w' l)]) (fun l => .int (w l - w' l))]
          · simp
          · intro l _
            refine ⟨_, rfl, ?_⟩
            simp
        simp [e1, e2, h3, h5, e3, h4, zl2, zp, es, lc, c3]
    · obtain ⟨ys, m3, e3, ha, s3⟩ := lc_st (fg := gN 9) (fe := eOp hSub (eCall 2 Cm.F__law_draw [] (aCons (eVar 0) (aCons (eC (.int 7)) (aNil)))) (eC (.int 3))) (ρ := [some (.mref 1), some (House ns ch), some (.lst (ns.map .str)), some (.lst ((lotsL ns ch).map tupS)), some (.int k), some (.lst ((lotsL ns ch).map fun l => .int (w l))), some (Qn ns ch w), none, none, none, none, none]) (I := fun n m => St (C + 1 + 40 + n) tl m) (R := fun _ y => ∃ j : Int, y = .int j ∧ (-10 < j ∧ j < 10)) ((lotsL ns ch).map tupS) [] 0 m2 s2 fun x hx j m _ hj hI => by
        rw [List.length_map] at hj
        obtain ⟨d, m', e4, d0, d7, s4⟩ := draw_ok hI (by omega) (k := 7) (by omega) (by omega)
        refine ⟨_, .int (d - 3), m', rfl, ?_, ⟨_, rfl, by omega, by omega⟩, by rw [show C + 1 + 40 + (j + 1) = C + 1 + 40 + j + 1 by omega]; exact s4⟩
        simp [e4]
      obtain ⟨v, rfl, hv⟩ := nums_fun nd ha
      rw [List.nil_append] at e3
      have s3' : St (C + 150) tl m3 := St.mono s3 (by rw [List.length_map]; omega)
      have c3 := fun ds => hs.same s3' ds
      have zp : pairsD ((lotsL ns ch).map tupS) ((lotsL ns ch).map fun l => .int (v l)) = (lotsL ns ch).map fun l => .tup [tupS l, .int (v l)] := pairs_map _ _ _
      have lc : lcGo (gT 2 (gsCons (gN 9) (gsCons (gN 10) (gsNil)))) tY (eTup (aCons (eVar 9) (aCons (eVar 10) (aNil)))) [some (.mref 1), some (House ns ch), some (.lst (ns.map .str)), some (.lst ((lotsL ns ch).map tupS)), some (.int k), some (.lst ((lotsL ns ch).map fun l => .int (v l))), some (Qn ns ch w), none, none, none, none, none] ((lotsL ns ch).map fun l => .tup [tupS l, .int (v l)]) [] m3 = .ok ((lotsL ns ch).map fun l => .tup [tupS l, .int (v l)]) m3 := by
        rw [lcm (fun l => .tup [tupS l, .int (v l)]) (fun l => .tup [tupS l, .int (v l)])]
        · simp
        · intro l _
          refine ⟨_, rfl, ?_⟩
          simp [zl2]
      have e5 := dict_lots false (fun l : List Str => l) (fun l => D.int (v l)) (as := lotsL ns ch) (by simpa using nd) m3
      have e6 := mk_qall (own := own) g v m3
      refine ⟨v, m3, ?_, hv, s3'⟩
      simp [e1, e2, h3, h5, e3, zl2, zp, lc, e5, e6, c3]
/-- the sum of freed questions -/
theorem summed_ok (F : List Str → Int) {T : D} (h1 : ∀ l ∈ lotsL ns ch, hDIn false (tupS l) T m = .ok (.bl (decide (F l ≠ 0))) m) (h2 : ∀ l ∈ lotsL ns ch, F l ≠ 0 → hDGet T (tupS l) m = .ok (.int (F l)) m) :
    Cm.F__law_summed own [House ns ch, .lst ((lotsL ns ch).map tupS), T] m = .ok (Qn ns ch (Sm (lotsL ns ch) F)) m := by
  have e0 := mk_q0 (own := own) g m
  have sq : seqI (.lst ((lotsL ns ch).map tupS)) m = .ok ((lotsL ns ch).map tupS) m := rfl
  obtain ⟨ρ', m', e, b4, rfl, rfl⟩ := for_st (fg := gN 4) (fb := sIf (tTr (eOp (hDIn false) (eVar 4) (eVar 2))) (sSet 3 (eOp (hBin "Question" (Cm.F_Question___add__ own)) (eVar 3) (eOp (hRBin "Question" (Cm.F_Question___rmul__ own)) (eOp hDGet (eVar 2) (eVar 4)) (eCall 2 (Cm.F_freed own) [] (aCons (eVar 0) (aCons (eVar 4) (aNil))))))) (sNx))
    (I := fun i ρ m' => ∃ b4, ρ = [some (House ns ch), some (.lst ((lotsL ns ch).map tupS)), some T, some (Qn ns ch (Sm ((lotsL ns ch).take i) F)), b4] ∧ m' = m)
    ((lotsL ns ch).map tupS) 0 [some (House ns ch), some (.lst ((lotsL ns ch).map tupS)), some T, some (Qn ns ch fun _ => 0), none] m ⟨none, by rw [Qn_congr fun l _ => show (fun _ => (0 : Int)) l = Sm ((lotsL ns ch).take 0) F l from rfl], rfl⟩ (fun i x hx ρ m' hI => by
      obtain ⟨b4, rfl, rfl⟩ := hI
      rw [List.getElem?_map] at hx
      obtain ⟨l, hl, rfl⟩ := Option.map_eq_some_iff.mp hx
      rw [Nat.zero_add]
      have hm := List.mem_of_getElem? hl
      have st : ∀ k, Sm ((lotsL ns ch).take (i + 1)) F k = Sm ((lotsL ns ch).take i) F k + (if sub k l then F l else 0) := fun k => by
        rw [List.take_succ, hl, Option.toList_some, Sm_app, Sm_cons, Sm_nil, Int.add_zero]
      refine ⟨_, _, _, _, rfl, ?_, some (tupS l), rfl, rfl⟩
      by_cases hz : F l = 0
      · have e1 := h1 l hm
        rw [decide_eq_false (by simpa using hz)] at e1
        have : Qn ns ch (Sm ((lotsL ns ch).take (i + 1)) F) = Qn ns ch (Sm ((lotsL ns ch).take i) F) := Qn_congr fun k _ => by rw [st k, hz]; split <;> omega
        rw [this]
        simp [e1]
      · have e1 := h1 l hm
        rw [decide_eq_true (by simpa using hz)] at e1
        have e2 := h2 l hm hz
        have e3 := freed_ok (own := own) g (sm := l) (fun x hx => lot_sub g hm x hx) (m := m') (X := tupS l) (.inr rfl)
        have e4 := op_rmul (own := own) g hF (fun k => if k.all (fun x => decide (x ∈ l)) then 1 else 0) (F l) (fun k _ => cmulL (by show _ < (if k.all (fun x => decide (x ∈ l)) then (1 : Int) else 0); split <;> decide) (by show (if k.all (fun x => decide (x ∈ l)) then (1 : Int) else 0) < _; split <;> decide)) m'
        have e5 := op_add (own := own) g hF (Sm ((lotsL ns ch).take i) F) (fun k => (if k.all (fun x => decide (x ∈ l)) then 1 else 0) * F l) m'
        have : Qn ns ch (Sm ((lotsL ns ch).take (i + 1)) F) = Qn ns ch fun k => Sm ((lotsL ns ch).take i) F k + (if k.all (fun x => decide (x ∈ l)) then 1 else 0) * F l := Qn_congr fun k _ => by
          rw [st k]
          show _ + (if (k.all fun x => decide (x ∈ l)) then F l else 0) = _
          split <;> simp
        rw [this]
        simp only [x_sIf, x_tTr, x_eOp, x_gN, x_eVar, List.getElem?_cons_zero, List.getElem?_cons_succ, List.set_cons_succ, List.set_cons_zero, varR_ok, kOp1_ok, kOp2_ok, e1, kTr_ok, kIf_t, x_sSet, e2, x_eCall, x_aCons, kC1_ok, x_aNil, kC2_ok, kCall_ok, List.append_nil, List.length_cons, List.length_nil, if_true, e3, e4, e5, kSet_ok])
  rw [Nat.zero_add, List.length_map, List.take_length] at e
  unfold Cm.F__law_summed
  rw [x_runF, show startD 5 [House ns ch, D.lst ((lotsL ns ch).map tupS), T] = [some (House ns ch), some (.lst ((lotsL ns ch).map tupS)), some T, none, none] from rfl]
  unfold Cm.b__law_summed
  simp only [x_sSeq, x_sSet, x_eFrz, x_eMake, x_aCons, x_eVar, List.getElem?_cons_zero, List.getElem?_cons_succ, List.set_cons_succ, List.set_cons_zero, varR_ok, kC1_ok, x_aNil, kC2_ok, kMk_ok, List.cons_append, List.nil_append, e0, kSet_ok, kSeq_nx, x_sFor, x_iSeq, kSq_ok, sq, kFor_ok, e, x_sRt, kRt_ok, kRun_rt, cut_same]
end
end DM
end
section
set_option maxRecDepth 100000
set_option maxHeartbeats 4000000
/-! Plain mathematics, part 30: dicts of numbers by lots. -/
namespace DM
open PySem L2 DL
open PySem.PyData (strOk)
variable {own : List Str}
theorem valD_none {α : Type} {f : α → List Str} {v : α → D} {l : List Str} : ∀ {as : List α}, (∀ a ∈ as, f a ≠ l) → valD (as.map fun a => (kL (f a), v a)) (kL l) = none
  | [], _ => rfl
  | a :: as, h => by
    have h0 : ¬ kL (f a) = kL l := fun e => h a (by simp) (kL_inj.mp e)
    have ih := valD_none (v := v) (as := as) fun x hx => h x (by simp [hx])
    simp only [List.map_cons, valD, if_neg h0]
    exact ih
section
variable {ns : List Str} {ch : Bool} (g : GoodNames ns ch) {F : List Str → Int} {T : D} {m : Mem}
include g
theorem solT_at {l : List Str} (hl : l ∈ lotsL ns ch) : valD (solT ns ch F) (kL l) = if F l ≠ 0 then some (.int (F l)) else none := by
  unfold solT
  by_cases h : F l = 0
  · rw [if_neg (by simpa using h)]
    refine valD_none (f := fun l => l) (v := fun l => .int (F l)) fun a ha e => ?_
    have := (List.mem_filter.mp ha).2
    subst e
    simp [h] at this
  · rw [if_pos h]
    exact valD_at (f := fun l => l) (v := fun l => .int (F l)) (by simpa using (lots_nd g).sublist List.filter_sublist) (List.mem_filter.mpr ⟨hl, by simpa using h⟩)
theorem solT_in (hT : dicT m T = some (solT ns ch F)) {l : List Str} (hl : l ∈ lotsL ns ch) : hDIn false (tupS l) T m = .ok (.bl (decide (F l ≠ 0))) m := by
  have e := solT_at g (F := F) hl
  simp only [hDIn, dHas, tupS, keysV_strs, hT, e]
  by_cases h : F l = 0 <;> simp [h]
theorem solT_get (hT : dicT m T = some (solT ns ch F)) {l : List Str} (hl : l ∈ lotsL ns ch) (h : F l ≠ 0) : hDGet T (tupS l) m = .ok (.int (F l)) m := by
  have e := solT_at g (F := F) hl
  rw [if_pos h] at e
  simp only [hDGet, tupS, keysV_strs, hT, e]
theorem solT_get2 (hT : dicT m T = some (solT ns ch F)) {l : List Str} (hl : l ∈ lotsL ns ch) : dGet2 T (tupS l) (.int 0) m = .ok (.int (F l)) m := by
  have e := solT_at g (F := F) hl
  by_cases h : F l = 0
  · rw [if_neg (by simpa using h)] at e
    simp only [dGet2, dHas, tupS, keysV_strs, hT, e, h]
  · rw [if_pos h] at e
    simp only [dGet2, dHas, tupS, keysV_strs, hT, e]
theorem sum_solT (hF : ("Folders" : Str) ∈ own) (hT : dicT m T = some (solT ns ch F)) : Cm.F__law_summed own [House ns ch, .lst ((lotsL ns ch).map tupS), T] m = .ok (Qn ns ch (Sm (lotsL ns ch) F)) m :=
  summed_ok g hF F (fun l hl => solT_in g hT hl) (fun l hl h => solT_get g hT hl h)
omit g in
theorem solT_congr {G : List Str → Int} (h : ∀ l ∈ lotsL ns ch, F l = G l) : solT ns ch F = solT ns ch G := by
  unfold solT
  have e1 : ((lotsL ns ch).filter fun l => decide (F l ≠ 0)) = (lotsL ns ch).filter fun l => decide (G l ≠ 0) := List.filter_congr fun l hl => by rw [h l hl]
  rw [e1]
  exact List.map_congr_left fun l hl => by rw [h l (List.mem_filter.mp hl).1]
theorem frz_freed (w : List Str → Int) (m : Mem) : kFrz m (Cm.F_Question_in_freed [Qn ns ch w] m) = .ok (.dT (solT ns ch (sol w (lotsL ns ch)))) m := by
  obtain ⟨o, e⟩ := in_freed_ok g w m
  rw [e, kFrz_ok]
  unfold frzR
  have e1 : (m ++ [o, MO.dT (solT ns ch (sol w (lotsL ns ch)))])[m.length + 1]? = some (.dT (solT ns ch (sol w (lotsL ns ch)))) := by simp
  have e2 : (m ++ [o, MO.dT (solT ns ch (sol w (lotsL ns ch)))]).set (m.length + 1) .gone = m ++ [o, .gone] := by simp [List.set_append_right]
  simp only [e1, e2]
  rw [cut_app]
  intro x hx
  rw [List.mem_singleton] at hx
  subst hx
  rw [bel_dT]
  intro p hp
  unfold solT at hp
  obtain ⟨l, _, rfl⟩ := List.mem_map.mp hp
  simp
omit g in
theorem solT_list (hT : dicT m T = some (solT ns ch F)) : hListD false [T] m = .ok (.lst (((lotsL ns ch).filter fun l => decide (F l ≠ 0)).map tupS)) m := by
  have e : ((solT ns ch F).map fun p => D.tup (p.1.map keyD)) = ((lotsL ns ch).filter fun l => decide (F l ≠ 0)).map tupS := by
    unfold solT
    rw [List.map_map]
    refine List.map_congr_left fun l _ => ?_
    simp only [Function.comp, keyD_kL]
    rfl
  simp only [hListD, hT, newL_f, e]
omit g in
theorem solT_len (hT : dicT m T = some (solT ns ch F)) : hLenD [T] m = .ok (.int (solT ns ch F).length) m := by simp only [hLenD, hT]
omit g in
/-- lists of lots that are one -/
theorem eq_lots (neg : Bool) {ls : List (List Str)} (h : ∀ l ∈ ls, ∀ s ∈ l, strOk s = true) (m : Mem) : hEqP neg (.lst (ls.map tupS)) (.lst (ls.map tupS)) m = .ok (.bl (!neg)) m := by
  have e2 : toPyM m (.lst (ls.map tupS)) = some (.list (ls.map fun l => .tuple (l.map .str))) := by simp only [toPyM, toPy, py_lots, Option.map_some]
  have e3 : PyData.eqv (.list (ls.map fun l => .tuple (l.map .str))) (.list (ls.map fun l => .tuple (l.map .str))) = true := by
    simp only [PyData.eqv]
    clear e2 h
    induction ls with
    | nil => rfl
    | cons l ls ih => simp only [List.map_cons, PyData.eqvAll, PyData.eqv, eqv_strs, decide_true, ih, Bool.and_self]
  simp only [hEqP, e2, shp_lots h, and_self, if_true, e3]
  cases neg <;> rfl
theorem lot_strs {l : List Str} (hl : l ∈ lotsL ns ch) : ∀ s ∈ l, strOk s = true := fun s hs => (g.nm s (lot_sub g hl s hs)).ok
end
end DM
end
section
set_option maxRecDepth 100000
set_option maxHeartbeats 4000000
namespace K08
open PySem L2 DL
def own : List Str := ["Folders", "Question"]
noncomputable def b__law_start : FS :=
  sRt (eLstM (aCons (eCB hListM (aCons (eVar 0) (aNil))) (aCons (eC (.int 0)) (aCons (eC (.int 0)) (aCons (eC (.int 11)) (aNil))))))
noncomputable def F__law_start : HL := runF 1 b__law_start
noncomputable def b__law_draw : FS :=
  sSeq (sAsg (eOp hAdd (eOp hIx (eVar 0) (eC (.int 2))) (eC (.int 1))) (gIx (eVar 0) (eC (.int 2))))
  (sSeq (sIf (tAn (tTr (eOp (hEqP false) (eOp hIx (eVar 0) (eC (.int 1))) (eC (.int 0)))) (tTr (eOp (hEqP true) (eOp hIx (eVar 0) (eC (.int 0))) (eLst (aNil))))) (sSeq (sSet 3 (eM1 isLst hPop (eOp hIx (eVar 0) (eC (.int 0))) (eC (.int 0))))
  (sSeq (sAsg (eOp hMod (eCB hInt (aCons (eOp hAdd (eOp hAdd (eOp hMul (eOp hIx (eVar 0) (eC (.int 3))) (eC (.int 8191))) (eVar 3)) (eC (.int 3))) (aNil))) (eC (.int 2147483647))) (gIx (eVar 0) (eC (.int 3))))
  (sAsg (eIf (tTr (eOp hGe (eVar 3) (eOp hPow (eC (.int 10)) (eC (.int 18))))) (eVar 3) (eC (.int 0))) (gIx (eVar 0) (eC (.int 1)))))) (sNx))
  (sSeq (sIf (tTr (eOp hGt (eOp hIx (eVar 0) (eC (.int 1))) (eC (.int 0)))) (sSeq (sSet 4 (eOp hMod (eCB hInt (aCons (eOp hIx (eVar 0) (eC (.int 1))) (aNil))) (eVar 1)))
  (sSeq (sAsg (eOp hFdiv (eOp hIx (eVar 0) (eC (.int 1))) (eVar 1)) (gIx (eVar 0) (eC (.int 1))))
  (sRt (eVar 4)))) (sNx))
  (sSeq (sSet 2 (eOp hMod (eCB hInt (aCons (eOp hPow (eOp hAdd (eOp hAdd (eOp hIx (eVar 0) (eC (.int 3))) (eOp hMul (eC (.int 7919)) (eOp hIx (eVar 0) (eC (.int 2))))) (eC (.int 104729))) (eC (.int 5))) (aNil))) (eC (.int 2147483629))))
  (sRt (eOp hMod (eOp hMod (eCB hInt (aCons (eOp hPow (eOp hAdd (eOp hAdd (eOp hMul (eVar 2) (eC (.int 48271))) (eOp hMul (eC (.int 30011)) (eOp hIx (eVar 0) (eC (.int 2))))) (eC (.int 29))) (eC (.int 3))) (aNil))) (eC (.int 1000000007))) (eVar 1))))))
noncomputable def F__law_draw : HL := runF 5 b__law_draw
noncomputable def b__law_pick : FS :=
  sRt (eOp hIx (eVar 1) (eCall 2 F__law_draw [] (aCons (eVar 0) (aCons (eCB hLen (aCons (eVar 1) (aNil))) (aNil)))))
noncomputable def F__law_pick : HL := runF 2 b__law_pick
noncomputable def b__law_name : FS :=
  sSeq (sSet 1 (eOp hIx (eLst (aCons (eC (.int 1)) (aCons (eC (.int 1)) (aCons (eC (.int 2)) (aCons (eC (.int 3)) (aCons (eC (.int 5)) (aCons (eC (.int 8)) (aNil)))))))) (eCall 2 F__law_draw [] (aCons (eVar 0) (aCons (eC (.int 6)) (aNil))))))
  (sRt (eM1 isStr hJoin (eC (.str "")) (eLc false [2] (iRg1 (eVar 1)) (gN 2) (tY) (eCall 2 F__law_pick [] (aCons (eVar 0) (aCons (eC (.str "abcdefghijklmnopqrstuvwxyz")) (aNil)))))))
noncomputable def F__law_name : HL := runF 3 b__law_name
noncomputable def b__law_names : FS :=
  sSeq (sSet 2 (eLstM (aNil)))
  (sSeq (sFor (iRg1 (eVar 1)) (gN 3) (sSeq (sSet 4 (eOp hAdd (eLst (aCons (eCall 1 F__law_name [] (aCons (eVar 0) (aNil))) (aNil))) (eLc false [5] (iSeq (eC (.str "abcdefghijklmnop"))) (gN 5) (tY) (eOp hAdd (eVar 5) (eC (.str "jq"))))))
  (sEx (eApp (eVar 2) (eOp hIx (eLc false [6] (iSeq (eVar 4)) (gN 6) (tTr (eOp (hIn true) (eVar 6) (eVar 2))) (eVar 6)) (eC (.int 0)))))))
  (sRt (eFrz (eVar 2))))
noncomputable def F__law_names : HL := runF 7 b__law_names
noncomputable def b__law_b_rows (self_ : HL) : FS :=
  sSeq (sSet 2 (eLstM (aNil)))
  (sSeq (sFor (iSeq (eIf (tTr (eOp hGt (eVar 0) (eC (.int 0)))) (eCall 2 self_ [] (aCons (eOp hSub (eVar 0) (eC (.int 1))) (aCons (eVar 1) (aNil)))) (eLst (aNil)))) (gN 3) (sEx (eM1 isLst hExt (eVar 2) (eLc false [4] (iRg2 (eIf (tTr (eOp (hEqP true) (eVar 3) (eTup (aNil)))) (eOp hAdd (eOp hIx (eVar 3) (eUn hNeg (eC (.int 1)))) (eC (.int 1))) (eC (.int 0))) (eVar 1)) (gN 4) (tY) (eOp hAdd (eVar 3) (eTup (aCons (eVar 4) (aNil))))))))
  (sRt (eFrz (eIf (tTr (eOp hGt (eVar 0) (eC (.int 0)))) (eVar 2) (eLst (aCons (eTup (aNil)) (aNil)))))))
noncomputable def F__law_b_rows : Nat → HL
  | 0 => fun _ _ => .bad
  | n + 1 => runF 5 (b__law_b_rows (F__law_b_rows n))
noncomputable def b__law_b_lots : FS :=
  sSeq (sSet 2 (eLstM (aNil)))
  (sSeq (sFor (iRg2 (eC (.int 1)) (eOp hAdd (eCB hLen (aCons (eVar 0) (aNil))) (eC (.int 1)))) (gN 3) (sIf (tTr (eVar 1)) (sEx (eM1 isLst hExt (eVar 2) (eLc false [4] (iRg1 (eOp hAdd (eOp hSub (eCB hLen (aCons (eVar 0) (aNil))) (eVar 3)) (eC (.int 1)))) (gN 4) (tY) (eCB hTuple (aCons (eSl false (eVar 0) (oSo (eVar 4)) (oSo (eOp hAdd (eVar 4) (eVar 3)))) (aNil)))))) (sEx (eM1 isLst hExt (eVar 2) (eLc false [5] (iSeq (eCall 2 (F__law_b_rows 6) [] (aCons (eVar 3) (aCons (eCB hLen (aCons (eVar 0) (aNil))) (aNil))))) (gN 5) (tY) (eCB hTuple (aCons (eLc false [4] (iSeq (eVar 5)) (gN 4) (tY) (eOp hIx (eVar 0) (eVar 4))) (aNil))))))))
  (sRt (eFrz (eVar 2))))
noncomputable def F__law_b_lots : HL := runF 6 b__law_b_lots
noncomputable def b_is_list : FS :=
  sRt (eCB (hIsi own) (aCons (eVar 0) (aCons (eTup (aCons (eC (.ty "list")) (aCons (eC (.ty "tuple")) (aNil)))) (aNil))))
noncomputable def F_is_list : HL := runF 1 b_is_list
noncomputable def b_is_name : FS :=
  sRt (eAn (eCB (hIsi own) (aCons (eVar 0) (aCons (eC (.ty "str")) (aNil)))) (eAn (eCh hLe hLe (eC (.int 1)) (eCB hLen (aCons (eVar 0) (aNil))) (eC (.int 8))) (eCB (hBls (·.all id)) (aCons (eLc false [1] (iSeq (eVar 0)) (gN 1) (tY) (eOp (hIn false) (eVar 1) (eC (.str "abcdefghijklmnopqrstuvwxyz")))) (aNil)))))
noncomputable def F_is_name : HL := runF 2 b_is_name
noncomputable def b_Folders___init__ : FS :=
  sSeq (sIf (tOr' (tNo (tTr (eCall 1 F_is_list [] (aCons (eVar 1) (aNil))))) (tTr (eOp (hEqP false) (eCB hLen (aCons (eVar 1) (aNil))) (eC (.int 0))))) (sBad) (sNx))
  (sSeq (sSet 3 (eLstM (aNil)))
  (sSeq (sLkO 1 (sFor (iEnA (eVar 1)) (gT 2 (gsCons (gN 4) (gsCons (gN 5) (gsNil)))) (sSeq (sIf (tOr' (tNo (tTr (eCall 1 F_is_name [] (aCons (eVar 5) (aNil))))) (tOr' (tTr (eOp (hIn false) (eVar 5) (eVar 3))) (tTr (eOp hGe (eVar 4) (eIf (tTr (eVar 2)) (eC (.int 12)) (eC (.int 5))))))) (sBad) (sNx))
  (sEx (eApp (eVar 3) (eVar 5))))))
  (sSeq (sFl ["Folders"] "names" (eVar 0) (eCB hTuple (aCons (eVar 3) (aNil))))
  (sFl ["Folders"] "chain" (eVar 0) (eVar 2)))))
noncomputable def F_Folders___init__ : HL := runF 6 b_Folders___init__
noncomputable def b__law_mixed : FS :=
  sSeq (sSet 2 (eCB hListM (aCons (eVar 1) (aNil))))
  (sRt (eLc false [3] (iRg1 (eCB hLen (aCons (eVar 2) (aNil)))) (gN 3) (tY) (eM1 isLst hPop (eVar 2) (eCall 2 F__law_draw [] (aCons (eVar 0) (aCons (eCB hLen (aCons (eVar 2) (aNil))) (aNil)))))))
noncomputable def F__law_mixed : HL := runF 4 b__law_mixed
noncomputable def b__law_q_counted : FS :=
  sSeq (sIf (tTr (eOp (hEqP false) (eVar 0) (eC (.str "refers")))) (sRt (eLc false [3] (iSeq (eVar 2)) (gN 3) (tY) (eCB hInt (aCons (eCB (hBls (·.any id)) (aCons (eLc false [4] (iSeq (eVar 3)) (gN 4) (tY) (eOp (hIn false) (eVar 4) (eVar 1))) (aNil))) (aNil))))) (sNx))
  (sSeq (sIf (tTr (eOp (hEqP false) (eVar 0) (eC (.str "freed")))) (sRt (eLc false [3] (iSeq (eVar 2)) (gN 3) (tY) (eCB hInt (aCons (eCB (hBls (·.all id)) (aCons (eLc false [4] (iSeq (eVar 3)) (gN 4) (tY) (eOp (hIn false) (eVar 4) (eVar 1))) (aNil))) (aNil))))) (sNx))
  (sSeq (sIf (tTr (eOp (hEqP false) (eVar 0) (eC (.str "shared")))) (sRt (eLc false [3] (iSeq (eVar 2)) (gN 3) (tY) (eCB hInt (aCons (eCB (hBls (·.all id)) (aCons (eLc false [4] (iSeq (eVar 1)) (gN 4) (tY) (eOp (hIn false) (eVar 4) (eVar 3))) (aNil))) (aNil))))) (sNx))
  (sSeq (sIf (tTr (eOp (hEqP false) (eVar 0) (eC (.str "just")))) (sRt (eLc false [3] (iSeq (eVar 2)) (gN 3) (tY) (eCB hInt (aCons (eAn (eOp (hEqP false) (eCB hLen (aCons (eVar 3) (aNil))) (eCB hLen (aCons (eVar 1) (aNil)))) (eCB (hBls (·.all id)) (aCons (eLc false [4] (iSeq (eVar 1)) (gN 4) (tY) (eOp (hIn false) (eVar 4) (eVar 3))) (aNil)))) (aNil))))) (sNx))
  (sSeq (sIf (tTr (eOp (hEqP false) (eVar 0) (eC (.str "sent")))) (sRt (eLc false [3] (iSeq (eVar 2)) (gN 3) (tY) (eCB hInt (aCons (eAn (eOp (hIn false) (eOp hIx (eVar 1) (eC (.int 1))) (eVar 3)) (eOp (hIn true) (eOp hIx (eVar 1) (eC (.int 0))) (eVar 3))) (aNil))))) (sNx))
  (sRt (eLc false [3] (iSeq (eVar 2)) (gN 3) (tY) (eC (.int 1))))))))
noncomputable def F__law_q_counted : HL := runF 5 b__law_q_counted
noncomputable def b_Folders___contains__ : FS :=
  sRt (eAn (eCB (hIsi own) (aCons (eVar 1) (aCons (eC (.ty "str")) (aNil)))) (eOp (hIn false) (eVar 1) (eAt ["Folders"] "names" (eVar 0))))
noncomputable def F_Folders___contains__ : HL := runF 2 b_Folders___contains__
noncomputable def b_Folders_chosen : FS :=
  sSeq (sFor (iSeq (eVar 1)) (gN 2) (sIf (tTr (eOp (hInO true "Folders" F_Folders___contains__) (eVar 2) (eVar 0))) (sBad) (sNx)))
  (sRt (eCB hTuple (aCons (eLc false [2] (iSeq (eAt ["Folders"] "names" (eVar 0))) (gN 2) (tTr (eOp (hIn false) (eVar 2) (eVar 1))) (eVar 2)) (aNil))))
noncomputable def F_Folders_chosen : HL := runF 3 b_Folders_chosen
noncomputable def b_chosen_places : FS :=
  sSeq (sSet 2 (eLst (aCons (eTup (aNil)) (aNil))))
  (sSeq (sFor (iRg1 (eVar 0)) (gN 3) (sSet 2 (eLc2 false [4, 5] [5] (iSeq (eVar 2)) (gN 4) (tY) (iRg2 (eIf (tTr (eOp (hEqP true) (eVar 4) (eTup (aNil)))) (eOp hAdd (eOp hIx (eVar 4) (eUn hNeg (eC (.int 1)))) (eC (.int 1))) (eC (.int 0))) (eVar 1)) (gN 5) (tY) (eTup (aStar (eVar 4) (aCons (eVar 5) (aNil)))))))
  (sRt (eVar 2)))
noncomputable def F_chosen_places : HL := runF 6 b_chosen_places
noncomputable def b_Folders_lots : FS :=
  sSeq (sSet 1 (eCB hLen (aCons (eAt ["Folders"] "names" (eVar 0)) (aNil))))
  (sSeq (sIf (tTr (eAt ["Folders"] "chain" (eVar 0))) (sRt (eLc2 true [3, 5] [5] (iRg2 (eC (.int 1)) (eOp hAdd (eVar 1) (eC (.int 1)))) (gN 3) (tY) (iRg1 (eOp hAdd (eOp hSub (eVar 1) (eVar 3)) (eC (.int 1)))) (gN 5) (tY) (eSl false (eAt ["Folders"] "names" (eVar 0)) (oSo (eVar 5)) (oSo (eOp hAdd (eVar 5) (eVar 3)))))) (sNx))
  (sSeq (sSet 2 (eLc2 false [3, 4] [4] (iRg2 (eC (.int 1)) (eOp hAdd (eVar 1) (eC (.int 1)))) (gN 3) (tY) (iSeq (eCall 2 F_chosen_places [] (aCons (eVar 3) (aCons (eVar 1) (aNil))))) (gN 4) (tY) (eVar 4)))
  (sRt (eLc true [4] (iSeq (eVar 2)) (gN 4) (tY) (eCB hTuple (aCons (eLc false [5] (iSeq (eVar 4)) (gN 5) (tY) (eOp hIx (eAt ["Folders"] "names" (eVar 0)) (eVar 5))) (aNil)))))))
noncomputable def F_Folders_lots : HL := runF 6 b_Folders_lots
noncomputable def b_Folders_lot_of : FS :=
  sSeq (sIf (tOr' (tNo (tTr (eCall 1 F_is_list [] (aCons (eVar 1) (aNil))))) (tTr (eOp (hEqP false) (eCB hLen (aCons (eVar 1) (aNil))) (eC (.int 0))))) (sRt (eC .non)) (sNx))
  (sSeq (sSet 2 (eCB hTuple (aCons (eLc false [3] (iSeq (eAt ["Folders"] "names" (eVar 0))) (gN 3) (tTr (eOp (hIn false) (eVar 3) (eVar 1))) (eVar 3)) (aNil))))
  (sSeq (sIf (tTr (eOp (hEqP true) (eCB hLen (aCons (eVar 2) (aNil))) (eCB hLen (aCons (eVar 1) (aNil))))) (sRt (eC .non)) (sNx))
  (sSeq (sIf (tAn (tTr (eAt ["Folders"] "chain" (eVar 0))) (tNo (tTr (eCB (hBls (·.any id)) (aCons (eLc false [4] (iRg1 (eCB hLen (aCons (eAt ["Folders"] "names" (eVar 0)) (aNil)))) (gN 4) (tY) (eOp (hEqP false) (eSl false (eAt ["Folders"] "names" (eVar 0)) (oSo (eVar 4)) (oSo (eOp hAdd (eVar 4) (eCB hLen (aCons (eVar 2) (aNil)))))) (eVar 2))) (aNil)))))) (sRt (eC .non)) (sNx))
  (sRt (eVar 2)))))
noncomputable def F_Folders_lot_of : HL := runF 5 b_Folders_lot_of
noncomputable def b_is_whole : FS :=
  sRt (eAn (eCB (hIsi own) (aCons (eVar 0) (aCons (eC (.ty "int")) (aNil)))) (eNo (eCB (hIsi own) (aCons (eVar 0) (aCons (eC (.ty "bool")) (aNil))))))
noncomputable def F_is_whole : HL := runF 1 b_is_whole
noncomputable def b_row_of : FS :=
  sSeq (sLkD 1 (sSet 2 (eLc false [6, 7] (iIt (eVar 1)) (gT 2 (gsCons (gN 6) (gsCons (gN 7) (gsNil)))) (tY) (eTup (aCons (eMeth "Folders" "lot_of" 2 F_Folders_lot_of [] (eVar 0) (aCons (eVar 6) (aNil))) (aCons (eVar 6) (aCons (eVar 7) (aNil))))))))
  (sSeq (sFor (iEnA (eVar 2)) (gT 2 (gsCons (gN 4) (gsCons (gT 3 (gsCons (gN 5) (gsCons (gN 6) (gsCons (gN 7) (gsNil))))) (gsNil)))) (sSeq (sIf (tOr' (tTr (eOp (hIsN false) (eVar 5) (eC .non))) (tTr (eOp (hInD false) (eVar 5) (eLc false [8] (iSeq (eSl false (eVar 2) (oNo) (oSo (eVar 4)))) (gN 8) (tY) (eOp hIx (eVar 8) (eC (.int 0))))))) (sBad) (sNx))
  (sIf (tNo (tTr (eCall 1 F_is_whole [] (aCons (eVar 7) (aNil))))) (sBad) (sNx))))
  (sSeq (sSet 3 (eCB (hDict false) (aCons (eLc false [5, 6, 7] (iSeq (eVar 2)) (gT 3 (gsCons (gN 5) (gsCons (gN 6) (gsCons (gN 7) (gsNil))))) (tY) (eTup (aCons (eVar 5) (aCons (eVar 7) (aNil))))) (aNil))))
  (sRt (eCB (hDict false) (aCons (eLc false [5] (iSeq (eFrz (eMeth "Folders" "lots" 1 F_Folders_lots [] (eVar 0) (aNil)))) (gN 5) (tY) (eTup (aCons (eVar 5) (aCons (eDGet2 (eVar 3) (eVar 5) (eC (.int 0))) (aNil))))) (aNil))))))
noncomputable def F_row_of : HL := runF 9 b_row_of
noncomputable def b_Question___init__ : FS :=
  sSeq (sFl ["Question"] "folders" (eVar 0) (eVar 1))
  (sFl ["Question"] "row" (eVar 0) (eCall 2 F_row_of [] (aCons (eVar 1) (aCons (eIf (tTr (eOp (hIsN false) (eVar 2) (eC .non))) (eD0T) (eVar 2)) (aNil)))))
noncomputable def F_Question___init__ : HL := runF 3 b_Question___init__
noncomputable def b_counted : FS :=
  sRt (eFrz (eMake "Question" 3 F_Question___init__ [] (aCons (eVar 0) (aCons (eCB (hDict false) (aCons (eLc false [2] (iSeq (eVar 1)) (gN 2) (tY) (eTup (aCons (eVar 2) (aCons (eC (.int 1)) (aNil))))) (aNil))) (aNil)))))
noncomputable def F_counted : HL := runF 3 b_counted
noncomputable def b_refers : FS :=
  sSeq (sSet 2 (eMeth "Folders" "chosen" 2 F_Folders_chosen [] (eVar 0) (aCons (eVar 1) (aNil))))
  (sRt (eCall 2 F_counted [] (aCons (eVar 0) (aCons (eLc false [3] (iSeq (eFrz (eMeth "Folders" "lots" 1 F_Folders_lots [] (eVar 0) (aNil)))) (gN 3) (tTr (eCB (hBls (·.any id)) (aCons (eLc false [4] (iSeq (eVar 3)) (gN 4) (tY) (eOp (hIn false) (eVar 4) (eVar 2))) (aNil)))) (eVar 3)) (aNil)))))
noncomputable def F_refers : HL := runF 5 b_refers
noncomputable def b_freed : FS :=
  sSeq (sSet 2 (eMeth "Folders" "chosen" 2 F_Folders_chosen [] (eVar 0) (aCons (eVar 1) (aNil))))
  (sRt (eCall 2 F_counted [] (aCons (eVar 0) (aCons (eLc false [3] (iSeq (eFrz (eMeth "Folders" "lots" 1 F_Folders_lots [] (eVar 0) (aNil)))) (gN 3) (tTr (eCB (hBls (·.all id)) (aCons (eLc false [4] (iSeq (eVar 3)) (gN 4) (tY) (eOp (hIn false) (eVar 4) (eVar 2))) (aNil)))) (eVar 3)) (aNil)))))
noncomputable def F_freed : HL := runF 5 b_freed
noncomputable def b_shared : FS :=
  sSeq (sSet 2 (eMeth "Folders" "chosen" 2 F_Folders_chosen [] (eVar 0) (aCons (eVar 1) (aNil))))
  (sRt (eCall 2 F_counted [] (aCons (eVar 0) (aCons (eLc false [3] (iSeq (eFrz (eMeth "Folders" "lots" 1 F_Folders_lots [] (eVar 0) (aNil)))) (gN 3) (tTr (eCB (hBls (·.all id)) (aCons (eLc false [4] (iSeq (eVar 2)) (gN 4) (tY) (eOp (hIn false) (eVar 4) (eVar 3))) (aNil)))) (eVar 3)) (aNil)))))
noncomputable def F_shared : HL := runF 5 b_shared
noncomputable def b_just : FS :=
  sSeq (sSet 2 (eMeth "Folders" "chosen" 2 F_Folders_chosen [] (eVar 0) (aCons (eVar 1) (aNil))))
  (sRt (eCall 2 F_counted [] (aCons (eVar 0) (aCons (eLc false [3] (iSeq (eFrz (eMeth "Folders" "lots" 1 F_Folders_lots [] (eVar 0) (aNil)))) (gN 3) (tTr (eOp (hEqP false) (eVar 3) (eVar 2))) (eVar 3)) (aNil)))))
noncomputable def F_just : HL := runF 4 b_just
noncomputable def b_sent : FS :=
  sSeq (sEx (eMeth "Folders" "chosen" 2 F_Folders_chosen [] (eVar 0) (aCons (eLst (aCons (eVar 1) (aCons (eVar 2) (aNil)))) (aNil))))
  (sRt (eCall 2 F_counted [] (aCons (eVar 0) (aCons (eLc false [3] (iSeq (eFrz (eMeth "Folders" "lots" 1 F_Folders_lots [] (eVar 0) (aNil)))) (gN 3) (tAn (tTr (eOp (hIn false) (eVar 2) (eVar 3))) (tTr (eOp (hIn true) (eVar 1) (eVar 3)))) (eVar 3)) (aNil)))))
noncomputable def F_sent : HL := runF 4 b_sent
noncomputable def b_whole : FS :=
  sRt (eCall 2 F_counted [] (aCons (eVar 0) (aCons (eFrz (eMeth "Folders" "lots" 1 F_Folders_lots [] (eVar 0) (aNil))) (aNil))))
noncomputable def F_whole : HL := runF 1 b_whole
noncomputable def b__law_q_made : FS :=
  sSeq (sIf (tTr (eOp (hEqP false) (eVar 0) (eC (.str "refers")))) (sRt (eCall 2 F_refers [] (aCons (eVar 1) (aCons (eVar 2) (aNil))))) (sNx))
  (sSeq (sIf (tTr (eOp (hEqP false) (eVar 0) (eC (.str "freed")))) (sRt (eCall 2 F_freed [] (aCons (eVar 1) (aCons (eVar 2) (aNil))))) (sNx))
  (sSeq (sIf (tTr (eOp (hEqP false) (eVar 0) (eC (.str "shared")))) (sRt (eCall 2 F_shared [] (aCons (eVar 1) (aCons (eVar 2) (aNil))))) (sNx))
  (sSeq (sIf (tTr (eOp (hEqP false) (eVar 0) (eC (.str "just")))) (sRt (eCall 2 F_just [] (aCons (eVar 1) (aCons (eVar 2) (aNil))))) (sNx))
  (sRt (eIf (tTr (eOp (hEqP false) (eVar 0) (eC (.str "sent")))) (eCall 3 F_sent [] (aCons (eVar 1) (aCons (eOp hIx (eVar 2) (eC (.int 0))) (aCons (eOp hIx (eVar 2) (eC (.int 1))) (aNil))))) (eCall 1 F_whole [] (aCons (eVar 1) (aNil))))))))
noncomputable def F__law_q_made : HL := runF 3 b__law_q_made
noncomputable def b__law_q_named : FS :=
  sSeq (sSet 4 (eCall 2 F__law_pick [] (aCons (eVar 0) (aCons (eLst (aCons (eC (.str "refers")) (aCons (eC (.str "refers")) (aCons (eC (.str "freed")) (aCons (eC (.str "freed")) (aCons (eC (.str "shared")) (aCons (eC (.str "just")) (aCons (eC (.str "sent")) (aCons (eC (.str "whole")) (aNil)))))))))) (aNil)))))
  (sSeq (sSet 5 (eLc false [7] (iSeq (eVar 2)) (gN 7) (tTr (eOp (hEqP false) (eCall 2 F__law_draw [] (aCons (eVar 0) (aCons (eC (.int 2)) (aNil)))) (eC (.int 0)))) (eVar 7)))
  (sSeq (sIf (tAn (tTr (eOp (hIn false) (eVar 4) (eTup (aCons (eC (.str "refers")) (aCons (eC (.str "freed")) (aNil)))))) (tTr (eOp (hEqP false) (eVar 5) (eLst (aNil))))) (sSet 5 (eLst (aCons (eCall 2 F__law_pick [] (aCons (eVar 0) (aCons (eVar 2) (aNil)))) (aNil)))) (sNx))
  (sSeq (sIf (tTr (eOp (hEqP false) (eVar 4) (eC (.str "sent")))) (sSet 5 (eLst (aCons (eCall 2 F__law_pick [] (aCons (eVar 0) (aCons (eVar 2) (aNil)))) (aCons (eCall 2 F__law_pick [] (aCons (eVar 0) (aCons (eVar 2) (aNil)))) (aNil))))) (sNx))
  (sSeq (sSet 6 (eIf (tTr (eOp (hEqP false) (eVar 4) (eC (.str "sent")))) (eVar 5) (eCall 2 F__law_mixed [] (aCons (eVar 0) (aCons (eVar 5) (aNil))))))
  (sRt (eTup (aCons (eCall 3 F__law_q_made [] (aCons (eVar 4) (aCons (eVar 1) (aCons (eVar 6) (aNil))))) (aCons (eCall 3 F__law_q_counted [] (aCons (eVar 4) (aCons (eVar 5) (aCons (eVar 3) (aNil))))) (aNil)))))))))
noncomputable def F__law_q_named : HL := runF 8 b__law_q_named
noncomputable def b_Folders___eq__ : FS :=
  sRt (eAn (eCB (hIsi own) (aCons (eVar 1) (aCons (eC (.glo "Folders")) (aNil)))) (eAn (eOp (hEqP false) (eAt ["Folders"] "names" (eVar 0)) (eAt ["Folders"] "names" (eVar 1))) (eOp (hEqP false) (eAt ["Folders"] "chain" (eVar 0)) (eAt ["Folders"] "chain" (eVar 1)))))
noncomputable def F_Folders___eq__ : HL := runF 2 b_Folders___eq__
noncomputable def b_Question_check : FS :=
  sIf (tTr (eOp (hNeO own "Folders" F_Folders___eq__) (eAt ["Question"] "folders" (eVar 0)) (eAt ["Question"] "folders" (eVar 1)))) (sBad) (sNx)
noncomputable def F_Question_check : HL := runF 2 b_Question_check
noncomputable def b_Question___add__ : FS :=
  sSeq (sEx (eMeth "Question" "check" 2 F_Question_check [] (eVar 0) (aCons (eVar 1) (aNil))))
  (sRt (eFrz (eMake "Question" 3 F_Question___init__ [] (aCons (eAt ["Question"] "folders" (eVar 0)) (aCons (eCB (hDict false) (aCons (eLc false [2] (iKy (eAt ["Question"] "row" (eVar 0))) (gN 2) (tY) (eTup (aCons (eVar 2) (aCons (eOp hAdd (eOp hDGet (eAt ["Question"] "row" (eVar 0)) (eVar 2)) (eOp hDGet (eAt ["Question"] "row" (eVar 1)) (eVar 2))) (aNil))))) (aNil))) (aNil))))))
noncomputable def F_Question___add__ : HL := runF 3 b_Question___add__
noncomputable def b_Question___sub__ : FS :=
  sSeq (sEx (eMeth "Question" "check" 2 F_Question_check [] (eVar 0) (aCons (eVar 1) (aNil))))
  (sRt (eFrz (eMake "Question" 3 F_Question___init__ [] (aCons (eAt ["Question"] "folders" (eVar 0)) (aCons (eCB (hDict false) (aCons (eLc false [2] (iKy (eAt ["Question"] "row" (eVar 0))) (gN 2) (tY) (eTup (aCons (eVar 2) (aCons (eOp hSub (eOp hDGet (eAt ["Question"] "row" (eVar 0)) (eVar 2)) (eOp hDGet (eAt ["Question"] "row" (eVar 1)) (eVar 2))) (aNil))))) (aNil))) (aNil))))))
noncomputable def F_Question___sub__ : HL := runF 3 b_Question___sub__
noncomputable def b__law_q_drawn : FS :=
  sSeq (sSet 4 (eCall 2 F__law_draw [] (aCons (eVar 0) (aCons (eC (.int 6)) (aNil)))))
  (sSeq (sAsg (eCall 4 F__law_q_named [] (aCons (eVar 0) (aCons (eVar 1) (aCons (eVar 2) (aCons (eVar 3) (aNil)))))) (gT 2 (gsCons (gN 6) (gsCons (gN 5) (gsNil)))))
  (sSeq (sIf (tTr (eOp hLt (eVar 4) (eC (.int 3)))) (sRt (eTup (aCons (eVar 6) (aCons (eVar 5) (aNil))))) (sNx))
  (sSeq (sIf (tTr (eOp hLt (eVar 4) (eC (.int 5)))) (sSeq (sAsg (eCall 4 F__law_q_named [] (aCons (eVar 0) (aCons (eVar 1) (aCons (eVar 2) (aCons (eVar 3) (aNil)))))) (gT 2 (gsCons (gN 7) (gsCons (gN 8) (gsNil)))))
  (sSeq (sIf (tTr (eOp (hEqP false) (eVar 4) (eC (.int 3)))) (sRt (eTup (aCons (eOp (hBin "Question" F_Question___add__) (eVar 6) (eVar 7)) (aCons (eLc false [10, 11] (iZpA (eVar 5) (eVar 8)) (gT 2 (gsCons (gN 10) (gsCons (gN 11) (gsNil)))) (tY) (eOp hAdd (eVar 10) (eVar 11))) (aNil))))) (sNx))
  (sRt (eTup (aCons (eOp (hBin "Question" F_Question___sub__) (eVar 6) (eVar 7)) (aCons (eLc false [10, 11] (iZpA (eVar 5) (eVar 8)) (gT 2 (gsCons (gN 10) (gsCons (gN 11) (gsNil)))) (tY) (eOp hSub (eVar 10) (eVar 11))) (aNil))))))) (sNx))
  (sSeq (sSet 5 (eLc false [9] (iSeq (eVar 3)) (gN 9) (tY) (eOp hSub (eCall 2 F__law_draw [] (aCons (eVar 0) (aCons (eC (.int 7)) (aNil)))) (eC (.int 3)))))
  (sRt (eTup (aCons (eFrz (eMake "Question" 3 F_Question___init__ [] (aCons (eVar 1) (aCons (eCB (hDict false) (aCons (eLc false [9, 10] (iZpA (eVar 3) (eVar 5)) (gT 2 (gsCons (gN 9) (gsCons (gN 10) (gsNil)))) (tY) (eTup (aCons (eVar 9) (aCons (eVar 10) (aNil))))) (aNil))) (aNil))))) (aCons (eVar 5) (aNil)))))))))
noncomputable def F__law_q_drawn : HL := runF 12 b__law_q_drawn
noncomputable def b_Question_in_freed : FS :=
  sSeq (sSet 1 (eD0T))
  (sSeq (sFor (iSeq (eUn hRev (eCB (hListD false) (aCons (eAt ["Question"] "row" (eVar 0)) (aNil))))) (gN 2) (sSeq (sLkD 1 (sSet 3 (eLc false [4] (iKy (eVar 1)) (gN 4) (tTr (eCB (hBls (·.all id)) (aCons (eLc false [5] (iSeq (eVar 2)) (gN 5) (tY) (eOp (hIn false) (eVar 5) (eVar 4))) (aNil)))) (eOp hDGet (eVar 1) (eVar 4)))))
  (sAsg (eOp hSub (eOp hDGet (eAt ["Question"] "row" (eVar 0)) (eVar 2)) (eCB hSum (aCons (eVar 3) (aNil)))) (gDx (eVar 1) (eVar 2)))))
  (sRt (eCB (hDict true) (aCons (eLc false [2] (iKy (eAt ["Question"] "row" (eVar 0))) (gN 2) (tTr (eOp (hEqP true) (eOp hDGet (eVar 1) (eVar 2)) (eC (.int 0)))) (eTup (aCons (eVar 2) (aCons (eOp hDGet (eVar 1) (eVar 2)) (aNil))))) (aNil)))))
noncomputable def F_Question_in_freed : HL := runF 6 b_Question_in_freed
noncomputable def b_Question___mul__ : FS :=
  sSeq (sIf (tNo (tTr (eCall 1 F_is_whole [] (aCons (eVar 1) (aNil))))) (sBad) (sNx))
  (sRt (eFrz (eMake "Question" 3 F_Question___init__ [] (aCons (eAt ["Question"] "folders" (eVar 0)) (aCons (eCB (hDict false) (aCons (eLc false [2] (iKy (eAt ["Question"] "row" (eVar 0))) (gN 2) (tY) (eTup (aCons (eVar 2) (aCons (eOp hMul (eOp hDGet (eAt ["Question"] "row" (eVar 0)) (eVar 2)) (eVar 1)) (aNil))))) (aNil))) (aNil))))))
noncomputable def F_Question___mul__ : HL := runF 3 b_Question___mul__
noncomputable def b_Question___rmul__ : FS :=
  sRt (eOp (hBinI "Question" F_Question___mul__) (eVar 0) (eVar 1))
noncomputable def F_Question___rmul__ : HL := runF 2 b_Question___rmul__
noncomputable def b__law_summed : FS :=
  sSeq (sSet 3 (eFrz (eMake "Question" 3 F_Question___init__ [.non] (aCons (eVar 0) (aNil)))))
  (sSeq (sFor (iSeq (eVar 1)) (gN 4) (sIf (tTr (eOp (hDIn false) (eVar 4) (eVar 2))) (sSet 3 (eOp (hBin "Question" F_Question___add__) (eVar 3) (eOp (hRBin "Question" F_Question___rmul__) (eOp hDGet (eVar 2) (eVar 4)) (eCall 2 F_freed [] (aCons (eVar 0) (aCons (eVar 4) (aNil))))))) (sNx)))
  (sRt (eVar 3)))
noncomputable def F__law_summed : HL := runF 5 b__law_summed
noncomputable def b_Question___eq__ : FS :=
  sRt (eAn (eCB (hIsi own) (aCons (eVar 1) (aCons (eC (.glo "Question")) (aNil)))) (eAn (eOp (hOwn own "Folders" F_Folders___eq__) (eAt ["Question"] "folders" (eVar 0)) (eAt ["Question"] "folders" (eVar 1))) (eOp (hEqT false) (eAt ["Question"] "row" (eVar 0)) (eAt ["Question"] "row" (eVar 1)))))
noncomputable def F_Question___eq__ : HL := runF 2 b_Question___eq__
noncomputable def b__law_same (self_ : HL) : FS :=
  sSeq (sIf (tTr (eCB (hIsi own) (aCons (eVar 1) (aCons (eTup (aCons (eC (.ty "list")) (aCons (eC (.ty "tuple")) (aNil)))) (aNil))))) (sSeq (sIf (tOr' (tTr (eOp (hEqP true) (eCB (hIsi own) (aCons (eVar 0) (aCons (eC (.ty "list")) (aNil)))) (eCB (hIsi own) (aCons (eVar 1) (aCons (eC (.ty "list")) (aNil)))))) (tTr (eOp (hEqP true) (eCB (hIsi own) (aCons (eVar 0) (aCons (eC (.ty "tuple")) (aNil)))) (eCB (hIsi own) (aCons (eVar 1) (aCons (eC (.ty "tuple")) (aNil))))))) (sRt (eC (.bl false))) (sNx))
  (sRt (eAn (eOp (hEqP false) (eCB hLen (aCons (eVar 0) (aNil))) (eCB hLen (aCons (eVar 1) (aNil)))) (eCB (hBls (·.all id)) (aCons (eLkO 0 (eLc false [2, 3] (iZpA (eVar 0) (eVar 1)) (gT 2 (gsCons (gN 2) (gsCons (gN 3) (gsNil)))) (tY) (eCall 2 self_ [] (aCons (eVar 2) (aCons (eVar 3) (aNil)))))) (aNil)))))) (sNx))
  (sSeq (sIf (tTr (eCB (hIsi own) (aCons (eVar 1) (aCons (eC (.ty "int")) (aNil))))) (sRt (eAn (eCB (hIsi own) (aCons (eVar 0) (aCons (eC (.ty "int")) (aNil)))) (eAn (eOp (hEqP false) (eCB (hIsi own) (aCons (eVar 0) (aCons (eC (.ty "bool")) (aNil)))) (eCB (hIsi own) (aCons (eVar 1) (aCons (eC (.ty "bool")) (aNil))))) (eOp (hEqP false) (eVar 0) (eVar 1))))) (sNx))
  (sRt (eAn (eOp (hIsN false) (eCB (hIsi own) (aCons (eVar 0) (aCons (eTup (aCons (eC (.ty "int")) (aCons (eC (.ty "list")) (aCons (eC (.ty "tuple")) (aNil))))) (aNil)))) (eC (.bl false))) (eOp (hEqP false) (eVar 0) (eVar 1)))))
noncomputable def F__law_same : Nat → HL
  | 0 => fun _ _ => .bad
  | n + 1 => runF 4 (b__law_same (F__law_same n))
noncomputable def p_law_277 : FS :=
  sRt (eC (.bl false))
noncomputable def p_law_279 : FS :=
  sRt (eC (.bl false))
noncomputable def p_law_281 : FS :=
  sRt (eC (.bl false))
noncomputable def p_law_287 : FS :=
  sRt (eC (.bl false))
noncomputable def p_law_291 : FS :=
  sRt (eC (.bl false))
noncomputable def p_law_295 : FS :=
  sRt (eC (.bl false))
noncomputable def p_law_271 : FS :=
  sSet 3 (eOp (hEqP false) (eCall 2 F__law_draw [] (aCons (eVar 1) (aCons (eC (.int 3)) (aNil)))) (eC (.int 0)))
noncomputable def p_law_272 : FS :=
  sSet 4 (eCall 2 F__law_names [] (aCons (eVar 1) (aCons (eOp hAdd (eC (.int 1)) (eCall 2 F__law_draw [] (aCons (eVar 1) (aCons (eIf (tTr (eVar 3)) (eC (.int 8)) (eC (.int 5))) (aNil))))) (aNil))))
noncomputable def p_law_273 : FS :=
  sPar 12 13 (aCons (eFrz (eMakeK "Folders" 3 1 1 F_Folders___init__ (aCons (eVar 4) (aNil)) (aCons (eVar 3) (aNil)))) (aCons (eCall 2 F__law_b_lots [] (aCons (eVar 4) (aCons (eVar 3) (aNil)))) (aNil)))
noncomputable def p_law_274 : FS :=
  sAsg (eCall 4 F__law_q_drawn [] (aCons (eVar 1) (aCons (eVar 12) (aCons (eVar 4) (aCons (eVar 13) (aNil)))))) (gT 2 (gsCons (gN 14) (gsCons (gN 15) (gsNil))))
noncomputable def p_law_275 : FS :=
  sSet 5 (eMeth "Question" "in_freed" 1 F_Question_in_freed [] (eVar 14) (aNil))
noncomputable def p_law_276 : FS :=
  sIf (tOr' (tNo (tTr (eCB (hIsi own) (aCons (eVar 5) (aCons (eC (.ty "dict")) (aNil)))))) (tTr (eOp (hEqP true) (eCB (hListD false) (aCons (eVar 5) (aNil))) (eLc false [16] (iSeq (eVar 13)) (gN 16) (tTr (eOp (hDIn false) (eVar 16) (eVar 5))) (eVar 16))))) (p_law_277) (sNx)
noncomputable def p_law_278 : FS :=
  sIf (tNo (tTr (eCB (hBls (·.all id)) (aCons (eLkD 5 (eLc false [17] (iVl (eVar 5)) (gN 17) (tY) (eAn (eCB (hIsi own) (aCons (eVar 17) (aCons (eC (.ty "int")) (aNil)))) (eAn (eNo (eCB (hIsi own) (aCons (eVar 17) (aCons (eC (.ty "bool")) (aNil))))) (eOp (hEqP true) (eVar 17) (eC (.int 0))))))) (aNil))))) (p_law_279) (sNx)
noncomputable def p_law_280 : FS :=
  sIf (tTr (eOp (hNeO own "Question" F_Question___eq__) (eCall 3 F__law_summed [] (aCons (eVar 12) (aCons (eVar 13) (aCons (eVar 5) (aNil))))) (eVar 14))) (p_law_281) (sNx)
noncomputable def p_law_282 : FS :=
  sSet 6 (eLc false [16] (iSeq (eVar 13)) (gN 16) (tY) (eTup (aCons (eVar 16) (aCons (eCall 2 F__law_pick [] (aCons (eVar 1) (aCons (eLst (aCons (eC (.int 0)) (aCons (eC (.int 0)) (aCons (eC (.int 1)) (aCons (eUn hNeg (eC (.int 1))) (aCons (eC (.int 2)) (aCons (eUn hNeg (eC (.int 5))) (aNil)))))))) (aNil)))) (aNil)))))
noncomputable def p_law_283 : FS :=
  sSet 7 (eCB (hDict false) (aCons (eLc false [16, 17] (iSeq (eVar 6)) (gT 2 (gsCons (gN 16) (gsCons (gN 17) (gsNil)))) (tTr (eOp (hEqP true) (eVar 17) (eC (.int 0)))) (eTup (aCons (eVar 16) (aCons (eVar 17) (aNil))))) (aNil)))
noncomputable def p_law_284 : FS :=
  sSet 8 (eMeth "Question" "in_freed" 1 F_Question_in_freed [] (eCall 3 F__law_summed [] (aCons (eVar 12) (aCons (eVar 13) (aCons (eVar 7) (aNil))))) (aNil))
noncomputable def p_law_285 : FS :=
  sSet 9 (eLc false [16] (iSeq (eVar 13)) (gN 16) (tY) (eDGet2 (eVar 8) (eVar 16) (eC (.int 0))))
noncomputable def p_law_286 : FS :=
  sIf (tOr' (tNo (tTr (eCall 2 (F__law_same 4) [] (aCons (eVar 9) (aCons (eLc false [16, 17] (iSeq (eVar 6)) (gT 2 (gsCons (gN 16) (gsCons (gN 17) (gsNil)))) (tY) (eVar 17)) (aNil)))))) (tTr (eOp (hEqP true) (eCB hLenD (aCons (eVar 8) (aNil))) (eCB hLenD (aCons (eVar 7) (aNil)))))) (p_law_287) (sNx)
noncomputable def p_law_288 : FS :=
  sSet 10 (eFrz (eMeth "Question" "in_freed" 1 F_Question_in_freed [] (eOp (hBin "Question" F_Question___add__) (eVar 14) (eCall 3 F__law_summed [] (aCons (eVar 12) (aCons (eVar 13) (aCons (eVar 7) (aNil)))))) (aNil)))
noncomputable def p_law_289 : FS :=
  sSet 11 (eLc false [16, 17] (iSeq (eVar 6)) (gT 2 (gsCons (gN 16) (gsCons (gN 17) (gsNil)))) (tY) (eOp hAdd (eDGet2 (eVar 5) (eVar 16) (eC (.int 0))) (eVar 17)))
noncomputable def p_law_290 : FS :=
  sIf (tNo (tTr (eCall 2 (F__law_same 4) [] (aCons (eLc false [16] (iSeq (eVar 13)) (gN 16) (tY) (eDGet2 (eVar 10) (eVar 16) (eC (.int 0)))) (aCons (eVar 11) (aNil)))))) (p_law_291) (sNx)
noncomputable def p_law_292 : FS :=
  sAsg (eC (.int 77)) (gDx (eVar 8) (eOp hIx (eVar 13) (eC (.int 0))))
noncomputable def p_law_293 : FS :=
  sAsg (eC (.int 77)) (gDx (eVar 5) (eOp hIx (eVar 13) (eC (.int 0))))
noncomputable def p_law_294 : FS :=
  sIf (tTr (eOp (hNeO own "Question" F_Question___eq__) (eCall 3 F__law_summed [] (aCons (eVar 12) (aCons (eVar 13) (aCons (eFrz (eMeth "Question" "in_freed" 1 F_Question_in_freed [] (eVar 14) (aNil))) (aNil))))) (eVar 14))) (p_law_295) (sNx)
noncomputable def p_law_269 : FS :=
  sSet 1 (eCall 1 F__law_start [] (aCons (eVar 0) (aNil)))
noncomputable def p_law_270 : FS :=
  sFor (iRg1 (eC (.int 4))) (gN 2) (sSeq (p_law_271)
  (sSeq (p_law_272)
  (sSeq (p_law_273)
  (sSeq (p_law_274)
  (sSeq (p_law_275)
  (sSeq (p_law_276)
  (sSeq (p_law_278)
  (sSeq (p_law_280)
  (sSeq (p_law_282)
  (sSeq (p_law_283)
  (sSeq (p_law_284)
  (sSeq (p_law_285)
  (sSeq (p_law_286)
  (sSeq (p_law_288)
  (sSeq (p_law_289)
  (sSeq (p_law_290)
  (sSeq (p_law_292)
  (sSeq (p_law_293)
  (p_law_294)))))))))))))))))))
noncomputable def p_law_296 : FS :=
  sRt (eC (.bl true))
noncomputable def b_law : FS :=
  sSeq (p_law_269)
  (sSeq (p_law_270)
  (p_law_296))
noncomputable def F_law : HL := runF 18 b_law
end K08
end
section
set_option maxRecDepth 100000
set_option maxHeartbeats 4000000
/-! k08: the plain law. -/
namespace K08
open PySem L2 DL DM
open PySem.PyData (strOk)
theorem q_draw : F__law_draw = Cm.F__law_draw := rfl
theorem q_pick : F__law_pick = Cm.F__law_pick := rfl
theorem q_names : F__law_names = Cm.F__law_names := rfl
theorem q_init : F_Folders___init__ = Cm.F_Folders___init__ own := rfl
theorem q_same : F__law_same = Cm.F__law_same own := by
  funext n
  induction n with
  | zero => rfl
  | succ n ih =>
    show runF 4 (b__law_same (F__law_same n)) = runF 4 (Cm.b__law_same own (Cm.F__law_same own n))
    rw [ih]
    rfl
theorem q_brows : F__law_b_rows = Cm.F__law_b_rows := by
  funext n
  induction n with
  | zero => rfl
  | succ n ih =>
    show runF 5 (b__law_b_rows (F__law_b_rows n)) = runF 5 (Cm.b__law_b_rows (Cm.F__law_b_rows n))
    rw [ih]
    rfl
theorem q_blots : F__law_b_lots = Cm.F__law_b_lots := by
  unfold F__law_b_lots Cm.F__law_b_lots b__law_b_lots Cm.b__law_b_lots
  rw [q_brows]
theorem q_drawn : F__law_q_drawn = Cm.F__law_q_drawn own := rfl
theorem q_free : F_Question_in_freed = Cm.F_Question_in_freed := rfl
theorem q_sum : F__law_summed = Cm.F__law_summed own := rfl
theorem q_qeq : F_Question___eq__ = Cm.F_Question___eq__ own := rfl
theorem q_add : F_Question___add__ = Cm.F_Question___add__ own := rfl
theorem hF : ("Folders" : Str) ∈ own := by decide +kernel
theorem hQ : ("Question" : Str) ∈ own := by decide +kernel
abbrev Has (ρ : EnvD) (i : Nat) (d : D) : Prop := ρ[i]? = some (some d)
theorem lcp {α : Type} {fg : FG} {ft : FT} {fe : FE} {ρ : EnvD} {m : Mem} (d f : α → D) (p : α → Bool) : ∀ (as : List α) (acc : List D), (∀ a ∈ as, ∃ ρx, fg (d a) ρ m = .ok ρx m ∧ ft ρx m = .ok (p a) m ∧ (p a = true → fe ρx m = .ok (f a) m)) → lcGo fg ft fe ρ (as.map d) acc m = .ok (acc ++ (as.filter p).map f) m
  | [], acc, _ => by simp [lcGo]
  | a :: as, acc, h => by
    obtain ⟨ρx, h1, h2, h3⟩ := h a (by simp)
    have ih := fun acc => lcp d f p as acc fun x hx => h x (by simp [hx])
    cases hp : p a with
    | true => rw [hp] at h2; simp [lcGo, h1, h2, h3 hp, hp, ih]
    | false => rw [hp] at h2; simp [lcGo, h1, h2, hp, ih]
variable {ρ : EnvD} {C : Nat} {tl m : Mem} {ns : List Str} {ch : Bool}
theorem s271 (h1 : Has ρ 1 (.mref 1)) (hs : St C tl m) (hC : C < 2 ^ 38) : ∃ (ch : Bool) (m' : Mem), p_law_271 ρ m = .nx (ρ.set 3 (some (.bl ch))) m' ∧ St (C + 1) tl m' := by
  obtain ⟨d, m', e, h0, h2, hs'⟩ := draw_ok hs (by omega) (k := 3) (by omega) (by omega)
  refine ⟨decide (d = 0), m', ?_, hs'⟩
  unfold p_law_271
  rw [q_draw]
  simp [e, h1]
theorem s272 (h1 : Has ρ 1 (.mref 1)) (h3 : Has ρ 3 (.bl ch)) (hs : St C tl m) (hC : C < 2 ^ 38) : ∃ (ns : List Str) (m' : Mem), p_law_272 ρ m = .nx (ρ.set 4 (some (.lst (ns.map .str)))) m' ∧ GoodNames ns ch ∧ St (C + 110) tl m' := by
  obtain ⟨d, m1, e, h0, h2, hs1⟩ := draw_ok hs (by omega) (k := if ch then 8 else 5) (by split <;> omega) (by split <;> omega)
  have hd : d < 8 := by split at h2 <;> omega
  obtain ⟨ns, m', e2, hl, hn, hq, hs2⟩ := names_ok hs1 (n := 1 + d) (by omega) (by omega) (by omega)
  refine ⟨ns, m', ?_, ⟨fun z => ?_, hn, hq, ?_⟩, hs2.mono (by omega)⟩
  · unfold p_law_272
    rw [q_draw, q_names]
    cases ch <;> simp at e <;> simp [e, e2, h1, h3]
  · subst z
    simp at hl
    omega
  · split at h2 <;> rename_i hc <;> simp [hc] <;> omega
theorem s273 (g : GoodNames ns ch) (h3 : Has ρ 3 (.bl ch)) (h4 : Has ρ 4 (.lst (ns.map .str))) : p_law_273 ρ m = .nx ((ρ.set 12 (some (House ns ch))).set 13 (some (.lst ((lotsL ns ch).map tupS)))) m := by
  have e1 := mk_house (own := own) g (m := m) .lst
  have e2 := b_lots_ok g m
  unfold p_law_273
  rw [q_init, q_blots]
  simp [h3, h4, e1, e2]
theorem s274 (g : GoodNames ns ch) (h1 : Has ρ 1 (.mref 1)) (h4 : Has ρ 4 (.lst (ns.map .str))) (h12 : Has ρ 12 (House ns ch)) (h13 : Has ρ 13 (.lst ((lotsL ns ch).map tupS))) (hs : St C tl m) (hC : C < 2 ^ 36) : ∃ (w : List Str → Int) (r : D) (m' : Mem), p_law_274 ρ m = .nx ((ρ.set 14 (some (Qn ns ch w))).set 15 (some r)) m' ∧ St (C + 150) tl m' := by
  obtain ⟨w, m', e, _, hs'⟩ := drawn_ok (own := own) g hF hs hC
  refine ⟨w, .lst ((lotsL ns ch).map fun l => .int (w l)), m', ?_, hs'⟩
  · unfold p_law_274
    rw [q_drawn]
    simp only [x_sAsg, x_eCall, x_aCons, x_eVar, h1, h4, h12, h13, varR_ok, kC1_ok, x_aNil, kC2_ok, kCall_ok, List.append_nil, List.length_cons, List.length_nil, if_true, e, kAsg_ok, x_gT, x_gsCons, x_gN, bind_ok, x_gsNil, kAsg2_ok]
    rfl
theorem f1 : (("in_freed" : Str) == ("folders" : Str)) = false := by decide +kernel
theorem f2 : (("in_freed" : Str) == ("row" : Str)) = false := by decide +kernel
theorem s275 (g : GoodNames ns ch) {w : List Str → Int} (h14 : Has ρ 14 (Qn ns ch w)) : ∃ o, p_law_275 ρ m = .nx (ρ.set 5 (some (.mref (m.length + 1)))) (m ++ [o, .dT (solT ns ch (sol w (lotsL ns ch)))]) := by
  obtain ⟨o, e⟩ := in_freed_ok g w m
  refine ⟨o, ?_⟩
  unfold p_law_275
  rw [q_free]
  simp only [x_sSet, x_eMeth, x_eVar, h14, varR_ok, q_meth f1 f2, x_aNil, kMt2_ok, List.append_nil, List.length_cons, List.length_nil, if_true, e, kSet_ok]
theorem s276 (g : GoodNames ns ch) (hl : ρ.length = 18) {F : List Str → Int} {i : Nat} (hi : m[i]? = some (.dT (solT ns ch F))) (h5 : Has ρ 5 (.mref i)) (h13 : Has ρ 13 (.lst ((lotsL ns ch).map tupS))) : p_law_276 ρ m = .nx ρ m := by
  have hT : dicT m (.mref i) = some (solT ns ch F) := by simp only [dicT, hi]
  have tg : tagD own m (.mref i) = some (.b "dict") := by simp [tagD, hi]
  have e1 := isi_ty tg b_dict b_dict
  have e2 := solT_list hT
  have e3 : lcGo (gN 16) (tTr (eOp (hDIn false) (eVar 16) (eVar 5))) (eVar 16) (ρ.set 16 none) ((lotsL ns ch).map tupS) [] m = .ok (((lotsL ns ch).filter fun l => decide (F l ≠ 0)).map tupS) m := lots_where g _ fun l hl' => by
    have := solT_in g hT hl'
    refine ⟨_, rfl, ?_, ?_⟩
    · simp [-getElem?_pos, List.getElem?_set, hl, h5, this]
    · simp [-getElem?_pos, List.getElem?_set, hl]
  have e4 := eq_lots true (ls := (lotsL ns ch).filter fun l => decide (F l ≠ 0)) (fun l h => lot_strs g (List.mem_filter.mp h).1) m
  have a1 : ans "dict" "dict" = true := rfl
  unfold p_law_276
  simp only [x_sIf, x_tOr, x_tNo, x_tTr, x_eCB, x_aCons, x_eVar, h5, h13, varR_ok, kC1_ok, x_eC, x_aNil, kC2_ok, kCB_ok, e1, a1, kTr_ok, kNo_ok, Bool.not_true, kOr_f, x_eOp, e2, kOp1_ok, x_eLc, x_iSeq, kSq_ok, seqI_lst, x_wipe, x_wipe0, kLc_ok, e3, kFin_ok, finL_f, kOp2_ok, e4, kIf_f, x_sNx]
theorem s278 (hl : ρ.length = 18) {F : List Str → Int} {i : Nat} (hi : m[i]? = some (.dT (solT ns ch F))) (h5 : Has ρ 5 (.mref i)) : p_law_278 ρ m = .nx ρ m := by
  have hlt := (List.getElem?_eq_some_iff.mp hi).1
  have k1 : lkAtD ρ m 5 = some (i, solT ns ch F) := lkAtD_of h5 hi
  have k2 : (m.set i (.lkT (solT ns ch F)))[i]? = some (.lkT (solT ns ch F)) := List.getElem?_set_self hlt
  have k3 : (m.set i (.lkT (solT ns ch F))).set i (.dT (solT ns ch F)) = m := by
    rw [List.set_set]
    refine List.ext_getElem? fun j => ?_
    by_cases hj : i = j
    · subst hj; rw [List.getElem?_set_self hlt, hi]
    · rw [List.getElem?_set_ne hj]
  have e0 := valsI_lk k2
  have ev : (solT ns ch F).map (·.2) = ((lotsL ns ch).filter fun l => decide (F l ≠ 0)).map fun l => .int (F l) := by
    unfold solT
    rw [List.map_map]
    rfl
  rw [ev] at e0
  have e1 : lcGo (gN 17) tY (eAn (eCB (hIsi own) (aCons (eVar 17) (aCons (eC (.ty "int")) (aNil)))) (eAn (eNo (eCB (hIsi own) (aCons (eVar 17) (aCons (eC (.ty "bool")) (aNil))))) (eOp (hEqP true) (eVar 17) (eC (.int 0))))) (ρ.set 17 none) (((lotsL ns ch).filter fun l => decide (F l ≠ 0)).map fun l => .int (F l)) [] (m.set i (.lkT (solT ns ch F))) = .ok (((lotsL ns ch).filter fun l => decide (F l ≠ 0)).map fun _ => .bl true) (m.set i (.lkT (solT ns ch F))) := by
    rw [lcm (fun l => .int (F l)) (fun _ => .bl true)]
    · simp
    · intro l hl'
      have hz : F l ≠ 0 := by have := (List.mem_filter.mp hl').2; simpa using this
      refine ⟨_, rfl, ?_⟩
      have tg : tagD own (m.set i (.lkT (solT ns ch F))) (.int (F l)) = some (.b "int") := rfl
      have i1 := isi_ty tg b_int b_int
      have i2 := isi_ty tg b_int b_bool
      have a1 : ans "int" "int" = true := rfl
      have a2 : ans "int" "bool" = false := rfl
      simp [-getElem?_pos, List.getElem?_set, hl, i1, i2, a1, a2, hz]
  have e2 := all_bls (fun _ : List Str => true) ((lotsL ns ch).filter fun l => decide (F l ≠ 0)) m
  have a3 : (((lotsL ns ch).filter fun l => decide (F l ≠ 0)).all fun _ => true) = true := by simp
  rw [a3] at e2
  have el : eLkD 5 (eLc false [17] (iVl (eVar 5)) (gN 17) (tY) (eAn (eCB (hIsi own) (aCons (eVar 17) (aCons (eC (.ty "int")) (aNil)))) (eAn (eNo (eCB (hIsi own) (aCons (eVar 17) (aCons (eC (.ty "bool")) (aNil))))) (eOp (hEqP true) (eVar 17) (eC (.int 0)))))) ρ m = .ok (.lst (((lotsL ns ch).filter fun l => decide (F l ≠ 0)).map fun _ => .bl true)) m := by
    rw [eLkD_yes k1]
    simp only [x_eLc, x_iVl, x_eVar, h5, varR_ok, kVls_ok, e0, x_wipe, x_wipe0, kLc_ok, e1, kFin_ok, finL_f, unlkD, k3]
  unfold p_law_278
  simp only [x_sIf, x_tNo, x_tTr, x_eCB, x_aCons, el, kC1_ok, x_aNil, kC2_ok, kCB_ok, e2, kTr_ok, kNo_ok, Bool.not_true, kIf_f, x_sNx]
theorem same_sol (g : GoodNames ns ch) (w : List Str → Int) (m : Mem) : hNeO own "Question" (Cm.F_Question___eq__ own) (Qn ns ch (Sm (lotsL ns ch) (sol w (lotsL ns ch)))) (Qn ns ch w) m = .ok (.bl false) m := by
  have e := ne_q (own := own) g hF hQ (Sm (lotsL ns ch) (sol w (lotsL ns ch))) w m
  rw [decide_eq_true (fun l hl => sol_ok w (lots_nd g) (lots_pw g) l hl)] at e
  exact e
theorem s280 (g : GoodNames ns ch) {w : List Str → Int} {T : D} (hT : dicT m T = some (solT ns ch (sol w (lotsL ns ch)))) (h5 : Has ρ 5 T) (h12 : Has ρ 12 (House ns ch)) (h13 : Has ρ 13 (.lst ((lotsL ns ch).map tupS))) (h14 : Has ρ 14 (Qn ns ch w)) : p_law_280 ρ m = .nx ρ m := by
  have e1 := sum_solT (own := own) g hF hT
  have e2 := same_sol g w m
  unfold p_law_280
  rw [q_sum, q_qeq]
  simp only [x_sIf, x_tTr, x_eOp, x_eCall, x_aCons, x_eVar, h5, h12, h13, h14, varR_ok, kC1_ok, x_aNil, kC2_ok, kCall_ok, List.append_nil, List.length_cons, List.length_nil, if_true, e1, kOp1_ok, kOp2_ok, e2, kTr_ok, kIf_f, x_sNx]
theorem s282 (g : GoodNames ns ch) (hl : ρ.length = 18) (h1 : Has ρ 1 (.mref 1)) (h13 : Has ρ 13 (.lst ((lotsL ns ch).map tupS))) (hs : St C tl m) (hC : C < 2 ^ 38) : ∃ (v : List Str → Int) (m' : Mem), p_law_282 ρ m = .nx (ρ.set 6 (some (.lst ((lotsL ns ch).map fun l => .tup [tupS l, .int (v l)])))) m' ∧ St (C + 100) tl m' := by
  have few := lots_few g
  have zl2 : (2 : Nat) ≤ sizeLine := by decide
  have zl6 : (6 : Nat) ≤ sizeLine := by decide
  have key : ∀ (ls : List (List Str)), ls.Nodup → ∀ (acc : List D) (C : Nat) (m : Mem), St C tl m → C + ls.length < 2 ^ 39 → ∃ (v : List Str → Int) (m' : Mem), lcGo (gN 16) tY (eTup (aCons (eVar 16) (aCons (eCall 2 Cm.F__law_pick [] (aCons (eVar 1) (aCons (eLst (aCons (eC (.int 0)) (aCons (eC (.int 0)) (aCons (eC (.int 1)) (aCons (eUn hNeg (eC (.int 1))) (aCons (eC (.int 2)) (aCons (eUn hNeg (eC (.int 5))) (aNil)))))))) (aNil)))) (aNil)))) (ρ.set 16 none) (ls.map tupS) acc m = .ok (acc ++ ls.map fun l => .tup [tupS l, .int (v l)]) m' ∧ St (C + ls.length) tl m' := by
    intro ls
    induction ls with
    | nil => exact fun _ acc C m hs _ => ⟨fun _ => 0, m, by simp [lcGo], hs⟩
    | cons a ls ih =>
      intro nd acc C m hs hC
      rw [List.nodup_cons] at nd
      obtain ⟨d, m1, e, hd, hs1⟩ := pick_lst hs (by omega) (xs := [.int 0, .int 0, .int 1, .int (-1), .int 2, .int (-5)]) (by simp) (by simp)
      have : ∃ k : Int, d = .int k := by
        simp only [List.mem_cons, List.not_mem_nil, or_false] at hd
        rcases hd with h | h | h | h | h | h <;> exact ⟨_, h⟩
      obtain ⟨k, rfl⟩ := this
      obtain ⟨v, m2, e2, hs2⟩ := ih nd.2 (acc ++ [.tup [tupS a, .int k]]) (C + 1) m1 hs1 (by simp at hC; omega)
      refine ⟨fun l => if l = a then k else v l, m2, ?_, by rw [List.length_cons, show C + (ls.length + 1) = C + 1 + ls.length by omega]; exact hs2⟩
      have em : (ls.map fun l => D.tup [tupS l, .int (v l)]) = ls.map fun l => .tup [tupS l, .int (if l = a then k else v l)] := List.map_congr_left fun l hl => by rw [if_neg fun z : l = a => nd.1 (z ▸ hl)]
      rw [em] at e2
      simp [-getElem?_pos, lcGo, List.getElem?_set, hl, h1, e, zl2, zl6, e2]
  obtain ⟨v, m', e, hs'⟩ := key (lotsL ns ch) (lots_nd g) [] C m hs (by omega)
  refine ⟨v, m', ?_, hs'.mono (by omega)⟩
  unfold p_law_282
  rw [q_pick]
  simp only [x_sSet, x_eLc, x_iSeq, x_eVar, h13, varR_ok, kSq_ok, seqI_lst, x_wipe, x_wipe0, kLc_ok, e, List.nil_append, kFin_ok, finL_f, kSet_ok]
theorem s283 (g : GoodNames ns ch) (hl : ρ.length = 18) {v : List Str → Int} (h6 : Has ρ 6 (.lst ((lotsL ns ch).map fun l => .tup [tupS l, .int (v l)]))) : p_law_283 ρ m = .nx (ρ.set 7 (some (.dT (solT ns ch v)))) m := by
  have zl2 : (2 : Nat) ≤ sizeLine := by decide
  have e1 : lcGo (gT 2 (gsCons (gN 16) (gsCons (gN 17) (gsNil)))) (tTr (eOp (hEqP true) (eVar 17) (eC (.int 0)))) (eTup (aCons (eVar 16) (aCons (eVar 17) (aNil)))) ((ρ.set 17 none).set 16 none) ((lotsL ns ch).map fun l => .tup [tupS l, .int (v l)]) [] m = .ok (((lotsL ns ch).filter fun l => decide (v l ≠ 0)).map fun l => .tup [tupS l, .int (v l)]) m := by
    rw [lcp (fun l => .tup [tupS l, .int (v l)]) (fun l => .tup [tupS l, .int (v l)]) (fun l => decide (v l ≠ 0))]
    · simp
    · intro l _
      refine ⟨_, rfl, ?_, fun _ => ?_⟩
      · simp [-getElem?_pos, List.getElem?_set, hl]
      · simp [-getElem?_pos, List.getElem?_set, hl, zl2]
  have e2 := dict_lots false (fun l : List Str => l) (fun l => D.int (v l)) (as := (lotsL ns ch).filter fun l => decide (v l ≠ 0)) (by simpa using (lots_nd g).sublist List.filter_sublist) m
  unfold p_law_283
  simp only [x_sSet, x_eCB, x_aCons, x_eLc, x_iSeq, x_eVar, h6, varR_ok, kSq_ok, seqI_lst, x_wipe, x_wipe0, kLc_ok, e1, kFin_ok, finL_f, kC1_ok, x_aNil, kC2_ok, kCB_ok, e2, newD_f, kSet_ok]
  rfl
theorem s284 (g : GoodNames ns ch) {v : List Str → Int} (h7 : Has ρ 7 (.dT (solT ns ch v))) (h12 : Has ρ 12 (House ns ch)) (h13 : Has ρ 13 (.lst ((lotsL ns ch).map tupS))) : ∃ o, p_law_284 ρ m = .nx (ρ.set 8 (some (.mref (m.length + 1)))) (m ++ [o, .dT (solT ns ch v)]) := by
  have e1 := sum_solT (own := own) (m := m) g hF (T := .dT (solT ns ch v)) rfl
  obtain ⟨o, e⟩ := in_freed_ok g (Sm (lotsL ns ch) v) m
  rw [solT_congr (sol_uniq (lots_nd g) (lots_pw g) fun k _ => rfl)] at e
  refine ⟨o, ?_⟩
  unfold p_law_284
  rw [q_free, q_sum]
  simp only [x_sSet, x_eMeth, x_eCall, x_aCons, x_eVar, h7, h12, h13, varR_ok, kC1_ok, x_aNil, kC2_ok, kCall_ok, e1, q_meth f1 f2, kMt2_ok, List.append_nil, List.length_cons, List.length_nil, if_true, e, kSet_ok]
theorem s285 (g : GoodNames ns ch) (hl : ρ.length = 18) {v : List Str → Int} {i : Nat} (hi : m[i]? = some (.dT (solT ns ch v))) (h8 : Has ρ 8 (.mref i)) (h13 : Has ρ 13 (.lst ((lotsL ns ch).map tupS))) : p_law_285 ρ m = .nx (ρ.set 9 (some (.lst ((lotsL ns ch).map fun l => .int (v l))))) m := by
  have hT : dicT m (.mref i) = some (solT ns ch v) := by simp only [dicT, hi]
  have dc : isDc m (.mref i) = true := by simp [isDc, hT]
  have e1 : lcGo (gN 16) tY (eDGet2 (eVar 8) (eVar 16) (eC (.int 0))) (ρ.set 16 none) ((lotsL ns ch).map tupS) [] m = .ok ((lotsL ns ch).map fun l => .int (v l)) m := by
    rw [lcm tupS (fun l => .int (v l))]
    · simp
    · intro l hl'
      have := solT_get2 g hT hl'
      refine ⟨_, rfl, ?_⟩
      simp [-getElem?_pos, List.getElem?_set, hl, h8, kDG1_ok _ _ _ _ _ dc, this]
  unfold p_law_285
  simp only [x_sSet, x_eLc, x_iSeq, x_eVar, h13, varR_ok, kSq_ok, seqI_lst, x_wipe, x_wipe0, kLc_ok, e1, kFin_ok, finL_f, kSet_ok]
theorem same_nums (f : List Str → Int) (m : Mem) : Cm.F__law_same own 4 [.lst ((lotsL ns ch).map fun l => .int (f l)), .lst ((lotsL ns ch).map fun l => .int (f l))] m = .ok (.bl true) m :=
  same_lst (n := 3) (fun x hx => by
    obtain ⟨l, _, rfl⟩ := List.mem_map.mp hx
    exact same_int _) m
theorem s286 (hl : ρ.length = 18) {v : List Str → Int} {i : Nat} (hi : m[i]? = some (.dT (solT ns ch v))) (h6 : Has ρ 6 (.lst ((lotsL ns ch).map fun l => .tup [tupS l, .int (v l)]))) (h7 : Has ρ 7 (.dT (solT ns ch v))) (h8 : Has ρ 8 (.mref i)) (h9 : Has ρ 9 (.lst ((lotsL ns ch).map fun l => .int (v l)))) : p_law_286 ρ m = .nx ρ m := by
  have hT : dicT m (.mref i) = some (solT ns ch v) := by simp only [dicT, hi]
  have e1 : lcGo (gT 2 (gsCons (gN 16) (gsCons (gN 17) (gsNil)))) tY (eVar 17) ((ρ.set 17 none).set 16 none) ((lotsL ns ch).map fun l => .tup [tupS l, .int (v l)]) [] m = .ok ((lotsL ns ch).map fun l => .int (v l)) m := by
    rw [lcm (fun l => .tup [tupS l, .int (v l)]) (fun l => .int (v l))]
    · simp
    · intro l _
      refine ⟨_, rfl, ?_⟩
      simp [-getElem?_pos, List.getElem?_set, hl]
  have e2 := same_nums (ns := ns) (ch := ch) v m
  have e3 := solT_len hT
  have e4 := solT_len (m := m) (T := .dT (solT ns ch v)) (F := v) rfl
  have e5 : hEqP true (.int (solT ns ch v).length) (.int (solT ns ch v).length) m = .ok (.bl false) m := by simp
  unfold p_law_286
  rw [q_same]
  simp only [x_sIf, x_tOr, x_tNo, x_tTr, x_eCall, x_aCons, x_eVar, h6, h7, h8, h9, varR_ok, kC1_ok, x_eLc, x_iSeq, kSq_ok, seqI_lst, x_wipe, x_wipe0, kLc_ok, e1, kFin_ok, finL_f, x_aNil, kC2_ok, kCall_ok, List.append_nil, List.length_cons, List.length_nil, if_true, e2, kTr_ok, kNo_ok, Bool.not_true, kOr_f, x_eOp, x_eCB, kCB_ok, e3, e4, kOp1_ok, kOp2_ok, e5, kIf_f, x_sNx]
theorem s288 (g : GoodNames ns ch) {w v : List Str → Int} (h7 : Has ρ 7 (.dT (solT ns ch v))) (h12 : Has ρ 12 (House ns ch)) (h13 : Has ρ 13 (.lst ((lotsL ns ch).map tupS))) (h14 : Has ρ 14 (Qn ns ch w)) : p_law_288 ρ m = .nx (ρ.set 10 (some (.dT (solT ns ch fun l => sol w (lotsL ns ch) l + v l)))) m := by
  have e1 := sum_solT (own := own) (m := m) g hF (T := .dT (solT ns ch v)) rfl
  have e2 := op_add (own := own) g hF w (Sm (lotsL ns ch) v) m
  have e3 := frz_freed g (fun l => w l + Sm (lotsL ns ch) v l) m
  have e4 : solT ns ch (sol (fun l => w l + Sm (lotsL ns ch) v l) (lotsL ns ch)) = solT ns ch fun l => sol w (lotsL ns ch) l + v l := solT_congr (sol_uniq (lots_nd g) (lots_pw g) fun k hk => by
    rw [← sol_ok w (lots_nd g) (lots_pw g) k hk]
    exact Sm_add _ _ _ _)
  rw [e4] at e3
  unfold p_law_288
  rw [q_free, q_sum, q_add]
  simp only [x_sSet, x_eFrz, x_eMeth, x_eOp, x_eCall, x_aCons, x_eVar, h7, h12, h13, h14, varR_ok, kOp1_ok, kC1_ok, x_aNil, kC2_ok, kCall_ok, e1, kOp2_ok, e2, q_meth f1 f2, kMt2_ok, List.append_nil, List.length_cons, List.length_nil, if_true, e3, kSet_ok]
theorem s289 (g : GoodNames ns ch) (hl : ρ.length = 18) {F v : List Str → Int} {i : Nat} (hi : m[i]? = some (.dT (solT ns ch F))) (h5 : Has ρ 5 (.mref i)) (h6 : Has ρ 6 (.lst ((lotsL ns ch).map fun l => .tup [tupS l, .int (v l)]))) : p_law_289 ρ m = .nx (ρ.set 11 (some (.lst ((lotsL ns ch).map fun l => .int (F l + v l))))) m := by
  have hT : dicT m (.mref i) = some (solT ns ch F) := by simp only [dicT, hi]
  have dc : isDc m (.mref i) = true := by simp [isDc, hT]
  have e1 : lcGo (gT 2 (gsCons (gN 16) (gsCons (gN 17) (gsNil)))) tY (eOp hAdd (eDGet2 (eVar 5) (eVar 16) (eC (.int 0))) (eVar 17)) ((ρ.set 17 none).set 16 none) ((lotsL ns ch).map fun l => .tup [tupS l, .int (v l)]) [] m = .ok ((lotsL ns ch).map fun l => .int (F l + v l)) m := by
    rw [lcm (fun l => .tup [tupS l, .int (v l)]) (fun l => .int (F l + v l))]
    · simp
    · intro l hl'
      have := solT_get2 g hT hl'
      refine ⟨_, rfl, ?_⟩
      simp [-getElem?_pos, List.getElem?_set, hl, h5, kDG1_ok _ _ _ _ _ dc, this]
  unfold p_law_289
  simp only [x_sSet, x_eLc, x_iSeq, x_eVar, h6, varR_ok, kSq_ok, seqI_lst, x_wipe, x_wipe0, kLc_ok, e1, kFin_ok, finL_f, kSet_ok]
theorem s290 (g : GoodNames ns ch) (hl : ρ.length = 18) {F : List Str → Int} (h10 : Has ρ 10 (.dT (solT ns ch F))) (h11 : Has ρ 11 (.lst ((lotsL ns ch).map fun l => .int (F l)))) (h13 : Has ρ 13 (.lst ((lotsL ns ch).map tupS))) : p_law_290 ρ m = .nx ρ m := by
  have e1 : lcGo (gN 16) tY (eDGet2 (eVar 10) (eVar 16) (eC (.int 0))) (ρ.set 16 none) ((lotsL ns ch).map tupS) [] m = .ok ((lotsL ns ch).map fun l => .int (F l)) m := by
    rw [lcm tupS (fun l => .int (F l))]
    · simp
    · intro l hl'
      have := solT_get2 g (m := m) (T := .dT (solT ns ch F)) (F := F) rfl hl'
      refine ⟨_, rfl, ?_⟩
      simp [-getElem?_pos, List.getElem?_set, hl, h10, this]
  have e2 := same_nums (ns := ns) (ch := ch) F m
  unfold p_law_290
  rw [q_same]
  simp only [x_sIf, x_tNo, x_tTr, x_eCall, x_aCons, x_eVar, h11, h13, varR_ok, kC1_ok, x_eLc, x_iSeq, kSq_ok, seqI_lst, x_wipe, x_wipe0, kLc_ok, e1, kFin_ok, finL_f, x_aNil, kC2_ok, kCall_ok, List.append_nil, List.length_cons, List.length_nil, if_true, e2, kTr_ok, kNo_ok, Bool.not_true, kIf_f, x_sNx]
end K08
end
section
set_option maxRecDepth 100000
set_option maxHeartbeats 4000000
/-! k08: the plain law, put together. -/
namespace K08
open PySem L2 DL DM
open PySem.PyData (strOk)
theorem rows_ne : ∀ n, n < 6 → 0 < n → rows n (n - 1 + 1) ≠ [] := by decide +kernel
theorem lots_ne {ns : List Str} {ch : Bool} (g : GoodNames ns ch) : lotsL ns ch ≠ [] := by
  have hp : 0 < ns.length := List.length_pos_iff.mpr g.ne
  have hle := g.le
  intro e
  unfold lotsL at e
  rw [List.flatMap_eq_nil_iff] at e
  have := e (ns.length - 1) (by simp; omega)
  unfold piece at this
  cases ch with
  | true =>
    simp at this
    omega
  | false =>
    simp at this hle
    exact rows_ne ns.length (by omega) hp this
theorem St.at' {C : Nat} {tl m : Mem} (h : DM.St C tl m) (k : Nat) : m[k + 2]? = tl[k]? := by
  obtain ⟨cs, r, c, x, rfl, _⟩ := h
  simp
theorem St.set' {C : Nat} {tl m : Mem} (h : DM.St C tl m) (k : Nat) (o : MO) : DM.St C (tl.set k o) (m.set (k + 2) o) := by
  obtain ⟨cs, r, c, x, rfl, h1, h2, h3, h4, h5⟩ := h
  exact ⟨cs, r, c, x, by simp, h1, h2, h3, h4, h5⟩
variable {ρ : EnvD} {C : Nat} {tl m : Mem} {ns : List Str} {ch : Bool}
theorem put_first (g : GoodNames ns ch) {F : List Str → Int} {i : Nat} (hi : m[i]? = some (.dT (solT ns ch F))) : ∃ (l : List Str) (o : MO), hIx (.lst ((lotsL ns ch).map tupS)) (.int 0) m = .ok (tupS l) m ∧ dPut (.mref i) (tupS l) (.int 77) m = some (m.set i o) := by
  have hz : (solT ns ch F).length < sizeLine := by
    unfold solT
    rw [List.length_map]
    exact Nat.lt_of_le_of_lt (Nat.le_trans (List.length_filter_le _ _) (lots_few g)) (by decide)
  cases e : lotsL ns ch with
  | nil => exact absurd e (lots_ne g)
  | cons l ls =>
    refine ⟨l, .dT (putT (solT ns ch F) (kL l) (.int 77)), by simp [hIx, seqV, lstV, atI, ixN], ?_⟩
    simp only [dPut, hi, tupS, keysV_strs, if_pos hz]
theorem s292 (g : GoodNames ns ch) {F : List Str → Int} {i : Nat} (hi : m[i]? = some (.dT (solT ns ch F))) (h8 : Has ρ 8 (.mref i)) (h13 : Has ρ 13 (.lst ((lotsL ns ch).map tupS))) : ∃ o, p_law_292 ρ m = .nx ρ (m.set i o) := by
  obtain ⟨l, o, e1, e2⟩ := put_first g hi
  refine ⟨o, ?_⟩
  unfold p_law_292
  simp only [x_sAsg, x_eC, kAsg_ok, x_gDx, x_eVar, h8, h13, varR_ok, kDx1_ok, x_eOp, kOp1_ok, kOp2_ok, e1, kDx2_ok _ _ _ _ _ e2, kAsg2_ok]
theorem s293 (g : GoodNames ns ch) {F : List Str → Int} {i : Nat} (hi : m[i]? = some (.dT (solT ns ch F))) (h5 : Has ρ 5 (.mref i)) (h13 : Has ρ 13 (.lst ((lotsL ns ch).map tupS))) : ∃ o, p_law_293 ρ m = .nx ρ (m.set i o) := by
  obtain ⟨l, o, e1, e2⟩ := put_first g hi
  refine ⟨o, ?_⟩
  unfold p_law_293
  simp only [x_sAsg, x_eC, kAsg_ok, x_gDx, x_eVar, h5, h13, varR_ok, kDx1_ok, x_eOp, kOp1_ok, kOp2_ok, e1, kDx2_ok _ _ _ _ _ e2, kAsg2_ok]
theorem s294 (g : GoodNames ns ch) {w : List Str → Int} (h12 : Has ρ 12 (House ns ch)) (h13 : Has ρ 13 (.lst ((lotsL ns ch).map tupS))) (h14 : Has ρ 14 (Qn ns ch w)) : p_law_294 ρ m = .nx ρ m := by
  have e0 := frz_freed g w m
  have e1 := sum_solT (own := own) (m := m) g hF (T := .dT (solT ns ch (sol w (lotsL ns ch)))) rfl
  have e2 := same_sol g w m
  unfold p_law_294
  rw [q_sum, q_qeq, q_free]
  simp only [x_sIf, x_tTr, x_eOp, x_eCall, x_aCons, x_eVar, h12, h13, h14, varR_ok, kC1_ok, x_eFrz, x_eMeth, q_meth f1 f2, kMt2_ok, e0, x_aNil, kC2_ok, kCall_ok, List.append_nil, List.length_cons, List.length_nil, if_true, e1, kOp1_ok, kOp2_ok, e2, kTr_ok, kIf_f, x_sNx]
noncomputable def turnB : FS := sSeq p_law_271 (sSeq p_law_272 (sSeq p_law_273 (sSeq p_law_274 (sSeq p_law_275 (sSeq p_law_276 (sSeq p_law_278 (sSeq p_law_280 (sSeq p_law_282 (sSeq p_law_283 (sSeq p_law_284 (sSeq p_law_285 (sSeq p_law_286 (sSeq p_law_288 (sSeq p_law_289 (sSeq p_law_290 (sSeq p_law_292 (sSeq p_law_293 p_law_294)))))))))))))))))
theorem p270 : p_law_270 = sFor (iRg1 (eC (.int 4))) (gN 2) turnB := rfl
theorem turn_ok (hl : ρ.length = 18) (h1 : Has ρ 1 (.mref 1)) (hs : DM.St C tl m) (hC : C < 2 ^ 35) : ∃ (ρ' : EnvD) (m' tl' : Mem), turnB ρ m = .nx ρ' m' ∧ ρ'.length = 18 ∧ Has ρ' 1 (.mref 1) ∧ DM.St (C + 400) tl' m' := by
  obtain ⟨ch, m1, e1, s1⟩ := s271 h1 hs (by omega)
  generalize r1 : ρ.set 3 (some (.bl ch)) = ρ1 at e1
  have l1 : ρ1.length = 18 := by rw [← r1]; simp [hl]
  have a1 : Has ρ1 1 (.mref 1) ∧ Has ρ1 3 (.bl ch) := by rw [← r1]; simp [-getElem?_pos, Has, List.getElem?_set, hl, h1]
  obtain ⟨ns, m2, e2, g, s2⟩ := s272 a1.1 a1.2 s1 (by omega)
  generalize r2 : ρ1.set 4 (some (.lst (ns.map .str))) = ρ2 at e2
  have l2 : ρ2.length = 18 := by rw [← r2]; simp [l1]
  have a2 : Has ρ2 1 (.mref 1) ∧ Has ρ2 3 (.bl ch) ∧ Has ρ2 4 (.lst (ns.map .str)) := by rw [← r2]; simp [-getElem?_pos, Has, List.getElem?_set, l1, a1]
  have e3 := s273 (m := m2) g a2.2.1 a2.2.2
  generalize r3 : (ρ2.set 12 (some (House ns ch))).set 13 (some (.lst ((lotsL ns ch).map tupS))) = ρ3 at e3
  have l3 : ρ3.length = 18 := by rw [← r3]; simp [l2]
  have a3 : Has ρ3 1 (.mref 1) ∧ Has ρ3 4 (.lst (ns.map .str)) ∧ Has ρ3 12 (House ns ch) ∧ Has ρ3 13 (.lst ((lotsL ns ch).map tupS)) := by rw [← r3]; simp [-getElem?_pos, Has, List.getElem?_set, l2, a2]
  obtain ⟨w, rr, m4, e4, s4⟩ := s274 g a3.1 a3.2.1 a3.2.2.1 a3.2.2.2 s2 (by omega)
  generalize r4 : (ρ3.set 14 (some (Qn ns ch w))).set 15 (some rr) = ρ4 at e4
  have l4 : ρ4.length = 18 := by rw [← r4]; simp [l3]
  have a4 : Has ρ4 1 (.mref 1) ∧ Has ρ4 12 (House ns ch) ∧ Has ρ4 13 (.lst ((lotsL ns ch).map tupS)) ∧ Has ρ4 14 (Qn ns ch w) := by rw [← r4]; simp [-getElem?_pos, Has, List.getElem?_set, l3, a3]
  obtain ⟨o, e5⟩ := s275 (m := m4) g a4.2.2.2
  have s5 := s4.app [o, .dT (solT ns ch (sol w (lotsL ns ch)))]
  have n4 := s4.length
  rw [show m4.length + 1 = tl.length + 1 + 2 by omega] at e5
  generalize r5 : ρ4.set 5 (some (.mref (tl.length + 1 + 2))) = ρ5 at e5
  have l5 : ρ5.length = 18 := by rw [← r5]; simp [l4]
  have a5 : Has ρ5 1 (.mref 1) ∧ Has ρ5 12 (House ns ch) ∧ Has ρ5 13 (.lst ((lotsL ns ch).map tupS)) ∧ Has ρ5 14 (Qn ns ch w) ∧ Has ρ5 5 (.mref (tl.length + 1 + 2)) := by rw [← r5]; simp [-getElem?_pos, Has, List.getElem?_set, l4, a4]
  have at5 : ∀ {C : Nat} {m : Mem} {tl2 : Mem}, DM.St C (tl ++ [o, .dT (solT ns ch (sol w (lotsL ns ch)))] ++ tl2) m → m[tl.length + 1 + 2]? = some (.dT (solT ns ch (sol w (lotsL ns ch)))) := fun {C m tl2} h => by
    rw [St.at' h, List.append_assoc, List.getElem?_append_right (by omega)]
    simp
  have d5 := at5 (tl2 := []) (by simpa using s5)
  have e6 := s276 g l5 d5 a5.2.2.2.2 a5.2.2.1
  have e7 := s278 l5 d5 a5.2.2.2.2
  have t5 : dicT (m4 ++ [o, MO.dT (solT ns ch (sol w (lotsL ns ch)))]) (.mref (tl.length + 1 + 2)) = some (solT ns ch (sol w (lotsL ns ch))) := by simp only [dicT, d5]
  have e8 := s280 g t5 a5.2.2.2.2 a5.2.1 a5.2.2.1 a5.2.2.2.1
  obtain ⟨v, m6, e9, s6⟩ := s282 g l5 a5.1 a5.2.2.1 s5 (by omega)
  generalize r6 : ρ5.set 6 (some (.lst ((lotsL ns ch).map fun l => .tup [tupS l, .int (v l)]))) = ρ6 at e9
  have l6 : ρ6.length = 18 := by rw [← r6]; simp [l5]
  have a6 : Has ρ6 1 (.mref 1) ∧ Has ρ6 12 (House ns ch) ∧ Has ρ6 13 (.lst ((lotsL ns ch).map tupS)) ∧ Has ρ6 14 (Qn ns ch w) ∧ Has ρ6 5 (.mref (tl.length + 1 + 2)) ∧ Has ρ6 6 (.lst ((lotsL ns ch).map fun l => .tup [tupS l, .int (v l)])) := by rw [← r6]; simp [-getElem?_pos, Has, List.getElem?_set, l5, a5]
  have e10 := s283 (m := m6) g l6 a6.2.2.2.2.2
  generalize r7 : ρ6.set 7 (some (.dT (solT ns ch v))) = ρ7 at e10
  have l7 : ρ7.length = 18 := by rw [← r7]; simp [l6]
  have a7 : Has ρ7 1 (.mref 1) ∧ Has ρ7 12 (House ns ch) ∧ Has ρ7 13 (.lst ((lotsL ns ch).map tupS)) ∧ Has ρ7 14 (Qn ns ch w) ∧ Has ρ7 5 (.mref (tl.length + 1 + 2)) ∧ Has ρ7 6 (.lst ((lotsL ns ch).map fun l => .tup [tupS l, .int (v l)])) ∧ Has ρ7 7 (.dT (solT ns ch v)) := by rw [← r7]; simp [-getElem?_pos, Has, List.getElem?_set, l6, a6]
  obtain ⟨o2, e11⟩ := s284 (m := m6) g a7.2.2.2.2.2.2 a7.2.1 a7.2.2.1
  have s7 := s6.app [o2, .dT (solT ns ch v)]
  have n6 := s6.length
  rw [List.length_append] at n6
  simp only [List.length_cons, List.length_nil] at n6
  rw [show m6.length + 1 = tl.length + 3 + 2 by omega] at e11
  generalize r8 : ρ7.set 8 (some (.mref (tl.length + 3 + 2))) = ρ8 at e11
  have l8 : ρ8.length = 18 := by rw [← r8]; simp [l7]
  have a8 : Has ρ8 1 (.mref 1) ∧ Has ρ8 12 (House ns ch) ∧ Has ρ8 13 (.lst ((lotsL ns ch).map tupS)) ∧ Has ρ8 14 (Qn ns ch w) ∧ Has ρ8 5 (.mref (tl.length + 1 + 2)) ∧ Has ρ8 6 (.lst ((lotsL ns ch).map fun l => .tup [tupS l, .int (v l)])) ∧ Has ρ8 7 (.dT (solT ns ch v)) ∧ Has ρ8 8 (.mref (tl.length + 3 + 2)) := by rw [← r8]; simp [-getElem?_pos, Has, List.getElem?_set, l7, a7]
  have d5' := at5 s7
  have d8 : (m6 ++ [o2, .dT (solT ns ch v)])[tl.length + 3 + 2]? = some (.dT (solT ns ch v)) := by
    rw [St.at' s7, List.getElem?_append_right (by simp)]
    simp
  generalize r9 : m6 ++ [o2, MO.dT (solT ns ch v)] = m7 at e11 s7 d5' d8
  have e12 := s285 g l8 d8 a8.2.2.2.2.2.2.2 a8.2.2.1
  generalize r10 : ρ8.set 9 (some (.lst ((lotsL ns ch).map fun l => .int (v l)))) = ρ9 at e12
  have l9 : ρ9.length = 18 := by rw [← r10]; simp [l8]
  have a9 : Has ρ9 1 (.mref 1) ∧ Has ρ9 12 (House ns ch) ∧ Has ρ9 13 (.lst ((lotsL ns ch).map tupS)) ∧ Has ρ9 14 (Qn ns ch w) ∧ Has ρ9 5 (.mref (tl.length + 1 + 2)) ∧ Has ρ9 6 (.lst ((lotsL ns ch).map fun l => .tup [tupS l, .int (v l)])) ∧ Has ρ9 7 (.dT (solT ns ch v)) ∧ Has ρ9 8 (.mref (tl.length + 3 + 2)) ∧ Has ρ9 9 (.lst ((lotsL ns ch).map fun l => .int (v l))) := by rw [← r10]; simp [-getElem?_pos, Has, List.getElem?_set, l8, a8]
  have e13 := s286 l9 d8 a9.2.2.2.2.2.1 a9.2.2.2.2.2.2.1 a9.2.2.2.2.2.2.2.1 a9.2.2.2.2.2.2.2.2
  have e14 := s288 (m := m7) g a9.2.2.2.2.2.2.1 a9.2.1 a9.2.2.1 a9.2.2.2.1
  generalize r11 : ρ9.set 10 (some (.dT (solT ns ch fun l => sol w (lotsL ns ch) l + v l))) = ρ10 at e14
  have l10 : ρ10.length = 18 := by rw [← r11]; simp [l9]
  have a10 : Has ρ10 1 (.mref 1) ∧ Has ρ10 12 (House ns ch) ∧ Has ρ10 13 (.lst ((lotsL ns ch).map tupS)) ∧ Has ρ10 14 (Qn ns ch w) ∧ Has ρ10 5 (.mref (tl.length + 1 + 2)) ∧ Has ρ10 6 (.lst ((lotsL ns ch).map fun l => .tup [tupS l, .int (v l)])) ∧ Has ρ10 8 (.mref (tl.length + 3 + 2)) ∧ Has ρ10 10 (.dT (solT ns ch fun l => sol w (lotsL ns ch) l + v l)) := by rw [← r11]; simp [-getElem?_pos, Has, List.getElem?_set, l9, a9]
  have e15 := s289 g l10 d5' a10.2.2.2.2.1 a10.2.2.2.2.2.1
  generalize r12 : ρ10.set 11 (some (.lst ((lotsL ns ch).map fun l => .int (sol w (lotsL ns ch) l + v l)))) = ρ11 at e15
  have l11 : ρ11.length = 18 := by rw [← r12]; simp [l10]
  have a11 : Has ρ11 1 (.mref 1) ∧ Has ρ11 12 (House ns ch) ∧ Has ρ11 13 (.lst ((lotsL ns ch).map tupS)) ∧ Has ρ11 14 (Qn ns ch w) ∧ Has ρ11 5 (.mref (tl.length + 1 + 2)) ∧ Has ρ11 8 (.mref (tl.length + 3 + 2)) ∧ Has ρ11 10 (.dT (solT ns ch fun l => sol w (lotsL ns ch) l + v l)) ∧ Has ρ11 11 (.lst ((lotsL ns ch).map fun l => .int (sol w (lotsL ns ch) l + v l))) := by rw [← r12]; simp [-getElem?_pos, Has, List.getElem?_set, l10, a10]
  have e16 := s290 (m := m7) (F := fun l => sol w (lotsL ns ch) l + v l) g l11 a11.2.2.2.2.2.2.1 a11.2.2.2.2.2.2.2 a11.2.2.1
  obtain ⟨o3, e17⟩ := s292 g d8 a11.2.2.2.2.2.1 a11.2.2.1
  have s8 := St.set' s7 (tl.length + 3) o3
  have d5'' : (m7.set (tl.length + 3 + 2) o3)[tl.length + 1 + 2]? = some (.dT (solT ns ch (sol w (lotsL ns ch)))) := by
    rw [List.getElem?_set_ne (by omega)]
    exact d5'
  obtain ⟨o4, e18⟩ := s293 g d5'' a11.2.2.2.2.1 a11.2.2.1
  have s9 := St.set' s8 (tl.length + 1) o4
  have e19 := s294 (m := (m7.set (tl.length + 3 + 2) o3).set (tl.length + 1 + 2) o4) g a11.2.1 a11.2.2.1 a11.2.2.2.1
  refine ⟨ρ11, _, _, ?_, l11, a11.1, s9.mono (by omega)⟩
  unfold turnB
  simp only [x_sSeq, kSeq_nx, e1, e2, e3, e4, e5, e6, e7, e8, e9, e10, e11, e12, e13, e14, e15, e16, e17, e18, e19]
theorem start_ok (cs : List Int) : Cm.F__law_start [.slst (cs.map .int)] [] = .ok (.mref 1) (strm cs 0 0 11 []) := by
  unfold Cm.F__law_start
  rw [x_runF, show startD 1 [D.slst (cs.map .int)] = [some (.slst (cs.map .int))] from rfl]
  unfold Cm.b__law_start
  have z : (4 : Nat) ≤ sizeLine := by decide
  have c : DL.cut [] [MO.lst (cs.map .int), .lst [.mref 0, .int 0, .int 0, .int 11]] [.mref 1] = [MO.lst (cs.map .int), .lst [.mref 0, .int 0, .int 0, .int 11]] := by
    unfold DL.cut
    rw [if_neg (by simp), if_neg]
    rintro ⟨h, _⟩
    have := h _ (List.mem_singleton.mpr rfl)
    cases this with
    | mref h => simp at h
  simp [hListM, seqV, lstV, z, c]
theorem law_ok (cs : List Int) : ∃ m, F_law [.slst (cs.map .int)] [] = .ok (.bl true) m := by
  have hs0 : DM.St 0 [] (strm cs 0 0 11 []) := ⟨cs, 0, 0, 11, rfl, by omega, by omega, by omega, by omega, by omega⟩
  obtain ⟨ρ', m', e, hI⟩ := for_st (fg := gN 2) (fb := turnB) (I := fun i ρ m => ∃ tl, ρ.length = 18 ∧ Has ρ 1 (.mref 1) ∧ DM.St (400 * i) tl m)
    (rgD 0 4) 0 [some (.slst (cs.map .int)), some (.mref 1), none, none, none, none, none, none, none, none, none, none, none, none, none, none, none, none] _ ⟨_, rfl, rfl, hs0⟩ (fun i x hx ρ m hI => by
      obtain ⟨tl, hl, h1, hs⟩ := hI
      have hi := (rgD_get hx).2
      obtain ⟨ρ', m', tl', e, l', h1', hs'⟩ := turn_ok (ρ := ρ.set 2 (some x)) (by simp [hl]) (by simp [-getElem?_pos, Has, List.getElem?_set, h1]) hs (by omega)
      exact ⟨_, m, ρ', m', rfl, e, tl', l', h1', hs'.mono (by omega)⟩)
  refine ⟨DL.cut [] m' [.bl true], ?_⟩
  · unfold F_law
    rw [x_runF, show startD 18 [D.slst (cs.map .int)] = [some (.slst (cs.map .int)), none, none, none, none, none, none, none, none, none, none, none, none, none, none, none, none, none] from rfl]
    unfold b_law p_law_269 p_law_296
    have q_start : F__law_start = Cm.F__law_start := rfl
    have z := rg1_small (b := 4) (by omega) (strm cs 0 0 11 [])
    rw [q_start, p270]
    simp only [x_sSeq, x_sSet, x_eCall, x_aCons, x_eVar, List.getElem?_cons_zero, varR_ok, kC1_ok, x_aNil, kC2_ok, kCall_ok, List.append_nil, List.length_cons, List.length_nil, if_true, start_ok, kSet_ok, kSeq_nx, List.set_cons_succ, List.set_cons_zero, x_sFor, x_iRg1, x_eC]
    rw [show (4 : Int) = ((4 : Nat) : Int) from rfl, z, kFor_ok, e, kSeq_nx, x_sRt, x_eC, kRt_ok, kRun_rt]
end K08
end
section
set_option maxRecDepth 100000
set_option maxHeartbeats 4000000
namespace K08
open PySem L2 DL
def top (i : Nat) : Stmt := PySem.Challenge.pw_blockshares_k08_whole_sums_of_freed.main.body.getD i (.Pass ⟨0, 0, 0, 0⟩)
abbrev s__law_start : Stmt := top 30
abbrev s__law_draw : Stmt := top 31
abbrev s__law_pick : Stmt := top 32
abbrev s__law_name : Stmt := top 35
abbrev s__law_names : Stmt := top 36
abbrev s__law_b_rows : Stmt := top 37
abbrev s__law_b_lots : Stmt := top 38
abbrev s_is_list : Stmt := top 12
abbrev s_is_name : Stmt := top 11
abbrev s_Folders___init__ : Stmt := inClass (top 18) 0
abbrev s__law_mixed : Stmt := top 33
abbrev s__law_q_counted : Stmt := top 39
abbrev s_Folders___contains__ : Stmt := inClass (top 18) 2
abbrev s_Folders_chosen : Stmt := inClass (top 18) 5
abbrev s_chosen_places : Stmt := top 17
abbrev s_Folders_lots : Stmt := inClass (top 18) 4
abbrev s_Folders_lot_of : Stmt := inClass (top 18) 6
abbrev s_is_whole : Stmt := top 13
abbrev s_row_of : Stmt := top 21
abbrev s_Question___init__ : Stmt := inClass (top 20) 0
abbrev s_counted : Stmt := top 22
abbrev s_refers : Stmt := top 23
abbrev s_freed : Stmt := top 24
abbrev s_shared : Stmt := top 25
abbrev s_just : Stmt := top 26
abbrev s_sent : Stmt := top 27
abbrev s_whole : Stmt := top 28
abbrev s__law_q_made : Stmt := top 40
abbrev s__law_q_named : Stmt := top 41
abbrev s_Folders___eq__ : Stmt := inClass (top 18) 3
abbrev s_Question_check : Stmt := inClass (top 20) 8
abbrev s_Question___add__ : Stmt := inClass (top 20) 3
abbrev s_Question___sub__ : Stmt := inClass (top 20) 4
abbrev s__law_q_drawn : Stmt := top 42
abbrev s_Question_in_freed : Stmt := inClass (top 20) 11
abbrev s_Question___mul__ : Stmt := inClass (top 20) 6
abbrev s_Question___rmul__ : Stmt := inClass (top 20) 7
abbrev s__law_summed : Stmt := top 43
abbrev s_Question___eq__ : Stmt := inClass (top 20) 1
abbrev s__law_same : Stmt := top 34
abbrev s_law : Stmt := top 44
structure Tx (K : PySem.W.Frag) (mg : Str → Option Value) : Prop where
  f_all : mg "all" = none
  f_any : mg "any" = none
  f_bool : mg "bool" = none
  f_dict : mg "dict" = none
  f_enumerate : mg "enumerate" = none
  f_int : mg "int" = none
  f_isinstance : mg "isinstance" = none
  f_len : mg "len" = none
  f_list : mg "list" = none
  f_range : mg "range" = none
  f_str : mg "str" = none
  f_sum : mg "sum" = none
  f_tuple : mg "tuple" = none
  f_zip : mg "zip" = none
  c_LETTERS : ∃ t, mg "LETTERS" = some (.str "abcdefghijklmnopqrstuvwxyz" t)
  c_LONGEST : ∃ t, mg "LONGEST" = some (.int 8 t)
  c_MOST : ∃ t, mg "MOST" = some (.int 5 t)
  c_MOST_IN_CHAIN : ∃ t, mg "MOST_IN_CHAIN" = some (.int 12 t)
  kit : KitOk K own
  g_Folders : mg "Folders" = some (.ref (He.ga K "Folders"))
  g_Question : mg "Question" = some (.ref (He.ga K "Question"))
  at_chain : ∀ c ∈ (["Folders"] : List Str), Cls K (He.ga K c) ∧ NoAttr K (He.ga K c) "chain"
  at_folders : ∀ c ∈ (["Question"] : List Str), Cls K (He.ga K c) ∧ NoAttr K (He.ga K c) "folders"
  at_names : ∀ c ∈ (["Folders"] : List Str), Cls K (He.ga K c) ∧ NoAttr K (He.ga K c) "names"
  at_row : ∀ c ∈ (["Question"] : List Str), Cls K (He.ga K c) ∧ NoAttr K (He.ga K c) "row"
  ne_Folders : NeOk K "Folders"
  ne_Question : NeOk K "Question"
  bin_Question_add : BinOk K "Question" "add"
  bin_Question_mul : BinOk K "Question" "mul"
  bin_Question_sub : BinOk K "Question" "sub"
  d__law_start : mg "_law_start" = some (.ref (He.fAd K ("_law_start", none))) ∧ ∃ fd, FunD K "_law_start" "_law_start" (defArgs s__law_start) (defBody s__law_start) (defScope s__law_start) [] [] (He.fAd K ("_law_start", none)) fd
  d__law_draw : mg "_law_draw" = some (.ref (He.fAd K ("_law_draw", none))) ∧ ∃ fd, FunD K "_law_draw" "_law_draw" (defArgs s__law_draw) (defBody s__law_draw) (defScope s__law_draw) [] [] (He.fAd K ("_law_draw", none)) fd
  d__law_pick : mg "_law_pick" = some (.ref (He.fAd K ("_law_pick", none))) ∧ ∃ fd, FunD K "_law_pick" "_law_pick" (defArgs s__law_pick) (defBody s__law_pick) (defScope s__law_pick) [] [] (He.fAd K ("_law_pick", none)) fd
  d__law_name : mg "_law_name" = some (.ref (He.fAd K ("_law_name", none))) ∧ ∃ fd, FunD K "_law_name" "_law_name" (defArgs s__law_name) (defBody s__law_name) (defScope s__law_name) [] [] (He.fAd K ("_law_name", none)) fd
  d__law_names : mg "_law_names" = some (.ref (He.fAd K ("_law_names", none))) ∧ ∃ fd, FunD K "_law_names" "_law_names" (defArgs s__law_names) (defBody s__law_names) (defScope s__law_names) [] [] (He.fAd K ("_law_names", none)) fd
  d__law_b_rows : mg "_law_b_rows" = some (.ref (He.fAd K ("_law_b_rows", none))) ∧ ∃ fd, FunD K "_law_b_rows" "_law_b_rows" (defArgs s__law_b_rows) (defBody s__law_b_rows) (defScope s__law_b_rows) [] [] (He.fAd K ("_law_b_rows", none)) fd
  d__law_b_lots : mg "_law_b_lots" = some (.ref (He.fAd K ("_law_b_lots", none))) ∧ ∃ fd, FunD K "_law_b_lots" "_law_b_lots" (defArgs s__law_b_lots) (defBody s__law_b_lots) (defScope s__law_b_lots) [] [] (He.fAd K ("_law_b_lots", none)) fd
  d_is_list : mg "is_list" = some (.ref (He.fAd K ("is_list", none))) ∧ ∃ fd, FunD K "is_list" "is_list" (defArgs s_is_list) (defBody s_is_list) (defScope s_is_list) [] [] (He.fAd K ("is_list", none)) fd
  d_is_name : mg "is_name" = some (.ref (He.fAd K ("is_name", none))) ∧ ∃ fd, FunD K "is_name" "is_name" (defArgs s_is_name) (defBody s_is_name) (defScope s_is_name) [] [] (He.fAd K ("is_name", none)) fd
  d_Folders___init__ : mg "Folders" = some (.ref (He.ga K "Folders")) ∧ Mk K (He.ga K "Folders") (He.fAd K ("Folders", some "__init__")) ∧ ∃ fd, FunD K "__init__" "Folders.__init__" (defArgs s_Folders___init__) (defBody s_Folders___init__) (defScope s_Folders___init__) [] [("chain", .bl false)] (He.fAd K ("Folders", some "__init__")) fd
  d__law_mixed : mg "_law_mixed" = some (.ref (He.fAd K ("_law_mixed", none))) ∧ ∃ fd, FunD K "_law_mixed" "_law_mixed" (defArgs s__law_mixed) (defBody s__law_mixed) (defScope s__law_mixed) [] [] (He.fAd K ("_law_mixed", none)) fd
  d__law_q_counted : mg "_law_q_counted" = some (.ref (He.fAd K ("_law_q_counted", none))) ∧ ∃ fd, FunD K "_law_q_counted" "_law_q_counted" (defArgs s__law_q_counted) (defBody s__law_q_counted) (defScope s__law_q_counted) [] [] (He.fAd K ("_law_q_counted", none)) fd
  d_Folders___contains__ : Cls K (He.ga K "Folders") ∧ Meth K (He.ga K "Folders") "__contains__" (He.fAd K ("Folders", some "__contains__")) ∧ ∃ fd, FunD K "__contains__" "Folders.__contains__" (defArgs s_Folders___contains__) (defBody s_Folders___contains__) (defScope s_Folders___contains__) [] [] (He.fAd K ("Folders", some "__contains__")) fd
  d_Folders_chosen : Cls K (He.ga K "Folders") ∧ Meth K (He.ga K "Folders") "chosen" (He.fAd K ("Folders", some "chosen")) ∧ ∃ fd, FunD K "chosen" "Folders.chosen" (defArgs s_Folders_chosen) (defBody s_Folders_chosen) (defScope s_Folders_chosen) [] [] (He.fAd K ("Folders", some "chosen")) fd
  d_chosen_places : mg "chosen_places" = some (.ref (He.fAd K ("chosen_places", none))) ∧ ∃ fd, FunD K "chosen_places" "chosen_places" (defArgs s_chosen_places) (defBody s_chosen_places) (defScope s_chosen_places) [] [] (He.fAd K ("chosen_places", none)) fd
  d_Folders_lots : Cls K (He.ga K "Folders") ∧ Meth K (He.ga K "Folders") "lots" (He.fAd K ("Folders", some "lots")) ∧ ∃ fd, FunD K "lots" "Folders.lots" (defArgs s_Folders_lots) (defBody s_Folders_lots) (defScope s_Folders_lots) [] [] (He.fAd K ("Folders", some "lots")) fd
  d_Folders_lot_of : Cls K (He.ga K "Folders") ∧ Meth K (He.ga K "Folders") "lot_of" (He.fAd K ("Folders", some "lot_of")) ∧ ∃ fd, FunD K "lot_of" "Folders.lot_of" (defArgs s_Folders_lot_of) (defBody s_Folders_lot_of) (defScope s_Folders_lot_of) [] [] (He.fAd K ("Folders", some "lot_of")) fd
  d_is_whole : mg "is_whole" = some (.ref (He.fAd K ("is_whole", none))) ∧ ∃ fd, FunD K "is_whole" "is_whole" (defArgs s_is_whole) (defBody s_is_whole) (defScope s_is_whole) [] [] (He.fAd K ("is_whole", none)) fd
  d_row_of : mg "row_of" = some (.ref (He.fAd K ("row_of", none))) ∧ ∃ fd, FunD K "row_of" "row_of" (defArgs s_row_of) (defBody s_row_of) (defScope s_row_of) [] [] (He.fAd K ("row_of", none)) fd
  d_Question___init__ : mg "Question" = some (.ref (He.ga K "Question")) ∧ Mk K (He.ga K "Question") (He.fAd K ("Question", some "__init__")) ∧ ∃ fd, FunD K "__init__" "Question.__init__" (defArgs s_Question___init__) (defBody s_Question___init__) (defScope s_Question___init__) [.non] [] (He.fAd K ("Question", some "__init__")) fd
  d_counted : mg "counted" = some (.ref (He.fAd K ("counted", none))) ∧ ∃ fd, FunD K "counted" "counted" (defArgs s_counted) (defBody s_counted) (defScope s_counted) [] [] (He.fAd K ("counted", none)) fd
  d_refers : mg "refers" = some (.ref (He.fAd K ("refers", none))) ∧ ∃ fd, FunD K "refers" "refers" (defArgs s_refers) (defBody s_refers) (defScope s_refers) [] [] (He.fAd K ("refers", none)) fd
  d_freed : mg "freed" = some (.ref (He.fAd K ("freed", none))) ∧ ∃ fd, FunD K "freed" "freed" (defArgs s_freed) (defBody s_freed) (defScope s_freed) [] [] (He.fAd K ("freed", none)) fd
  d_shared : mg "shared" = some (.ref (He.fAd K ("shared", none))) ∧ ∃ fd, FunD K "shared" "shared" (defArgs s_shared) (defBody s_shared) (defScope s_shared) [] [] (He.fAd K ("shared", none)) fd
  d_just : mg "just" = some (.ref (He.fAd K ("just", none))) ∧ ∃ fd, FunD K "just" "just" (defArgs s_just) (defBody s_just) (defScope s_just) [] [] (He.fAd K ("just", none)) fd
  d_sent : mg "sent" = some (.ref (He.fAd K ("sent", none))) ∧ ∃ fd, FunD K "sent" "sent" (defArgs s_sent) (defBody s_sent) (defScope s_sent) [] [] (He.fAd K ("sent", none)) fd
  d_whole : mg "whole" = some (.ref (He.fAd K ("whole", none))) ∧ ∃ fd, FunD K "whole" "whole" (defArgs s_whole) (defBody s_whole) (defScope s_whole) [] [] (He.fAd K ("whole", none)) fd
  d__law_q_made : mg "_law_q_made" = some (.ref (He.fAd K ("_law_q_made", none))) ∧ ∃ fd, FunD K "_law_q_made" "_law_q_made" (defArgs s__law_q_made) (defBody s__law_q_made) (defScope s__law_q_made) [] [] (He.fAd K ("_law_q_made", none)) fd
  d__law_q_named : mg "_law_q_named" = some (.ref (He.fAd K ("_law_q_named", none))) ∧ ∃ fd, FunD K "_law_q_named" "_law_q_named" (defArgs s__law_q_named) (defBody s__law_q_named) (defScope s__law_q_named) [] [] (He.fAd K ("_law_q_named", none)) fd
  d_Folders___eq__ : Cls K (He.ga K "Folders") ∧ Meth K (He.ga K "Folders") "__eq__" (He.fAd K ("Folders", some "__eq__")) ∧ ∃ fd, FunD K "__eq__" "Folders.__eq__" (defArgs s_Folders___eq__) (defBody s_Folders___eq__) (defScope s_Folders___eq__) [] [] (He.fAd K ("Folders", some "__eq__")) fd
  d_Question_check : Cls K (He.ga K "Question") ∧ Meth K (He.ga K "Question") "check" (He.fAd K ("Question", some "check")) ∧ ∃ fd, FunD K "check" "Question.check" (defArgs s_Question_check) (defBody s_Question_check) (defScope s_Question_check) [] [] (He.fAd K ("Question", some "check")) fd
  d_Question___add__ : Cls K (He.ga K "Question") ∧ Meth K (He.ga K "Question") "__add__" (He.fAd K ("Question", some "__add__")) ∧ ∃ fd, FunD K "__add__" "Question.__add__" (defArgs s_Question___add__) (defBody s_Question___add__) (defScope s_Question___add__) [] [] (He.fAd K ("Question", some "__add__")) fd
  d_Question___sub__ : Cls K (He.ga K "Question") ∧ Meth K (He.ga K "Question") "__sub__" (He.fAd K ("Question", some "__sub__")) ∧ ∃ fd, FunD K "__sub__" "Question.__sub__" (defArgs s_Question___sub__) (defBody s_Question___sub__) (defScope s_Question___sub__) [] [] (He.fAd K ("Question", some "__sub__")) fd
  d__law_q_drawn : mg "_law_q_drawn" = some (.ref (He.fAd K ("_law_q_drawn", none))) ∧ ∃ fd, FunD K "_law_q_drawn" "_law_q_drawn" (defArgs s__law_q_drawn) (defBody s__law_q_drawn) (defScope s__law_q_drawn) [] [] (He.fAd K ("_law_q_drawn", none)) fd
  d_Question_in_freed : Cls K (He.ga K "Question") ∧ Meth K (He.ga K "Question") "in_freed" (He.fAd K ("Question", some "in_freed")) ∧ ∃ fd, FunD K "in_freed" "Question.in_freed" (defArgs s_Question_in_freed) (defBody s_Question_in_freed) (defScope s_Question_in_freed) [] [] (He.fAd K ("Question", some "in_freed")) fd
  d_Question___mul__ : Cls K (He.ga K "Question") ∧ Meth K (He.ga K "Question") "__mul__" (He.fAd K ("Question", some "__mul__")) ∧ ∃ fd, FunD K "__mul__" "Question.__mul__" (defArgs s_Question___mul__) (defBody s_Question___mul__) (defScope s_Question___mul__) [] [] (He.fAd K ("Question", some "__mul__")) fd
  d_Question___rmul__ : Cls K (He.ga K "Question") ∧ Meth K (He.ga K "Question") "__rmul__" (He.fAd K ("Question", some "__rmul__")) ∧ ∃ fd, FunD K "__rmul__" "Question.__rmul__" (defArgs s_Question___rmul__) (defBody s_Question___rmul__) (defScope s_Question___rmul__) [] [] (He.fAd K ("Question", some "__rmul__")) fd
  d__law_summed : mg "_law_summed" = some (.ref (He.fAd K ("_law_summed", none))) ∧ ∃ fd, FunD K "_law_summed" "_law_summed" (defArgs s__law_summed) (defBody s__law_summed) (defScope s__law_summed) [] [] (He.fAd K ("_law_summed", none)) fd
  d_Question___eq__ : Cls K (He.ga K "Question") ∧ Meth K (He.ga K "Question") "__eq__" (He.fAd K ("Question", some "__eq__")) ∧ ∃ fd, FunD K "__eq__" "Question.__eq__" (defArgs s_Question___eq__) (defBody s_Question___eq__) (defScope s_Question___eq__) [] [] (He.fAd K ("Question", some "__eq__")) fd
  d__law_same : mg "_law_same" = some (.ref (He.fAd K ("_law_same", none))) ∧ ∃ fd, FunD K "_law_same" "_law_same" (defArgs s__law_same) (defBody s__law_same) (defScope s__law_same) [] [] (He.fAd K ("_law_same", none)) fd
  d_law : mg "law" = some (.ref (He.fAd K ("law", none))) ∧ ∃ fd, FunD K "law" "law" (defArgs s_law) (defBody s_law) (defScope s_law) [] [] (He.fAd K ("law", none)) fd
section
variable {P : Program} {w : World} {K : PySem.W.Frag} {mg : Str → Option Value} {base : Heap}
theorem sc__law_start : FnScope ["_law_script"] ["_law_script"] (defScope s__law_start) := ⟨rfl, rfl, rfl, by decide +kernel, rfl, by decide +kernel, by decide +kernel⟩
theorem fn__law_start (T : Tx K mg) {f : Addr} {fd : FuncData} {dvs : List V} {kws : List (Str × V)} (F : FunD K "_law_start" "_law_start" (defArgs s__law_start) (defBody s__law_start) (defScope s__law_start) dvs kws f fd) : FnD P w K mg base 1 f fd ["_law_script"] F__law_start :=
  fn_ok (k := 0) F sc__law_start (fun cdv A outer s H E hr => (pdss_one (pds_ret (pd_lstM (pda_cons (bf_listM T.f_list (pda_cons (pd_var 0) pda_nil)) (pda_cons pd_int (pda_cons pd_int (pda_cons pd_int pda_nil))))))))
theorem ok__law_start (T : Tx K mg) : Def1 P w K mg base 1 "_law_start" ["_law_script"] [] F__law_start := by
  obtain ⟨hm, fd, F⟩ := T.d__law_start
  exact ⟨⟨_, fd, [], [], hm, F.kp, fn__law_start T F, F.bindsN (fun _ _ _ _ _ _ us hl => match us, hl with | [_], _ => rfl), .nil, fun _ _ => .nil⟩⟩
theorem sc__law_draw : FnScope ["_law_stream", "_law_many", "_law_mixed_here", "_law_cell", "_law_digit"] ["_law_stream", "_law_many"] (defScope s__law_draw) := ⟨rfl, rfl, rfl, by decide +kernel, rfl, by decide +kernel, by decide +kernel⟩
theorem fn__law_draw (T : Tx K mg) {f : Addr} {fd : FuncData} {dvs : List V} {kws : List (Str × V)} (F : FunD K "_law_draw" "_law_draw" (defArgs s__law_draw) (defBody s__law_draw) (defScope s__law_draw) dvs kws f fd) : FnD P w K mg base 1 f fd ["_law_stream", "_law_many"] F__law_draw :=
  fn_ok (k := 0) F sc__law_draw (fun cdv A outer s H E hr => (pdss_cons (pds_asg (pd_add (pd_ix (pd_var 0) pd_int) pd_int) (pdg_ix (pd_var 0) pd_int))
      (pdss_cons (pds_if (PDW.pdt (pdw_and (ct_eq hr (pd_ix (pd_var 0) pd_int) pd_int) (pdw_and1 (ct_ne hr (pd_ix (pd_var 0) pd_int) (pd_lst pda_nil))))) (pdss_cons (pds_set 3 sc__law_draw.nd (pd_pop (pd_ix (pd_var 0) pd_int) pd_int))
      (pdss_cons (pds_asg (pd_mod (bf_int T.f_int (pda_cons (pd_add (pd_add (pd_mul (pd_ix (pd_var 0) pd_int) pd_int) (pd_var 3)) pd_int) pda_nil)) pd_int) (pdg_ix (pd_var 0) pd_int))
      (pdss_one (pds_asg (pd_if (ct_ge (pd_var 3) (pd_pow pd_int pd_int)) (pd_var 3) pd_int) (pdg_ix (pd_var 0) pd_int))))) pdss_nil)
      (pdss_cons (pds_if (ct_gt (pd_ix (pd_var 0) pd_int) pd_int) (pdss_cons (pds_set 4 sc__law_draw.nd (pd_mod (bf_int T.f_int (pda_cons (pd_ix (pd_var 0) pd_int) pda_nil)) (pd_var 1)))
      (pdss_cons (pds_asg (pd_fdiv (pd_ix (pd_var 0) pd_int) (pd_var 1)) (pdg_ix (pd_var 0) pd_int))
      (pdss_one (pds_ret (pd_var 4))))) pdss_nil)
      (pdss_cons (pds_set 2 sc__law_draw.nd (pd_mod (bf_int T.f_int (pda_cons (pd_pow (pd_add (pd_add (pd_ix (pd_var 0) pd_int) (pd_mul pd_int (pd_ix (pd_var 0) pd_int))) pd_int) pd_int) pda_nil)) pd_int))
      (pdss_one (pds_ret (pd_mod (pd_mod (bf_int T.f_int (pda_cons (pd_pow (pd_add (pd_add (pd_mul (pd_var 2) pd_int) (pd_mul pd_int (pd_ix (pd_var 0) pd_int))) pd_int) pd_int) pda_nil)) pd_int) (pd_var 1)))))))))
theorem ok__law_draw (T : Tx K mg) : Def1 P w K mg base 1 "_law_draw" ["_law_stream", "_law_many"] [] F__law_draw := by
  obtain ⟨hm, fd, F⟩ := T.d__law_draw
  exact ⟨⟨_, fd, [], [], hm, F.kp, fn__law_draw T F, F.bindsN (fun _ _ _ _ _ _ us hl => match us, hl with | [_, _], _ => rfl), .nil, fun _ _ => .nil⟩⟩
theorem sc__law_pick : FnScope ["_law_stream", "_law_some"] ["_law_stream", "_law_some"] (defScope s__law_pick) := ⟨rfl, rfl, rfl, by decide +kernel, rfl, by decide +kernel, by decide +kernel⟩
theorem fn__law_pick (T : Tx K mg) {f : Addr} {fd : FuncData} {dvs : List V} {kws : List (Str × V)} (F : FunD K "_law_pick" "_law_pick" (defArgs s__law_pick) (defBody s__law_pick) (defScope s__law_pick) dvs kws f fd) : FnD P w K mg base 2 f fd ["_law_stream", "_law_some"] F__law_pick :=
  fn_ok (k := 1) F sc__law_pick (fun cdv A outer s H E hr => (pdss_one (pds_ret (pd_ix (pd_var 1) (pc_defN (ok__law_draw T) (hr.mono (by first | decide | omega)) (takes_of rfl rfl rfl rfl) (pda_cons (pd_var 0) (pda_cons (bf_len T.f_len (pda_cons (pd_var 1) pda_nil)) pda_nil)))))))
theorem ok__law_pick (T : Tx K mg) : Def1 P w K mg base 2 "_law_pick" ["_law_stream", "_law_some"] [] F__law_pick := by
  obtain ⟨hm, fd, F⟩ := T.d__law_pick
  exact ⟨⟨_, fd, [], [], hm, F.kp, fn__law_pick T F, F.bindsN (fun _ _ _ _ _ _ us hl => match us, hl with | [_, _], _ => rfl), .nil, fun _ _ => .nil⟩⟩
theorem sc__law_name : FnScope ["_law_stream", "_law_width", "_law_k"] ["_law_stream"] (defScope s__law_name) := ⟨rfl, rfl, rfl, by decide +kernel, rfl, by decide +kernel, by decide +kernel⟩
theorem fn__law_name (T : Tx K mg) {f : Addr} {fd : FuncData} {dvs : List V} {kws : List (Str × V)} (F : FunD K "_law_name" "_law_name" (defArgs s__law_name) (defBody s__law_name) (defScope s__law_name) dvs kws f fd) : FnD P w K mg base 3 f fd ["_law_stream"] F__law_name :=
  fn_ok (k := 2) F sc__law_name (fun cdv A outer s H E hr => (pdss_cons (pds_set 1 sc__law_name.nd (pd_ix (pd_lst (pda_cons pd_int (pda_cons pd_int (pda_cons pd_int (pda_cons pd_int (pda_cons pd_int (pda_cons pd_int pda_nil))))))) (pc_defN (ok__law_draw T) (hr.mono (by first | decide | omega)) (takes_of rfl rfl rfl rfl) (pda_cons (pd_var 0) (pda_cons pd_int pda_nil)))))
      (pdss_one (pds_ret (pd_join pd_str (pd_lc false (own := [("_law_k", 2)]) rfl sc__law_name.nd (blkOk_by (by kernel_rfl)) (pdi_range1 rfl T.f_range (pd_var 1)) (fun _ _ _ _ _ => (pdg_name 2 sc__law_name.nd)) (by decide) (fun _ _ _ _ _ => pdts_nil) (fun _ _ _ _ _ => (pc_defN (ok__law_pick T) (hr.mono (by first | decide | omega)) takes0 (pda_cons (pd_var 0) (pda_cons pd_str pda_nil))))))))))
theorem ok__law_name (T : Tx K mg) : Def1 P w K mg base 3 "_law_name" ["_law_stream"] [] F__law_name := by
  obtain ⟨hm, fd, F⟩ := T.d__law_name
  exact ⟨⟨_, fd, [], [], hm, F.kp, fn__law_name T F, F.bindsN (fun _ _ _ _ _ _ us hl => match us, hl with | [_], _ => rfl), .nil, fun _ _ => .nil⟩⟩
theorem sc__law_names : FnScope ["_law_stream", "_law_many", "_law_found", "_law_k", "_law_spare", "_law_letter", "_law_x"] ["_law_stream", "_law_many"] (defScope s__law_names) := ⟨rfl, rfl, rfl, by decide +kernel, rfl, by decide +kernel, by decide +kernel⟩
theorem fn__law_names (T : Tx K mg) {f : Addr} {fd : FuncData} {dvs : List V} {kws : List (Str × V)} (F : FunD K "_law_names" "_law_names" (defArgs s__law_names) (defBody s__law_names) (defScope s__law_names) dvs kws f fd) : FnD P w K mg base 4 f fd ["_law_stream", "_law_many"] F__law_names :=
  fn_ok (k := 3) F sc__law_names (fun cdv A outer s H E hr => (pdss_cons (pds_set 2 sc__law_names.nd (pd_lstM pda_nil))
      (pdss_cons (pds_for (passes_of rfl) rfl (pdi_range1 rfl T.f_range (pd_var 1)) (pdg_name 3 sc__law_names.nd) (pdss_cons (pds_set 4 sc__law_names.nd (pd_add (pd_lst (pda_cons (pc_defN (ok__law_name T) (hr.mono (by first | decide | omega)) (takes_of rfl rfl rfl rfl) (pda_cons (pd_var 0) pda_nil)) pda_nil)) (pd_lc false (own := [("_law_letter", 5)]) rfl sc__law_names.nd (blkOk_by (by kernel_rfl)) (pdi_seq pd_str) (fun _ _ _ _ _ => (pdg_name 5 sc__law_names.nd)) (by decide) (fun _ _ _ _ _ => pdts_nil) (fun _ _ _ _ _ => (pd_add (pd_var 5) pd_str)))))
      (pdss_one (pds_expr (pd_append (pd_var 2) (pd_ix (pd_lc false (own := [("_law_x", 6)]) rfl sc__law_names.nd (blkOk_by (by kernel_rfl)) (pdi_seq (pd_var 4)) (fun _ _ _ _ _ => (pdg_name 6 sc__law_names.nd)) (by decide) (fun _ _ _ _ _ => (pdts_one (ct_nin (pd_var 6) (pd_var 2)))) (fun _ _ _ _ _ => (pd_var 6))) pd_int))))))
      (pdss_one (pds_ret (pd_frz (pd_var 2)))))))
theorem ok__law_names (T : Tx K mg) : Def1 P w K mg base 4 "_law_names" ["_law_stream", "_law_many"] [] F__law_names := by
  obtain ⟨hm, fd, F⟩ := T.d__law_names
  exact ⟨⟨_, fd, [], [], hm, F.kp, fn__law_names T F, F.bindsN (fun _ _ _ _ _ _ us hl => match us, hl with | [_, _], _ => rfl), .nil, fun _ _ => .nil⟩⟩
theorem sc__law_b_rows : FnScope ["_law_many", "_law_left", "_law_found", "_law_head", "_law_at"] ["_law_many", "_law_left"] (defScope s__law_b_rows) := ⟨rfl, rfl, rfl, by decide +kernel, rfl, by decide +kernel, by decide +kernel⟩
theorem fn__law_b_rows (T : Tx K mg) (n : Nat) {f : Addr} {fd : FuncData} {dvs : List V} {kws : List (Str × V)} {self_ : HL} (ih : ∀ {P : Program} {w : World} {base : Heap}, Def1 P w K mg base (0 + n) "_law_b_rows" ["_law_many", "_law_left"] [] self_) (F : FunD K "_law_b_rows" "_law_b_rows" (defArgs s__law_b_rows) (defBody s__law_b_rows) (defScope s__law_b_rows) dvs kws f fd) : FnD P w K mg base (0 + n + 1) f fd ["_law_many", "_law_left"] (runF 5 (b__law_b_rows self_)) :=
  fn_ok (k := 0 + n) F sc__law_b_rows (fun cdv A outer s H E hr => (pdss_cons (pds_set 2 sc__law_b_rows.nd (pd_lstM pda_nil))
      (pdss_cons (pds_for (passes_of rfl) rfl (pdi_seq (pd_if (ct_gt (pd_var 0) pd_int) (pc_defN ih (hr.mono (by first | decide | omega)) (takes_of rfl rfl rfl rfl) (pda_cons (pd_sub (pd_var 0) pd_int) (pda_cons (pd_var 1) pda_nil))) (pd_lst pda_nil))) (pdg_name 3 sc__law_b_rows.nd) (pdss_one (pds_expr (pd_extend (pd_var 2) (pd_lc false (own := [("_law_at", 4)]) rfl sc__law_b_rows.nd (blkOk_by (by kernel_rfl)) (pdi_range2 rfl T.f_range (pd_if (ct_ne hr (pd_var 3) (pd_tup pda_nil)) (pd_add (pd_ix (pd_var 3) (pd_neg pd_int)) pd_int) pd_int) (pd_var 1)) (fun _ _ _ _ _ => (pdg_name 4 sc__law_b_rows.nd)) (by decide) (fun _ _ _ _ _ => pdts_nil) (fun _ _ _ _ _ => (pd_add (pd_var 3) (pd_tup (pda_cons (pd_var 4) pda_nil)))))))))
      (pdss_one (pds_ret (pd_frz (pd_if (ct_gt (pd_var 0) pd_int) (pd_var 2) (pd_lst (pda_cons (pd_tup pda_nil) pda_nil)))))))))
theorem ok__law_b_rows (T : Tx K mg) : ∀ (n : Nat) {P : Program} {w : World} {base : Heap}, Def1 P w K mg base (0 + n) "_law_b_rows" ["_law_many", "_law_left"] [] (F__law_b_rows n)
  | 0, P, w, base => by
    obtain ⟨hm, fd, F⟩ := T.d__law_b_rows
    exact ⟨⟨_, fd, [], [], hm, F.kp, fn_bad, F.bindsN (fun _ _ _ _ _ _ us hl => match us, hl with | [_, _], _ => rfl), .nil, fun _ _ => .nil⟩⟩
  | n + 1, P, w, base => by
    obtain ⟨hm, fd, F⟩ := T.d__law_b_rows
    have z : FnD P w K mg base (0 + n + 1) _ fd _ _ := fn__law_b_rows T n (ok__law_b_rows T n) F
    exact ⟨⟨_, fd, [], [], hm, F.kp, z, F.bindsN (fun _ _ _ _ _ _ us hl => match us, hl with | [_, _], _ => rfl), .nil, fun _ _ => .nil⟩⟩
theorem sc__law_b_lots : FnScope ["_law_names_here", "_law_is_chain", "_law_found", "_law_many", "_law_at", "_law_row"] ["_law_names_here", "_law_is_chain"] (defScope s__law_b_lots) := ⟨rfl, rfl, rfl, by decide +kernel, rfl, by decide +kernel, by decide +kernel⟩
theorem fn__law_b_lots (T : Tx K mg) {f : Addr} {fd : FuncData} {dvs : List V} {kws : List (Str × V)} (F : FunD K "_law_b_lots" "_law_b_lots" (defArgs s__law_b_lots) (defBody s__law_b_lots) (defScope s__law_b_lots) dvs kws f fd) : FnD P w K mg base 7 f fd ["_law_names_here", "_law_is_chain"] F__law_b_lots :=
  fn_ok (k := 6) F sc__law_b_lots (fun cdv A outer s H E hr => (pdss_cons (pds_set 2 sc__law_b_lots.nd (pd_lstM pda_nil))
      (pdss_cons (pds_for (passes_of rfl) rfl (pdi_range2 rfl T.f_range pd_int (pd_add (bf_len T.f_len (pda_cons (pd_var 0) pda_nil)) pd_int)) (pdg_name 3 sc__law_b_lots.nd) (pdss_one (pds_if (pdt_val (pd_var 1)) (pdss_one (pds_expr (pd_extend (pd_var 2) (pd_lc false (own := [("_law_at", 4)]) rfl sc__law_b_lots.nd (blkOk_by (by kernel_rfl)) (pdi_range1 rfl T.f_range (pd_add (pd_sub (bf_len T.f_len (pda_cons (pd_var 0) pda_nil)) (pd_var 3)) pd_int)) (fun _ _ _ _ _ => (pdg_name 4 sc__law_b_lots.nd)) (by decide) (fun _ _ _ _ _ => pdts_nil) (fun _ _ _ _ _ => (bf_tuple T.f_tuple (pda_cons (pd_slice false (pd_var 0) (pdo_so (pd_var 4)) (pdo_so (pd_add (pd_var 4) (pd_var 3)))) pda_nil))))))) (pdss_one (pds_expr (pd_extend (pd_var 2) (pd_lc false (own := [("_law_row", 5)]) rfl sc__law_b_lots.nd (blkOk_by (by kernel_rfl)) (pdi_seq (pc_defN (ok__law_b_rows T 6) (hr.mono (by first | decide | omega)) (takes_of rfl rfl rfl rfl) (pda_cons (pd_var 3) (pda_cons (bf_len T.f_len (pda_cons (pd_var 0) pda_nil)) pda_nil)))) (fun _ _ _ _ _ => (pdg_name 5 sc__law_b_lots.nd)) (by decide) (fun _ _ _ _ _ => pdts_nil) (fun _ _ _ _ _ => (bf_tuple T.f_tuple (pda_cons (pd_lc false (own := [("_law_at", 4)]) rfl sc__law_b_lots.nd (blkOk_by (by kernel_rfl)) (pdi_seq (pd_var 5)) (fun _ _ _ _ _ => (pdg_name 4 sc__law_b_lots.nd)) (by decide) (fun _ _ _ _ _ => pdts_nil) (fun _ _ _ _ _ => (pd_ix (pd_var 0) (pd_var 4)))) pda_nil))))))))))
      (pdss_one (pds_ret (pd_frz (pd_var 2)))))))
theorem ok__law_b_lots (T : Tx K mg) : Def1 P w K mg base 7 "_law_b_lots" ["_law_names_here", "_law_is_chain"] [] F__law_b_lots := by
  obtain ⟨hm, fd, F⟩ := T.d__law_b_lots
  exact ⟨⟨_, fd, [], [], hm, F.kp, fn__law_b_lots T F, F.bindsN (fun _ _ _ _ _ _ us hl => match us, hl with | [_, _], _ => rfl), .nil, fun _ _ => .nil⟩⟩
theorem sc_is_list : FnScope ["thing"] ["thing"] (defScope s_is_list) := ⟨rfl, rfl, rfl, by decide +kernel, rfl, by decide +kernel, by decide +kernel⟩
theorem fn_is_list (T : Tx K mg) {f : Addr} {fd : FuncData} {dvs : List V} {kws : List (Str × V)} (F : FunD K "is_list" "is_list" (defArgs s_is_list) (defBody s_is_list) (defScope s_is_list) dvs kws f fd) : FnD P w K mg base 1 f fd ["thing"] F_is_list :=
  fn_ok (k := 0) F sc_is_list (fun cdv A outer s H E hr => (pdss_one (pds_ret (bf_isi T.kit T.f_isinstance (pda_cons (pd_var 0) (pda_cons (pd_tup (pda_cons (pd_bltn rfl T.f_list (by decide +kernel)) (pda_cons (pd_bltn rfl T.f_tuple (by decide +kernel)) pda_nil))) pda_nil))))))
theorem ok_is_list (T : Tx K mg) : Def1 P w K mg base 1 "is_list" ["thing"] [] F_is_list := by
  obtain ⟨hm, fd, F⟩ := T.d_is_list
  exact ⟨⟨_, fd, [], [], hm, F.kp, fn_is_list T F, F.bindsN (fun _ _ _ _ _ _ us hl => match us, hl with | [_], _ => rfl), .nil, fun _ _ => .nil⟩⟩
theorem sc_is_name : FnScope ["thing", "sign"] ["thing"] (defScope s_is_name) := ⟨rfl, rfl, rfl, by decide +kernel, rfl, by decide +kernel, by decide +kernel⟩
theorem fn_is_name (T : Tx K mg) {f : Addr} {fd : FuncData} {dvs : List V} {kws : List (Str × V)} (F : FunD K "is_name" "is_name" (defArgs s_is_name) (defBody s_is_name) (defScope s_is_name) dvs kws f fd) : FnD P w K mg base 1 f fd ["thing"] F_is_name :=
  fn_ok (k := 0) F sc_is_name (fun cdv A outer s H E hr => (pdss_one (pds_ret (pd_and (bf_isi T.kit T.f_isinstance (pda_cons (pd_var 0) (pda_cons (pd_bltn rfl T.f_str (by decide +kernel)) pda_nil))) (pd_and (pd_ch op_le op_le (sd_cmp _ _) (sd_cmp _ _) pd_int (bf_len T.f_len (pda_cons (pd_var 0) pda_nil)) (pg_i T.c_LONGEST)) (pd_one (bf_all rfl T.f_all (pda_cons (pd_lc false (own := [("sign", 1)]) rfl sc_is_name.nd (blkOk_by (by kernel_rfl)) (pdi_seq (pd_var 0)) (fun _ _ _ _ _ => (pdg_name 1 sc_is_name.nd)) (by decide) (fun _ _ _ _ _ => pdts_nil) (fun _ _ _ _ _ => (cm_in (pd_var 1) (pg_s T.c_LETTERS)))) pda_nil))))))))
theorem ok_is_name (T : Tx K mg) : Def1 P w K mg base 1 "is_name" ["thing"] [] F_is_name := by
  obtain ⟨hm, fd, F⟩ := T.d_is_name
  exact ⟨⟨_, fd, [], [], hm, F.kp, fn_is_name T F, F.bindsN (fun _ _ _ _ _ _ us hl => match us, hl with | [_], _ => rfl), .nil, fun _ _ => .nil⟩⟩
theorem sc_Folders___init__ : FnScope ["self", "names", "chain", "kept", "index", "name"] ["self", "names", "chain"] (defScope s_Folders___init__) := ⟨rfl, rfl, rfl, by decide +kernel, rfl, by decide +kernel, by decide +kernel⟩
theorem fn_Folders___init__ (T : Tx K mg) {f : Addr} {fd : FuncData} {dvs : List V} {kws : List (Str × V)} (F : FunD K "__init__" "Folders.__init__" (defArgs s_Folders___init__) (defBody s_Folders___init__) (defScope s_Folders___init__) dvs kws f fd) : FnD P w K mg base 2 f fd ["self", "names", "chain"] F_Folders___init__ :=
  fn_ok (k := 1) F sc_Folders___init__ (fun cdv A outer s H E hr => (pdss_cons (pds_if (PDW.pdt (pdw_or (pdt_not (pdt_val (pc_defN (ok_is_list T) (hr.mono (by first | decide | omega)) (takes_of rfl rfl rfl rfl) (pda_cons (pd_var 1) pda_nil)))) (pdw_or1 (ct_eq hr (bf_len T.f_len (pda_cons (pd_var 1) pda_nil)) pd_int)))) (pdss_one pds_never) pdss_nil)
      (pdss_cons (pds_set 3 sc_Folders___init__.nd (pd_lstM pda_nil))
      (pdss_cons (pds_lkO 1 (pds_for (passes_of rfl) rfl (pdi_enumA rfl T.f_enumerate (pd_var 1)) (pdg_tup rfl (pdgs_cons (pdg_name 4 sc_Folders___init__.nd) (pdgs_cons (pdg_name 5 sc_Folders___init__.nd) pdgs_nil nox_nil) (nox_cons (nox_gN 5) nox_nil))) (pdss_cons (pds_if (PDW.pdt (pdw_or (pdt_not (pdt_val (pc_defN (ok_is_name T) (hr.mono (by first | decide | omega)) (takes_of rfl rfl rfl rfl) (pda_cons (pd_var 5) pda_nil)))) (pdw_or (ct_in (pd_var 5) (pd_var 3)) (pdw_or1 (ct_ge (pd_var 4) (pd_if (pdt_val (pd_var 2)) (pg_i T.c_MOST_IN_CHAIN) (pg_i T.c_MOST))))))) (pdss_one pds_never) pdss_nil)
      (pdss_one (pds_expr (pd_append (pd_var 3) (pd_var 5)))))))
      (pdss_cons (pds_fld T.at_names (pd_var 0) (bf_tuple T.f_tuple (pda_cons (pd_var 3) pda_nil)))
      (pdss_one (pds_fld T.at_chain (pd_var 0) (pd_var 2))))))))
theorem okK_Folders (T : Tx K mg) : MakK P w K mg base 2 "Folders" ["self", "names", "chain"] ["chain"] 1 F_Folders___init__ := by
  obtain ⟨hg, hk, fd, F⟩ := T.d_Folders___init__
  obtain ⟨mv, hb⟩ := F.kbinds0 (ps := ["self", "names", "chain"]) 2 ["chain"] [] (fun us mv ws => us ++ ws) (by simp) (fun _ h => by simp at h) (fun r1 _ r3 => r1.append r3) (fun _ _ _ _ _ _ us mv ws h1 h2 h3 => match us, h1, mv, h2, ws, h3 with | [_, _], _, [], _, [_], _ => rfl)
  exact ⟨⟨_, fd, _, _, hg, hk, fn_Folders___init__ T F, hb, fun _ _ _ => rfl⟩⟩
theorem sc__law_mixed : FnScope ["_law_stream", "_law_some", "_law_left", "_law_k"] ["_law_stream", "_law_some"] (defScope s__law_mixed) := ⟨rfl, rfl, rfl, by decide +kernel, rfl, by decide +kernel, by decide +kernel⟩
theorem fn__law_mixed (T : Tx K mg) {f : Addr} {fd : FuncData} {dvs : List V} {kws : List (Str × V)} (F : FunD K "_law_mixed" "_law_mixed" (defArgs s__law_mixed) (defBody s__law_mixed) (defScope s__law_mixed) dvs kws f fd) : FnD P w K mg base 2 f fd ["_law_stream", "_law_some"] F__law_mixed :=
  fn_ok (k := 1) F sc__law_mixed (fun cdv A outer s H E hr => (pdss_cons (pds_set 2 sc__law_mixed.nd (bf_listM T.f_list (pda_cons (pd_var 1) pda_nil)))
      (pdss_one (pds_ret (pd_lc false (own := [("_law_k", 3)]) rfl sc__law_mixed.nd (blkOk_by (by kernel_rfl)) (pdi_range1 rfl T.f_range (bf_len T.f_len (pda_cons (pd_var 2) pda_nil))) (fun _ _ _ _ _ => (pdg_name 3 sc__law_mixed.nd)) (by decide) (fun _ _ _ _ _ => pdts_nil) (fun _ _ _ _ _ => (pd_pop (pd_var 2) (pc_defN (ok__law_draw T) (hr.mono (by first | decide | omega)) takes0 (pda_cons (pd_var 0) (pda_cons (bf_len T.f_len (pda_cons (pd_var 2) pda_nil)) pda_nil))))))))))
theorem ok__law_mixed (T : Tx K mg) : Def1 P w K mg base 2 "_law_mixed" ["_law_stream", "_law_some"] [] F__law_mixed := by
  obtain ⟨hm, fd, F⟩ := T.d__law_mixed
  exact ⟨⟨_, fd, [], [], hm, F.kp, fn__law_mixed T F, F.bindsN (fun _ _ _ _ _ _ us hl => match us, hl with | [_, _], _ => rfl), .nil, fun _ _ => .nil⟩⟩
theorem sc__law_q_counted : FnScope ["_law_word", "_law_names_here", "_law_lots", "_law_lot", "_law_name_here"] ["_law_word", "_law_names_here", "_law_lots"] (defScope s__law_q_counted) := ⟨rfl, rfl, rfl, by decide +kernel, rfl, by decide +kernel, by decide +kernel⟩
theorem fn__law_q_counted (T : Tx K mg) {f : Addr} {fd : FuncData} {dvs : List V} {kws : List (Str × V)} (F : FunD K "_law_q_counted" "_law_q_counted" (defArgs s__law_q_counted) (defBody s__law_q_counted) (defScope s__law_q_counted) dvs kws f fd) : FnD P w K mg base 1 f fd ["_law_word", "_law_names_here", "_law_lots"] F__law_q_counted :=
  fn_ok (k := 0) F sc__law_q_counted (fun cdv A outer s H E hr => (pdss_cons (pds_if (ct_eq hr (pd_var 0) pd_str) (pdss_one (pds_ret (pd_lc false (own := [("_law_lot", 3)]) rfl sc__law_q_counted.nd (blkOk_by (by kernel_rfl)) (pdi_seq (pd_var 2)) (fun _ _ _ _ _ => (pdg_name 3 sc__law_q_counted.nd)) (by decide) (fun _ _ _ _ _ => pdts_nil) (fun _ _ _ _ _ => (bf_int T.f_int (pda_cons (bf_any rfl T.f_any (pda_cons (pd_lc false (own := [("_law_name_here", 4)]) rfl sc__law_q_counted.nd (blkOk_by (by kernel_rfl)) (pdi_seq (pd_var 3)) (fun _ _ _ _ _ => (pdg_name 4 sc__law_q_counted.nd)) (by decide) (fun _ _ _ _ _ => pdts_nil) (fun _ _ _ _ _ => (cm_in (pd_var 4) (pd_var 1)))) pda_nil)) pda_nil)))))) pdss_nil)
      (pdss_cons (pds_if (ct_eq hr (pd_var 0) pd_str) (pdss_one (pds_ret (pd_lc false (own := [("_law_lot", 3)]) rfl sc__law_q_counted.nd (blkOk_by (by kernel_rfl)) (pdi_seq (pd_var 2)) (fun _ _ _ _ _ => (pdg_name 3 sc__law_q_counted.nd)) (by decide) (fun _ _ _ _ _ => pdts_nil) (fun _ _ _ _ _ => (bf_int T.f_int (pda_cons (bf_all rfl T.f_all (pda_cons (pd_lc false (own := [("_law_name_here", 4)]) rfl sc__law_q_counted.nd (blkOk_by (by kernel_rfl)) (pdi_seq (pd_var 3)) (fun _ _ _ _ _ => (pdg_name 4 sc__law_q_counted.nd)) (by decide) (fun _ _ _ _ _ => pdts_nil) (fun _ _ _ _ _ => (cm_in (pd_var 4) (pd_var 1)))) pda_nil)) pda_nil)))))) pdss_nil)
      (pdss_cons (pds_if (ct_eq hr (pd_var 0) pd_str) (pdss_one (pds_ret (pd_lc false (own := [("_law_lot", 3)]) rfl sc__law_q_counted.nd (blkOk_by (by kernel_rfl)) (pdi_seq (pd_var 2)) (fun _ _ _ _ _ => (pdg_name 3 sc__law_q_counted.nd)) (by decide) (fun _ _ _ _ _ => pdts_nil) (fun _ _ _ _ _ => (bf_int T.f_int (pda_cons (bf_all rfl T.f_all (pda_cons (pd_lc false (own := [("_law_name_here", 4)]) rfl sc__law_q_counted.nd (blkOk_by (by kernel_rfl)) (pdi_seq (pd_var 1)) (fun _ _ _ _ _ => (pdg_name 4 sc__law_q_counted.nd)) (by decide) (fun _ _ _ _ _ => pdts_nil) (fun _ _ _ _ _ => (cm_in (pd_var 4) (pd_var 3)))) pda_nil)) pda_nil)))))) pdss_nil)
      (pdss_cons (pds_if (ct_eq hr (pd_var 0) pd_str) (pdss_one (pds_ret (pd_lc false (own := [("_law_lot", 3)]) rfl sc__law_q_counted.nd (blkOk_by (by kernel_rfl)) (pdi_seq (pd_var 2)) (fun _ _ _ _ _ => (pdg_name 3 sc__law_q_counted.nd)) (by decide) (fun _ _ _ _ _ => pdts_nil) (fun _ _ _ _ _ => (bf_int T.f_int (pda_cons (pd_and (cm_eq hr (bf_len T.f_len (pda_cons (pd_var 3) pda_nil)) (bf_len T.f_len (pda_cons (pd_var 1) pda_nil))) (pd_one (bf_all rfl T.f_all (pda_cons (pd_lc false (own := [("_law_name_here", 4)]) rfl sc__law_q_counted.nd (blkOk_by (by kernel_rfl)) (pdi_seq (pd_var 1)) (fun _ _ _ _ _ => (pdg_name 4 sc__law_q_counted.nd)) (by decide) (fun _ _ _ _ _ => pdts_nil) (fun _ _ _ _ _ => (cm_in (pd_var 4) (pd_var 3)))) pda_nil)))) pda_nil)))))) pdss_nil)
      (pdss_cons (pds_if (ct_eq hr (pd_var 0) pd_str) (pdss_one (pds_ret (pd_lc false (own := [("_law_lot", 3)]) rfl sc__law_q_counted.nd (blkOk_by (by kernel_rfl)) (pdi_seq (pd_var 2)) (fun _ _ _ _ _ => (pdg_name 3 sc__law_q_counted.nd)) (by decide) (fun _ _ _ _ _ => pdts_nil) (fun _ _ _ _ _ => (bf_int T.f_int (pda_cons (pd_and (cm_in (pd_ix (pd_var 1) pd_int) (pd_var 3)) (pd_one (cm_nin (pd_ix (pd_var 1) pd_int) (pd_var 3)))) pda_nil)))))) pdss_nil)
      (pdss_one (pds_ret (pd_lc false (own := [("_law_lot", 3)]) rfl sc__law_q_counted.nd (blkOk_by (by kernel_rfl)) (pdi_seq (pd_var 2)) (fun _ _ _ _ _ => (pdg_name 3 sc__law_q_counted.nd)) (by decide) (fun _ _ _ _ _ => pdts_nil) (fun _ _ _ _ _ => pd_int))))))))))
theorem ok__law_q_counted (T : Tx K mg) : Def1 P w K mg base 1 "_law_q_counted" ["_law_word", "_law_names_here", "_law_lots"] [] F__law_q_counted := by
  obtain ⟨hm, fd, F⟩ := T.d__law_q_counted
  exact ⟨⟨_, fd, [], [], hm, F.kp, fn__law_q_counted T F, F.bindsN (fun _ _ _ _ _ _ us hl => match us, hl with | [_, _, _], _ => rfl), .nil, fun _ _ => .nil⟩⟩
theorem sc_Folders___contains__ : FnScope ["self", "name"] ["self", "name"] (defScope s_Folders___contains__) := ⟨rfl, rfl, rfl, by decide +kernel, rfl, by decide +kernel, by decide +kernel⟩
theorem fn_Folders___contains__ (T : Tx K mg) {f : Addr} {fd : FuncData} {dvs : List V} {kws : List (Str × V)} (F : FunD K "__contains__" "Folders.__contains__" (defArgs s_Folders___contains__) (defBody s_Folders___contains__) (defScope s_Folders___contains__) dvs kws f fd) : FnD P w K mg base 1 f fd ["self", "name"] F_Folders___contains__ :=
  fn_ok (k := 0) F sc_Folders___contains__ (fun cdv A outer s H E hr => (pdss_one (pds_ret (pd_and (bf_isi T.kit T.f_isinstance (pda_cons (pd_var 1) (pda_cons (pd_bltn rfl T.f_str (by decide +kernel)) pda_nil))) (pd_one (cm_in (pd_var 1) (pd_at T.at_names (pd_var 0))))))))
theorem ok_Folders___contains__ (T : Tx K mg) : Met1 P w K mg base 1 "Folders" "__contains__" ["self", "name"] [] F_Folders___contains__ := by
  obtain ⟨hc, hm, fd, F⟩ := T.d_Folders___contains__
  exact ⟨⟨_, fd, [], [], hc, hm, fn_Folders___contains__ T F, F.bindsN (fun _ _ _ _ _ _ us hl => match us, hl with | [_, _], _ => rfl), .nil, fun _ _ => .nil⟩⟩
theorem sc_Folders_chosen : FnScope ["self", "names", "name"] ["self", "names"] (defScope s_Folders_chosen) := ⟨rfl, rfl, rfl, by decide +kernel, rfl, by decide +kernel, by decide +kernel⟩
theorem fn_Folders_chosen (T : Tx K mg) {f : Addr} {fd : FuncData} {dvs : List V} {kws : List (Str × V)} (F : FunD K "chosen" "Folders.chosen" (defArgs s_Folders_chosen) (defBody s_Folders_chosen) (defScope s_Folders_chosen) dvs kws f fd) : FnD P w K mg base 2 f fd ["self", "names"] F_Folders_chosen :=
  fn_ok (k := 1) F sc_Folders_chosen (fun cdv A outer s H E hr => (pdss_cons (pds_for (passes_of rfl) rfl (pdi_seq (pd_var 1)) (pdg_name 2 sc_Folders_chosen.nd) (pdss_one (pds_if (pdt_cmpW (ow_nin (ok_Folders___contains__ T) (hr.mono (by first | decide | omega)) (takes_of rfl rfl rfl rfl) (flatD0 _) rfl) (pd_var 2) (pd_var 0)) (pdss_one pds_never) pdss_nil)))
      (pdss_one (pds_ret (bf_tuple T.f_tuple (pda_cons (pd_lc false (own := [("name", 2)]) rfl sc_Folders_chosen.nd (blkOk_by (by kernel_rfl)) (pdi_seq (pd_at T.at_names (pd_var 0))) (fun _ _ _ _ _ => (pdg_name 2 sc_Folders_chosen.nd)) (by decide) (fun _ _ _ _ _ => (pdts_one (ct_in (pd_var 2) (pd_var 1)))) (fun _ _ _ _ _ => (pd_var 2))) pda_nil))))))
theorem ok_Folders_chosen (T : Tx K mg) : Met1 P w K mg base 2 "Folders" "chosen" ["self", "names"] [] F_Folders_chosen := by
  obtain ⟨hc, hm, fd, F⟩ := T.d_Folders_chosen
  exact ⟨⟨_, fd, [], [], hc, hm, fn_Folders_chosen T F, F.bindsN (fun _ _ _ _ _ _ us hl => match us, hl with | [_, _], _ => rfl), .nil, fun _ _ => .nil⟩⟩
theorem sc_chosen_places : FnScope ["many", "left", "found", "k", "row", "at"] ["many", "left"] (defScope s_chosen_places) := ⟨rfl, rfl, rfl, by decide +kernel, rfl, by decide +kernel, by decide +kernel⟩
theorem fn_chosen_places (T : Tx K mg) {f : Addr} {fd : FuncData} {dvs : List V} {kws : List (Str × V)} (F : FunD K "chosen_places" "chosen_places" (defArgs s_chosen_places) (defBody s_chosen_places) (defScope s_chosen_places) dvs kws f fd) : FnD P w K mg base 1 f fd ["many", "left"] F_chosen_places :=
  fn_ok (k := 0) F sc_chosen_places (fun cdv A outer s H E hr => (pdss_cons (pds_set 2 sc_chosen_places.nd (pd_lst (pda_cons (pd_tup pda_nil) pda_nil)))
      (pdss_cons (pds_for (passes_of rfl) rfl (pdi_range1 rfl T.f_range (pd_var 0)) (pdg_name 3 sc_chosen_places.nd) (pdss_one (pds_setLc2 false 2 (own := [("row", 4), ("at", 5)]) (vs1 := [5]) rfl sc_chosen_places.nd (blkOk_by (by kernel_rfl)) (by decide) (pdi_seq (pd_var 2)) (fun _ _ _ _ _ => (pdg_name 4 sc_chosen_places.nd)) (by decide) (fun _ _ _ _ _ => pdts_nil) (fun _ _ _ _ _ => (pdi_range2 rfl T.f_range (pd_if (ct_ne hr (pd_var 4) (pd_tup pda_nil)) (pd_add (pd_ix (pd_var 4) (pd_neg pd_int)) pd_int) pd_int) (pd_var 1))) (fun _ _ _ _ _ => (pdg_name 5 sc_chosen_places.nd)) (by decide) (fun _ _ _ _ _ => pdts_nil) (fun _ _ _ _ _ => (pd_tup (pda_star (pd_var 4) (pda_cons (pd_var 5) pda_nil)))))))
      (pdss_one (pds_ret (pd_var 2))))))
theorem ok_chosen_places (T : Tx K mg) : Def1 P w K mg base 1 "chosen_places" ["many", "left"] [] F_chosen_places := by
  obtain ⟨hm, fd, F⟩ := T.d_chosen_places
  exact ⟨⟨_, fd, [], [], hm, F.kp, fn_chosen_places T F, F.bindsN (fun _ _ _ _ _ _ us hl => match us, hl with | [_, _], _ => rfl), .nil, fun _ _ => .nil⟩⟩
theorem sc_Folders_lots : FnScope ["self", "many", "rows", "size", "row", "at"] ["self"] (defScope s_Folders_lots) := ⟨rfl, rfl, rfl, by decide +kernel, rfl, by decide +kernel, by decide +kernel⟩
theorem fn_Folders_lots (T : Tx K mg) {f : Addr} {fd : FuncData} {dvs : List V} {kws : List (Str × V)} (F : FunD K "lots" "Folders.lots" (defArgs s_Folders_lots) (defBody s_Folders_lots) (defScope s_Folders_lots) dvs kws f fd) : FnD P w K mg base 2 f fd ["self"] F_Folders_lots :=
  fn_ok (k := 1) F sc_Folders_lots (fun cdv A outer s H E hr => (pdss_cons (pds_set 1 sc_Folders_lots.nd (bf_len T.f_len (pda_cons (pd_at T.at_names (pd_var 0)) pda_nil)))
      (pdss_cons (pds_if (pdt_val (pd_at T.at_chain (pd_var 0))) (pdss_one (pds_ret (pd_lc2 true (own := [("size", 3), ("at", 5)]) (vs1 := [5]) rfl sc_Folders_lots.nd (blkOk_by (by kernel_rfl)) (by decide) (pdi_range2 rfl T.f_range pd_int (pd_add (pd_var 1) pd_int)) (fun _ _ _ _ _ => (pdg_name 3 sc_Folders_lots.nd)) (by decide) (fun _ _ _ _ _ => pdts_nil) (fun _ _ _ _ _ => (pdi_range1 rfl T.f_range (pd_add (pd_sub (pd_var 1) (pd_var 3)) pd_int))) (fun _ _ _ _ _ => (pdg_name 5 sc_Folders_lots.nd)) (by decide) (fun _ _ _ _ _ => pdts_nil) (fun _ _ _ _ _ => (pd_slice false (pd_at T.at_names (pd_var 0)) (pdo_so (pd_var 5)) (pdo_so (pd_add (pd_var 5) (pd_var 3)))))))) pdss_nil)
      (pdss_cons (pds_setLc2 false 2 (own := [("size", 3), ("row", 4)]) (vs1 := [4]) rfl sc_Folders_lots.nd (blkOk_by (by kernel_rfl)) (by decide) (pdi_range2 rfl T.f_range pd_int (pd_add (pd_var 1) pd_int)) (fun _ _ _ _ _ => (pdg_name 3 sc_Folders_lots.nd)) (by decide) (fun _ _ _ _ _ => pdts_nil) (fun _ _ _ _ _ => (pdi_seq (pc_defN (ok_chosen_places T) (hr.mono (by first | decide | omega)) takes0 (pda_cons (pd_var 3) (pda_cons (pd_var 1) pda_nil))))) (fun _ _ _ _ _ => (pdg_name 4 sc_Folders_lots.nd)) (by decide) (fun _ _ _ _ _ => pdts_nil) (fun _ _ _ _ _ => (pd_var 4)))
      (pdss_one (pds_ret (pd_lc true (own := [("row", 4)]) rfl sc_Folders_lots.nd (blkOk_by (by kernel_rfl)) (pdi_seq (pd_var 2)) (fun _ _ _ _ _ => (pdg_name 4 sc_Folders_lots.nd)) (by decide) (fun _ _ _ _ _ => pdts_nil) (fun _ _ _ _ _ => (bf_tuple T.f_tuple (pda_cons (pd_lc false (own := [("at", 5)]) rfl sc_Folders_lots.nd (blkOk_by (by kernel_rfl)) (pdi_seq (pd_var 4)) (fun _ _ _ _ _ => (pdg_name 5 sc_Folders_lots.nd)) (by decide) (fun _ _ _ _ _ => pdts_nil) (fun _ _ _ _ _ => (pd_ix (pd_at T.at_names (pd_var 0)) (pd_var 5)))) pda_nil))))))))))
theorem ok_Folders_lots (T : Tx K mg) : Met1 P w K mg base 2 "Folders" "lots" ["self"] [] F_Folders_lots := by
  obtain ⟨hc, hm, fd, F⟩ := T.d_Folders_lots
  exact ⟨⟨_, fd, [], [], hc, hm, fn_Folders_lots T F, F.bindsN (fun _ _ _ _ _ _ us hl => match us, hl with | [_], _ => rfl), .nil, fun _ _ => .nil⟩⟩
theorem sc_Folders_lot_of : FnScope ["self", "thing", "found", "name", "at"] ["self", "thing"] (defScope s_Folders_lot_of) := ⟨rfl, rfl, rfl, by decide +kernel, rfl, by decide +kernel, by decide +kernel⟩
theorem fn_Folders_lot_of (T : Tx K mg) {f : Addr} {fd : FuncData} {dvs : List V} {kws : List (Str × V)} (F : FunD K "lot_of" "Folders.lot_of" (defArgs s_Folders_lot_of) (defBody s_Folders_lot_of) (defScope s_Folders_lot_of) dvs kws f fd) : FnD P w K mg base 2 f fd ["self", "thing"] F_Folders_lot_of :=
  fn_ok (k := 1) F sc_Folders_lot_of (fun cdv A outer s H E hr => (pdss_cons (pds_if (PDW.pdt (pdw_or (pdt_not (pdt_val (pc_defN (ok_is_list T) (hr.mono (by first | decide | omega)) (takes_of rfl rfl rfl rfl) (pda_cons (pd_var 1) pda_nil)))) (pdw_or1 (ct_eq hr (bf_len T.f_len (pda_cons (pd_var 1) pda_nil)) pd_int)))) (pdss_one (pds_ret pd_non)) pdss_nil)
      (pdss_cons (pds_set 2 sc_Folders_lot_of.nd (bf_tuple T.f_tuple (pda_cons (pd_lc false (own := [("name", 3)]) rfl sc_Folders_lot_of.nd (blkOk_by (by kernel_rfl)) (pdi_seq (pd_at T.at_names (pd_var 0))) (fun _ _ _ _ _ => (pdg_name 3 sc_Folders_lot_of.nd)) (by decide) (fun _ _ _ _ _ => (pdts_one (ct_in (pd_var 3) (pd_var 1)))) (fun _ _ _ _ _ => (pd_var 3))) pda_nil)))
      (pdss_cons (pds_if (ct_ne hr (bf_len T.f_len (pda_cons (pd_var 2) pda_nil)) (bf_len T.f_len (pda_cons (pd_var 1) pda_nil))) (pdss_one (pds_ret pd_non)) pdss_nil)
      (pdss_cons (pds_if (PDW.pdt (pdw_and (pdt_val (pd_at T.at_chain (pd_var 0))) (pdw_and1 (pdt_not (pdt_val (bf_any rfl T.f_any (pda_cons (pd_lc false (own := [("at", 4)]) rfl sc_Folders_lot_of.nd (blkOk_by (by kernel_rfl)) (pdi_range1 rfl T.f_range (bf_len T.f_len (pda_cons (pd_at T.at_names (pd_var 0)) pda_nil))) (fun _ _ _ _ _ => (pdg_name 4 sc_Folders_lot_of.nd)) (by decide) (fun _ _ _ _ _ => pdts_nil) (fun _ _ _ _ _ => (cm_eq hr (pd_slice false (pd_at T.at_names (pd_var 0)) (pdo_so (pd_var 4)) (pdo_so (pd_add (pd_var 4) (bf_len T.f_len (pda_cons (pd_var 2) pda_nil))))) (pd_var 2)))) pda_nil))))))) (pdss_one (pds_ret pd_non)) pdss_nil)
      (pdss_one (pds_ret (pd_var 2))))))))
theorem ok_Folders_lot_of (T : Tx K mg) : Met1 P w K mg base 2 "Folders" "lot_of" ["self", "thing"] [] F_Folders_lot_of := by
  obtain ⟨hc, hm, fd, F⟩ := T.d_Folders_lot_of
  exact ⟨⟨_, fd, [], [], hc, hm, fn_Folders_lot_of T F, F.bindsN (fun _ _ _ _ _ _ us hl => match us, hl with | [_, _], _ => rfl), .nil, fun _ _ => .nil⟩⟩
theorem sc_is_whole : FnScope ["thing"] ["thing"] (defScope s_is_whole) := ⟨rfl, rfl, rfl, by decide +kernel, rfl, by decide +kernel, by decide +kernel⟩
theorem fn_is_whole (T : Tx K mg) {f : Addr} {fd : FuncData} {dvs : List V} {kws : List (Str × V)} (F : FunD K "is_whole" "is_whole" (defArgs s_is_whole) (defBody s_is_whole) (defScope s_is_whole) dvs kws f fd) : FnD P w K mg base 1 f fd ["thing"] F_is_whole :=
  fn_ok (k := 0) F sc_is_whole (fun cdv A outer s H E hr => (pdss_one (pds_ret (pd_and (bf_isi T.kit T.f_isinstance (pda_cons (pd_var 0) (pda_cons (pd_bltn rfl T.f_int (by decide +kernel)) pda_nil))) (pd_one (pd_not (bf_isi T.kit T.f_isinstance (pda_cons (pd_var 0) (pda_cons (pd_bltn rfl T.f_bool (by decide +kernel)) pda_nil)))))))))
theorem ok_is_whole (T : Tx K mg) : Def1 P w K mg base 1 "is_whole" ["thing"] [] F_is_whole := by
  obtain ⟨hm, fd, F⟩ := T.d_is_whole
  exact ⟨⟨_, fd, [], [], hm, F.kp, fn_is_whole T F, F.bindsN (fun _ _ _ _ _ _ us hl => match us, hl with | [_], _ => rfl), .nil, fun _ _ => .nil⟩⟩
theorem sc_row_of : FnScope ["folders", "weights", "told", "given", "at", "lot", "key", "number", "one"] ["folders", "weights"] (defScope s_row_of) := ⟨rfl, rfl, rfl, by decide +kernel, rfl, by decide +kernel, by decide +kernel⟩
theorem fn_row_of (T : Tx K mg) {f : Addr} {fd : FuncData} {dvs : List V} {kws : List (Str × V)} (F : FunD K "row_of" "row_of" (defArgs s_row_of) (defBody s_row_of) (defScope s_row_of) dvs kws f fd) : FnD P w K mg base 3 f fd ["folders", "weights"] F_row_of :=
  fn_ok (k := 2) F sc_row_of (fun cdv A outer s H E hr => (pdss_cons (pds_lkD 1 (pds_setLc false 2 (own := [("key", 6), ("number", 7)]) rfl sc_row_of.nd (blkOk_by (by kernel_rfl)) (pdi_items (pd_var 1)) (fun _ _ _ _ _ => (pdg_tup rfl (pdgs_cons (pdg_name 6 sc_row_of.nd) (pdgs_cons (pdg_name 7 sc_row_of.nd) pdgs_nil nox_nil) (nox_cons (nox_gN 7) nox_nil)))) (by decide) (fun _ _ _ _ _ => pdts_nil) (fun _ _ _ _ _ => (pd_tup (pda_cons (pc_metN (ok_Folders_lot_of T) (hr.mono (by first | decide | omega)) takes0 flat00 (pd_var 0) (pda_cons (pd_var 6) pda_nil)) (pda_cons (pd_var 6) (pda_cons (pd_var 7) pda_nil)))))))
      (pdss_cons (pds_for (passes_of rfl) rfl (pdi_enumA rfl T.f_enumerate (pd_var 2)) (pdg_tup rfl (pdgs_cons (pdg_name 4 sc_row_of.nd) (pdgs_cons (pdg_tup rfl (pdgs_cons (pdg_name 5 sc_row_of.nd) (pdgs_cons (pdg_name 6 sc_row_of.nd) (pdgs_cons (pdg_name 7 sc_row_of.nd) pdgs_nil nox_nil) (nox_cons (nox_gN 7) nox_nil)) (nox_cons (nox_gN 6) (nox_cons (nox_gN 7) nox_nil)))) pdgs_nil nox_nil) (nox_cons (nox_tup (nox_cons (nox_gN 5) (nox_cons (nox_gN 6) (nox_cons (nox_gN 7) nox_nil)))) nox_nil))) (pdss_cons (pds_if (PDW.pdt (pdw_or (ct_is (pd_var 5) pd_non) (pdw_or1 (ct_inP hr (pd_var 5) (pd_lc false (own := [("one", 8)]) rfl sc_row_of.nd (blkOk_by (by kernel_rfl)) (pdi_seq (pd_slice false (pd_var 2) pdo_no (pdo_so (pd_var 4)))) (fun _ _ _ _ _ => (pdg_name 8 sc_row_of.nd)) (by decide) (fun _ _ _ _ _ => pdts_nil) (fun _ _ _ _ _ => (pd_ix (pd_var 8) pd_int))))))) (pdss_one pds_never) pdss_nil)
      (pdss_one (pds_if (pdt_not (pdt_val (pc_defN (ok_is_whole T) (hr.mono (by first | decide | omega)) (takes_of rfl rfl rfl rfl) (pda_cons (pd_var 7) pda_nil)))) (pdss_one pds_never) pdss_nil))))
      (pdss_cons (pds_set 3 sc_row_of.nd (bf_dict false hr rfl T.f_dict (pda_cons (pd_lc false (own := [("lot", 5), ("key", 6), ("number", 7)]) rfl sc_row_of.nd (blkOk_by (by kernel_rfl)) (pdi_seq (pd_var 2)) (fun _ _ _ _ _ => (pdg_tup rfl (pdgs_cons (pdg_name 5 sc_row_of.nd) (pdgs_cons (pdg_name 6 sc_row_of.nd) (pdgs_cons (pdg_name 7 sc_row_of.nd) pdgs_nil nox_nil) (nox_cons (nox_gN 7) nox_nil)) (nox_cons (nox_gN 6) (nox_cons (nox_gN 7) nox_nil))))) (by decide) (fun _ _ _ _ _ => pdts_nil) (fun _ _ _ _ _ => (pd_tup (pda_cons (pd_var 5) (pda_cons (pd_var 7) pda_nil))))) pda_nil)))
      (pdss_one (pds_ret (bf_dict false hr rfl T.f_dict (pda_cons (pd_lc false (own := [("lot", 5)]) rfl sc_row_of.nd (blkOk_by (by kernel_rfl)) (pdi_seq (pd_frz (pc_met0N (ok_Folders_lots T) (hr.mono (by first | decide | omega)) (takes_of rfl rfl rfl rfl) (flatD0 _) (pd_var 0)))) (fun _ _ _ _ _ => (pdg_name 5 sc_row_of.nd)) (by decide) (fun _ _ _ _ _ => pdts_nil) (fun _ _ _ _ _ => (pd_tup (pda_cons (pd_var 5) (pda_cons (pd_get2 hr (pd_var 3) (pd_var 5) pd_int) pda_nil))))) pda_nil))))))))
theorem ok_row_of (T : Tx K mg) : Def1 P w K mg base 3 "row_of" ["folders", "weights"] [] F_row_of := by
  obtain ⟨hm, fd, F⟩ := T.d_row_of
  exact ⟨⟨_, fd, [], [], hm, F.kp, fn_row_of T F, F.bindsN (fun _ _ _ _ _ _ us hl => match us, hl with | [_, _], _ => rfl), .nil, fun _ _ => .nil⟩⟩
theorem sc_Question___init__ : FnScope ["self", "folders", "weights"] ["self", "folders", "weights"] (defScope s_Question___init__) := ⟨rfl, rfl, rfl, by decide +kernel, rfl, by decide +kernel, by decide +kernel⟩
theorem fn_Question___init__ (T : Tx K mg) {f : Addr} {fd : FuncData} {dvs : List V} {kws : List (Str × V)} (F : FunD K "__init__" "Question.__init__" (defArgs s_Question___init__) (defBody s_Question___init__) (defScope s_Question___init__) dvs kws f fd) : FnD P w K mg base 4 f fd ["self", "folders", "weights"] F_Question___init__ :=
  fn_ok (k := 3) F sc_Question___init__ (fun cdv A outer s H E hr => (pdss_cons (pds_fld T.at_folders (pd_var 0) (pd_var 1))
      (pdss_one (pds_fld T.at_row (pd_var 0) (pc_defN (ok_row_of T) (hr.mono (by first | decide | omega)) (takes_of rfl rfl rfl rfl) (pda_cons (pd_var 1) (pda_cons (pd_if (ct_is (pd_var 2) pd_non) pd_d0T (pd_var 2)) pda_nil)))))))
theorem ok1_Question_1 (T : Tx K mg) : Mak1 P w K mg base 4 "Question" ["self", "folders", "weights"] [.non] F_Question___init__ := by
  obtain ⟨hg, hk, fd, F⟩ := T.d_Question___init__
  obtain ⟨ds, hv, hb⟩ := F.binds1 (ps := ["self", "folders", "weights"]) 2 0 (by simp) (by decide) (fun _ _ _ _ _ _ _ us its h1 h2 => match us, h1, its, h2 with | [_, _], _, [_], _ => ⟨_, rfl, rfl⟩)
  exact ⟨⟨_, fd, _, ds, hg, hk, fn_Question___init__ T F, hb, hv, fun _ _ => .cons (.non) (.nil)⟩⟩
theorem ok1_Question_2 (T : Tx K mg) : Mak1 P w K mg base 4 "Question" ["self", "folders", "weights"] [] F_Question___init__ := by
  obtain ⟨hg, hk, fd, F⟩ := T.d_Question___init__
  obtain ⟨ds, hv, hb⟩ := F.binds1 (ps := ["self", "folders", "weights"]) 3 1 (by simp) (by decide) (fun _ _ _ _ _ _ _ us its h1 h2 => match us, h1, its, h2 with | [_, _, _], _, [_], _ => ⟨_, rfl, rfl⟩)
  exact ⟨⟨_, fd, _, ds, hg, hk, fn_Question___init__ T F, hb, hv, fun _ _ => .nil⟩⟩
theorem sc_counted : FnScope ["folders", "lots", "lot"] ["folders", "lots"] (defScope s_counted) := ⟨rfl, rfl, rfl, by decide +kernel, rfl, by decide +kernel, by decide +kernel⟩
theorem fn_counted (T : Tx K mg) {f : Addr} {fd : FuncData} {dvs : List V} {kws : List (Str × V)} (F : FunD K "counted" "counted" (defArgs s_counted) (defBody s_counted) (defScope s_counted) dvs kws f fd) : FnD P w K mg base 6 f fd ["folders", "lots"] F_counted :=
  fn_ok (k := 5) F sc_counted (fun cdv A outer s H E hr => (pdss_one (pds_ret (pd_frz (pc_makN (ok1_Question_2 T) (hr.mono (by first | decide | omega)) (takes_of rfl rfl rfl rfl) (flatD0 _) (pda_cons (pd_var 0) (pda_cons (bf_dict false hr rfl T.f_dict (pda_cons (pd_lc false (own := [("lot", 2)]) rfl sc_counted.nd (blkOk_by (by kernel_rfl)) (pdi_seq (pd_var 1)) (fun _ _ _ _ _ => (pdg_name 2 sc_counted.nd)) (by decide) (fun _ _ _ _ _ => pdts_nil) (fun _ _ _ _ _ => (pd_tup (pda_cons (pd_var 2) (pda_cons pd_int pda_nil))))) pda_nil)) pda_nil)))))))
theorem ok_counted (T : Tx K mg) : Def1 P w K mg base 6 "counted" ["folders", "lots"] [] F_counted := by
  obtain ⟨hm, fd, F⟩ := T.d_counted
  exact ⟨⟨_, fd, [], [], hm, F.kp, fn_counted T F, F.bindsN (fun _ _ _ _ _ _ us hl => match us, hl with | [_, _], _ => rfl), .nil, fun _ _ => .nil⟩⟩
theorem sc_refers : FnScope ["folders", "names", "some", "lot", "name"] ["folders", "names"] (defScope s_refers) := ⟨rfl, rfl, rfl, by decide +kernel, rfl, by decide +kernel, by decide +kernel⟩
theorem fn_refers (T : Tx K mg) {f : Addr} {fd : FuncData} {dvs : List V} {kws : List (Str × V)} (F : FunD K "refers" "refers" (defArgs s_refers) (defBody s_refers) (defScope s_refers) dvs kws f fd) : FnD P w K mg base 7 f fd ["folders", "names"] F_refers :=
  fn_ok (k := 6) F sc_refers (fun cdv A outer s H E hr => (pdss_cons (pds_set 2 sc_refers.nd (pc_metN (ok_Folders_chosen T) (hr.mono (by first | decide | omega)) (takes_of rfl rfl rfl rfl) (flatD0 _) (pd_var 0) (pda_cons (pd_var 1) pda_nil)))
      (pdss_one (pds_ret (pc_defN (ok_counted T) (hr.mono (by first | decide | omega)) (takes_of rfl rfl rfl rfl) (pda_cons (pd_var 0) (pda_cons (pd_lc false (own := [("lot", 3)]) rfl sc_refers.nd (blkOk_by (by kernel_rfl)) (pdi_seq (pd_frz (pc_met0N (ok_Folders_lots T) (hr.mono (by first | decide | omega)) (takes_of rfl rfl rfl rfl) (flatD0 _) (pd_var 0)))) (fun _ _ _ _ _ => (pdg_name 3 sc_refers.nd)) (by decide) (fun _ _ _ _ _ => (pdts_one (pdt_val (bf_any rfl T.f_any (pda_cons (pd_lc false (own := [("name", 4)]) rfl sc_refers.nd (blkOk_by (by kernel_rfl)) (pdi_seq (pd_var 3)) (fun _ _ _ _ _ => (pdg_name 4 sc_refers.nd)) (by decide) (fun _ _ _ _ _ => pdts_nil) (fun _ _ _ _ _ => (cm_in (pd_var 4) (pd_var 2)))) pda_nil))))) (fun _ _ _ _ _ => (pd_var 3))) pda_nil)))))))
theorem ok_refers (T : Tx K mg) : Def1 P w K mg base 7 "refers" ["folders", "names"] [] F_refers := by
  obtain ⟨hm, fd, F⟩ := T.d_refers
  exact ⟨⟨_, fd, [], [], hm, F.kp, fn_refers T F, F.bindsN (fun _ _ _ _ _ _ us hl => match us, hl with | [_, _], _ => rfl), .nil, fun _ _ => .nil⟩⟩
theorem sc_freed : FnScope ["folders", "names", "some", "lot", "name"] ["folders", "names"] (defScope s_freed) := ⟨rfl, rfl, rfl, by decide +kernel, rfl, by decide +kernel, by decide +kernel⟩
theorem fn_freed (T : Tx K mg) {f : Addr} {fd : FuncData} {dvs : List V} {kws : List (Str × V)} (F : FunD K "freed" "freed" (defArgs s_freed) (defBody s_freed) (defScope s_freed) dvs kws f fd) : FnD P w K mg base 7 f fd ["folders", "names"] F_freed :=
  fn_ok (k := 6) F sc_freed (fun cdv A outer s H E hr => (pdss_cons (pds_set 2 sc_freed.nd (pc_metN (ok_Folders_chosen T) (hr.mono (by first | decide | omega)) (takes_of rfl rfl rfl rfl) (flatD0 _) (pd_var 0) (pda_cons (pd_var 1) pda_nil)))
      (pdss_one (pds_ret (pc_defN (ok_counted T) (hr.mono (by first | decide | omega)) (takes_of rfl rfl rfl rfl) (pda_cons (pd_var 0) (pda_cons (pd_lc false (own := [("lot", 3)]) rfl sc_freed.nd (blkOk_by (by kernel_rfl)) (pdi_seq (pd_frz (pc_met0N (ok_Folders_lots T) (hr.mono (by first | decide | omega)) (takes_of rfl rfl rfl rfl) (flatD0 _) (pd_var 0)))) (fun _ _ _ _ _ => (pdg_name 3 sc_freed.nd)) (by decide) (fun _ _ _ _ _ => (pdts_one (pdt_val (bf_all rfl T.f_all (pda_cons (pd_lc false (own := [("name", 4)]) rfl sc_freed.nd (blkOk_by (by kernel_rfl)) (pdi_seq (pd_var 3)) (fun _ _ _ _ _ => (pdg_name 4 sc_freed.nd)) (by decide) (fun _ _ _ _ _ => pdts_nil) (fun _ _ _ _ _ => (cm_in (pd_var 4) (pd_var 2)))) pda_nil))))) (fun _ _ _ _ _ => (pd_var 3))) pda_nil)))))))
theorem ok_freed (T : Tx K mg) : Def1 P w K mg base 7 "freed" ["folders", "names"] [] F_freed := by
  obtain ⟨hm, fd, F⟩ := T.d_freed
  exact ⟨⟨_, fd, [], [], hm, F.kp, fn_freed T F, F.bindsN (fun _ _ _ _ _ _ us hl => match us, hl with | [_, _], _ => rfl), .nil, fun _ _ => .nil⟩⟩
theorem sc_shared : FnScope ["folders", "names", "some", "lot", "name"] ["folders", "names"] (defScope s_shared) := ⟨rfl, rfl, rfl, by decide +kernel, rfl, by decide +kernel, by decide +kernel⟩
theorem fn_shared (T : Tx K mg) {f : Addr} {fd : FuncData} {dvs : List V} {kws : List (Str × V)} (F : FunD K "shared" "shared" (defArgs s_shared) (defBody s_shared) (defScope s_shared) dvs kws f fd) : FnD P w K mg base 7 f fd ["folders", "names"] F_shared :=
  fn_ok (k := 6) F sc_shared (fun cdv A outer s H E hr => (pdss_cons (pds_set 2 sc_shared.nd (pc_metN (ok_Folders_chosen T) (hr.mono (by first | decide | omega)) (takes_of rfl rfl rfl rfl) (flatD0 _) (pd_var 0) (pda_cons (pd_var 1) pda_nil)))
      (pdss_one (pds_ret (pc_defN (ok_counted T) (hr.mono (by first | decide | omega)) (takes_of rfl rfl rfl rfl) (pda_cons (pd_var 0) (pda_cons (pd_lc false (own := [("lot", 3)]) rfl sc_shared.nd (blkOk_by (by kernel_rfl)) (pdi_seq (pd_frz (pc_met0N (ok_Folders_lots T) (hr.mono (by first | decide | omega)) (takes_of rfl rfl rfl rfl) (flatD0 _) (pd_var 0)))) (fun _ _ _ _ _ => (pdg_name 3 sc_shared.nd)) (by decide) (fun _ _ _ _ _ => (pdts_one (pdt_val (bf_all rfl T.f_all (pda_cons (pd_lc false (own := [("name", 4)]) rfl sc_shared.nd (blkOk_by (by kernel_rfl)) (pdi_seq (pd_var 2)) (fun _ _ _ _ _ => (pdg_name 4 sc_shared.nd)) (by decide) (fun _ _ _ _ _ => pdts_nil) (fun _ _ _ _ _ => (cm_in (pd_var 4) (pd_var 3)))) pda_nil))))) (fun _ _ _ _ _ => (pd_var 3))) pda_nil)))))))
theorem ok_shared (T : Tx K mg) : Def1 P w K mg base 7 "shared" ["folders", "names"] [] F_shared := by
  obtain ⟨hm, fd, F⟩ := T.d_shared
  exact ⟨⟨_, fd, [], [], hm, F.kp, fn_shared T F, F.bindsN (fun _ _ _ _ _ _ us hl => match us, hl with | [_, _], _ => rfl), .nil, fun _ _ => .nil⟩⟩
theorem sc_just : FnScope ["folders", "names", "some", "lot"] ["folders", "names"] (defScope s_just) := ⟨rfl, rfl, rfl, by decide +kernel, rfl, by decide +kernel, by decide +kernel⟩
theorem fn_just (T : Tx K mg) {f : Addr} {fd : FuncData} {dvs : List V} {kws : List (Str × V)} (F : FunD K "just" "just" (defArgs s_just) (defBody s_just) (defScope s_just) dvs kws f fd) : FnD P w K mg base 7 f fd ["folders", "names"] F_just :=
  fn_ok (k := 6) F sc_just (fun cdv A outer s H E hr => (pdss_cons (pds_set 2 sc_just.nd (pc_metN (ok_Folders_chosen T) (hr.mono (by first | decide | omega)) (takes_of rfl rfl rfl rfl) (flatD0 _) (pd_var 0) (pda_cons (pd_var 1) pda_nil)))
      (pdss_one (pds_ret (pc_defN (ok_counted T) (hr.mono (by first | decide | omega)) (takes_of rfl rfl rfl rfl) (pda_cons (pd_var 0) (pda_cons (pd_lc false (own := [("lot", 3)]) rfl sc_just.nd (blkOk_by (by kernel_rfl)) (pdi_seq (pd_frz (pc_met0N (ok_Folders_lots T) (hr.mono (by first | decide | omega)) (takes_of rfl rfl rfl rfl) (flatD0 _) (pd_var 0)))) (fun _ _ _ _ _ => (pdg_name 3 sc_just.nd)) (by decide) (fun _ _ _ _ _ => (pdts_one (ct_eq hr (pd_var 3) (pd_var 2)))) (fun _ _ _ _ _ => (pd_var 3))) pda_nil)))))))
theorem ok_just (T : Tx K mg) : Def1 P w K mg base 7 "just" ["folders", "names"] [] F_just := by
  obtain ⟨hm, fd, F⟩ := T.d_just
  exact ⟨⟨_, fd, [], [], hm, F.kp, fn_just T F, F.bindsN (fun _ _ _ _ _ _ us hl => match us, hl with | [_, _], _ => rfl), .nil, fun _ _ => .nil⟩⟩
theorem sc_sent : FnScope ["folders", "one", "other", "lot"] ["folders", "one", "other"] (defScope s_sent) := ⟨rfl, rfl, rfl, by decide +kernel, rfl, by decide +kernel, by decide +kernel⟩
theorem fn_sent (T : Tx K mg) {f : Addr} {fd : FuncData} {dvs : List V} {kws : List (Str × V)} (F : FunD K "sent" "sent" (defArgs s_sent) (defBody s_sent) (defScope s_sent) dvs kws f fd) : FnD P w K mg base 7 f fd ["folders", "one", "other"] F_sent :=
  fn_ok (k := 6) F sc_sent (fun cdv A outer s H E hr => (pdss_cons (pds_expr (pc_metN (ok_Folders_chosen T) (hr.mono (by first | decide | omega)) (takes_of rfl rfl rfl rfl) (flatD0 _) (pd_var 0) (pda_cons (pd_lst (pda_cons (pd_var 1) (pda_cons (pd_var 2) pda_nil))) pda_nil)))
      (pdss_one (pds_ret (pc_defN (ok_counted T) (hr.mono (by first | decide | omega)) (takes_of rfl rfl rfl rfl) (pda_cons (pd_var 0) (pda_cons (pd_lc false (own := [("lot", 3)]) rfl sc_sent.nd (blkOk_by (by kernel_rfl)) (pdi_seq (pd_frz (pc_met0N (ok_Folders_lots T) (hr.mono (by first | decide | omega)) (takes_of rfl rfl rfl rfl) (flatD0 _) (pd_var 0)))) (fun _ _ _ _ _ => (pdg_name 3 sc_sent.nd)) (by decide) (fun _ _ _ _ _ => (pdts_one (PDW.pdt (pdw_and (ct_in (pd_var 2) (pd_var 3)) (pdw_and1 (ct_nin (pd_var 1) (pd_var 3))))))) (fun _ _ _ _ _ => (pd_var 3))) pda_nil)))))))
theorem ok_sent (T : Tx K mg) : Def1 P w K mg base 7 "sent" ["folders", "one", "other"] [] F_sent := by
  obtain ⟨hm, fd, F⟩ := T.d_sent
  exact ⟨⟨_, fd, [], [], hm, F.kp, fn_sent T F, F.bindsN (fun _ _ _ _ _ _ us hl => match us, hl with | [_, _, _], _ => rfl), .nil, fun _ _ => .nil⟩⟩
theorem sc_whole : FnScope ["folders"] ["folders"] (defScope s_whole) := ⟨rfl, rfl, rfl, by decide +kernel, rfl, by decide +kernel, by decide +kernel⟩
theorem fn_whole (T : Tx K mg) {f : Addr} {fd : FuncData} {dvs : List V} {kws : List (Str × V)} (F : FunD K "whole" "whole" (defArgs s_whole) (defBody s_whole) (defScope s_whole) dvs kws f fd) : FnD P w K mg base 7 f fd ["folders"] F_whole :=
  fn_ok (k := 6) F sc_whole (fun cdv A outer s H E hr => (pdss_one (pds_ret (pc_defN (ok_counted T) (hr.mono (by first | decide | omega)) (takes_of rfl rfl rfl rfl) (pda_cons (pd_var 0) (pda_cons (pd_frz (pc_met0N (ok_Folders_lots T) (hr.mono (by first | decide | omega)) (takes_of rfl rfl rfl rfl) (flatD0 _) (pd_var 0))) pda_nil))))))
theorem ok_whole (T : Tx K mg) : Def1 P w K mg base 7 "whole" ["folders"] [] F_whole := by
  obtain ⟨hm, fd, F⟩ := T.d_whole
  exact ⟨⟨_, fd, [], [], hm, F.kp, fn_whole T F, F.bindsN (fun _ _ _ _ _ _ us hl => match us, hl with | [_], _ => rfl), .nil, fun _ _ => .nil⟩⟩
theorem sc__law_q_made : FnScope ["_law_word", "_law_house", "_law_names_here"] ["_law_word", "_law_house", "_law_names_here"] (defScope s__law_q_made) := ⟨rfl, rfl, rfl, by decide +kernel, rfl, by decide +kernel, by decide +kernel⟩
theorem fn__law_q_made (T : Tx K mg) {f : Addr} {fd : FuncData} {dvs : List V} {kws : List (Str × V)} (F : FunD K "_law_q_made" "_law_q_made" (defArgs s__law_q_made) (defBody s__law_q_made) (defScope s__law_q_made) dvs kws f fd) : FnD P w K mg base 8 f fd ["_law_word", "_law_house", "_law_names_here"] F__law_q_made :=
  fn_ok (k := 7) F sc__law_q_made (fun cdv A outer s H E hr => (pdss_cons (pds_if (ct_eq hr (pd_var 0) pd_str) (pdss_one (pds_ret (pc_defN (ok_refers T) (hr.mono (by first | decide | omega)) (takes_of rfl rfl rfl rfl) (pda_cons (pd_var 1) (pda_cons (pd_var 2) pda_nil))))) pdss_nil)
      (pdss_cons (pds_if (ct_eq hr (pd_var 0) pd_str) (pdss_one (pds_ret (pc_defN (ok_freed T) (hr.mono (by first | decide | omega)) (takes_of rfl rfl rfl rfl) (pda_cons (pd_var 1) (pda_cons (pd_var 2) pda_nil))))) pdss_nil)
      (pdss_cons (pds_if (ct_eq hr (pd_var 0) pd_str) (pdss_one (pds_ret (pc_defN (ok_shared T) (hr.mono (by first | decide | omega)) (takes_of rfl rfl rfl rfl) (pda_cons (pd_var 1) (pda_cons (pd_var 2) pda_nil))))) pdss_nil)
      (pdss_cons (pds_if (ct_eq hr (pd_var 0) pd_str) (pdss_one (pds_ret (pc_defN (ok_just T) (hr.mono (by first | decide | omega)) (takes_of rfl rfl rfl rfl) (pda_cons (pd_var 1) (pda_cons (pd_var 2) pda_nil))))) pdss_nil)
      (pdss_one (pds_ret (pd_if (ct_eq hr (pd_var 0) pd_str) (pc_defN (ok_sent T) (hr.mono (by first | decide | omega)) (takes_of rfl rfl rfl rfl) (pda_cons (pd_var 1) (pda_cons (pd_ix (pd_var 2) pd_int) (pda_cons (pd_ix (pd_var 2) pd_int) pda_nil)))) (pc_defN (ok_whole T) (hr.mono (by first | decide | omega)) (takes_of rfl rfl rfl rfl) (pda_cons (pd_var 1) pda_nil))))))))))
theorem ok__law_q_made (T : Tx K mg) : Def1 P w K mg base 8 "_law_q_made" ["_law_word", "_law_house", "_law_names_here"] [] F__law_q_made := by
  obtain ⟨hm, fd, F⟩ := T.d__law_q_made
  exact ⟨⟨_, fd, [], [], hm, F.kp, fn__law_q_made T F, F.bindsN (fun _ _ _ _ _ _ us hl => match us, hl with | [_, _, _], _ => rfl), .nil, fun _ _ => .nil⟩⟩
theorem sc__law_q_named : FnScope ["_law_stream", "_law_house", "_law_names_here", "_law_lots", "_law_word", "_law_some", "_law_asked", "_law_name_here"] ["_law_stream", "_law_house", "_law_names_here", "_law_lots"] (defScope s__law_q_named) := ⟨rfl, rfl, rfl, by decide +kernel, rfl, by decide +kernel, by decide +kernel⟩
theorem fn__law_q_named (T : Tx K mg) {f : Addr} {fd : FuncData} {dvs : List V} {kws : List (Str × V)} (F : FunD K "_law_q_named" "_law_q_named" (defArgs s__law_q_named) (defBody s__law_q_named) (defScope s__law_q_named) dvs kws f fd) : FnD P w K mg base 9 f fd ["_law_stream", "_law_house", "_law_names_here", "_law_lots"] F__law_q_named :=
  fn_ok (k := 8) F sc__law_q_named (fun cdv A outer s H E hr => (pdss_cons (pds_set 4 sc__law_q_named.nd (pc_defN (ok__law_pick T) (hr.mono (by first | decide | omega)) (takes_of rfl rfl rfl rfl) (pda_cons (pd_var 0) (pda_cons (pd_lst (pda_cons pd_str (pda_cons pd_str (pda_cons pd_str (pda_cons pd_str (pda_cons pd_str (pda_cons pd_str (pda_cons pd_str (pda_cons pd_str pda_nil))))))))) pda_nil))))
      (pdss_cons (pds_setLc false 5 (own := [("_law_name_here", 7)]) rfl sc__law_q_named.nd (blkOk_by (by kernel_rfl)) (pdi_seq (pd_var 2)) (fun _ _ _ _ _ => (pdg_name 7 sc__law_q_named.nd)) (by decide) (fun _ _ _ _ _ => (pdts_one (ct_eq hr (pc_defN (ok__law_draw T) (hr.mono (by first | decide | omega)) takes0 (pda_cons (pd_var 0) (pda_cons pd_int pda_nil))) pd_int))) (fun _ _ _ _ _ => (pd_var 7)))
      (pdss_cons (pds_if (PDW.pdt (pdw_and (ct_in (pd_var 4) (pd_tup (pda_cons pd_str (pda_cons pd_str pda_nil)))) (pdw_and1 (ct_eq hr (pd_var 5) (pd_lst pda_nil))))) (pdss_one (pds_set 5 sc__law_q_named.nd (pd_lst (pda_cons (pc_defN (ok__law_pick T) (hr.mono (by first | decide | omega)) (takes_of rfl rfl rfl rfl) (pda_cons (pd_var 0) (pda_cons (pd_var 2) pda_nil))) pda_nil)))) pdss_nil)
      (pdss_cons (pds_if (ct_eq hr (pd_var 4) pd_str) (pdss_one (pds_set 5 sc__law_q_named.nd (pd_lst (pda_cons (pc_defN (ok__law_pick T) (hr.mono (by first | decide | omega)) (takes_of rfl rfl rfl rfl) (pda_cons (pd_var 0) (pda_cons (pd_var 2) pda_nil))) (pda_cons (pc_defN (ok__law_pick T) (hr.mono (by first | decide | omega)) (takes_of rfl rfl rfl rfl) (pda_cons (pd_var 0) (pda_cons (pd_var 2) pda_nil))) pda_nil))))) pdss_nil)
      (pdss_cons (pds_set 6 sc__law_q_named.nd (pd_if (ct_eq hr (pd_var 4) pd_str) (pd_var 5) (pc_defN (ok__law_mixed T) (hr.mono (by first | decide | omega)) (takes_of rfl rfl rfl rfl) (pda_cons (pd_var 0) (pda_cons (pd_var 5) pda_nil)))))
      (pdss_one (pds_ret (pd_tup (pda_cons (pc_defN (ok__law_q_made T) (hr.mono (by first | decide | omega)) (takes_of rfl rfl rfl rfl) (pda_cons (pd_var 4) (pda_cons (pd_var 1) (pda_cons (pd_var 6) pda_nil)))) (pda_cons (pc_defN (ok__law_q_counted T) (hr.mono (by first | decide | omega)) (takes_of rfl rfl rfl rfl) (pda_cons (pd_var 4) (pda_cons (pd_var 5) (pda_cons (pd_var 3) pda_nil)))) pda_nil)))))))))))
theorem ok__law_q_named (T : Tx K mg) : Def1 P w K mg base 9 "_law_q_named" ["_law_stream", "_law_house", "_law_names_here", "_law_lots"] [] F__law_q_named := by
  obtain ⟨hm, fd, F⟩ := T.d__law_q_named
  exact ⟨⟨_, fd, [], [], hm, F.kp, fn__law_q_named T F, F.bindsN (fun _ _ _ _ _ _ us hl => match us, hl with | [_, _, _, _], _ => rfl), .nil, fun _ _ => .nil⟩⟩
theorem sc_Folders___eq__ : FnScope ["self", "other"] ["self", "other"] (defScope s_Folders___eq__) := ⟨rfl, rfl, rfl, by decide +kernel, rfl, by decide +kernel, by decide +kernel⟩
theorem fn_Folders___eq__ (T : Tx K mg) {f : Addr} {fd : FuncData} {dvs : List V} {kws : List (Str × V)} (F : FunD K "__eq__" "Folders.__eq__" (defArgs s_Folders___eq__) (defBody s_Folders___eq__) (defScope s_Folders___eq__) dvs kws f fd) : FnD P w K mg base 1 f fd ["self", "other"] F_Folders___eq__ :=
  fn_ok (k := 0) F sc_Folders___eq__ (fun cdv A outer s H E hr => (pdss_one (pds_ret (pd_and (bf_isi T.kit T.f_isinstance (pda_cons (pd_var 1) (pda_cons (pg_c T.g_Folders) pda_nil))) (pd_and (cm_eq hr (pd_at T.at_names (pd_var 0)) (pd_at T.at_names (pd_var 1))) (pd_one (cm_eq hr (pd_at T.at_chain (pd_var 0)) (pd_at T.at_chain (pd_var 1)))))))))
theorem ok_Folders___eq__ (T : Tx K mg) : Met1 P w K mg base 1 "Folders" "__eq__" ["self", "other"] [] F_Folders___eq__ := by
  obtain ⟨hc, hm, fd, F⟩ := T.d_Folders___eq__
  exact ⟨⟨_, fd, [], [], hc, hm, fn_Folders___eq__ T F, F.bindsN (fun _ _ _ _ _ _ us hl => match us, hl with | [_, _], _ => rfl), .nil, fun _ _ => .nil⟩⟩
theorem sc_Question_check : FnScope ["self", "other"] ["self", "other"] (defScope s_Question_check) := ⟨rfl, rfl, rfl, by decide +kernel, rfl, by decide +kernel, by decide +kernel⟩
theorem fn_Question_check (T : Tx K mg) {f : Addr} {fd : FuncData} {dvs : List V} {kws : List (Str × V)} (F : FunD K "check" "Question.check" (defArgs s_Question_check) (defBody s_Question_check) (defScope s_Question_check) dvs kws f fd) : FnD P w K mg base 3 f fd ["self", "other"] F_Question_check :=
  fn_ok (k := 2) F sc_Question_check (fun cdv A outer s H E hr => (pdss_one (pds_if (pdt_cmpW (ow_ne (ok_Folders___eq__ T) (hr.mono (by first | decide | omega)) (takes_of rfl rfl rfl rfl) (flatD0 _) T.kit (by decide +kernel) T.ne_Folders rfl) (pd_at T.at_folders (pd_var 0)) (pd_at T.at_folders (pd_var 1))) (pdss_one pds_never) pdss_nil)))
theorem ok_Question_check (T : Tx K mg) : Met1 P w K mg base 3 "Question" "check" ["self", "other"] [] F_Question_check := by
  obtain ⟨hc, hm, fd, F⟩ := T.d_Question_check
  exact ⟨⟨_, fd, [], [], hc, hm, fn_Question_check T F, F.bindsN (fun _ _ _ _ _ _ us hl => match us, hl with | [_, _], _ => rfl), .nil, fun _ _ => .nil⟩⟩
theorem sc_Question___add__ : FnScope ["self", "other", "lot"] ["self", "other"] (defScope s_Question___add__) := ⟨rfl, rfl, rfl, by decide +kernel, rfl, by decide +kernel, by decide +kernel⟩
theorem fn_Question___add__ (T : Tx K mg) {f : Addr} {fd : FuncData} {dvs : List V} {kws : List (Str × V)} (F : FunD K "__add__" "Question.__add__" (defArgs s_Question___add__) (defBody s_Question___add__) (defScope s_Question___add__) dvs kws f fd) : FnD P w K mg base 6 f fd ["self", "other"] F_Question___add__ :=
  fn_ok (k := 5) F sc_Question___add__ (fun cdv A outer s H E hr => (pdss_cons (pds_expr (pc_metN (ok_Question_check T) (hr.mono (by first | decide | omega)) (takes_of rfl rfl rfl rfl) (flatD0 _) (pd_var 0) (pda_cons (pd_var 1) pda_nil)))
      (pdss_one (pds_ret (pd_frz (pc_makN (ok1_Question_2 T) (hr.mono (by first | decide | omega)) (takes_of rfl rfl rfl rfl) (flatD0 _) (pda_cons (pd_at T.at_folders (pd_var 0)) (pda_cons (bf_dict false hr rfl T.f_dict (pda_cons (pd_lc false (own := [("lot", 2)]) rfl sc_Question___add__.nd (blkOk_by (by kernel_rfl)) (pdi_keys (pd_at T.at_row (pd_var 0))) (fun _ _ _ _ _ => (pdg_name 2 sc_Question___add__.nd)) (by decide) (fun _ _ _ _ _ => pdts_nil) (fun _ _ _ _ _ => (pd_tup (pda_cons (pd_var 2) (pda_cons (pd_add (pd_ixD hr (pd_at T.at_row (pd_var 0)) (pd_var 2)) (pd_ixD hr (pd_at T.at_row (pd_var 1)) (pd_var 2))) pda_nil))))) pda_nil)) pda_nil))))))))
theorem ok_Question___add__ (T : Tx K mg) : Met1 P w K mg base 6 "Question" "__add__" ["self", "other"] [] F_Question___add__ := by
  obtain ⟨hc, hm, fd, F⟩ := T.d_Question___add__
  exact ⟨⟨_, fd, [], [], hc, hm, fn_Question___add__ T F, F.bindsN (fun _ _ _ _ _ _ us hl => match us, hl with | [_, _], _ => rfl), .nil, fun _ _ => .nil⟩⟩
theorem sc_Question___sub__ : FnScope ["self", "other", "lot"] ["self", "other"] (defScope s_Question___sub__) := ⟨rfl, rfl, rfl, by decide +kernel, rfl, by decide +kernel, by decide +kernel⟩
theorem fn_Question___sub__ (T : Tx K mg) {f : Addr} {fd : FuncData} {dvs : List V} {kws : List (Str × V)} (F : FunD K "__sub__" "Question.__sub__" (defArgs s_Question___sub__) (defBody s_Question___sub__) (defScope s_Question___sub__) dvs kws f fd) : FnD P w K mg base 6 f fd ["self", "other"] F_Question___sub__ :=
  fn_ok (k := 5) F sc_Question___sub__ (fun cdv A outer s H E hr => (pdss_cons (pds_expr (pc_metN (ok_Question_check T) (hr.mono (by first | decide | omega)) (takes_of rfl rfl rfl rfl) (flatD0 _) (pd_var 0) (pda_cons (pd_var 1) pda_nil)))
      (pdss_one (pds_ret (pd_frz (pc_makN (ok1_Question_2 T) (hr.mono (by first | decide | omega)) (takes_of rfl rfl rfl rfl) (flatD0 _) (pda_cons (pd_at T.at_folders (pd_var 0)) (pda_cons (bf_dict false hr rfl T.f_dict (pda_cons (pd_lc false (own := [("lot", 2)]) rfl sc_Question___sub__.nd (blkOk_by (by kernel_rfl)) (pdi_keys (pd_at T.at_row (pd_var 0))) (fun _ _ _ _ _ => (pdg_name 2 sc_Question___sub__.nd)) (by decide) (fun _ _ _ _ _ => pdts_nil) (fun _ _ _ _ _ => (pd_tup (pda_cons (pd_var 2) (pda_cons (pd_sub (pd_ixD hr (pd_at T.at_row (pd_var 0)) (pd_var 2)) (pd_ixD hr (pd_at T.at_row (pd_var 1)) (pd_var 2))) pda_nil))))) pda_nil)) pda_nil))))))))
theorem ok_Question___sub__ (T : Tx K mg) : Met1 P w K mg base 6 "Question" "__sub__" ["self", "other"] [] F_Question___sub__ := by
  obtain ⟨hc, hm, fd, F⟩ := T.d_Question___sub__
  exact ⟨⟨_, fd, [], [], hc, hm, fn_Question___sub__ T F, F.bindsN (fun _ _ _ _ _ _ us hl => match us, hl with | [_, _], _ => rfl), .nil, fun _ _ => .nil⟩⟩
theorem sc__law_q_drawn : FnScope ["_law_stream", "_law_house", "_law_names_here", "_law_lots", "_law_way", "_law_row", "_law_one", "_law_other", "_law_more", "_law_lot", "_law_x", "_law_y"] ["_law_stream", "_law_house", "_law_names_here", "_law_lots"] (defScope s__law_q_drawn) := ⟨rfl, rfl, rfl, by decide +kernel, rfl, by decide +kernel, by decide +kernel⟩
theorem fn__law_q_drawn (T : Tx K mg) {f : Addr} {fd : FuncData} {dvs : List V} {kws : List (Str × V)} (F : FunD K "_law_q_drawn" "_law_q_drawn" (defArgs s__law_q_drawn) (defBody s__law_q_drawn) (defScope s__law_q_drawn) dvs kws f fd) : FnD P w K mg base 10 f fd ["_law_stream", "_law_house", "_law_names_here", "_law_lots"] F__law_q_drawn :=
  fn_ok (k := 9) F sc__law_q_drawn (fun cdv A outer s H E hr => (pdss_cons (pds_set 4 sc__law_q_drawn.nd (pc_defN (ok__law_draw T) (hr.mono (by first | decide | omega)) (takes_of rfl rfl rfl rfl) (pda_cons (pd_var 0) (pda_cons pd_int pda_nil))))
      (pdss_cons (pds_asg (pc_defN (ok__law_q_named T) (hr.mono (by first | decide | omega)) (takes_of rfl rfl rfl rfl) (pda_cons (pd_var 0) (pda_cons (pd_var 1) (pda_cons (pd_var 2) (pda_cons (pd_var 3) pda_nil))))) (pdg_tup rfl (pdgs_cons (pdg_name 6 sc__law_q_drawn.nd) (pdgs_cons (pdg_name 5 sc__law_q_drawn.nd) pdgs_nil nox_nil) (nox_cons (nox_gN 5) nox_nil))))
      (pdss_cons (pds_if (ct_lt (pd_var 4) pd_int) (pdss_one (pds_ret (pd_tup (pda_cons (pd_var 6) (pda_cons (pd_var 5) pda_nil))))) pdss_nil)
      (pdss_cons (pds_if (ct_lt (pd_var 4) pd_int) (pdss_cons (pds_asg (pc_defN (ok__law_q_named T) (hr.mono (by first | decide | omega)) (takes_of rfl rfl rfl rfl) (pda_cons (pd_var 0) (pda_cons (pd_var 1) (pda_cons (pd_var 2) (pda_cons (pd_var 3) pda_nil))))) (pdg_tup rfl (pdgs_cons (pdg_name 7 sc__law_q_drawn.nd) (pdgs_cons (pdg_name 8 sc__law_q_drawn.nd) pdgs_nil nox_nil) (nox_cons (nox_gN 8) nox_nil))))
      (pdss_cons (pds_if (ct_eq hr (pd_var 4) pd_int) (pdss_one (pds_ret (pd_tup (pda_cons (pd_opW (ow_bin (op := .Add) (ok_Question___add__ T) (hr.mono (by first | decide | omega)) (takes_of rfl rfl rfl rfl) (flatD0 _) T.bin_Question_add rfl rfl) (pd_var 6) (pd_var 7)) (pda_cons (pd_lc false (own := [("_law_x", 10), ("_law_y", 11)]) rfl sc__law_q_drawn.nd (blkOk_by (by kernel_rfl)) (pdi_zipA rfl T.f_zip (pd_var 5) (pd_var 8)) (fun _ _ _ _ _ => (pdg_tup rfl (pdgs_cons (pdg_name 10 sc__law_q_drawn.nd) (pdgs_cons (pdg_name 11 sc__law_q_drawn.nd) pdgs_nil nox_nil) (nox_cons (nox_gN 11) nox_nil)))) (by decide) (fun _ _ _ _ _ => pdts_nil) (fun _ _ _ _ _ => (pd_add (pd_var 10) (pd_var 11)))) pda_nil))))) pdss_nil)
      (pdss_one (pds_ret (pd_tup (pda_cons (pd_opW (ow_bin (op := .Sub) (ok_Question___sub__ T) (hr.mono (by first | decide | omega)) (takes_of rfl rfl rfl rfl) (flatD0 _) T.bin_Question_sub rfl rfl) (pd_var 6) (pd_var 7)) (pda_cons (pd_lc false (own := [("_law_x", 10), ("_law_y", 11)]) rfl sc__law_q_drawn.nd (blkOk_by (by kernel_rfl)) (pdi_zipA rfl T.f_zip (pd_var 5) (pd_var 8)) (fun _ _ _ _ _ => (pdg_tup rfl (pdgs_cons (pdg_name 10 sc__law_q_drawn.nd) (pdgs_cons (pdg_name 11 sc__law_q_drawn.nd) pdgs_nil nox_nil) (nox_cons (nox_gN 11) nox_nil)))) (by decide) (fun _ _ _ _ _ => pdts_nil) (fun _ _ _ _ _ => (pd_sub (pd_var 10) (pd_var 11)))) pda_nil))))))) pdss_nil)
      (pdss_cons (pds_setLc false 5 (own := [("_law_lot", 9)]) rfl sc__law_q_drawn.nd (blkOk_by (by kernel_rfl)) (pdi_seq (pd_var 3)) (fun _ _ _ _ _ => (pdg_name 9 sc__law_q_drawn.nd)) (by decide) (fun _ _ _ _ _ => pdts_nil) (fun _ _ _ _ _ => (pd_sub (pc_defN (ok__law_draw T) (hr.mono (by first | decide | omega)) takes0 (pda_cons (pd_var 0) (pda_cons pd_int pda_nil))) pd_int)))
      (pdss_one (pds_ret (pd_tup (pda_cons (pd_frz (pc_makN (ok1_Question_2 T) (hr.mono (by first | decide | omega)) (takes_of rfl rfl rfl rfl) (flatD0 _) (pda_cons (pd_var 1) (pda_cons (bf_dict false hr rfl T.f_dict (pda_cons (pd_lc false (own := [("_law_lot", 9), ("_law_x", 10)]) rfl sc__law_q_drawn.nd (blkOk_by (by kernel_rfl)) (pdi_zipA rfl T.f_zip (pd_var 3) (pd_var 5)) (fun _ _ _ _ _ => (pdg_tup rfl (pdgs_cons (pdg_name 9 sc__law_q_drawn.nd) (pdgs_cons (pdg_name 10 sc__law_q_drawn.nd) pdgs_nil nox_nil) (nox_cons (nox_gN 10) nox_nil)))) (by decide) (fun _ _ _ _ _ => pdts_nil) (fun _ _ _ _ _ => (pd_tup (pda_cons (pd_var 9) (pda_cons (pd_var 10) pda_nil))))) pda_nil)) pda_nil)))) (pda_cons (pd_var 5) pda_nil)))))))))))
theorem ok__law_q_drawn (T : Tx K mg) : Def1 P w K mg base 10 "_law_q_drawn" ["_law_stream", "_law_house", "_law_names_here", "_law_lots"] [] F__law_q_drawn := by
  obtain ⟨hm, fd, F⟩ := T.d__law_q_drawn
  exact ⟨⟨_, fd, [], [], hm, F.kp, fn__law_q_drawn T F, F.bindsN (fun _ _ _ _ _ _ us hl => match us, hl with | [_, _, _, _], _ => rfl), .nil, fun _ _ => .nil⟩⟩
theorem sc_Question_in_freed : FnScope ["self", "found", "lot", "above", "other", "name"] ["self"] (defScope s_Question_in_freed) := ⟨rfl, rfl, rfl, by decide +kernel, rfl, by decide +kernel, by decide +kernel⟩
theorem fn_Question_in_freed (T : Tx K mg) {f : Addr} {fd : FuncData} {dvs : List V} {kws : List (Str × V)} (F : FunD K "in_freed" "Question.in_freed" (defArgs s_Question_in_freed) (defBody s_Question_in_freed) (defScope s_Question_in_freed) dvs kws f fd) : FnD P w K mg base 1 f fd ["self"] F_Question_in_freed :=
  fn_ok (k := 0) F sc_Question_in_freed (fun cdv A outer s H E hr => (pdss_cons (pds_set 1 sc_Question_in_freed.nd pd_d0T)
      (pdss_cons (pds_for (passes_of rfl) rfl (pdi_seq (pd_rev (bf_listD false rfl T.f_list (pda_cons (pd_at T.at_row (pd_var 0)) pda_nil)))) (pdg_name 2 sc_Question_in_freed.nd) (pdss_cons (pds_lkD 1 (pds_setLc false 3 (own := [("other", 4)]) rfl sc_Question_in_freed.nd (blkOk_by (by kernel_rfl)) (pdi_keys (pd_var 1)) (fun _ _ _ _ _ => (pdg_name 4 sc_Question_in_freed.nd)) (by decide) (fun _ _ _ _ _ => (pdts_one (pdt_val (bf_all rfl T.f_all (pda_cons (pd_lc false (own := [("name", 5)]) rfl sc_Question_in_freed.nd (blkOk_by (by kernel_rfl)) (pdi_seq (pd_var 2)) (fun _ _ _ _ _ => (pdg_name 5 sc_Question_in_freed.nd)) (by decide) (fun _ _ _ _ _ => pdts_nil) (fun _ _ _ _ _ => (cm_in (pd_var 5) (pd_var 4)))) pda_nil))))) (fun _ _ _ _ _ => (pd_ixD hr (pd_var 1) (pd_var 4)))))
      (pdss_one (pds_asg (pd_sub (pd_ixD hr (pd_at T.at_row (pd_var 0)) (pd_var 2)) (bf_sum rfl T.f_sum (pda_cons (pd_var 3) pda_nil))) (pdg_dx hr (pd_var 1) (pd_var 2))))))
      (pdss_one (pds_ret (bf_dict true hr rfl T.f_dict (pda_cons (pd_lc false (own := [("lot", 2)]) rfl sc_Question_in_freed.nd (blkOk_by (by kernel_rfl)) (pdi_keys (pd_at T.at_row (pd_var 0))) (fun _ _ _ _ _ => (pdg_name 2 sc_Question_in_freed.nd)) (by decide) (fun _ _ _ _ _ => (pdts_one (ct_ne hr (pd_ixD hr (pd_var 1) (pd_var 2)) pd_int))) (fun _ _ _ _ _ => (pd_tup (pda_cons (pd_var 2) (pda_cons (pd_ixD hr (pd_var 1) (pd_var 2)) pda_nil))))) pda_nil)))))))
theorem ok_Question_in_freed (T : Tx K mg) : Met1 P w K mg base 1 "Question" "in_freed" ["self"] [] F_Question_in_freed := by
  obtain ⟨hc, hm, fd, F⟩ := T.d_Question_in_freed
  exact ⟨⟨_, fd, [], [], hc, hm, fn_Question_in_freed T F, F.bindsN (fun _ _ _ _ _ _ us hl => match us, hl with | [_], _ => rfl), .nil, fun _ _ => .nil⟩⟩
theorem sc_Question___mul__ : FnScope ["self", "number", "lot"] ["self", "number"] (defScope s_Question___mul__) := ⟨rfl, rfl, rfl, by decide +kernel, rfl, by decide +kernel, by decide +kernel⟩
theorem fn_Question___mul__ (T : Tx K mg) {f : Addr} {fd : FuncData} {dvs : List V} {kws : List (Str × V)} (F : FunD K "__mul__" "Question.__mul__" (defArgs s_Question___mul__) (defBody s_Question___mul__) (defScope s_Question___mul__) dvs kws f fd) : FnD P w K mg base 6 f fd ["self", "number"] F_Question___mul__ :=
  fn_ok (k := 5) F sc_Question___mul__ (fun cdv A outer s H E hr => (pdss_cons (pds_if (pdt_not (pdt_val (pc_defN (ok_is_whole T) (hr.mono (by first | decide | omega)) (takes_of rfl rfl rfl rfl) (pda_cons (pd_var 1) pda_nil)))) (pdss_one pds_never) pdss_nil)
      (pdss_one (pds_ret (pd_frz (pc_makN (ok1_Question_2 T) (hr.mono (by first | decide | omega)) (takes_of rfl rfl rfl rfl) (flatD0 _) (pda_cons (pd_at T.at_folders (pd_var 0)) (pda_cons (bf_dict false hr rfl T.f_dict (pda_cons (pd_lc false (own := [("lot", 2)]) rfl sc_Question___mul__.nd (blkOk_by (by kernel_rfl)) (pdi_keys (pd_at T.at_row (pd_var 0))) (fun _ _ _ _ _ => (pdg_name 2 sc_Question___mul__.nd)) (by decide) (fun _ _ _ _ _ => pdts_nil) (fun _ _ _ _ _ => (pd_tup (pda_cons (pd_var 2) (pda_cons (pd_mul (pd_ixD hr (pd_at T.at_row (pd_var 0)) (pd_var 2)) (pd_var 1)) pda_nil))))) pda_nil)) pda_nil))))))))
theorem ok_Question___mul__ (T : Tx K mg) : Met1 P w K mg base 6 "Question" "__mul__" ["self", "number"] [] F_Question___mul__ := by
  obtain ⟨hc, hm, fd, F⟩ := T.d_Question___mul__
  exact ⟨⟨_, fd, [], [], hc, hm, fn_Question___mul__ T F, F.bindsN (fun _ _ _ _ _ _ us hl => match us, hl with | [_, _], _ => rfl), .nil, fun _ _ => .nil⟩⟩
theorem sc_Question___rmul__ : FnScope ["self", "number"] ["self", "number"] (defScope s_Question___rmul__) := ⟨rfl, rfl, rfl, by decide +kernel, rfl, by decide +kernel, by decide +kernel⟩
theorem fn_Question___rmul__ (T : Tx K mg) {f : Addr} {fd : FuncData} {dvs : List V} {kws : List (Str × V)} (F : FunD K "__rmul__" "Question.__rmul__" (defArgs s_Question___rmul__) (defBody s_Question___rmul__) (defScope s_Question___rmul__) dvs kws f fd) : FnD P w K mg base 7 f fd ["self", "number"] F_Question___rmul__ :=
  fn_ok (k := 6) F sc_Question___rmul__ (fun cdv A outer s H E hr => (pdss_one (pds_ret (pd_opW (ow_binI (op := .Mult) (ok_Question___mul__ T) (hr.mono (by first | decide | omega)) (takes_of rfl rfl rfl rfl) (flatD0 _) T.kit (by decide +kernel) T.bin_Question_mul rfl rfl) (pd_var 0) (pd_var 1)))))
theorem ok_Question___rmul__ (T : Tx K mg) : Met1 P w K mg base 7 "Question" "__rmul__" ["self", "number"] [] F_Question___rmul__ := by
  obtain ⟨hc, hm, fd, F⟩ := T.d_Question___rmul__
  exact ⟨⟨_, fd, [], [], hc, hm, fn_Question___rmul__ T F, F.bindsN (fun _ _ _ _ _ _ us hl => match us, hl with | [_, _], _ => rfl), .nil, fun _ _ => .nil⟩⟩
theorem sc__law_summed : FnScope ["_law_house", "_law_lots", "_law_numbers", "_law_found", "_law_lot"] ["_law_house", "_law_lots", "_law_numbers"] (defScope s__law_summed) := ⟨rfl, rfl, rfl, by decide +kernel, rfl, by decide +kernel, by decide +kernel⟩
theorem fn__law_summed (T : Tx K mg) {f : Addr} {fd : FuncData} {dvs : List V} {kws : List (Str × V)} (F : FunD K "_law_summed" "_law_summed" (defArgs s__law_summed) (defBody s__law_summed) (defScope s__law_summed) dvs kws f fd) : FnD P w K mg base 8 f fd ["_law_house", "_law_lots", "_law_numbers"] F__law_summed :=
  fn_ok (k := 7) F sc__law_summed (fun cdv A outer s H E hr => (pdss_cons (pds_set 3 sc__law_summed.nd (pd_frz (pc_makN (ok1_Question_1 T) (hr.mono (by first | decide | omega)) (takes_of rfl rfl rfl rfl) (flatD0 _) (pda_cons (pd_var 0) pda_nil))))
      (pdss_cons (pds_for (passes_of rfl) rfl (pdi_seq (pd_var 1)) (pdg_name 4 sc__law_summed.nd) (pdss_one (pds_if (ct_inD hr (pd_var 4) (pd_var 2)) (pdss_one (pds_set 3 sc__law_summed.nd (pd_opW (ow_bin (op := .Add) (ok_Question___add__ T) (hr.mono (by first | decide | omega)) (takes_of rfl rfl rfl rfl) (flatD0 _) T.bin_Question_add rfl rfl) (pd_var 3) (pd_opW (ow_rbin (ok_Question___rmul__ T) (ok_Question___mul__ T) (hr.mono (by first | decide | omega)) (takes_of rfl rfl rfl rfl) (flatD0 _) T.kit (by decide +kernel) T.bin_Question_mul rfl) (pd_ixD hr (pd_var 2) (pd_var 4)) (pc_defN (ok_freed T) (hr.mono (by first | decide | omega)) (takes_of rfl rfl rfl rfl) (pda_cons (pd_var 0) (pda_cons (pd_var 4) pda_nil))))))) pdss_nil)))
      (pdss_one (pds_ret (pd_var 3))))))
theorem ok__law_summed (T : Tx K mg) : Def1 P w K mg base 8 "_law_summed" ["_law_house", "_law_lots", "_law_numbers"] [] F__law_summed := by
  obtain ⟨hm, fd, F⟩ := T.d__law_summed
  exact ⟨⟨_, fd, [], [], hm, F.kp, fn__law_summed T F, F.bindsN (fun _ _ _ _ _ _ us hl => match us, hl with | [_, _, _], _ => rfl), .nil, fun _ _ => .nil⟩⟩
theorem sc_Question___eq__ : FnScope ["self", "other"] ["self", "other"] (defScope s_Question___eq__) := ⟨rfl, rfl, rfl, by decide +kernel, rfl, by decide +kernel, by decide +kernel⟩
theorem fn_Question___eq__ (T : Tx K mg) {f : Addr} {fd : FuncData} {dvs : List V} {kws : List (Str × V)} (F : FunD K "__eq__" "Question.__eq__" (defArgs s_Question___eq__) (defBody s_Question___eq__) (defScope s_Question___eq__) dvs kws f fd) : FnD P w K mg base 2 f fd ["self", "other"] F_Question___eq__ :=
  fn_ok (k := 1) F sc_Question___eq__ (fun cdv A outer s H E hr => (pdss_one (pds_ret (pd_and (bf_isi T.kit T.f_isinstance (pda_cons (pd_var 1) (pda_cons (pg_c T.g_Question) pda_nil))) (pd_and (pd_cmpW (ow_own (op := .Eq) (ok_Folders___eq__ T) (hr.mono (by first | decide | omega)) (takes_of rfl rfl rfl rfl) (flatD0 _) T.kit (by decide +kernel) rfl) (pd_at T.at_folders (pd_var 0)) (pd_at T.at_folders (pd_var 1))) (pd_one (cm_eqD hr (pd_at T.at_row (pd_var 0)) (pd_at T.at_row (pd_var 1)))))))))
theorem ok_Question___eq__ (T : Tx K mg) : Met1 P w K mg base 2 "Question" "__eq__" ["self", "other"] [] F_Question___eq__ := by
  obtain ⟨hc, hm, fd, F⟩ := T.d_Question___eq__
  exact ⟨⟨_, fd, [], [], hc, hm, fn_Question___eq__ T F, F.bindsN (fun _ _ _ _ _ _ us hl => match us, hl with | [_, _], _ => rfl), .nil, fun _ _ => .nil⟩⟩
theorem sc__law_same : FnScope ["_law_found", "_law_due", "_law_x", "_law_y"] ["_law_found", "_law_due"] (defScope s__law_same) := ⟨rfl, rfl, rfl, by decide +kernel, rfl, by decide +kernel, by decide +kernel⟩
theorem fn__law_same (T : Tx K mg) (n : Nat) {f : Addr} {fd : FuncData} {dvs : List V} {kws : List (Str × V)} {self_ : HL} (ih : ∀ {P : Program} {w : World} {base : Heap}, Def1 P w K mg base (0 + n) "_law_same" ["_law_found", "_law_due"] [] self_) (F : FunD K "_law_same" "_law_same" (defArgs s__law_same) (defBody s__law_same) (defScope s__law_same) dvs kws f fd) : FnD P w K mg base (0 + n + 1) f fd ["_law_found", "_law_due"] (runF 4 (b__law_same self_)) :=
  fn_ok (k := 0 + n) F sc__law_same (fun cdv A outer s H E hr => (pdss_cons (pds_if (pdt_val (bf_isi T.kit T.f_isinstance (pda_cons (pd_var 1) (pda_cons (pd_tup (pda_cons (pd_bltn rfl T.f_list (by decide +kernel)) (pda_cons (pd_bltn rfl T.f_tuple (by decide +kernel)) pda_nil))) pda_nil)))) (pdss_cons (pds_if (PDW.pdt (pdw_or (ct_ne hr (bf_isi T.kit T.f_isinstance (pda_cons (pd_var 0) (pda_cons (pd_bltn rfl T.f_list (by decide +kernel)) pda_nil))) (bf_isi T.kit T.f_isinstance (pda_cons (pd_var 1) (pda_cons (pd_bltn rfl T.f_list (by decide +kernel)) pda_nil)))) (pdw_or1 (ct_ne hr (bf_isi T.kit T.f_isinstance (pda_cons (pd_var 0) (pda_cons (pd_bltn rfl T.f_tuple (by decide +kernel)) pda_nil))) (bf_isi T.kit T.f_isinstance (pda_cons (pd_var 1) (pda_cons (pd_bltn rfl T.f_tuple (by decide +kernel)) pda_nil))))))) (pdss_one (pds_ret pd_bl)) pdss_nil)
      (pdss_one (pds_ret (pd_and (cm_eq hr (bf_len T.f_len (pda_cons (pd_var 0) pda_nil)) (bf_len T.f_len (pda_cons (pd_var 1) pda_nil))) (pd_one (bf_all rfl T.f_all (pda_cons (pd_lkO 0 (pd_lc false (own := [("_law_x", 2), ("_law_y", 3)]) rfl sc__law_same.nd (blkOk_by (by kernel_rfl)) (pdi_zipA rfl T.f_zip (pd_var 0) (pd_var 1)) (fun _ _ _ _ _ => (pdg_tup rfl (pdgs_cons (pdg_name 2 sc__law_same.nd) (pdgs_cons (pdg_name 3 sc__law_same.nd) pdgs_nil nox_nil) (nox_cons (nox_gN 3) nox_nil)))) (by decide) (fun _ _ _ _ _ => pdts_nil) (fun _ _ _ _ _ => (pc_defN ih (hr.mono (by first | decide | omega)) takes0 (pda_cons (pd_var 2) (pda_cons (pd_var 3) pda_nil)))))) pda_nil))))))) pdss_nil)
      (pdss_cons (pds_if (pdt_val (bf_isi T.kit T.f_isinstance (pda_cons (pd_var 1) (pda_cons (pd_bltn rfl T.f_int (by decide +kernel)) pda_nil)))) (pdss_one (pds_ret (pd_and (bf_isi T.kit T.f_isinstance (pda_cons (pd_var 0) (pda_cons (pd_bltn rfl T.f_int (by decide +kernel)) pda_nil))) (pd_and (cm_eq hr (bf_isi T.kit T.f_isinstance (pda_cons (pd_var 0) (pda_cons (pd_bltn rfl T.f_bool (by decide +kernel)) pda_nil))) (bf_isi T.kit T.f_isinstance (pda_cons (pd_var 1) (pda_cons (pd_bltn rfl T.f_bool (by decide +kernel)) pda_nil)))) (pd_one (cm_eq hr (pd_var 0) (pd_var 1))))))) pdss_nil)
      (pdss_one (pds_ret (pd_and (cm_is (bf_isi T.kit T.f_isinstance (pda_cons (pd_var 0) (pda_cons (pd_tup (pda_cons (pd_bltn rfl T.f_int (by decide +kernel)) (pda_cons (pd_bltn rfl T.f_list (by decide +kernel)) (pda_cons (pd_bltn rfl T.f_tuple (by decide +kernel)) pda_nil)))) pda_nil))) pd_bl) (pd_one (cm_eq hr (pd_var 0) (pd_var 1)))))))))
theorem ok__law_same (T : Tx K mg) : ∀ (n : Nat) {P : Program} {w : World} {base : Heap}, Def1 P w K mg base (0 + n) "_law_same" ["_law_found", "_law_due"] [] (F__law_same n)
  | 0, P, w, base => by
    obtain ⟨hm, fd, F⟩ := T.d__law_same
    exact ⟨⟨_, fd, [], [], hm, F.kp, fn_bad, F.bindsN (fun _ _ _ _ _ _ us hl => match us, hl with | [_, _], _ => rfl), .nil, fun _ _ => .nil⟩⟩
  | n + 1, P, w, base => by
    obtain ⟨hm, fd, F⟩ := T.d__law_same
    have z : FnD P w K mg base (0 + n + 1) _ fd _ _ := fn__law_same T n (ok__law_same T n) F
    exact ⟨⟨_, fd, [], [], hm, F.kp, z, F.bindsN (fun _ _ _ _ _ _ us hl => match us, hl with | [_, _], _ => rfl), .nil, fun _ _ => .nil⟩⟩
theorem sc_law : FnScope ["_law_script", "_law_stream", "_law_turn", "_law_is_chain", "_law_names_here", "_law_told", "_law_pairs", "_law_numbers", "_law_found", "_law_back", "_law_both", "_law_summed_here", "_law_house", "_law_lots", "_law_question", "_law_row", "_law_lot", "_law_x"] ["_law_script"] (defScope s_law) := ⟨rfl, rfl, rfl, by decide +kernel, rfl, by decide +kernel, by decide +kernel⟩
theorem fn_law (T : Tx K mg) {f : Addr} {fd : FuncData} {dvs : List V} {kws : List (Str × V)} (F : FunD K "law" "law" (defArgs s_law) (defBody s_law) (defScope s_law) dvs kws f fd) : FnD P w K mg base 11 f fd ["_law_script"] F_law :=
  fn_ok (k := 10) F sc_law (fun cdv A outer s H E hr => (pdss_cons (pds_set 1 sc_law.nd (pc_defN (ok__law_start T) (hr.mono (by first | decide | omega)) (takes_of rfl rfl rfl rfl) (pda_cons (pd_var 0) pda_nil)))
      (pdss_cons (pds_for (passes_of rfl) rfl (pdi_range1 rfl T.f_range pd_int) (pdg_name 2 sc_law.nd) (pdss_cons (pds_set 3 sc_law.nd (cm_eq hr (pc_defN (ok__law_draw T) (hr.mono (by first | decide | omega)) (takes_of rfl rfl rfl rfl) (pda_cons (pd_var 1) (pda_cons pd_int pda_nil))) pd_int))
      (pdss_cons (pds_set 4 sc_law.nd (pc_defN (ok__law_names T) (hr.mono (by first | decide | omega)) (takes_of rfl rfl rfl rfl) (pda_cons (pd_var 1) (pda_cons (pd_add pd_int (pc_defN (ok__law_draw T) (hr.mono (by first | decide | omega)) (takes_of rfl rfl rfl rfl) (pda_cons (pd_var 1) (pda_cons (pd_if (pdt_val (pd_var 3)) pd_int pd_int) pda_nil)))) pda_nil))))
      (pdss_cons (pds_par 12 13 rfl sc_law.nd (pda_cons (pd_frz (pc_makKN (okK_Folders T) (hr.mono (by first | decide | omega)) (takes_of rfl rfl rfl rfl) (flatD0 _) (pda_cons (pd_var 4) pda_nil) (pdk_cons (pd_var 3) pdk_nil))) (pda_cons (pc_defN (ok__law_b_lots T) (hr.mono (by first | decide | omega)) (takes_of rfl rfl rfl rfl) (pda_cons (pd_var 4) (pda_cons (pd_var 3) pda_nil))) pda_nil)))
      (pdss_cons (pds_asg (pc_defN (ok__law_q_drawn T) (hr.mono (by first | decide | omega)) (takes_of rfl rfl rfl rfl) (pda_cons (pd_var 1) (pda_cons (pd_var 12) (pda_cons (pd_var 4) (pda_cons (pd_var 13) pda_nil))))) (pdg_tup rfl (pdgs_cons (pdg_name 14 sc_law.nd) (pdgs_cons (pdg_name 15 sc_law.nd) pdgs_nil nox_nil) (nox_cons (nox_gN 15) nox_nil))))
      (pdss_cons (pds_set 5 sc_law.nd (pc_met0N (ok_Question_in_freed T) (hr.mono (by first | decide | omega)) (takes_of rfl rfl rfl rfl) (flatD0 _) (pd_var 14)))
      (pdss_cons (pds_if (PDW.pdt (pdw_or (pdt_not (pdt_val (bf_isi T.kit T.f_isinstance (pda_cons (pd_var 5) (pda_cons (pd_bltn rfl T.f_dict (by decide +kernel)) pda_nil))))) (pdw_or1 (ct_ne hr (bf_listD false rfl T.f_list (pda_cons (pd_var 5) pda_nil)) (pd_lc false (own := [("_law_lot", 16)]) rfl sc_law.nd (blkOk_by (by kernel_rfl)) (pdi_seq (pd_var 13)) (fun _ _ _ _ _ => (pdg_name 16 sc_law.nd)) (by decide) (fun _ _ _ _ _ => (pdts_one (ct_inD hr (pd_var 16) (pd_var 5)))) (fun _ _ _ _ _ => (pd_var 16))))))) (pdss_one (pds_ret pd_bl)) pdss_nil)
      (pdss_cons (pds_if (pdt_not (pdt_val (bf_all rfl T.f_all (pda_cons (pd_lkD 5 (pd_lc false (own := [("_law_x", 17)]) rfl sc_law.nd (blkOk_by (by kernel_rfl)) (pdi_vals (pd_var 5)) (fun _ _ _ _ _ => (pdg_name 17 sc_law.nd)) (by decide) (fun _ _ _ _ _ => pdts_nil) (fun _ _ _ _ _ => (pd_and (bf_isi T.kit T.f_isinstance (pda_cons (pd_var 17) (pda_cons (pd_bltn rfl T.f_int (by decide +kernel)) pda_nil))) (pd_and (pd_not (bf_isi T.kit T.f_isinstance (pda_cons (pd_var 17) (pda_cons (pd_bltn rfl T.f_bool (by decide +kernel)) pda_nil)))) (pd_one (cm_ne hr (pd_var 17) pd_int))))))) pda_nil)))) (pdss_one (pds_ret pd_bl)) pdss_nil)
      (pdss_cons (pds_if (pdt_cmpW (ow_ne (ok_Question___eq__ T) (hr.mono (by first | decide | omega)) (takes_of rfl rfl rfl rfl) (flatD0 _) T.kit (by decide +kernel) T.ne_Question rfl) (pc_defN (ok__law_summed T) (hr.mono (by first | decide | omega)) (takes_of rfl rfl rfl rfl) (pda_cons (pd_var 12) (pda_cons (pd_var 13) (pda_cons (pd_var 5) pda_nil)))) (pd_var 14)) (pdss_one (pds_ret pd_bl)) pdss_nil)
      (pdss_cons (pds_setLc false 6 (own := [("_law_lot", 16)]) rfl sc_law.nd (blkOk_by (by kernel_rfl)) (pdi_seq (pd_var 13)) (fun _ _ _ _ _ => (pdg_name 16 sc_law.nd)) (by decide) (fun _ _ _ _ _ => pdts_nil) (fun _ _ _ _ _ => (pd_tup (pda_cons (pd_var 16) (pda_cons (pc_defN (ok__law_pick T) (hr.mono (by first | decide | omega)) takes0 (pda_cons (pd_var 1) (pda_cons (pd_lst (pda_cons pd_int (pda_cons pd_int (pda_cons pd_int (pda_cons (pd_neg pd_int) (pda_cons pd_int (pda_cons (pd_neg pd_int) pda_nil))))))) pda_nil))) pda_nil)))))
      (pdss_cons (pds_set 7 sc_law.nd (bf_dict false hr rfl T.f_dict (pda_cons (pd_lc false (own := [("_law_lot", 16), ("_law_x", 17)]) rfl sc_law.nd (blkOk_by (by kernel_rfl)) (pdi_seq (pd_var 6)) (fun _ _ _ _ _ => (pdg_tup rfl (pdgs_cons (pdg_name 16 sc_law.nd) (pdgs_cons (pdg_name 17 sc_law.nd) pdgs_nil nox_nil) (nox_cons (nox_gN 17) nox_nil)))) (by decide) (fun _ _ _ _ _ => (pdts_one (ct_ne hr (pd_var 17) pd_int))) (fun _ _ _ _ _ => (pd_tup (pda_cons (pd_var 16) (pda_cons (pd_var 17) pda_nil))))) pda_nil)))
      (pdss_cons (pds_set 8 sc_law.nd (pc_met0N (ok_Question_in_freed T) (hr.mono (by first | decide | omega)) (takes_of rfl rfl rfl rfl) (flatD0 _) (pc_defN (ok__law_summed T) (hr.mono (by first | decide | omega)) (takes_of rfl rfl rfl rfl) (pda_cons (pd_var 12) (pda_cons (pd_var 13) (pda_cons (pd_var 7) pda_nil))))))
      (pdss_cons (pds_setLc false 9 (own := [("_law_lot", 16)]) rfl sc_law.nd (blkOk_by (by kernel_rfl)) (pdi_seq (pd_var 13)) (fun _ _ _ _ _ => (pdg_name 16 sc_law.nd)) (by decide) (fun _ _ _ _ _ => pdts_nil) (fun _ _ _ _ _ => (pd_get2 hr (pd_var 8) (pd_var 16) pd_int)))
      (pdss_cons (pds_if (PDW.pdt (pdw_or (pdt_not (pdt_val (pc_defN (ok__law_same T 4) (hr.mono (by first | decide | omega)) (takes_of rfl rfl rfl rfl) (pda_cons (pd_var 9) (pda_cons (pd_lc false (own := [("_law_lot", 16), ("_law_x", 17)]) rfl sc_law.nd (blkOk_by (by kernel_rfl)) (pdi_seq (pd_var 6)) (fun _ _ _ _ _ => (pdg_tup rfl (pdgs_cons (pdg_name 16 sc_law.nd) (pdgs_cons (pdg_name 17 sc_law.nd) pdgs_nil nox_nil) (nox_cons (nox_gN 17) nox_nil)))) (by decide) (fun _ _ _ _ _ => pdts_nil) (fun _ _ _ _ _ => (pd_var 17))) pda_nil))))) (pdw_or1 (ct_ne hr (bf_lenD T.f_len (pda_cons (pd_var 8) pda_nil)) (bf_lenD T.f_len (pda_cons (pd_var 7) pda_nil)))))) (pdss_one (pds_ret pd_bl)) pdss_nil)
      (pdss_cons (pds_set 10 sc_law.nd (pd_frz (pc_met0N (ok_Question_in_freed T) (hr.mono (by first | decide | omega)) (takes_of rfl rfl rfl rfl) (flatD0 _) (pd_opW (ow_bin (op := .Add) (ok_Question___add__ T) (hr.mono (by first | decide | omega)) (takes_of rfl rfl rfl rfl) (flatD0 _) T.bin_Question_add rfl rfl) (pd_var 14) (pc_defN (ok__law_summed T) (hr.mono (by first | decide | omega)) (takes_of rfl rfl rfl rfl) (pda_cons (pd_var 12) (pda_cons (pd_var 13) (pda_cons (pd_var 7) pda_nil))))))))
      (pdss_cons (pds_setLc false 11 (own := [("_law_lot", 16), ("_law_x", 17)]) rfl sc_law.nd (blkOk_by (by kernel_rfl)) (pdi_seq (pd_var 6)) (fun _ _ _ _ _ => (pdg_tup rfl (pdgs_cons (pdg_name 16 sc_law.nd) (pdgs_cons (pdg_name 17 sc_law.nd) pdgs_nil nox_nil) (nox_cons (nox_gN 17) nox_nil)))) (by decide) (fun _ _ _ _ _ => pdts_nil) (fun _ _ _ _ _ => (pd_add (pd_get2 hr (pd_var 5) (pd_var 16) pd_int) (pd_var 17))))
      (pdss_cons (pds_if (pdt_not (pdt_val (pc_defN (ok__law_same T 4) (hr.mono (by first | decide | omega)) (takes_of rfl rfl rfl rfl) (pda_cons (pd_lc false (own := [("_law_lot", 16)]) rfl sc_law.nd (blkOk_by (by kernel_rfl)) (pdi_seq (pd_var 13)) (fun _ _ _ _ _ => (pdg_name 16 sc_law.nd)) (by decide) (fun _ _ _ _ _ => pdts_nil) (fun _ _ _ _ _ => (pd_get2 hr (pd_var 10) (pd_var 16) pd_int))) (pda_cons (pd_var 11) pda_nil))))) (pdss_one (pds_ret pd_bl)) pdss_nil)
      (pdss_cons (pds_asg pd_int (pdg_dx hr (pd_var 8) (pd_ix (pd_var 13) pd_int)))
      (pdss_cons (pds_asg pd_int (pdg_dx hr (pd_var 5) (pd_ix (pd_var 13) pd_int)))
      (pdss_one (pds_if (pdt_cmpW (ow_ne (ok_Question___eq__ T) (hr.mono (by first | decide | omega)) (takes_of rfl rfl rfl rfl) (flatD0 _) T.kit (by decide +kernel) T.ne_Question rfl) (pc_defN (ok__law_summed T) (hr.mono (by first | decide | omega)) (takes_of rfl rfl rfl rfl) (pda_cons (pd_var 12) (pda_cons (pd_var 13) (pda_cons (pd_frz (pc_met0N (ok_Question_in_freed T) (hr.mono (by first | decide | omega)) (takes_of rfl rfl rfl rfl) (flatD0 _) (pd_var 14))) pda_nil)))) (pd_var 14)) (pdss_one (pds_ret pd_bl)) pdss_nil)))))))))))))))))))))
      (pdss_one (pds_ret pd_bl)))))
theorem ok_law (T : Tx K mg) : Def1 P w K mg base 11 "law" ["_law_script"] [] F_law := by
  obtain ⟨hm, fd, F⟩ := T.d_law
  exact ⟨⟨_, fd, [], [], hm, F.kp, fn_law T F, F.bindsN (fun _ _ _ _ _ _ us hl => match us, hl with | [_], _ => rfl), .nil, fun _ _ => .nil⟩⟩
end
def dd__law_start : He.DefD := ⟨("_law_start", none), "_law_start", "_law_start", defArgs s__law_start, defBody s__law_start, defScope s__law_start, [], []⟩
def dd__law_draw : He.DefD := ⟨("_law_draw", none), "_law_draw", "_law_draw", defArgs s__law_draw, defBody s__law_draw, defScope s__law_draw, [], []⟩
def dd__law_pick : He.DefD := ⟨("_law_pick", none), "_law_pick", "_law_pick", defArgs s__law_pick, defBody s__law_pick, defScope s__law_pick, [], []⟩
def dd__law_name : He.DefD := ⟨("_law_name", none), "_law_name", "_law_name", defArgs s__law_name, defBody s__law_name, defScope s__law_name, [], []⟩
def dd__law_names : He.DefD := ⟨("_law_names", none), "_law_names", "_law_names", defArgs s__law_names, defBody s__law_names, defScope s__law_names, [], []⟩
def dd__law_b_rows : He.DefD := ⟨("_law_b_rows", none), "_law_b_rows", "_law_b_rows", defArgs s__law_b_rows, defBody s__law_b_rows, defScope s__law_b_rows, [], []⟩
def dd__law_b_lots : He.DefD := ⟨("_law_b_lots", none), "_law_b_lots", "_law_b_lots", defArgs s__law_b_lots, defBody s__law_b_lots, defScope s__law_b_lots, [], []⟩
def dd_is_list : He.DefD := ⟨("is_list", none), "is_list", "is_list", defArgs s_is_list, defBody s_is_list, defScope s_is_list, [], []⟩
def dd_is_name : He.DefD := ⟨("is_name", none), "is_name", "is_name", defArgs s_is_name, defBody s_is_name, defScope s_is_name, [], []⟩
def dd_Folders___init__ : He.DefD := ⟨("Folders", some "__init__"), "__init__", "Folders.__init__", defArgs s_Folders___init__, defBody s_Folders___init__, defScope s_Folders___init__, [], [("chain", .bl false)]⟩
def dd__law_mixed : He.DefD := ⟨("_law_mixed", none), "_law_mixed", "_law_mixed", defArgs s__law_mixed, defBody s__law_mixed, defScope s__law_mixed, [], []⟩
def dd__law_q_counted : He.DefD := ⟨("_law_q_counted", none), "_law_q_counted", "_law_q_counted", defArgs s__law_q_counted, defBody s__law_q_counted, defScope s__law_q_counted, [], []⟩
def dd_Folders___contains__ : He.DefD := ⟨("Folders", some "__contains__"), "__contains__", "Folders.__contains__", defArgs s_Folders___contains__, defBody s_Folders___contains__, defScope s_Folders___contains__, [], []⟩
def dd_Folders_chosen : He.DefD := ⟨("Folders", some "chosen"), "chosen", "Folders.chosen", defArgs s_Folders_chosen, defBody s_Folders_chosen, defScope s_Folders_chosen, [], []⟩
def dd_chosen_places : He.DefD := ⟨("chosen_places", none), "chosen_places", "chosen_places", defArgs s_chosen_places, defBody s_chosen_places, defScope s_chosen_places, [], []⟩
def dd_Folders_lots : He.DefD := ⟨("Folders", some "lots"), "lots", "Folders.lots", defArgs s_Folders_lots, defBody s_Folders_lots, defScope s_Folders_lots, [], []⟩
def dd_Folders_lot_of : He.DefD := ⟨("Folders", some "lot_of"), "lot_of", "Folders.lot_of", defArgs s_Folders_lot_of, defBody s_Folders_lot_of, defScope s_Folders_lot_of, [], []⟩
def dd_is_whole : He.DefD := ⟨("is_whole", none), "is_whole", "is_whole", defArgs s_is_whole, defBody s_is_whole, defScope s_is_whole, [], []⟩
def dd_row_of : He.DefD := ⟨("row_of", none), "row_of", "row_of", defArgs s_row_of, defBody s_row_of, defScope s_row_of, [], []⟩
def dd_Question___init__ : He.DefD := ⟨("Question", some "__init__"), "__init__", "Question.__init__", defArgs s_Question___init__, defBody s_Question___init__, defScope s_Question___init__, [.non], []⟩
def dd_counted : He.DefD := ⟨("counted", none), "counted", "counted", defArgs s_counted, defBody s_counted, defScope s_counted, [], []⟩
def dd_refers : He.DefD := ⟨("refers", none), "refers", "refers", defArgs s_refers, defBody s_refers, defScope s_refers, [], []⟩
def dd_freed : He.DefD := ⟨("freed", none), "freed", "freed", defArgs s_freed, defBody s_freed, defScope s_freed, [], []⟩
def dd_shared : He.DefD := ⟨("shared", none), "shared", "shared", defArgs s_shared, defBody s_shared, defScope s_shared, [], []⟩
def dd_just : He.DefD := ⟨("just", none), "just", "just", defArgs s_just, defBody s_just, defScope s_just, [], []⟩
def dd_sent : He.DefD := ⟨("sent", none), "sent", "sent", defArgs s_sent, defBody s_sent, defScope s_sent, [], []⟩
def dd_whole : He.DefD := ⟨("whole", none), "whole", "whole", defArgs s_whole, defBody s_whole, defScope s_whole, [], []⟩
def dd__law_q_made : He.DefD := ⟨("_law_q_made", none), "_law_q_made", "_law_q_made", defArgs s__law_q_made, defBody s__law_q_made, defScope s__law_q_made, [], []⟩
def dd__law_q_named : He.DefD := ⟨("_law_q_named", none), "_law_q_named", "_law_q_named", defArgs s__law_q_named, defBody s__law_q_named, defScope s__law_q_named, [], []⟩
def dd_Folders___eq__ : He.DefD := ⟨("Folders", some "__eq__"), "__eq__", "Folders.__eq__", defArgs s_Folders___eq__, defBody s_Folders___eq__, defScope s_Folders___eq__, [], []⟩
def dd_Question_check : He.DefD := ⟨("Question", some "check"), "check", "Question.check", defArgs s_Question_check, defBody s_Question_check, defScope s_Question_check, [], []⟩
def dd_Question___add__ : He.DefD := ⟨("Question", some "__add__"), "__add__", "Question.__add__", defArgs s_Question___add__, defBody s_Question___add__, defScope s_Question___add__, [], []⟩
def dd_Question___sub__ : He.DefD := ⟨("Question", some "__sub__"), "__sub__", "Question.__sub__", defArgs s_Question___sub__, defBody s_Question___sub__, defScope s_Question___sub__, [], []⟩
def dd__law_q_drawn : He.DefD := ⟨("_law_q_drawn", none), "_law_q_drawn", "_law_q_drawn", defArgs s__law_q_drawn, defBody s__law_q_drawn, defScope s__law_q_drawn, [], []⟩
def dd_Question_in_freed : He.DefD := ⟨("Question", some "in_freed"), "in_freed", "Question.in_freed", defArgs s_Question_in_freed, defBody s_Question_in_freed, defScope s_Question_in_freed, [], []⟩
def dd_Question___mul__ : He.DefD := ⟨("Question", some "__mul__"), "__mul__", "Question.__mul__", defArgs s_Question___mul__, defBody s_Question___mul__, defScope s_Question___mul__, [], []⟩
def dd_Question___rmul__ : He.DefD := ⟨("Question", some "__rmul__"), "__rmul__", "Question.__rmul__", defArgs s_Question___rmul__, defBody s_Question___rmul__, defScope s_Question___rmul__, [], []⟩
def dd__law_summed : He.DefD := ⟨("_law_summed", none), "_law_summed", "_law_summed", defArgs s__law_summed, defBody s__law_summed, defScope s__law_summed, [], []⟩
def dd_Question___eq__ : He.DefD := ⟨("Question", some "__eq__"), "__eq__", "Question.__eq__", defArgs s_Question___eq__, defBody s_Question___eq__, defScope s_Question___eq__, [], []⟩
def dd__law_same : He.DefD := ⟨("_law_same", none), "_law_same", "_law_same", defArgs s__law_same, defBody s__law_same, defScope s__law_same, [], []⟩
def dd_law : He.DefD := ⟨("law", none), "law", "law", defArgs s_law, defBody s_law, defScope s_law, [], []⟩
def fn : List He.DefD := [dd__law_start, dd__law_draw, dd__law_pick, dd__law_name, dd__law_names, dd__law_b_rows, dd__law_b_lots, dd_is_list, dd_is_name, dd_Folders___init__, dd__law_mixed, dd__law_q_counted, dd_Folders___contains__, dd_Folders_chosen, dd_chosen_places, dd_Folders_lots, dd_Folders_lot_of, dd_is_whole, dd_row_of, dd_Question___init__, dd_counted, dd_refers, dd_freed, dd_shared, dd_just, dd_sent, dd_whole, dd__law_q_made, dd__law_q_named, dd_Folders___eq__, dd_Question_check, dd_Question___add__, dd_Question___sub__, dd__law_q_drawn, dd_Question_in_freed, dd_Question___mul__, dd_Question___rmul__, dd__law_summed, dd_Question___eq__, dd__law_same, dd_law]
def fa : List He.Fa := [.free "all", .free "any", .free "bool", .free "dict", .free "enumerate", .free "int", .free "isinstance", .free "len", .free "list", .free "range", .free "str", .free "sum", .free "tuple", .free "zip", .str "LETTERS" "abcdefghijklmnopqrstuvwxyz", .int "LONGEST" 8, .int "MOST" 5, .int "MOST_IN_CHAIN" 12, .glo "Folders", .glo "Question", .cls "Folders", .noat "Folders" "chain", .cls "Question", .noat "Question" "folders", .noat "Folders" "names", .noat "Question" "row", .glo "_law_start", .glo "_law_draw", .glo "_law_pick", .glo "_law_name", .glo "_law_names", .glo "_law_b_rows", .glo "_law_b_lots", .glo "is_list", .glo "is_name", .mkr "Folders", .glo "_law_mixed", .glo "_law_q_counted", .meth "Folders" "__contains__", .meth "Folders" "chosen", .glo "chosen_places", .meth "Folders" "lots", .meth "Folders" "lot_of", .glo "is_whole", .glo "row_of", .mkr "Question", .glo "counted", .glo "refers", .glo "freed", .glo "shared", .glo "just", .glo "sent", .glo "whole", .glo "_law_q_made", .glo "_law_q_named", .meth "Folders" "__eq__", .meth "Question" "check", .meth "Question" "__add__", .meth "Question" "__sub__", .glo "_law_q_drawn", .meth "Question" "in_freed", .meth "Question" "__mul__", .meth "Question" "__rmul__", .glo "_law_summed", .meth "Question" "__eq__", .glo "_law_same", .glo "law"]
def ex (K : PySem.W.Frag) : Bool := exKit own K && (exNe K "Folders" && (exNe K "Question" && (exBin K "Question" "add" && (exBin K "Question" "mul" && (exBin K "Question" "sub")))))
theorem tx {K : PySem.W.Frag} {h : Heap} {w : World} {mg : Str → Option Value} (X : K.In h) (G : h.Ns mainGlobals mg) (c : He.SaysX fa fn [] [] ex w h K) : Tx K mg := by
  have e0 : ex K = true := c.more
  unfold ex at e0
  obtain ⟨e0, e0'⟩ := band e0
  obtain ⟨e1, e1'⟩ := band e0'
  obtain ⟨e2, e2'⟩ := band e1'
  obtain ⟨e3, e3'⟩ := band e2'
  obtain ⟨e4, e4'⟩ := band e3'
  have e5 := e4'
  have cd : He.SaysD fa fn K := He.SaysT.d c.t
  have fx : ∀ (i : Nat) {f : He.Fa}, fa[i]? = some f → f.ok K = true := fun i f h => cd.fact i h
  exact {
    f_all := He.free_ok X G (fx 0 (by rfl) : (.free "all" : He.Fa).ok K = true)
    f_any := He.free_ok X G (fx 1 (by rfl) : (.free "any" : He.Fa).ok K = true)
    f_bool := He.free_ok X G (fx 2 (by rfl) : (.free "bool" : He.Fa).ok K = true)
    f_dict := He.free_ok X G (fx 3 (by rfl) : (.free "dict" : He.Fa).ok K = true)
    f_enumerate := He.free_ok X G (fx 4 (by rfl) : (.free "enumerate" : He.Fa).ok K = true)
    f_int := He.free_ok X G (fx 5 (by rfl) : (.free "int" : He.Fa).ok K = true)
    f_isinstance := He.free_ok X G (fx 6 (by rfl) : (.free "isinstance" : He.Fa).ok K = true)
    f_len := He.free_ok X G (fx 7 (by rfl) : (.free "len" : He.Fa).ok K = true)
    f_list := He.free_ok X G (fx 8 (by rfl) : (.free "list" : He.Fa).ok K = true)
    f_range := He.free_ok X G (fx 9 (by rfl) : (.free "range" : He.Fa).ok K = true)
    f_str := He.free_ok X G (fx 10 (by rfl) : (.free "str" : He.Fa).ok K = true)
    f_sum := He.free_ok X G (fx 11 (by rfl) : (.free "sum" : He.Fa).ok K = true)
    f_tuple := He.free_ok X G (fx 12 (by rfl) : (.free "tuple" : He.Fa).ok K = true)
    f_zip := He.free_ok X G (fx 13 (by rfl) : (.free "zip" : He.Fa).ok K = true)
    c_LETTERS := He.str_ok X G (fx 14 (by rfl) : (.str "LETTERS" "abcdefghijklmnopqrstuvwxyz" : He.Fa).ok K = true)
    c_LONGEST := He.int_ok X G (fx 15 (by rfl) : (.int "LONGEST" 8 : He.Fa).ok K = true)
    c_MOST := He.int_ok X G (fx 16 (by rfl) : (.int "MOST" 5 : He.Fa).ok K = true)
    c_MOST_IN_CHAIN := He.int_ok X G (fx 17 (by rfl) : (.int "MOST_IN_CHAIN" 12 : He.Fa).ok K = true)
    kit := exKit_ok (e0)
    g_Folders := He.glo_ok X G (fx 18 (by rfl) : (.glo "Folders" : He.Fa).ok K = true)
    g_Question := He.glo_ok X G (fx 19 (by rfl) : (.glo "Question" : He.Fa).ok K = true)
    at_chain := fun c hc => by
      simp only [List.mem_cons, List.not_mem_nil, or_false] at hc
      subst hc
      · exact ⟨He.cls_ok (fx 20 (by rfl) : (.cls "Folders" : He.Fa).ok K = true), He.noat_ok (fx 21 (by rfl) : (.noat "Folders" "chain" : He.Fa).ok K = true)⟩
    at_folders := fun c hc => by
      simp only [List.mem_cons, List.not_mem_nil, or_false] at hc
      subst hc
      · exact ⟨He.cls_ok (fx 22 (by rfl) : (.cls "Question" : He.Fa).ok K = true), He.noat_ok (fx 23 (by rfl) : (.noat "Question" "folders" : He.Fa).ok K = true)⟩
    at_names := fun c hc => by
      simp only [List.mem_cons, List.not_mem_nil, or_false] at hc
      subst hc
      · exact ⟨He.cls_ok (fx 20 (by rfl) : (.cls "Folders" : He.Fa).ok K = true), He.noat_ok (fx 24 (by rfl) : (.noat "Folders" "names" : He.Fa).ok K = true)⟩
    at_row := fun c hc => by
      simp only [List.mem_cons, List.not_mem_nil, or_false] at hc
      subst hc
      · exact ⟨He.cls_ok (fx 22 (by rfl) : (.cls "Question" : He.Fa).ok K = true), He.noat_ok (fx 25 (by rfl) : (.noat "Question" "row" : He.Fa).ok K = true)⟩
    ne_Folders := exNe_ok (e1)
    ne_Question := exNe_ok (e2)
    bin_Question_add := exBin_ok (e3)
    bin_Question_mul := exBin_ok (e4)
    bin_Question_sub := exBin_ok (e5)
    d__law_start := ⟨He.glo_ok X G (fx 26 (by rfl) : (.glo "_law_start" : He.Fa).ok K = true), cd.def_ 0 (d := dd__law_start) rfl⟩
    d__law_draw := ⟨He.glo_ok X G (fx 27 (by rfl) : (.glo "_law_draw" : He.Fa).ok K = true), cd.def_ 1 (d := dd__law_draw) rfl⟩
    d__law_pick := ⟨He.glo_ok X G (fx 28 (by rfl) : (.glo "_law_pick" : He.Fa).ok K = true), cd.def_ 2 (d := dd__law_pick) rfl⟩
    d__law_name := ⟨He.glo_ok X G (fx 29 (by rfl) : (.glo "_law_name" : He.Fa).ok K = true), cd.def_ 3 (d := dd__law_name) rfl⟩
    d__law_names := ⟨He.glo_ok X G (fx 30 (by rfl) : (.glo "_law_names" : He.Fa).ok K = true), cd.def_ 4 (d := dd__law_names) rfl⟩
    d__law_b_rows := ⟨He.glo_ok X G (fx 31 (by rfl) : (.glo "_law_b_rows" : He.Fa).ok K = true), cd.def_ 5 (d := dd__law_b_rows) rfl⟩
    d__law_b_lots := ⟨He.glo_ok X G (fx 32 (by rfl) : (.glo "_law_b_lots" : He.Fa).ok K = true), cd.def_ 6 (d := dd__law_b_lots) rfl⟩
    d_is_list := ⟨He.glo_ok X G (fx 33 (by rfl) : (.glo "is_list" : He.Fa).ok K = true), cd.def_ 7 (d := dd_is_list) rfl⟩
    d_is_name := ⟨He.glo_ok X G (fx 34 (by rfl) : (.glo "is_name" : He.Fa).ok K = true), cd.def_ 8 (d := dd_is_name) rfl⟩
    d_Folders___init__ := ⟨He.glo_ok X G (fx 18 (by rfl) : (.glo "Folders" : He.Fa).ok K = true), He.mkr_ok (fx 35 (by rfl) : (.mkr "Folders" : He.Fa).ok K = true), cd.def_ 9 (d := dd_Folders___init__) rfl⟩
    d__law_mixed := ⟨He.glo_ok X G (fx 36 (by rfl) : (.glo "_law_mixed" : He.Fa).ok K = true), cd.def_ 10 (d := dd__law_mixed) rfl⟩
    d__law_q_counted := ⟨He.glo_ok X G (fx 37 (by rfl) : (.glo "_law_q_counted" : He.Fa).ok K = true), cd.def_ 11 (d := dd__law_q_counted) rfl⟩
    d_Folders___contains__ := ⟨He.cls_ok (fx 20 (by rfl) : (.cls "Folders" : He.Fa).ok K = true), He.meth_ok (fx 38 (by rfl) : (.meth "Folders" "__contains__" : He.Fa).ok K = true), cd.def_ 12 (d := dd_Folders___contains__) rfl⟩
    d_Folders_chosen := ⟨He.cls_ok (fx 20 (by rfl) : (.cls "Folders" : He.Fa).ok K = true), He.meth_ok (fx 39 (by rfl) : (.meth "Folders" "chosen" : He.Fa).ok K = true), cd.def_ 13 (d := dd_Folders_chosen) rfl⟩
    d_chosen_places := ⟨He.glo_ok X G (fx 40 (by rfl) : (.glo "chosen_places" : He.Fa).ok K = true), cd.def_ 14 (d := dd_chosen_places) rfl⟩
    d_Folders_lots := ⟨He.cls_ok (fx 20 (by rfl) : (.cls "Folders" : He.Fa).ok K = true), He.meth_ok (fx 41 (by rfl) : (.meth "Folders" "lots" : He.Fa).ok K = true), cd.def_ 15 (d := dd_Folders_lots) rfl⟩
    d_Folders_lot_of := ⟨He.cls_ok (fx 20 (by rfl) : (.cls "Folders" : He.Fa).ok K = true), He.meth_ok (fx 42 (by rfl) : (.meth "Folders" "lot_of" : He.Fa).ok K = true), cd.def_ 16 (d := dd_Folders_lot_of) rfl⟩
    d_is_whole := ⟨He.glo_ok X G (fx 43 (by rfl) : (.glo "is_whole" : He.Fa).ok K = true), cd.def_ 17 (d := dd_is_whole) rfl⟩
    d_row_of := ⟨He.glo_ok X G (fx 44 (by rfl) : (.glo "row_of" : He.Fa).ok K = true), cd.def_ 18 (d := dd_row_of) rfl⟩
    d_Question___init__ := ⟨He.glo_ok X G (fx 19 (by rfl) : (.glo "Question" : He.Fa).ok K = true), He.mkr_ok (fx 45 (by rfl) : (.mkr "Question" : He.Fa).ok K = true), cd.def_ 19 (d := dd_Question___init__) rfl⟩
    d_counted := ⟨He.glo_ok X G (fx 46 (by rfl) : (.glo "counted" : He.Fa).ok K = true), cd.def_ 20 (d := dd_counted) rfl⟩
    d_refers := ⟨He.glo_ok X G (fx 47 (by rfl) : (.glo "refers" : He.Fa).ok K = true), cd.def_ 21 (d := dd_refers) rfl⟩
    d_freed := ⟨He.glo_ok X G (fx 48 (by rfl) : (.glo "freed" : He.Fa).ok K = true), cd.def_ 22 (d := dd_freed) rfl⟩
    d_shared := ⟨He.glo_ok X G (fx 49 (by rfl) : (.glo "shared" : He.Fa).ok K = true), cd.def_ 23 (d := dd_shared) rfl⟩
    d_just := ⟨He.glo_ok X G (fx 50 (by rfl) : (.glo "just" : He.Fa).ok K = true), cd.def_ 24 (d := dd_just) rfl⟩
    d_sent := ⟨He.glo_ok X G (fx 51 (by rfl) : (.glo "sent" : He.Fa).ok K = true), cd.def_ 25 (d := dd_sent) rfl⟩
    d_whole := ⟨He.glo_ok X G (fx 52 (by rfl) : (.glo "whole" : He.Fa).ok K = true), cd.def_ 26 (d := dd_whole) rfl⟩
    d__law_q_made := ⟨He.glo_ok X G (fx 53 (by rfl) : (.glo "_law_q_made" : He.Fa).ok K = true), cd.def_ 27 (d := dd__law_q_made) rfl⟩
    d__law_q_named := ⟨He.glo_ok X G (fx 54 (by rfl) : (.glo "_law_q_named" : He.Fa).ok K = true), cd.def_ 28 (d := dd__law_q_named) rfl⟩
    d_Folders___eq__ := ⟨He.cls_ok (fx 20 (by rfl) : (.cls "Folders" : He.Fa).ok K = true), He.meth_ok (fx 55 (by rfl) : (.meth "Folders" "__eq__" : He.Fa).ok K = true), cd.def_ 29 (d := dd_Folders___eq__) rfl⟩
    d_Question_check := ⟨He.cls_ok (fx 22 (by rfl) : (.cls "Question" : He.Fa).ok K = true), He.meth_ok (fx 56 (by rfl) : (.meth "Question" "check" : He.Fa).ok K = true), cd.def_ 30 (d := dd_Question_check) rfl⟩
    d_Question___add__ := ⟨He.cls_ok (fx 22 (by rfl) : (.cls "Question" : He.Fa).ok K = true), He.meth_ok (fx 57 (by rfl) : (.meth "Question" "__add__" : He.Fa).ok K = true), cd.def_ 31 (d := dd_Question___add__) rfl⟩
    d_Question___sub__ := ⟨He.cls_ok (fx 22 (by rfl) : (.cls "Question" : He.Fa).ok K = true), He.meth_ok (fx 58 (by rfl) : (.meth "Question" "__sub__" : He.Fa).ok K = true), cd.def_ 32 (d := dd_Question___sub__) rfl⟩
    d__law_q_drawn := ⟨He.glo_ok X G (fx 59 (by rfl) : (.glo "_law_q_drawn" : He.Fa).ok K = true), cd.def_ 33 (d := dd__law_q_drawn) rfl⟩
    d_Question_in_freed := ⟨He.cls_ok (fx 22 (by rfl) : (.cls "Question" : He.Fa).ok K = true), He.meth_ok (fx 60 (by rfl) : (.meth "Question" "in_freed" : He.Fa).ok K = true), cd.def_ 34 (d := dd_Question_in_freed) rfl⟩
    d_Question___mul__ := ⟨He.cls_ok (fx 22 (by rfl) : (.cls "Question" : He.Fa).ok K = true), He.meth_ok (fx 61 (by rfl) : (.meth "Question" "__mul__" : He.Fa).ok K = true), cd.def_ 35 (d := dd_Question___mul__) rfl⟩
    d_Question___rmul__ := ⟨He.cls_ok (fx 22 (by rfl) : (.cls "Question" : He.Fa).ok K = true), He.meth_ok (fx 62 (by rfl) : (.meth "Question" "__rmul__" : He.Fa).ok K = true), cd.def_ 36 (d := dd_Question___rmul__) rfl⟩
    d__law_summed := ⟨He.glo_ok X G (fx 63 (by rfl) : (.glo "_law_summed" : He.Fa).ok K = true), cd.def_ 37 (d := dd__law_summed) rfl⟩
    d_Question___eq__ := ⟨He.cls_ok (fx 22 (by rfl) : (.cls "Question" : He.Fa).ok K = true), He.meth_ok (fx 64 (by rfl) : (.meth "Question" "__eq__" : He.Fa).ok K = true), cd.def_ 38 (d := dd_Question___eq__) rfl⟩
    d__law_same := ⟨He.glo_ok X G (fx 65 (by rfl) : (.glo "_law_same" : He.Fa).ok K = true), cd.def_ 39 (d := dd__law_same) rfl⟩
    d_law := ⟨He.glo_ok X G (fx 66 (by rfl) : (.glo "law" : He.Fa).ok K = true), cd.def_ 40 (d := dd_law) rfl⟩
  }
abbrev R : PySem.W.OpenRow := PySem.W.OpenLaw.row PySem.Challenge.rw_blockshares_k08_whole_sums_of_freed
abbrev hk : PySem.W.Hook := He.hookX 5 fa fn [] [] ex
def ob (s : PySem.W.SharedT) : He.AlX := He.obsX 5 fa fn [] [] ex (HandSHeadRun.getT s)
theorem ob_eq (s : PySem.W.SharedT) : ob s = hk.obs s.abs := He.obsX_eq (HandSHeadRun.getT_eq s)
def loose : List Str := (["_wall", "ShareError", "BadFolders", "BadLot", "BadNumber", "NoFolder", "UnlikeFolders", "LETTERS", "LONGEST", "is_name", "is_list", "is_whole", "MOST", "MOST_IN_CHAIN", "chosen_places", "Folders"] : List Str) ++ (["Question", "row_of", "counted", "refers", "freed", "shared", "just", "sent", "whole", "_law_start", "_law_draw", "_law_pick", "_law_mixed", "_law_same", "_law_name", "_law_names"] : List Str) ++ (["_law_b_rows", "_law_b_lots", "_law_q_counted", "_law_q_made", "_law_q_named", "_law_q_drawn", "_law_summed"] : List Str)
theorem run (w : World) : HandSHeadRun.RunEq R (PySem.W.view R.prog [44]) hk ob 4000 loose w := by
  intro os
  kernel_rfl
end K08
end
section
set_option maxRecDepth 100000
set_option maxHeartbeats 0
open PySem PySem.W PySem.Calls PyProof.Rows
theorem PySem.Challenge.cw_blockshares_k08_whole_sums_of_freed_holds : PySem.Challenge.rw_blockshares_k08_whole_sums_of_freed.Holds := by
  w_on; o_law
  refine HandSHeadRun.head_any (r := OpenLaw.row PySem.Challenge.rw_blockshares_k08_whole_sums_of_freed) (q := view (OpenLaw.row PySem.Challenge.rw_blockshares_k08_whole_sums_of_freed).prog [44]) (H := K08.hk) (ob := K08.ob) (M := 4000) (loose := K08.loose) (d := HandSHeadRun.topDef (OpenLaw.row PySem.Challenge.rw_blockshares_k08_whole_sums_of_freed).prog 44) (kwd := []) K08.ob_eq
    (by kernel_rfl) (fun s => by kernel_rfl) K08.run (by kernel_rfl) (by kernel_rfl) (by kernel_rfl) (by rfl) (by first | assumption | decide +kernel) (by decide +kernel) ⟨rfl, rfl, rfl, rfl, rfl, by decide +kernel⟩ ?hw ?hc
  case hw => w_witness2
  case hc =>
    refine DL.walk_ofD (l := PySem.Challenge.rw_blockshares_k08_whole_sums_of_freed) (n := 63) (k := 11) (x := "_law_script") (F := K08.F_law) rfl (by decide) (by kernel_rfl) ⟨rfl, by decide, by decide⟩ ?G (fun cs _ => K08.law_ok cs)
    intro w mg fa h Y G hmg0
    obtain ⟨K, KX, c⟩ := Y
    have hmg : mg ("law" : PySem.Str) = some (.ref fa) := by
      have e : (HandSHeadRun.topDef (OpenLaw.row PySem.Challenge.rw_blockshares_k08_whole_sums_of_freed).prog 44).name = ("law" : PySem.Str) := by kernel_rfl
      rw [← e]
      exact hmg0
    have T := K08.tx KX G c
    obtain ⟨hm, fd, F⟩ := T.d_law
    have e := hmg.symm.trans hm
    cases e
    have b := L2.FunD.bindsA (ps := ["_law_script"]) F fun _ _ _ _ _ _ us hl => match us, hl with | [_], _ => rfl
    exact ⟨K, fd, KX, fun s v => b s [v] rfl, fun base _ _ => K08.fn_law T F⟩
end
