import PyProof.Rows.All
import Wide.All
import OpenK.AllK
import Wide.FinOn
import HandS.ForMost
import HandS.ForExc
import HandS.More
import HandS.Defaults
import HandS.CallSlots
import HandS.TryMany
import HandS.HeadHook2
import HandS.TupAny
import HandS.Flow
import HandS.IsInst
import HandS.TupMul
import HandS.Wide
import HandS.Dict
import HandS.WordsExc
import HandS.Zip
import KE.GoesEnum
import HandS.Small
import HandS.Comp
import HandS.Text
import HandS.RaiseMore
import PyProof.ReprRoads
import HandS.SortInts
import HandS.WordsDict
import KE.KExcSuper
import KE.KSuper
import HandS.ExcOwn
import HandS.ExcValue
import HandS.ExcInit
import HandS.ExcIs
import HandS.ExcField
import PyProof.InstNe
import HandS.HeadEnd
import HandS.Head0
import HandS.Head1
import HandS.Head2
import PySem.Challenge.RW_hiddenfalls_k07_other_words
set_option Elab.async false
set_option linter.all false
set_option maxRecDepth 100000
set_option maxHeartbeats 2000000
/-! DL: Python data as trees, over the hand layer -/
namespace DL
open PySem PySem.Spec PyProof.Rows L2
abbrev Fg := PySem.W.Frag

/-! ### names of classes and fields -/
def cnames : List Str := ["FallError", "BadMachine", "BadRow", "BadHistory", "BadKeeper", "BadView", "BadText", "Refused", "PaperFault", "TooGreat", "HasFork", "NoState", "NoDeed", "NoNote", "Machine", "Keeper"]
def cname (c : Nat) : Str := cnames.getD c "?"
def fnames : List Str := ["at", "most", "paper", "state", "deed", "note", "states", "deeds", "tables", "words", "reached", "notes", "shows", "does", "backs"]
def fname (f : Nat) : Str := fnames.getD f "?"

/-! ### data -/
/-- a dict's key: an int, a text, or a tuple of such -/
inductive KK where
  | k (k : Key)
  | t (l : List Key)
  deriving DecidableEq
inductive D where
  | non
  | bl (b : Bool)
  | int (i : Int)
  | str (s : Str)
  | tup (l : List D)
  | lst (l : List D)
  | rol (l : List D)
  | dct (t : Bool) (l : List (KK × D))
  | ins (c : Nat) (fs : List (Nat × D))
  | cel (n : Nat)
  | loc (i : Nat)
  | exn (c : Nat) (fs : List (Nat × D))

inductive Cell where
  | lst (l : List D)
  | dct (t : Bool) (l : List (KK × D))
  | ins (c : Nat) (fs : List (Nat × D))
  | slf (c : Nat) (fs : List (Nat × D))
  | dead
inductive Slot where
  | non
  | d (x : D)
  | own (c : Cell)
abbrev Env := List Slot
abbrev Mu := List Cell
structure Exn where
  c : Nat
  fs : List (Nat × D)
/-- the written part; the exception at hand, if any -/
structure Kx where
  K : Fg
  hx : Option (Addr × Value × Option Addr)
  cs : List Nat

mutual
inductive Is (κ : Kx) (m : List Addr) (F : Hp) : V → D → Prop
  | non : Is κ m F .non .non
  | bl (b : Bool) : Is κ m F (.bl b) (.bl b)
  | int (i : Int) : Is κ m F (.int i) (.int i)
  | str (s : Str) : Is κ m F (.str s) (.str s)
  | tup {a : Addr} {xs : List V} {l : List D} : F a = some (.tup xs) → IsL κ m F xs l → Is κ m F (.ref a) (.tup l)
  | lst {a : Addr} {xs : List V} {l : List D} : F a = some (.lst xs) → IsL κ m F xs l → Is κ m F (.ref a) (.lst l)
  | rol {a : Addr} {xs : List V} {l : List D} : SqL κ.K F a xs → IsL κ m F xs l → Is κ m F (.ref a) (.rol l)
  | dct {a : Addr} {kvs : List (Key × V)} {l : List (KK × D)} : F a = some (.dK kvs) → IsK κ m F kvs l → Is κ m F (.ref a) (.dct false l)
  | dctT {a : Addr} {kvs : List (List Key × V)} {l : List (KK × D)} : F a = some (.dT kvs) → IsT κ m F kvs l → Is κ m F (.ref a) (.dct true l)
  | ins {a dx : Addr} {fs : List (Str × V)} {c : Nat} {gs : List (Nat × D)} : c ∈ κ.cs → F a = some (.ins (He.ga κ.K (cname c)) dx fs) → IsF κ m F fs gs → Is κ m F (.ref a) (.ins c gs)
  | cel {a : Addr} {n : Nat} : m[n]? = some a → Is κ m F (.ref a) (.cel n)
inductive IsL (κ : Kx) (m : List Addr) (F : Hp) : List V → List D → Prop
  | nil : IsL κ m F [] []
  | cons {v : V} {d : D} {vs : List V} {ds : List D} : Is κ m F v d → IsL κ m F vs ds → IsL κ m F (v :: vs) (d :: ds)
inductive IsK (κ : Kx) (m : List Addr) (F : Hp) : List (Key × V) → List (KK × D) → Prop
  | nil : IsK κ m F [] []
  | cons {k : Key} {v : V} {d : D} {vs : List (Key × V)} {ds : List (KK × D)} : Is κ m F v d → IsK κ m F vs ds → IsK κ m F ((k, v) :: vs) ((.k k, d) :: ds)
inductive IsT (κ : Kx) (m : List Addr) (F : Hp) : List (List Key × V) → List (KK × D) → Prop
  | nil : IsT κ m F [] []
  | cons {k : List Key} {v : V} {d : D} {vs : List (List Key × V)} {ds : List (KK × D)} : Is κ m F v d → IsT κ m F vs ds → IsT κ m F ((k, v) :: vs) ((.t k, d) :: ds)
inductive IsF (κ : Kx) (m : List Addr) (F : Hp) : List (Str × V) → List (Nat × D) → Prop
  | nil : IsF κ m F [] []
  | cons {f : Nat} {v : V} {d : D} {vs : List (Str × V)} {ds : List (Nat × D)} : Is κ m F v d → IsF κ m F vs ds → IsF κ m F ((fname f, v) :: vs) ((f, d) :: ds)
end

/-! ### growing heaps -/
structure Gr (m : List Addr) (F : Hp) (m' : List Addr) (F' : Hp) : Prop where
  pm : ∀ (n : Nat) (a : Addr), m[n]? = some a → m'[n]? = some a
  pF : ∀ (a : Addr) (o : HO), F a = some o → F' a = some o
theorem Gr.refl (m : List Addr) (F : Hp) : Gr m F m F := ⟨fun _ _ h => h, fun _ _ h => h⟩
theorem Gr.trans {m m1 m2 : List Addr} {F F1 F2 : Hp} (a : Gr m F m1 F1) (b : Gr m1 F1 m2 F2) : Gr m F m2 F2 :=
  ⟨fun n x h => b.pm n x (a.pm n x h), fun x o h => b.pF x o (a.pF x o h)⟩
theorem sqL_mono {K : Fg} {F F' : Hp} {a : Addr} {xs : List V} (g : ∀ (a : Addr) (o : HO), F a = some o → F' a = some o) (h : SqL K F a xs) : SqL K F' a xs := Same.seq (fun b o => g b o) h
theorem sqT_mono {K : Fg} {F F' : Hp} {a : Addr} {xs : List V} (g : ∀ (a : Addr) (o : HO), F a = some o → F' a = some o) (h : SqT K F a xs) : SqT K F' a xs := by
  rcases h with (h | ⟨o, h⟩) | h
  · exact .inl (.inl (g _ _ h))
  · exact .inl (.inr ⟨o, g _ _ h⟩)
  · exact .inr h
section
variable {κ : Kx} {m m' : List Addr} {F F' : Hp}
mutual
theorem Is.mono (g : Gr m F m' F') : ∀ {v : V} {d : D}, Is κ m F v d → Is κ m' F' v d
  | _, _, .non => .non
  | _, _, .bl b => .bl b
  | _, _, .int i => .int i
  | _, _, .str s => .str s
  | _, _, .tup h l => .tup (g.pF _ _ h) (IsL.mono g l)
  | _, _, .lst h l => .lst (g.pF _ _ h) (IsL.mono g l)
  | _, _, .rol h l => .rol (sqL_mono g.pF h) (IsL.mono g l)
  | _, _, .dct h l => .dct (g.pF _ _ h) (IsK.mono g l)
  | _, _, .dctT h l => .dctT (g.pF _ _ h) (IsT.mono g l)
  | _, _, .ins c h l => .ins c (g.pF _ _ h) (IsF.mono g l)
  | _, _, .cel h => .cel (g.pm _ _ h)
theorem IsL.mono (g : Gr m F m' F') : ∀ {vs : List V} {ds : List D}, IsL κ m F vs ds → IsL κ m' F' vs ds
  | _, _, .nil => .nil
  | _, _, .cons h t => .cons (Is.mono g h) (IsL.mono g t)
theorem IsK.mono (g : Gr m F m' F') : ∀ {vs : List (Key × V)} {ds : List (KK × D)}, IsK κ m F vs ds → IsK κ m' F' vs ds
  | _, _, .nil => .nil
  | _, _, .cons h t => .cons (Is.mono g h) (IsK.mono g t)
theorem IsT.mono (g : Gr m F m' F') : ∀ {vs : List (List Key × V)} {ds : List (KK × D)}, IsT κ m F vs ds → IsT κ m' F' vs ds
  | _, _, .nil => .nil
  | _, _, .cons h t => .cons (Is.mono g h) (IsT.mono g t)
theorem IsF.mono (g : Gr m F m' F') : ∀ {vs : List (Str × V)} {ds : List (Nat × D)}, IsF κ m F vs ds → IsF κ m' F' vs ds
  | _, _, .nil => .nil
  | _, _, .cons h t => .cons (Is.mono g h) (IsF.mono g t)
end
theorem IsL.length : ∀ {vs : List V} {ds : List D}, IsL κ m F vs ds → vs.length = ds.length
  | _, _, .nil => rfl
  | _, _, .cons _ t => congrArg Nat.succ (IsL.length t)
theorem IsL.get : ∀ {vs : List V} {ds : List D} {i : Nat} {d : D}, IsL κ m F vs ds → ds[i]? = some d → ∃ v, vs[i]? = some v ∧ Is κ m F v d
  | _, _, _, _, .nil, e => by simp at e
  | _, _, 0, d, .cons h _, e => by
    simp at e
    subst e
    exact ⟨_, rfl, h⟩
  | _, _, i + 1, d, .cons _ t, e => by
    obtain ⟨v, h1, h2⟩ := IsL.get (i := i) t (by simpa using e)
    exact ⟨v, by simpa using h1, h2⟩
theorem IsL.getV : ∀ {vs : List V} {ds : List D} {i : Nat} {v : V}, IsL κ m F vs ds → vs[i]? = some v → ∃ d, ds[i]? = some d ∧ Is κ m F v d
  | _, _, _, _, .nil, e => by simp at e
  | _, _, 0, d, .cons h _, e => by
    simp at e
    subst e
    exact ⟨_, rfl, h⟩
  | _, _, i + 1, d, .cons _ t, e => by
    obtain ⟨v, h1, h2⟩ := IsL.getV (i := i) t (by simpa using e)
    exact ⟨v, by simpa using h1, h2⟩
theorem IsL.append : ∀ {vs ws : List V} {ds es : List D}, IsL κ m F vs ds → IsL κ m F ws es → IsL κ m F (vs ++ ws) (ds ++ es)
  | _, _, _, _, .nil, s => s
  | _, _, _, _, .cons h t, s => .cons h (IsL.append t s)
theorem IsL.set {v : V} {d : D} (h : Is κ m F v d) : ∀ {vs : List V} {ds : List D} (i : Nat), IsL κ m F vs ds → IsL κ m F (vs.set i v) (ds.set i d)
  | _, _, _, .nil => .nil
  | _, _, 0, .cons _ t => .cons h t
  | _, _, i + 1, .cons q t => .cons q (IsL.set h i t)
theorem IsL.take : ∀ {vs : List V} {ds : List D} (n : Nat), IsL κ m F vs ds → IsL κ m F (vs.take n) (ds.take n)
  | _, _, 0, _ => .nil
  | _, _, _ + 1, .nil => .nil
  | _, _, n + 1, .cons r t => .cons r (IsL.take n t)
theorem IsL.drop : ∀ {vs : List V} {ds : List D} (n : Nat), IsL κ m F vs ds → IsL κ m F (vs.drop n) (ds.drop n)
  | _, _, 0, r => r
  | _, _, _ + 1, .nil => .nil
  | _, _, n + 1, .cons _ t => IsL.drop n t
theorem IsL.reverse : ∀ {vs : List V} {ds : List D}, IsL κ m F vs ds → IsL κ m F vs.reverse ds.reverse
  | _, _, .nil => .nil
  | _, _, .cons h t => by
    rw [List.reverse_cons, List.reverse_cons]
    exact (IsL.reverse t).append (.cons h .nil)
end

/-! ### states -/
/-- what a state of the proof is: addresses of the store's cells, what never changes again, slots by data, store, slots, heap -/
structure W3 where
  m : List Addr
  F : Hp
  env : Env
  μ : Mu
  σ : L2.St
  H : Hp
def Cell.live : Cell → Prop
  | .dead => False
  | _ => True
/-- what a cell of the store may be -/
def Cell.liveC : Cell → Prop
  | .dead => False
  | .slf _ _ => False
  | _ => True
theorem Cell.liveC.live {c : Cell} (h : c.liveC) : c.live := by
  cases c with
  | dead => exact h.elim
  | _ => trivial
def CellOk (κ : Kx) (m : List Addr) (F H : Hp) (a : Addr) : Cell → Prop
  | .lst l => ∃ xs, H a = some (.lst xs) ∧ IsL κ m F xs l
  | .dct false l => ∃ kvs : List (Key × V), H a = some (.dK kvs) ∧ IsK κ m F kvs l
  | .dct true l => ∃ kvs : List (List Key × V), H a = some (.dT kvs) ∧ IsT κ m F kvs l
  | .ins c gs => c ∈ κ.cs ∧ ∃ dx fs, H a = some (.ins (He.ga κ.K (cname c)) dx fs) ∧ IsF κ m F fs gs
  | .slf c gs => κ.hx = some (a, .none, none) ∧ c ∈ κ.cs ∧ ∃ dx fs, H a = some (.ins (He.ga κ.K (cname c)) dx fs) ∧ IsF κ m F fs gs
  | .dead => True
theorem CellOk.mono {κ : Kx} {m m' : List Addr} {F F' H H' : Hp} {a : Addr} {c : Cell} (g : Gr m F m' F') (e : H' a = H a) (h : CellOk κ m F H a c) : CellOk κ m' F' H' a c := by
  cases c with
  | lst l =>
    obtain ⟨xs, h1, h2⟩ := h
    exact ⟨xs, by rw [e]; exact h1, h2.mono g⟩
  | dct t l =>
    cases t with
    | false =>
      obtain ⟨xs, h1, h2⟩ := h
      exact ⟨xs, by rw [e]; exact h1, h2.mono g⟩
    | true =>
      obtain ⟨xs, h1, h2⟩ := h
      exact ⟨xs, by rw [e]; exact h1, h2.mono g⟩
  | ins c gs =>
    obtain ⟨hc, dx, fs, h1, h2⟩ := h
    exact ⟨hc, dx, fs, by rw [e]; exact h1, h2.mono g⟩
  | slf c gs =>
    obtain ⟨hs, hc, dx, fs, h1, h2⟩ := h
    exact ⟨hs, hc, dx, fs, by rw [e]; exact h1, h2.mono g⟩
  | dead => trivial
theorem CellOk.there {κ : Kx} {m : List Addr} {F H : Hp} {a : Addr} {c : Cell} (h : CellOk κ m F H a c) (l : c.live) : ∃ o, H a = some o := by
  cases c with
  | lst _ =>
    obtain ⟨xs, h1, _⟩ := h
    exact ⟨_, h1⟩
  | dct t _ =>
    cases t with
    | false =>
      obtain ⟨xs, h1, _⟩ := h
      exact ⟨_, h1⟩
    | true =>
      obtain ⟨xs, h1, _⟩ := h
      exact ⟨_, h1⟩
  | ins _ _ =>
    obtain ⟨_, dx, fs, h1, _⟩ := h
    exact ⟨_, h1⟩
  | slf _ _ =>
    obtain ⟨_, _, dx, fs, h1, _⟩ := h
    exact ⟨_, h1⟩
  | dead => exact l.elim
/-- a cell of the store -/
def W3.isC (w : W3) (n : Nat) (a : Addr) (c : Cell) : Prop := w.μ[n]? = some c ∧ w.m[n]? = some a ∧ c.liveC
/-- an object that a slot owns -/
def W3.isO (w : W3) (i : Nat) (a : Addr) (c : Cell) : Prop := w.env[i]? = some (.own c) ∧ w.σ[i]? = some (some (.ref a))
def W3.Mut (w : W3) (a : Addr) : Prop := (∃ n c, w.isC n a c) ∨ ∃ i c, w.isO i a c
/-- the exception at hand -/
def ExnAt (κ : Kx) (m : List Addr) (F : Hp) (v : V) (c : Nat) (gs : List (Nat × D)) : Prop :=
  ∃ (a dd : Addr) (fs : List (Str × V)), v = .ref a ∧ κ.hx = some (a, .ref (He.ga κ.K (cname c)), some dd) ∧ F dd = some (.xd fs) ∧ IsF κ m F fs gs
theorem ExnAt.mono {κ : Kx} {m m' : List Addr} {F F' : Hp} {v : V} {c : Nat} {gs : List (Nat × D)} (g : Gr m F m' F') (h : ExnAt κ m F v c gs) : ExnAt κ m' F' v c gs := by
  obtain ⟨a, dd, fs, h1, h2, h3, h4⟩ := h
  exact ⟨a, dd, fs, h1, h2, g.pF _ _ h3, h4.mono g⟩
/-- what a slot holds: data, or the exception at hand -/
def SlotIs (κ : Kx) (m : List Addr) (F : Hp) (v : V) : D → Prop
  | .exn c gs => ExnAt κ m F v c gs
  | d => Is κ m F v d
theorem SlotIs.mono {κ : Kx} {m m' : List Addr} {F F' : Hp} {v : V} {d : D} (g : Gr m F m' F') (h : SlotIs κ m F v d) : SlotIs κ m' F' v d := by
  cases d with
  | exn c gs => exact ExnAt.mono g h
  | _ => exact Is.mono g h
theorem Is.slot {κ : Kx} {m : List Addr} {F : Hp} {v : V} {d : D} (h : Is κ m F v d) : SlotIs κ m F v d := by
  cases d with
  | exn c gs => cases h
  | _ => exact h
structure RS (κ : Kx) (w : W3) : Prop where
  le : ∀ (a : Addr) (o : HO), w.F a = some o → w.H a = some o
  lm : w.m.length = w.μ.length
  ls : w.env.length = w.σ.length
  slot : ∀ (i : Nat) (d : D), w.env[i]? = some (.d d) → ∃ v, w.σ[i]? = some (some v) ∧ SlotIs κ w.m w.F v d
  own : ∀ (i : Nat) (c : Cell), w.env[i]? = some (.own c) → c.live ∧ ∃ a, w.σ[i]? = some (some (.ref a)) ∧ w.F a = none ∧ CellOk κ w.m w.F w.H a c
  cel : ∀ (n : Nat) (a : Addr) (c : Cell), w.isC n a c → w.F a = none ∧ CellOk κ w.m w.F w.H a c
  cc : ∀ (n n' : Nat) (a : Addr) (c c' : Cell), w.isC n a c → w.isC n' a c' → n = n'
  oo : ∀ (i j : Nat) (a : Addr) (c c' : Cell), w.isO i a c → w.isO j a c' → i = j
  oc : ∀ (i n : Nat) (a : Addr) (c c' : Cell), w.isO i a c → w.isC n a c' → False
/-- from one state to a later one -/
structure Stp (w w' : W3) : Prop where
  gr : Gr w.m w.F w'.m w'.F
  kp : ∀ (a : Addr) (o : HO), w.H a = some o → ¬ w.Mut a → w'.H a = some o
  fr : ∀ a : Addr, w'.Mut a → w.Mut a ∨ w.H a = none
  ff : ∀ (a : Addr) (o : HO), w'.F a = some o → w.F a = some o ∨ w.Mut a ∨ w.H a = none
theorem Stp.refl (w : W3) : Stp w w := ⟨.refl _ _, fun _ _ h _ => h, fun _ h => .inl h, fun _ _ h => .inl h⟩
theorem Stp.gone {w w1 : W3} (s : Stp w w1) {p : Addr} (h : w1.Mut p ∨ w1.H p = none) : w.Mut p ∨ w.H p = none := by
  rcases h with h | h
  · exact s.fr p h
  · cases q : w.H p with
    | none => exact .inr rfl
    | some o =>
      by_cases z : w.Mut p
      · exact .inl z
      · rw [s.kp p o q z] at h
        cases h
theorem Stp.trans {w w1 w2 : W3} (a : Stp w w1) (b : Stp w1 w2) : Stp w w2 where
  gr := a.gr.trans b.gr
  kp := fun x o h n => b.kp x o (a.kp x o h n) fun z => by
    rcases a.fr x z with q | q
    · exact n q
    · rw [h] at q
      cases q
  fr := fun x h => a.gone (b.fr x h)
  ff := fun x o h => by
    rcases b.ff x o h with q | q
    · exact a.ff x o q
    · exact .inr (a.gone q)
/-- a value as an expression's answer: a place of the frame's own, or data -/
def IsR (κ : Kx) (w : W3) (v : V) : D → Prop
  | .loc i => w.σ[i]? = some (some v)
  | .exn c gs => ExnAt κ w.m w.F v c gs
  | d => Is κ w.m w.F v d

/-! ### outcomes -/
inductive ER where
  | ok (d : D) (env : Env) (μ : Mu)
  | exc (x : Exn) (env : Env) (μ : Mu)
  | stk
inductive SR where
  | nx (env : Env) (μ : Mu)
  | ret (d : D) (env : Env) (μ : Mu)
  | bk (env : Env) (μ : Mu)
  | ct (env : Env) (μ : Mu)
  | exc (x : Exn) (env : Env) (μ : Mu)
  | stk
inductive FR where
  | ok (d : D) (μ : Mu)
  | exc (x : Exn) (μ : Mu)
  | stk
abbrev EM := Env → Mu → ER
abbrev SM := Env → Mu → SR
abbrev FM := List D → Mu → FR
def ExIs (κ : Kx) (w : W3) (x : Exn) (cls : Value) (dd : Option Addr) : Prop :=
  cls = .ref (He.ga κ.K (cname x.c)) ∧ ∃ d fs, dd = some d ∧ w.F d = some (.xd fs) ∧ IsF κ w.m w.F fs x.fs
def PostE (κ : Kx) (W : WX) (w : W3) (r : ER) (Q : VK) : Prop :=
  match r with
  | .ok d env' μ' => ∀ (w' : W3) (v : V), w'.σ = w.σ → w'.env = env' → w'.μ = μ' → RS κ w' → Stp w w' → IsR κ w' v d → Q v w'.H
  | .exc x env' μ' => ∀ (w' : W3) (cls : Value) (dd : Option Addr), w'.σ = w.σ → w'.env = env' → w'.μ = μ' → RS κ w' → Stp w w' → ExIs κ w' x cls dd → W cls dd w'.σ w'.H
  | .stk => False
def rdE (κ : Kx) (W : WX) (M : EM) : TE := fun σ H Q => ∃ w : W3, w.σ = σ ∧ w.H = H ∧ RS κ w ∧ PostE κ W w (M w.env w.μ) Q
def PostS (κ : Kx) (W : WX) (w : W3) (r : SR) (E : Ends) : Prop :=
  match r with
  | .nx env' μ' => ∀ w' : W3, w'.env = env' → w'.μ = μ' → RS κ w' → Stp w w' → E.nx w'.σ w'.H
  | .ret d env' μ' => ∀ (w' : W3) (v : V), w'.env = env' → w'.μ = μ' → RS κ w' → Stp w w' → Is κ w'.m w'.F v d → E.rt v w'.H
  | .bk env' μ' => ∀ w' : W3, w'.env = env' → w'.μ = μ' → RS κ w' → Stp w w' → E.bk w'.σ w'.H
  | .ct env' μ' => ∀ w' : W3, w'.env = env' → w'.μ = μ' → RS κ w' → Stp w w' → E.ct w'.σ w'.H
  | .exc x env' μ' => ∀ (w' : W3) (cls : Value) (dd : Option Addr), w'.env = env' → w'.μ = μ' → RS κ w' → Stp w w' → ExIs κ w' x cls dd → W cls dd w'.σ w'.H
  | .stk => False
def rdS (κ : Kx) (W : WX) (M : SM) : TS := fun E σ H => ∃ w : W3, w.σ = σ ∧ w.H = H ∧ RS κ w ∧ PostS κ W w (M w.env w.μ) E

def ER.bind (r : ER) (k : D → EM) : ER :=
  match r with
  | .ok d env μ => k d env μ
  | .exc x env μ => .exc x env μ
  | .stk => .stk
def EM.bind (m : EM) (k : D → EM) : EM := fun env μ => (m env μ).bind k
def lift (o : Option D) : EM := fun env μ =>
  match o with
  | some d => .ok d env μ
  | none => .stk
theorem PostE.step {κ : Kx} {W : WX} {w w1 : W3} {r : ER} {Q : VK} (e : w1.σ = w.σ) (s : Stp w w1) (h : PostE κ W w r Q) : PostE κ W w1 r Q := by
  cases r with
  | ok d env' μ' => exact fun w' v e1 e2 e3 rs st i => h w' v (e1.trans e) e2 e3 rs (s.trans st) i
  | exc x env' μ' => exact fun w' cls dd e1 e2 e3 rs st i => h w' cls dd (e1.trans e) e2 e3 rs (s.trans st) i
  | stk => exact h
theorem PostE.imp {κ : Kx} {W : WX} {w : W3} {r : ER} {Q Q' : VK} (h : PostE κ W w r Q) (q : ∀ v H, Q v H → Q' v H) : PostE κ W w r Q' := by
  cases r with
  | ok d env' μ' => exact fun w' v e1 e2 e3 rs st i => q _ _ (h w' v e1 e2 e3 rs st i)
  | exc x env' μ' => exact h
  | stk => exact h
/-- an answer, the state behind it -/
structure At (κ : Kx) (W : WX) (w : W3) (v : V) (H : Hp) (r : D → Env → Mu → ER) (Q : VK) : Prop where
  ex : ∃ (w1 : W3) (d : D), w1.H = H ∧ w1.σ = w.σ ∧ RS κ w1 ∧ Stp w w1 ∧ IsR κ w1 v d ∧ PostE κ W w1 (r d w1.env w1.μ) Q
theorem PostE.bind {κ : Kx} {W : WX} {w : W3} {r : ER} {k : D → EM} {Q : VK} (h : PostE κ W w (r.bind k) Q) : PostE κ W w r fun v H => At κ W w v H k Q := by
  cases r with
  | ok d env' μ' =>
    intro w' v e1 e2 e3 rs st i
    subst e2 e3
    exact ⟨w', d, rfl, e1, rs, st, i, PostE.step e1 st h⟩
  | exc x env' μ' => exact h
  | stk => exact h.elim
/-- what a rule of the layer asks of two readings, from the mirror's bind -/
theorem rdE_bind {κ : Kx} {W : WX} {Ma : EM} {k : D → EM} {σ : L2.St} {H : Hp} {Q : VK} (h : rdE κ W (Ma.bind k) σ H Q) :
    rdE κ W Ma σ H fun v H1 => ∃ (w w1 : W3) (d : D), w.σ = σ ∧ w.H = H ∧ RS κ w ∧ w1.H = H1 ∧ w1.σ = σ ∧ RS κ w1 ∧ Stp w w1 ∧ IsR κ w1 v d ∧ PostE κ W w1 (k d w1.env w1.μ) Q := by
  obtain ⟨w, rfl, rfl, rs, p⟩ := h
  refine ⟨w, rfl, rfl, rs, (PostE.bind p).imp fun v H1 a => ?_⟩
  obtain ⟨w1, d, e1, e2, rs1, st, i, p1⟩ := a.ex
  exact ⟨w, w1, d, rfl, rfl, rs, e1, e2, rs1, st, i, p1⟩
end DL
set_option Elab.async false
set_option linter.all false
set_option maxRecDepth 100000
set_option maxHeartbeats 2000000
namespace DL
open PySem PySem.Spec PyProof.Rows L2
/-! ### new objects -/
/-- a new object that never changes -/
def W3.al (w : W3) (p : Addr) (o : HO) : W3 := { w with F := upd w.F p o, H := upd w.H p o }
/-- a new object -/
def W3.ah (w : W3) (p : Addr) (o : HO) : W3 := { w with H := upd w.H p o }
section
variable {κ : Kx} {w w' : W3} {p a : Addr} {o : HO}
theorem RS.fnone (rs : RS κ w) (h : w.H p = none) : w.F p = none := by
  cases e : w.F p with
  | none => rfl
  | some o =>
    rw [rs.le p o e] at h
    cases h
theorem RS.mutThere (rs : RS κ w) (h : w.Mut a) : ∃ o, w.H a = some o := by
  rcases h with ⟨n, c, h⟩ | ⟨i, c, h1, h2⟩
  · exact (rs.cel n a c h).2.there h.2.2.live
  · obtain ⟨l, b, e1, e2, e3⟩ := rs.own i c h1
    rw [h2] at e1
    cases e1
    exact e3.there l
theorem RS.mutF (rs : RS κ w) (h : w.Mut a) : w.F a = none := by
  rcases h with ⟨n, c, h⟩ | ⟨i, c, h1, h2⟩
  · exact (rs.cel n a c h).1
  · obtain ⟨l, b, e1, e2, e3⟩ := rs.own i c h1
    rw [h2] at e1
    cases e1
    exact e2
theorem RS.notMut (rs : RS κ w) (h : w.H p = none) : ¬ w.Mut p := fun z => by
  obtain ⟨o, e⟩ := rs.mutThere z
  rw [h] at e
  cases e
theorem Gr.al (w : W3) (h : w.F p = none) : Gr w.m w.F (w.al p o).m (w.al p o).F :=
  ⟨fun _ _ h => h, fun b u e => by
    show upd w.F p o b = some u
    rw [upd_ne (ne_of_none e h)]
    exact e⟩
theorem RS.ah (rs : RS κ w) (h : w.H p = none) : RS κ (w.ah p o) := by
  have ne : ∀ b, w.Mut b → b ≠ p := fun b z e => rs.notMut h (e ▸ z)
  refine ⟨fun b u e => ?_, rs.lm, rs.ls, rs.slot, fun i c e => ?_, fun n b c e => ?_, rs.cc, rs.oo, rs.oc⟩
  · show upd w.H p o b = some u
    rw [upd_ne (ne_of_none e (rs.fnone h))]
    exact rs.le b u e
  · obtain ⟨l, b, e1, e2, e3⟩ := rs.own i c e
    exact ⟨l, b, e1, e2, e3.mono (.refl _ _) (upd_ne (ne b (.inr ⟨i, c, e, e1⟩)))⟩
  · obtain ⟨e2, e3⟩ := rs.cel n b c e
    exact ⟨e2, e3.mono (.refl _ _) (upd_ne (ne b (.inl ⟨n, c, e⟩)))⟩
theorem Stp.ah (rs : RS κ w) (h : w.H p = none) : Stp w (w.ah p o) :=
  ⟨.refl _ _, fun b u e _ => by
    show upd w.H p o b = some u
    rw [upd_ne (ne_of_none e h)]
    exact e, fun _ z => .inl z, fun _ _ h => .inl h⟩
/-- an object that no slot and no cell holds never changes from now on -/
def W3.fz (w : W3) (p : Addr) (o : HO) : W3 := { w with F := upd w.F p o }
theorem RS.fz (rs : RS κ w) (h : w.H p = some o) (hf : w.F p = none) (n : ¬ w.Mut p) : RS κ (w.fz p o) := by
  have g : Gr w.m w.F (w.fz p o).m (w.fz p o).F := ⟨fun _ _ h => h, fun b u e => by
    show upd w.F p o b = some u
    rw [upd_ne (ne_of_none e hf)]
    exact e⟩
  have ne : ∀ b, w.Mut b → b ≠ p := fun b z e => n (e ▸ z)
  refine ⟨fun b u e => ?_, rs.lm, rs.ls, fun i d e => ?_, fun i c e => ?_, fun n b c e => ?_, rs.cc, rs.oo, rs.oc⟩
  · by_cases q : b = p
    · subst q
      have e' : upd w.F b o b = some u := e
      rw [upd_same] at e'
      cases e'
      exact h
    · have e' : upd w.F p o b = some u := e
      rw [upd_ne q] at e'
      exact rs.le b u e'
  · obtain ⟨v, e1, e2⟩ := rs.slot i d e
    exact ⟨v, e1, e2.mono g⟩
  · obtain ⟨l, b, e1, e2, e3⟩ := rs.own i c e
    exact ⟨l, b, e1, (upd_ne (ne b (.inr ⟨i, c, e, e1⟩))).trans e2, e3.mono g rfl⟩
  · obtain ⟨e2, e3⟩ := rs.cel n b c e
    exact ⟨(upd_ne (ne b (.inl ⟨n, c, e⟩))).trans e2, e3.mono g rfl⟩
theorem Gr.fz (hf : w.F p = none) : Gr w.m w.F (w.fz p o).m (w.fz p o).F := ⟨fun _ _ h => h, fun b u e => by
    show upd w.F p o b = some u
    rw [upd_ne (ne_of_none e hf)]
    exact e⟩
theorem Stp.fz {w1 : W3} (s : Stp w w1) (hf : w1.F p = none) (hn : w.Mut p ∨ w.H p = none) : Stp w (w1.fz p o) where
  gr := s.gr.trans ⟨fun _ _ h => h, fun b u e => by
    show upd w1.F p o b = some u
    rw [upd_ne (ne_of_none e hf)]
    exact e⟩
  kp := s.kp
  fr := fun a h => s.fr a h
  ff := fun b u e => by
    by_cases q : b = p
    · rw [q]
      exact .inr hn
    · have e' : upd w1.F p o b = some u := e
      rw [upd_ne q] at e'
      exact s.ff b u e'
theorem RS.al (rs : RS κ w) (h : w.H p = none) : RS κ (w.al p o) :=
  RS.fz (w := w.ah p o) (rs.ah h) upd_same (rs.fnone h) (rs.notMut h)
theorem Stp.al (rs : RS κ w) (h : w.H p = none) : Stp w (w.al p o) :=
  Stp.fz (Stp.ah (o := o) rs h) (rs.fnone h) (.inr h)
theorem IsR.mono {v : V} {d : D} (e : w'.σ = w.σ) (g : Gr w.m w.F w'.m w'.F) (h : IsR κ w v d) : IsR κ w' v d := by
  cases d with
  | loc i =>
    show w'.σ[i]? = some (some v)
    rw [e]
    exact h
  | exn c gs => exact ExnAt.mono g h
  | _ => exact Is.mono g h
theorem SlotIs.toR {v : V} {d : D} (h : SlotIs κ w.m w.F v d) : IsR κ w v d := by
  cases d with
  | loc i => cases (show Is κ w.m w.F v (.loc i) from h)
  | _ => exact h
theorem Is.toR {v : V} {d : D} (h : Is κ w.m w.F v d) : IsR κ w v d := by
  cases d with
  | loc i => cases h
  | exn c gs => cases h
  | _ => exact h
end
/-! ### judgements over data -/
theorem impPE {X : Cx} {e : Expr} {t t' : TE} (h : PE X e t) (i : ∀ σ H Q, t' σ H Q → t σ H Q) : PE X e t' := ⟨fun pins s σ H Q I q => h.run pins s σ H Q I (i σ H Q q)⟩
theorem impPT {X : Cx} {e : Expr} {t t' : TT} (h : PT X e t) (i : ∀ σ H Q, t' σ H Q → t σ H Q) : PT X e t' := ⟨fun pins s σ H Q I q => h.run pins s σ H Q I (i σ H Q q)⟩
theorem impPW {X : Cx} {e : Expr} {t t' : TT} (h : PW X e t) (i : ∀ σ H Q, t' σ H Q → t σ H Q) : PW X e t' := ⟨fun wh pins s σ H Q I q => h.run wh pins s σ H Q I (i σ H Q q)⟩
theorem impPA {X : Cx} {e : List Expr} {t t' : TA} (h : PA X e t) (i : ∀ σ H Q, t' σ H Q → t σ H Q) : PA X e t' := ⟨fun pos pins s σ H Q I q => h.run pos pins s σ H Q I (i σ H Q q)⟩
theorem impPS {X : Cx} {e : Stmt} {t t' : TS} (h : PS X e t) (i : ∀ E σ H, t' E σ H → t E σ H) : PS X e t' := ⟨fun pins s σ H D I q => h.run pins s σ H D I (i D σ H q)⟩
theorem impPSs {X : Cx} {e : List Stmt} {t t' : TS} (h : PSs X e t) (i : ∀ E σ H, t' E σ H → t E σ H) : PSs X e t' := ⟨fun pins s σ H D I q => h.run pins s σ H D I (i D σ H q)⟩
structure HX where
  hx : Option (Addr × Value × Option Addr)
  cs : List Nat
abbrev kx (X : Cx) (z : HX) : Kx := ⟨X.K, z.hx, z.cs⟩
def EOk (hx : HX) (X : Cx) (e : Expr) (M : EM) : Prop := ∀ W, Takes X W → PE X e (rdE (kx X hx) W M)
def SOk (hx : HX) (X : Cx) (e : Stmt) (M : SM) : Prop := ∀ W, Takes X W → PS X e (rdS (kx X hx) W M)
def BOk (hx : HX) (X : Cx) (e : List Stmt) (M : SM) : Prop := ∀ W, Takes X W → PSs X e (rdS (kx X hx) W M)
/-- tests -/
inductive TR where
  | ok (b : Bool) (env : Env) (μ : Mu)
  | exc (x : Exn) (env : Env) (μ : Mu)
  | stk
abbrev TM := Env → Mu → TR
def PostT (κ : Kx) (W : WX) (w : W3) (r : TR) (Q : Bool → Hp → Prop) : Prop :=
  match r with
  | .ok b env' μ' => ∀ (w' : W3), w'.σ = w.σ → w'.env = env' → w'.μ = μ' → RS κ w' → Stp w w' → Q b w'.H
  | .exc x env' μ' => ∀ (w' : W3) (cls : Value) (dd : Option Addr), w'.σ = w.σ → w'.env = env' → w'.μ = μ' → RS κ w' → Stp w w' → ExIs κ w' x cls dd → W cls dd w'.σ w'.H
  | .stk => False
def rdT (κ : Kx) (W : WX) (M : TM) : TT := fun σ H Q => ∃ w : W3, w.σ = σ ∧ w.H = H ∧ RS κ w ∧ PostT κ W w (M w.env w.μ) Q
def TOk (hx : HX) (X : Cx) (e : Expr) (M : TM) : Prop := ∀ W, Takes X W → PT X e (rdT (kx X hx) W M)
def WOk (hx : HX) (X : Cx) (e : Expr) (M : TM) : Prop := ∀ W, Takes X W → PW X e (rdT (kx X hx) W M)
/-- arguments -/
inductive AR where
  | ok (ds : List D) (env : Env) (μ : Mu)
  | exc (x : Exn) (env : Env) (μ : Mu)
  | stk
abbrev AM := Env → Mu → AR
inductive IsRL (κ : Kx) (w : W3) : List V → List D → Prop
  | nil : IsRL κ w [] []
  | cons {v : V} {d : D} {vs : List V} {ds : List D} : IsR κ w v d → IsRL κ w vs ds → IsRL κ w (v :: vs) (d :: ds)
def PostA (κ : Kx) (W : WX) (w : W3) (r : AR) (Q : List V → Hp → Prop) : Prop :=
  match r with
  | .ok ds env' μ' => ∀ (w' : W3) (vs : List V), w'.σ = w.σ → w'.env = env' → w'.μ = μ' → RS κ w' → Stp w w' → IsRL κ w' vs ds → Q vs w'.H
  | .exc x env' μ' => ∀ (w' : W3) (cls : Value) (dd : Option Addr), w'.σ = w.σ → w'.env = env' → w'.μ = μ' → RS κ w' → Stp w w' → ExIs κ w' x cls dd → W cls dd w'.σ w'.H
  | .stk => False
def rdA (κ : Kx) (W : WX) (M : AM) : TA := fun σ H Q => ∃ w : W3, w.σ = σ ∧ w.H = H ∧ RS κ w ∧ PostA κ W w (M w.env w.μ) Q
def AOk (hx : HX) (X : Cx) (es : List Expr) (M : AM) : Prop := ∀ W, Takes X W → PA X es (rdA (kx X hx) W M)
/-- new objects, not yet shared -/
inductive NR where
  | ok (c : Cell) (env : Env) (μ : Mu)
  | exc (x : Exn) (env : Env) (μ : Mu)
  | stk
abbrev NM := Env → Mu → NR
def PostN (κ : Kx) (W : WX) (w : W3) (r : NR) (Q : VK) : Prop :=
  match r with
  | .ok c env' μ' => ∀ (w' : W3) (p : Addr), w'.σ = w.σ → w'.env = env' → w'.μ = μ' → RS κ w' → Stp w w' → (w.Mut p ∨ w.H p = none) → w'.F p = none → ¬ w'.Mut p → c.live → CellOk κ w'.m w'.F w'.H p c → Q (.ref p) w'.H
  | .exc x env' μ' => ∀ (w' : W3) (cls : Value) (dd : Option Addr), w'.σ = w.σ → w'.env = env' → w'.μ = μ' → RS κ w' → Stp w w' → ExIs κ w' x cls dd → W cls dd w'.σ w'.H
  | .stk => False
def rdN (κ : Kx) (W : WX) (M : NM) : TE := fun σ H Q => ∃ w : W3, w.σ = σ ∧ w.H = H ∧ RS κ w ∧ PostN κ W w (M w.env w.μ) Q
def NOk (hx : HX) (X : Cx) (e : Expr) (M : NM) : Prop := ∀ W, Takes X W → PE X e (rdN (kx X hx) W M)

/-! ### the mirrors' words -/
def mC (d : D) : EM := fun env μ => .ok d env μ
def mVar (i : Nat) : EM := fun env μ =>
  match env[i]? with
  | some (.d d) => .ok d env μ
  | some (.own _) => .ok (.loc i) env μ
  | _ => .stk
def mBin (f : Env → Mu → D → D → Option D) (a b : EM) : EM := a.bind fun x => b.bind fun y => fun env μ => lift (f env μ x y) env μ
def mUn (f : Env → Mu → D → Option D) (a : EM) : EM := a.bind fun x => fun env μ => lift (f env μ x) env μ
section
variable {hx : HX} {X : Cx}
theorem e_var (i : Nat) {x : Str} {pos : Pos} (hN : X.N[i]? = some x) (hv : Vis X.env.scope x) (hd : (x == ("__debug__" : Str)) = false := by decide) (hcd : (x == ("__classdict__" : Str)) = false := by decide) : EOk hx X (.Name x pos) (mVar i) := by
  refine fun W tk => impPE (pe_var hN hv hd hcd) fun σ H Q h => ?_
  obtain ⟨w, rfl, rfl, rs, p⟩ := h
  unfold mVar at p
  cases e : w.env[i]? with
  | none =>
    rw [e] at p
    exact p.elim
  | some s =>
    rw [e] at p
    cases s with
    | non => exact p.elim
    | d d =>
      obtain ⟨v, e1, i1⟩ := rs.slot i d e
      exact ⟨v, e1, p w v rfl rfl rfl rs (.refl w) i1.toR⟩
    | own c =>
      obtain ⟨l, a, e1, _⟩ := rs.own i c e
      exact ⟨_, e1, p w (.ref a) rfl rfl rfl rs (.refl w) e1⟩
theorem e_const {e : Expr} {v : V} {d : D} (h : PE X e (tC v)) (hi : ∀ m F, Is (kx X hx) m F v d) : EOk hx X e (mC d) := by
  refine fun W tk => impPE h fun σ H Q h => ?_
  obtain ⟨w, rfl, rfl, rs, p⟩ := h
  exact p w v rfl rfl rfl rs (.refl w) (hi _ _).toR
theorem e_int {i : Int} {j pos} : EOk hx X (.Constant (.int i) j pos) (mC (.int i)) := e_const pe_int fun _ _ => .int i
theorem e_bl {b : Bool} {j pos} : EOk hx X (.Constant (.bool b) j pos) (mC (.bl b)) := e_const pe_bl fun _ _ => .bl b
theorem e_non {j pos} : EOk hx X (.Constant .none j pos) (mC .non) := e_const pe_non fun _ _ => .non
theorem e_str {x : Str} {j pos} : EOk hx X (.Constant (.str x) j pos) (mC (.str x)) := e_const pe_str fun _ _ => .str x
theorem e_gint {x : Str} {i : Int} {t : Tok} {pos : Pos} (hg : Gl X x) (hm : X.mg x = some (.int i t)) (hd : (x == ("__debug__" : Str)) = false := by decide) : EOk hx X (.Name x pos) (mC (.int i)) := e_const (pe_glob (v := .int i) hg hm ⟨t, rfl⟩ hd) fun _ _ => .int i
theorem e_gstr {x z : Str} {t : Tok} {pos : Pos} (hg : Gl X x) (hm : X.mg x = some (.str z t)) (hd : (x == ("__debug__" : Str)) = false := by decide) : EOk hx X (.Name x pos) (mC (.str z)) := e_const (pe_glob (v := .str z) hg hm ⟨t, rfl⟩ hd) fun _ _ => .str z
/-- what a rule for two values asks, from data -/
def Bin2 (hx : HX) (X : Cx) (r : R2) (f : Env → Mu → D → D → Option D) : Prop :=
  ∀ (W : WX) (w : W3) (v u : V) (a b d : D) (Q : VK), RS (kx X hx) w → IsR (kx X hx) w v a → IsR (kx X hx) w u b → f w.env w.μ a b = some d → PostE (kx X hx) W w (.ok d w.env w.μ) Q → r v u w.H Q
theorem PostE.lift {κ : Kx} {W : WX} {w : W3} {o : Option D} {Q : VK} (h : PostE κ W w (lift o w.env w.μ) Q) : ∃ d, o = some d ∧ PostE κ W w (.ok d w.env w.μ) Q := by
  cases o with
  | none => exact h.elim
  | some d => exact ⟨d, rfl, h⟩
theorem bin_tOp {W : WX} {r : R2} {f : Env → Mu → D → D → Option D} {Ma Mb : EM} (hf : Bin2 hx X r f) {σ : L2.St} {H : Hp} {Q : VK} (h : rdE (kx X hx) W (mBin f Ma Mb) σ H Q) : tOp r (rdE (kx X hx) W Ma) (rdE (kx X hx) W Mb) σ H Q := by
  obtain ⟨w, rfl, rfl, rs, p⟩ := h
  refine ⟨w, rfl, rfl, rs, (PostE.bind p).imp fun x H1 a1 => ?_⟩
  obtain ⟨w1, d1, rfl, e1, rs1, st1, i1, p1⟩ := a1.ex
  refine ⟨w1, e1, rfl, rs1, (PostE.bind p1).imp fun y H2 a2 => ?_⟩
  obtain ⟨w2, d2, rfl, e2, rs2, st2, i2, p2⟩ := a2.ex
  obtain ⟨d, e, p3⟩ := PostE.lift p2
  exact hf W w2 x y d1 d2 d Q rs2 (i1.mono e2 st2.gr) i2 e p3
theorem e_op {op : Operator} {r : R2} {f : Env → Mu → D → D → Option D} {Ma Mb : EM} {a b : Expr} {pos : Pos} (ho : OpR X (binaryOp op) r) (hf : Bin2 hx X r f) (ha : EOk hx X a Ma) (hb : EOk hx X b Mb) : EOk hx X (.BinOp a op b pos) (mBin f Ma Mb) :=
  fun W tk => impPE (pe_op ho (ha W tk) (hb W tk)) fun _ _ _ h => bin_tOp hf h
theorem e_cmp {op : CmpOp} {r : R2} {f : Env → Mu → D → D → Option D} {Ma Mb : EM} {a b : Expr} {pos : Pos} (ho : OpR X (compareOp op) r) (hf : Bin2 hx X r f) (ha : EOk hx X a Ma) (hb : EOk hx X b Mb) (hm : behindInMarks op b = false) : EOk hx X (.Compare a [op] [b] pos) (mBin f Ma Mb) :=
  fun W tk => impPE (pe_cmpR ho (ha W tk) (hb W tk) hm) fun _ _ _ h => bin_tOp hf h
end
end DL
set_option Elab.async false
set_option linter.all false
set_option maxRecDepth 100000
set_option maxHeartbeats 2000000
namespace DL
open PySem PySem.Spec PyProof.Rows L2
/-! ### sequences by data -/
inductive SK where | lst | rol | tup
  deriving DecidableEq
def seqOf (env : Env) (μ : Mu) : D → Option (SK × List D)
  | .lst l => some (.lst, l)
  | .rol l => some (.rol, l)
  | .tup l => some (.tup, l)
  | .cel n => match μ[n]? with
    | some (.lst l) => some (.lst, l)
    | _ => none
  | .loc i => match env[i]? with
    | some (.own (.lst l)) => some (.lst, l)
    | _ => none
  | _ => none
def SeqAt (K : Fg) (H : Hp) (a : Addr) (xs : List V) : SK → Prop
  | .lst => H a = some (.lst xs)
  | .rol => SqL K H a xs
  | .tup => H a = some (.tup xs)
section
variable {κ : Kx} {w w' : W3}
theorem seq_heap (rs : RS κ w) {v : V} {d : D} (i : IsR κ w v d) {k : SK} {l : List D} (h : seqOf w.env w.μ d = some (k, l)) :
    ∃ a xs, v = .ref a ∧ IsL κ w.m w.F xs l ∧ SeqAt κ.K w.H a xs k := by
  cases d with
  | lst l' =>
    cases h
    cases i with
    | lst e il => exact ⟨_, _, rfl, il, rs.le _ _ e⟩
  | rol l' =>
    cases h
    cases i with
    | rol e il => exact ⟨_, _, rfl, il, sqL_mono rs.le e⟩
  | tup l' =>
    cases h
    cases i with
    | tup e il => exact ⟨_, _, rfl, il, rs.le _ _ e⟩
  | cel n =>
    cases i with
    | cel e =>
      unfold seqOf at h
      dsimp only at h
      cases q : w.μ[n]? with
      | none =>
        rw [q] at h
        cases h
      | some c =>
        rw [q] at h
        cases c with
        | lst l' =>
          cases h
          obtain ⟨_, xs, h1, h2⟩ := rs.cel n _ _ ⟨q, e, trivial⟩
          exact ⟨_, xs, rfl, h2, h1⟩
        | _ => cases h
  | loc j =>
    unfold seqOf at h
    dsimp only at h
    cases q : w.env[j]? with
    | none =>
      rw [q] at h
      cases h
    | some c =>
      rw [q] at h
      cases c with
      | own c =>
        cases c with
        | lst l' =>
          cases h
          obtain ⟨_, a, e1, e2, xs, h1, h2⟩ := rs.own j _ q
          have e3 : w.σ[j]? = some (some v) := i
          rw [e1] at e3
          cases e3
          exact ⟨_, xs, rfl, h2, h1⟩
        | _ => cases h
      | _ => cases h
  | _ => cases h
theorem SeqAt.len {K : Fg} {H : Hp} {a : Addr} {xs : List V} {k : SK} (h : SeqAt K H a xs k) : LenV K (.ref a) H xs.length := by
  cases k with
  | lst => exact .inl ⟨xs, SqL.of h, rfl⟩
  | rol => exact .inl ⟨xs, h, rfl⟩
  | tup => exact .inr ⟨xs, SqT.of h, rfl⟩
theorem SeqAt.sq {K : Fg} {H : Hp} {a : Addr} {xs : List V} {k : SK} (h : SeqAt K H a xs k) : SqL K H a xs ∨ SqT K H a xs := by
  cases k with
  | lst => exact .inl (SqL.of h)
  | rol => exact .inl h
  | tup => exact .inr (SqT.of h)
/-! ### answers -/
theorem post_now {W : WX} {v : V} {d : D} {Q : VK} (rs : RS κ w) (i : IsR κ w v d) (p : PostE κ W w (.ok d w.env w.μ) Q) : Q v w.H := p w v rfl rfl rfl rs (.refl w) i
/-- the answer is a new object that never changes -/
theorem post_new {W : WX} {d : D} {Q : VK} {a : Addr} {o : HO} (rs : RS κ w) (h : w.H a = none) (i : Is κ (w.al a o).m (w.al a o).F (.ref a) d) (p : PostE κ W w (.ok d w.env w.μ) Q) : Q (.ref a) (upd w.H a o) :=
  p (w.al a o) (.ref a) rfl rfl rfl (rs.al h) (.al rs h) i.toR
theorem al_F {a : Addr} {o : HO} : (w.al a o).F a = some o := upd_same
theorem isL_al {a : Addr} {o : HO} (rs : RS κ w) (h : w.H a = none) {xs : List V} {l : List D} (i : IsL κ w.m w.F xs l) : IsL κ (w.al a o).m (w.al a o).F xs l := i.mono (Gr.al w (rs.fnone h))
theorem is_al {a : Addr} {o : HO} (rs : RS κ w) (h : w.H a = none) {x : V} {l : D} (i : Is κ w.m w.F x l) : Is κ (w.al a o).m (w.al a o).F x l := i.mono (Gr.al w (rs.fnone h))
theorem post_tup {W : WX} {l : List D} {Q : VK} {a : Addr} {xs : List V} (rs : RS κ w) (h : w.H a = none) (i : IsL κ w.m w.F xs l) (p : PostE κ W w (.ok (.tup l) w.env w.μ) Q) : Q (.ref a) (upd w.H a (.tup xs)) :=
  post_new rs h (.tup al_F (isL_al rs h i)) p
theorem post_lst {W : WX} {l : List D} {Q : VK} {a : Addr} {xs : List V} (rs : RS κ w) (h : w.H a = none) (i : IsL κ w.m w.F xs l) (p : PostE κ W w (.ok (.lst l) w.env w.μ) Q) : Q (.ref a) (upd w.H a (.lst xs)) :=
  post_new rs h (.lst al_F (isL_al rs h i)) p
end
/-! ### + -/
def addD (env : Env) (μ : Mu) (a b : D) : Option D :=
  match a, b with
  | .int i, .int j => some (.int (i + j))
  | .str x, .str y => if x.length + y.length ≤ sizeLine then some (.str (x ++ y)) else none
  | a, b => match seqOf env μ a, seqOf env μ b with
    | some (.tup, xs), some (.tup, ys) => if xs.length + ys.length ≤ sizeLine then some (.tup (xs ++ ys)) else none
    | some (.lst, xs), some (.lst, ys) => if xs.length + ys.length ≤ sizeLine then some (.lst (xs ++ ys)) else none
    | _, _ => none
theorem some_if {α : Type} {c : Prop} [Decidable c] {x y : α} (h : (if c then some x else none) = some y) : c ∧ x = y := by
  split at h
  · exact ⟨by assumption, Option.some.inj h⟩
  · cases h
section
variable {hx : HX} {X : Cx}
theorem isR_int {κ : Kx} {w : W3} {v : V} {i : Int} (h : IsR κ w v (.int i)) : v = .int i := by cases h; rfl
theorem isR_bl {κ : Kx} {w : W3} {v : V} {i : Bool} (h : IsR κ w v (.bl i)) : v = .bl i := by cases h; rfl
theorem isR_str {κ : Kx} {w : W3} {v : V} {i : Str} (h : IsR κ w v (.str i)) : v = .str i := by cases h; rfl
theorem isR_non {κ : Kx} {w : W3} {v : V} (h : IsR κ w v .non) : v = .non := by cases h; rfl
def rSeqAdd (K : Fg) : R2 := fun x y H Q => rCatA K x y H Q ∨ rCat x y H Q
theorem b2_seqAdd {a b d : D} {W : WX} {w : W3} {v u : V} {Q : VK} (rs : RS (kx X hx) w) (ia : IsR (kx X hx) w v a) (ib : IsR (kx X hx) w u b)
    (h : (match seqOf w.env w.μ a, seqOf w.env w.μ b with
    | some (.tup, xs), some (.tup, ys) => if xs.length + ys.length ≤ sizeLine then some (D.tup (xs ++ ys)) else none
    | some (.lst, xs), some (.lst, ys) => if xs.length + ys.length ≤ sizeLine then some (D.lst (xs ++ ys)) else none
    | _, _ => none) = some d) (p : PostE (kx X hx) W w (.ok d w.env w.μ) Q) : rSeqAdd X.K v u w.H Q := by
  cases ea : seqOf w.env w.μ a with
  | none =>
    rw [ea] at h
    cases h
  | some ka =>
    cases eb : seqOf w.env w.μ b with
    | none =>
      rw [ea, eb] at h
      obtain ⟨ka, la⟩ := ka
      cases ka <;> cases h
    | some kb =>
      rw [ea, eb] at h
      obtain ⟨ka, la⟩ := ka
      obtain ⟨kb, lb⟩ := kb
      obtain ⟨p1, xs, rfl, il1, s1⟩ := seq_heap rs ia ea
      obtain ⟨p2, ys, rfl, il2, s2⟩ := seq_heap rs ib eb
      have h1 := il1.length
      have h2 := il2.length
      cases ka with
      | tup =>
        cases kb with
        | tup =>
          obtain ⟨hz, rfl⟩ := some_if h
          refine .inl ⟨p1, p2, xs, ys, rfl, rfl, SqT.of s1, SqT.of s2, by omega, fun e => ?_, fun e1 e2 => ?_, fun e1 e2 q hq => post_tup rs hq (il1.append il2) p⟩
          · subst e
            cases il1
            refine post_now rs ?_ p
            cases b with
            | tup lb' =>
              cases eb
              exact ib
            | loc j =>
              unfold seqOf at eb
              dsimp only at eb
              split at eb <;> cases eb
            | cel j =>
              unfold seqOf at eb
              dsimp only at eb
              split at eb <;> cases eb
            | _ => cases eb
          · subst e2
            cases il2
            rw [List.append_nil] at p
            refine post_now rs ?_ p
            cases a with
            | tup lb' =>
              cases ea
              exact ia
            | loc j =>
              unfold seqOf at ea
              dsimp only at ea
              split at ea <;> cases ea
            | cel j =>
              unfold seqOf at ea
              dsimp only at ea
              split at ea <;> cases ea
            | _ => cases ea
        | _ => cases h
      | lst =>
        cases kb with
        | lst =>
          obtain ⟨hz, rfl⟩ := some_if h
          exact .inr ⟨p1, p2, xs, ys, rfl, rfl, s1, s2, by omega, fun q hq => post_lst rs hq (il1.append il2) p⟩
        | _ => cases h
      | rol => cases h
def rAddD (K : Fg) : R2 := fun x y H Q => (∃ i j, x = .int i ∧ y = .int j ∧ Q (.int (i + j)) H) ∨ ((∃ i j, x = .str i ∧ y = .str j ∧ i.length + j.length ≤ sizeLine ∧ Q (.str (i ++ j)) H) ∨ rSeqAdd K x y H Q)
theorem op_addD : OpR X (binaryOp .Add) (rAddD X.K) := op_add.or (op_add_str.or (op_catA.or op_cat))
theorem b2_add : Bin2 hx X (rAddD X.K) addD := by
  intro W w v u a b d Q rs ia ib h p
  have seq : (match seqOf w.env w.μ a, seqOf w.env w.μ b with
    | some (.tup, xs), some (.tup, ys) => if xs.length + ys.length ≤ sizeLine then some (D.tup (xs ++ ys)) else none
    | some (.lst, xs), some (.lst, ys) => if xs.length + ys.length ≤ sizeLine then some (D.lst (xs ++ ys)) else none
    | _, _ => none) = some d → rAddD X.K v u w.H Q := fun h => .inr (.inr (b2_seqAdd rs ia ib h p))
  cases a with
  | int i =>
    cases b with
    | int j =>
      cases h
      exact .inl ⟨i, j, isR_int ia, isR_int ib, post_now rs (Is.int _).toR p⟩
    | _ => exact seq h
  | str x =>
    cases b with
    | str y =>
      obtain ⟨hz, rfl⟩ := some_if h
      exact .inr (.inl ⟨x, y, isR_str ia, isR_str ib, hz, post_now rs (Is.str _).toR p⟩)
    | _ => exact seq h
  | _ => exact seq h
theorem e_add {Ma Mb : EM} {a b : Expr} {pos : Pos} (ha : EOk hx X a Ma) (hb : EOk hx X b Mb) : EOk hx X (.BinOp a .Add b pos) (mBin addD Ma Mb) := e_op op_addD b2_add ha hb
/-! ### ints -/
theorem b2_int {C : Int → Int → Prop} [DecidableRel C] {g : Int → Int → V} {g' : Int → Int → D} (hg : ∀ i j m F, Is (kx X hx) m F (g i j) (g' i j)) :
    Bin2 hx X (rI C g) (fun _ _ a b => match a, b with
      | .int i, .int j => if C i j then some (g' i j) else none
      | _, _ => none) := by
  intro W w v u a b d Q rs ia ib h p
  cases a with
  | int i =>
    cases b with
    | int j =>
      obtain ⟨hz, rfl⟩ := some_if h
      exact ⟨i, j, isR_int ia, isR_int ib, hz, post_now rs (hg _ _ _ _).toR p⟩
    | _ => cases h
  | _ => cases h
theorem b2_int0 {g : Int → Int → V} {g' : Int → Int → D} (hg : ∀ i j m F, Is (kx X hx) m F (g i j) (g' i j)) :
    Bin2 hx X (rI0 g) (fun _ _ a b => match a, b with
      | .int i, .int j => some (g' i j)
      | _, _ => none) := by
  intro W w v u a b d Q rs ia ib h p
  cases a with
  | int i =>
    cases b with
    | int j =>
      cases h
      exact ⟨i, j, isR_int ia, isR_int ib, post_now rs (hg _ _ _ _).toR p⟩
    | _ => cases h
  | _ => cases h
abbrev iC (C : Int → Int → Prop) [DecidableRel C] (g : Int → Int → D) : Env → Mu → D → D → Option D := fun _ _ a b => match a, b with
  | .int i, .int j => if C i j then some (g i j) else none
  | _, _ => none
abbrev iN (g : Int → Int → D) : Env → Mu → D → D → Option D := fun _ _ a b => match a, b with
  | .int i, .int j => some (g i j)
  | _, _ => none
def subD : Env → Mu → D → D → Option D := iN fun i j => .int (i - j)
instance : DecidableRel CDivN := fun i j => inferInstanceAs (Decidable (j ≠ 0 ∧ j.natAbs < 1073741824))
instance : DecidableRel CPow := fun i j => inferInstanceAs (Decidable (0 ≤ j ∧ j ≤ 1000000 ∧ i.natAbs < 2 ^ 64))
instance : DecidableRel CMul := fun i j => inferInstanceAs (Decidable ((-(2 ^ 64) < i ∧ i < 2 ^ 64) ∨ (-(2 ^ 64) < j ∧ j < 2 ^ 64)))
def modD : Env → Mu → D → D → Option D := iC (fun _ j => j ≠ 0) fun i j => .int (i.fmod j)
def fdivD : Env → Mu → D → D → Option D := iC CDivN fun i j => .int (i.fdiv j)
def powD : Env → Mu → D → D → Option D := iC CPow fun i j => .int (i ^ j.toNat)
theorem e_sub {Ma Mb : EM} {a b : Expr} {pos : Pos} (ha : EOk hx X a Ma) (hb : EOk hx X b Mb) : EOk hx X (.BinOp a .Sub b pos) (mBin subD Ma Mb) := e_op op_sub (b2_int0 fun _ _ _ _ => .int _) ha hb
theorem e_mod {Ma Mb : EM} {a b : Expr} {pos : Pos} (ha : EOk hx X a Ma) (hb : EOk hx X b Mb) : EOk hx X (.BinOp a .Mod b pos) (mBin modD Ma Mb) := e_op op_modN (b2_int fun _ _ _ _ => .int _) ha hb
theorem e_fdiv {Ma Mb : EM} {a b : Expr} {pos : Pos} (ha : EOk hx X a Ma) (hb : EOk hx X b Mb) : EOk hx X (.BinOp a .FloorDiv b pos) (mBin fdivD Ma Mb) := e_op op_fdivN (b2_int fun _ _ _ _ => .int _) ha hb
theorem e_pow {Ma Mb : EM} {a b : Expr} {pos : Pos} (ha : EOk hx X a Ma) (hb : EOk hx X b Mb) : EOk hx X (.BinOp a .Pow b pos) (mBin powD Ma Mb) := e_op op_pow (b2_int fun _ _ _ _ => .int _) ha hb
/-! ### order -/
def ltD : Env → Mu → D → D → Option D := iN fun i j => .bl (decide (i < j))
def leD : Env → Mu → D → D → Option D := iN fun i j => .bl (decide (i ≤ j))
def gtD : Env → Mu → D → D → Option D := iN fun i j => .bl (decide (j < i))
def geD : Env → Mu → D → D → Option D := iN fun i j => .bl (decide (j ≤ i))
/-- a comparison's rule, with its function -/
structure CmpOk (hx : HX) (X : Cx) (op : CmpOp) (r : R2) (f : Env → Mu → D → D → Option D) : Prop where
  ho : OpR X (compareOp op) r
  hf : Bin2 hx X r f
theorem c_lt : CmpOk hx X .Lt (rI0 fun i j => .bl (decide (i < j))) ltD := ⟨op_lt, b2_int0 fun _ _ _ _ => .bl _⟩
theorem c_le : CmpOk hx X .LtE (rI0 fun i j => .bl (decide (i ≤ j))) leD := ⟨op_le, b2_int0 fun _ _ _ _ => .bl _⟩
theorem c_gt : CmpOk hx X .Gt (rI0 fun i j => .bl (decide (j < i))) gtD := ⟨op_gt, b2_int0 fun _ _ _ _ => .bl _⟩
theorem c_ge : CmpOk hx X .GtE (rI0 fun i j => .bl (decide (j ≤ i))) geD := ⟨op_ge, b2_int0 fun _ _ _ _ => .bl _⟩
end
/-! ### data as a whole -/
mutual
def toP : D → Option PyData
  | .non => some .none
  | .bl b => some (.bool b)
  | .int i => some (.int i)
  | .str s => some (.str s)
  | .tup l => (toPs l).map .tuple
  | .lst l => (toPs l).map .list
  | .rol l => (toPs l).map .list
  | _ => none
def toPs : List D → Option (List PyData)
  | [] => some []
  | d :: ds => match toP d, toPs ds with
    | some p, some ps => some (p :: ps)
    | _, _ => none
end
section
variable {κ : Kx} {m : List Addr} {F : Hp}
mutual
theorem Is.dp : ∀ {d : D} {v : V} {p : PyData}, Is κ m F v d → toP d = some p → Dp κ.K F v p
  | _, _, _, .non, e => by cases e; exact .non
  | _, _, _, .bl b, e => by cases e; exact .bl b
  | _, _, _, .int b, e => by cases e; exact .int b
  | _, _, _, .str b, e => by cases e; exact .str b
  | _, _, _, .tup (l := l) h il, e => by
    unfold toP at e
    cases q : toPs l with
    | none =>
      rw [q] at e
      cases e
    | some ps =>
      rw [q] at e
      cases e
      exact .tup (SqT.of h) (IsL.dp il q)
  | _, _, _, .lst (l := l) h il, e => by
    unfold toP at e
    cases q : toPs l with
    | none =>
      rw [q] at e
      cases e
    | some ps =>
      rw [q] at e
      cases e
      exact .lst (SqL.of h) (IsL.dp il q)
  | _, _, _, .rol (l := l) h il, e => by
    unfold toP at e
    cases q : toPs l with
    | none =>
      rw [q] at e
      cases e
    | some ps =>
      rw [q] at e
      cases e
      exact .lst h (IsL.dp il q)
  | _, _, _, .dct _ _, e => by cases e
  | _, _, _, .dctT _ _, e => by cases e
  | _, _, _, .ins _ _ _, e => by cases e
  | _, _, _, .cel _, e => by cases e
theorem IsL.dp : ∀ {ds : List D} {vs : List V} {ps : List PyData}, IsL κ m F vs ds → toPs ds = some ps → DpAll κ.K F vs ps
  | _, _, _, .nil, e => by cases e; exact .nil
  | _, _, _, .cons (d := d) (ds := ds) h t, e => by
    unfold toPs at e
    cases q : toP d with
    | none =>
      rw [q] at e
      cases e
    | some p =>
      cases q2 : toPs ds with
      | none =>
        rw [q, q2] at e
        cases e
      | some ps =>
        rw [q, q2] at e
        cases e
        exact .cons (Is.dp h q) (IsL.dp t q2)
end
mutual
theorem dp_mono {K : Fg} {F' : Hp} (g : ∀ (a : Addr) (o : HO), F a = some o → F' a = some o) : ∀ {v : V} {p : PyData}, Dp K F v p → Dp K F' v p
  | _, _, .non => .non
  | _, _, .bl b => .bl b
  | _, _, .int b => .int b
  | _, _, .str b => .str b
  | _, _, .lst h t => .lst (sqL_mono g h) (dpl_mono g t)
  | _, _, .tup h t => .tup (sqT_mono g h) (dpl_mono g t)
theorem dpl_mono {K : Fg} {F' : Hp} (g : ∀ (a : Addr) (o : HO), F a = some o → F' a = some o) : ∀ {v : List V} {p : List PyData}, DpAll K F v p → DpAll K F' v p
  | _, _, .nil => .nil
  | _, _, .cons h t => .cons (dp_mono g h) (dpl_mono g t)
end
end
/-- an answer as a whole -/
def toPR (env : Env) (μ : Mu) (d : D) : Option PyData :=
  match d with
  | .cel _ => match seqOf env μ d with
    | some (_, l) => (toPs l).map .list
    | none => none
  | .loc _ => match seqOf env μ d with
    | some (_, l) => (toPs l).map .list
    | none => none
  | d => toP d
theorem IsR.dp {κ : Kx} {w : W3} (rs : RS κ w) {v : V} {d : D} {p : PyData} (i : IsR κ w v d) (e : toPR w.env w.μ d = some p) : Dp κ.K w.H v p := by
  have go : ∀ {l : List D} {k : SK}, k ≠ .tup → seqOf w.env w.μ d = some (k, l) → (toPs l).map PyData.list = some p → Dp κ.K w.H v p := fun {l k} hk q e => by
    obtain ⟨a, xs, rfl, il, s⟩ := seq_heap rs i q
    cases q2 : toPs l with
    | none =>
      rw [q2] at e
      cases e
    | some ps =>
      rw [q2] at e
      cases e
      cases k with
      | lst => exact .lst (SqL.of s) (dpl_mono rs.le (IsL.dp il q2))
      | rol => exact .lst s (dpl_mono rs.le (IsL.dp il q2))
      | tup => exact absurd rfl hk
  cases d with
  | cel n =>
    unfold toPR at e
    dsimp only at e
    cases q : seqOf w.env w.μ (.cel n) with
    | none =>
      rw [q] at e
      cases e
    | some kl =>
      rw [q] at e
      obtain ⟨k, l⟩ := kl
      refine go (k := k) (fun z => ?_) q e
      subst z
      unfold seqOf at q
      dsimp only at q
      split at q <;> cases q
  | loc n =>
    unfold toPR at e
    dsimp only at e
    cases q : seqOf w.env w.μ (.loc n) with
    | none =>
      rw [q] at e
      cases e
    | some kl =>
      rw [q] at e
      obtain ⟨k, l⟩ := kl
      refine go (k := k) (fun z => ?_) q e
      subst z
      unfold seqOf at q
      dsimp only at q
      split at q <;> cases q
  | exn c gs =>
    unfold toPR at e
    dsimp only at e
    first
      | cases e
      | (unfold toP at e; cases e)
      | (unfold seqOf at e; cases e)
  | _ => exact dp_mono rs.le (Is.dp i e)
def eqD (env : Env) (μ : Mu) (a b : D) : Option D :=
  match toPR env μ a, toPR env μ b with
  | some p, some q => if SeqAt.shaped p && SeqAt.shaped q then some (.bl (PyData.eqv p q)) else none
  | _, _ => none
def neD (env : Env) (μ : Mu) (a b : D) : Option D :=
  match toPR env μ a, toPR env μ b with
  | some p, some q => if SeqAt.shaped p && SeqAt.shaped q then some (.bl (!PyData.eqv p q)) else none
  | _, _ => none
end DL
set_option Elab.async false
set_option linter.all false
set_option maxRecDepth 100000
set_option maxHeartbeats 2000000
namespace DL
open PySem PySem.Spec PyProof.Rows L2
/-! ### dicts by data -/
def dctOf (env : Env) (μ : Mu) : D → Option (Bool × List (KK × D))
  | .dct t l => some (t, l)
  | .cel n => match μ[n]? with
    | some (.dct t l) => some (t, l)
    | _ => none
  | .loc i => match env[i]? with
    | some (.own (.dct t l)) => some (t, l)
    | _ => none
  | _ => none
def keyOf : D → Option Key
  | .int i => some (.inl i)
  | .str s => some (.inr s)
  | _ => none
def keysOf : List D → Option (List Key)
  | [] => some []
  | d :: ds => match keyOf d, keysOf ds with
    | some k, some ks => some (k :: ks)
    | _, _ => none
def kkOf : D → Option KK
  | .tup l => (keysOf l).map .t
  | d => (keyOf d).map .k
def kD : Key → D
  | .inl i => .int i
  | .inr s => .str s
def kkD : KK → D
  | .k k => kD k
  | .t l => .tup (l.map kD)
/-- the value at a key -/
def gval (l : List (KK × D)) (k : KK) : Option D := (l.find? fun p => decide (p.1 = k)).map (·.2)
/-- a key's value stored: in its place, or at the end -/
def gput (l : List (KK × D)) (k : KK) (v : D) : List (KK × D) :=
  if (l.any fun p => decide (p.1 = k)) = true then l.map (fun p => if p.1 = k then (p.1, v) else p) else l ++ [(k, v)]
section
variable {κ : Kx} {w w' : W3} {m : List Addr} {F : Hp}
theorem dct_heap (rs : RS κ w) {v : V} {d : D} (i : IsR κ w v d) {t : Bool} {l : List (KK × D)} (h : dctOf w.env w.μ d = some (t, l)) : ∃ a, v = .ref a ∧ CellOk κ w.m w.F w.H a (.dct t l) := by
  cases d with
  | dct t' l' =>
    cases h
    cases i with
    | dct e il => exact ⟨_, rfl, _, rs.le _ _ e, il⟩
    | dctT e il => exact ⟨_, rfl, _, rs.le _ _ e, il⟩
  | cel n =>
    cases i with
    | cel e =>
      unfold dctOf at h
      dsimp only at h
      cases q : w.μ[n]? with
      | none =>
        rw [q] at h
        cases h
      | some c =>
        rw [q] at h
        cases c with
        | dct t' l' =>
          cases h
          exact ⟨_, rfl, (rs.cel n _ _ ⟨q, e, trivial⟩).2⟩
        | _ => cases h
  | loc j =>
    unfold dctOf at h
    dsimp only at h
    cases q : w.env[j]? with
    | none =>
      rw [q] at h
      cases h
    | some c =>
      rw [q] at h
      cases c with
      | own c =>
        cases c with
        | dct t' l' =>
          cases h
          obtain ⟨_, a, e1, e2, h1⟩ := rs.own j _ q
          have e3 : w.σ[j]? = some (some v) := i
          rw [e1] at e3
          cases e3
          exact ⟨_, rfl, h1⟩
        | _ => cases h
      | _ => cases h
  | _ => cases h
theorem keyOf_v {d : D} {k : Key} {v : V} (e : keyOf d = some k) (i : Is κ m F v d) : v = kV k := by
  cases d with
  | int j =>
    cases e
    cases i
    rfl
  | str j =>
    cases e
    cases i
    rfl
  | _ => cases e
theorem keysOf_v : ∀ {ds : List D} {ks : List Key} {vs : List V}, keysOf ds = some ks → IsL κ m F vs ds → vs = ks.map kV
  | [], _, _, e, .nil => by
    cases e
    rfl
  | d :: ds, _, _, e, .cons h t => by
    unfold keysOf at e
    cases q : keyOf d with
    | none =>
      rw [q] at e
      cases e
    | some k =>
      cases q2 : keysOf ds with
      | none =>
        rw [q, q2] at e
        cases e
      | some ks =>
        rw [q, q2] at e
        cases e
        rw [keyOf_v q h, keysOf_v q2 t]
        rfl
theorem IsK.find : ∀ {kvs : List (Key × V)} {l : List (KK × D)} (k : Key), IsK κ m F kvs l → (∀ d, gval l (.k k) = some d → ∃ v, valV kvs k = some v ∧ Is κ m F v d) ∧ (gval l (.k k) = none → valV kvs k = none)
  | _, _, k, .nil => ⟨(fun d h => nomatch h), fun _ => rfl⟩
  | _, _, k, .cons (k := k') (v := v) (d := d) (vs := vs) (ds := ds) h t => by
    have ih := IsK.find k t
    by_cases e : k' = k
    · subst e
      have e1 : gval ((KK.k k', d) :: ds) (.k k') = some d := by simp [gval, List.find?_cons]
      rw [e1, valV_pos rfl]
      refine ⟨fun d' hd => ?_, fun z => nomatch z⟩
      cases hd
      exact ⟨v, rfl, h⟩
    · have e1 : gval ((KK.k k', d) :: ds) (.k k) = gval ds (.k k) := by simp [gval, List.find?_cons, e]
      rw [e1, valV_neg e]
      exact ih
theorem IsT.find : ∀ {kvs : List (List Key × V)} {l : List (KK × D)} (k : List Key), IsT κ m F kvs l → (∀ d, gval l (.t k) = some d → ∃ v, valV kvs k = some v ∧ Is κ m F v d) ∧ (gval l (.t k) = none → valV kvs k = none)
  | _, _, k, .nil => ⟨(fun d h => nomatch h), fun _ => rfl⟩
  | _, _, k, .cons (k := k') (v := v) (d := d) (vs := vs) (ds := ds) h t => by
    have ih := IsT.find k t
    by_cases e : k' = k
    · subst e
      have e1 : gval ((KK.t k', d) :: ds) (.t k') = some d := by simp [gval, List.find?_cons]
      rw [e1, valV_pos rfl]
      refine ⟨fun d' hd => ?_, fun z => nomatch z⟩
      cases hd
      exact ⟨v, rfl, h⟩
    · have e1 : gval ((KK.t k', d) :: ds) (.t k) = gval ds (.t k) := by simp [gval, List.find?_cons, e]
      rw [e1, valV_neg e]
      exact ih
/-- a look-up: the key's kind must be the dict's -/
def kindOk : Bool → KK → Bool
  | false, .k _ => true
  | true, .t _ => true
  | _, _ => false
theorem dk_get (rs : RS κ w) {a : Addr} {t : Bool} {l : List (KK × D)} (h : CellOk κ w.m w.F w.H a (.dct t l)) {d : D} {kk : KK} {y : V} (ek : kkOf d = some kk) (ok : kindOk t kk = true) (i : IsR κ w y d) :
    ∃ o, DGet w.H a y o ∧ (∀ x, gval l kk = some x → ∃ v, o = some v ∧ Is κ w.m w.F v x) ∧ (gval l kk = none → o = none) := by
  cases t with
  | false =>
    obtain ⟨kvs, e, ik⟩ := h
    cases kk with
    | k k =>
      have ey : y = kV k := by
        cases d with
        | tup l' =>
          unfold kkOf at ek
          dsimp only at ek
          cases q : keysOf l' <;> rw [q] at ek <;> cases ek
        | int j =>
          cases ek
          exact isR_int i
        | str j =>
          cases ek
          exact isR_str i
        | _ => cases ek
      subst ey
      obtain ⟨f1, f2⟩ := ik.find k
      refine ⟨valV kvs k, DGet.k e, fun x hx => ?_, f2⟩
      obtain ⟨v, e1, e2⟩ := f1 x hx
      exact ⟨v, e1, e2⟩
    | t k => cases ok
  | true =>
    obtain ⟨kvs, e, ik⟩ := h
    cases kk with
    | k k => cases ok
    | t k =>
      cases d with
      | tup l' =>
        unfold kkOf at ek
        dsimp only at ek
        cases q : keysOf l' with
        | none =>
          rw [q] at ek
          cases ek
        | some ks =>
          rw [q] at ek
          cases ek
          have i' : Is κ w.m w.F y (.tup l') := i
          cases i' with
          | @tup a' xs _ hq il =>
            have ex := keysOf_v q il
            subst ex
            obtain ⟨f1, f2⟩ := ik.find k
            refine ⟨valV kvs k, DGet.t e (rs.le _ _ hq), fun x hx => ?_, f2⟩
            obtain ⟨v, e1, e2⟩ := f1 x hx
            exact ⟨v, e1, e2⟩
      | int j => cases ek
      | str j => cases ek
      | _ => cases ek
end
end DL
set_option Elab.async false
set_option linter.all false
set_option maxRecDepth 100000
set_option maxHeartbeats 2000000
namespace DL
open PySem PySem.Spec PyProof.Rows L2
section
variable {hx : HX} {X : Cx}
/-! ### == and != -/
theorem c_eq (hu : X.A.units + 64 < cLine) : CmpOk hx X .Eq (rEqD X.K) eqD := ⟨op_eqD hu, by
  intro W w v u a b d Q rs ia ib h p
  unfold eqD at h
  cases e1 : toPR w.env w.μ a with
  | none =>
    rw [e1] at h
    cases h
  | some pa =>
    cases e2 : toPR w.env w.μ b with
    | none =>
      rw [e1, e2] at h
      cases h
    | some pb =>
      rw [e1, e2] at h
      obtain ⟨hs, rfl⟩ := some_if h
      obtain ⟨s1, s2⟩ := Bool.and_eq_true_iff.mp hs
      exact ⟨pa, pb, IsR.dp rs ia e1, IsR.dp rs ib e2, s1, s2, post_now rs (Is.bl _).toR p⟩⟩
theorem c_ne (hu : X.A.units + 64 < cLine) : CmpOk hx X .NotEq (rNeD X.K) neD := ⟨op_neD hu, by
  intro W w v u a b d Q rs ia ib h p
  unfold neD at h
  cases e1 : toPR w.env w.μ a with
  | none =>
    rw [e1] at h
    cases h
  | some pa =>
    cases e2 : toPR w.env w.μ b with
    | none =>
      rw [e1, e2] at h
      cases h
    | some pb =>
      rw [e1, e2] at h
      obtain ⟨hs, rfl⟩ := some_if h
      obtain ⟨s1, s2⟩ := Bool.and_eq_true_iff.mp hs
      exact ⟨pa, pb, IsR.dp rs ia e1, IsR.dp rs ib e2, s1, s2, post_now rs (Is.bl _).toR p⟩⟩
/-! ### is None -/
def isNonD : D → Bool
  | .non => true
  | _ => false
def isND : Env → Mu → D → D → Option D := fun _ _ a b => match b with
  | .non => some (.bl (isNonD a))
  | _ => none
def notND : Env → Mu → D → D → Option D := fun _ _ a b => match b with
  | .non => some (.bl (!isNonD a))
  | _ => none
theorem RS.notNon {κ : Kx} {w : W3} (rs : RS κ w) {v : V} {a : D} (ia : IsR κ w v a) (no : ∀ i, a = .loc i → ∃ x, v = .ref x) : decide (v = .non) = isNonD a := by
  cases a with
  | non =>
    cases ia
    rfl
  | loc i =>
    obtain ⟨x, rfl⟩ := no i rfl
    rfl
  | exn c gs =>
    obtain ⟨a, _, _, rfl, _⟩ := ia
    rfl
  | _ => cases ia <;> rfl
def noLoc : D → Bool
  | .loc _ => false
  | .exn _ _ => false
  | _ => true
def isND' : Env → Mu → D → D → Option D := fun env μ a b => if noLoc a then isND env μ a b else none
def notND' : Env → Mu → D → D → Option D := fun env μ a b => if noLoc a then notND env μ a b else none
theorem noLoc_ne {a : D} (h : noLoc a = true) : ∀ i, a = .loc i → ∃ x, (V.non : V) = .ref x := fun i e => by
  subst e
  cases h
theorem non_dec {κ : Kx} {w : W3} {v : V} {a : D} (ia : IsR κ w v a) (h : noLoc a = true) : decide (v = .non) = isNonD a := by
  cases a with
  | loc i => cases h
  | exn c gs => cases h
  | _ => cases ia <;> rfl
theorem c_isN : CmpOk hx X .Is (fun x y H Q => y = .non ∧ Q (.bl (decide (x = .non))) H) isND' := ⟨op_isN, by
  intro W w v u a b d Q rs ia ib h p
  obtain ⟨hl, h⟩ := (show noLoc a = true ∧ isND w.env w.μ a b = some d from by
    unfold isND' at h
    split at h
    · exact ⟨by assumption, h⟩
    · cases h)
  cases b with
  | non =>
    cases h
    refine ⟨isR_non ib, ?_⟩
    rw [non_dec ia hl]
    exact post_now rs (Is.bl _).toR p
  | _ => cases h⟩
theorem c_notN : CmpOk hx X .IsNot (fun x y H Q => y = .non ∧ Q (.bl (!decide (x = .non))) H) notND' := ⟨op_notN, by
  intro W w v u a b d Q rs ia ib h p
  obtain ⟨hl, h⟩ := (show noLoc a = true ∧ notND w.env w.μ a b = some d from by
    unfold notND' at h
    split at h
    · exact ⟨by assumption, h⟩
    · cases h)
  cases b with
  | non =>
    cases h
    refine ⟨isR_non ib, ?_⟩
    rw [non_dec ia hl]
    exact post_now rs (Is.bl _).toR p
  | _ => cases h⟩
/-! ### in -/
def flV : D → Option V
  | .non => some .non
  | .bl b => some (.bl b)
  | .int i => some (.int i)
  | .str s => some (.str s)
  | _ => none
def flVs : List D → Option (List V)
  | [] => some []
  | d :: ds => match flV d, flVs ds with
    | some v, some vs => some (v :: vs)
    | _, _ => none
theorem flV_is {κ : Kx} {m : List Addr} {F : Hp} {d : D} {x v : V} (e : flV d = some x) (i : Is κ m F v d) : v = x ∧ flatV x = true := by
  cases d with
  | non => cases e; cases i; exact ⟨rfl, rfl⟩
  | bl _ => cases e; cases i; exact ⟨rfl, rfl⟩
  | int _ => cases e; cases i; exact ⟨rfl, rfl⟩
  | str _ => cases e; cases i; exact ⟨rfl, rfl⟩
  | _ => cases e
theorem flVs_is {κ : Kx} {m : List Addr} {F : Hp} : ∀ {ds : List D} {xs vs : List V}, flVs ds = some xs → IsL κ m F vs ds → vs = xs ∧ xs.all flatV = true
  | [], _, _, e, .nil => by
    cases e
    exact ⟨rfl, rfl⟩
  | d :: ds, _, _, e, .cons h t => by
    unfold flVs at e
    cases q : flV d with
    | none =>
      rw [q] at e
      cases e
    | some k =>
      cases q2 : flVs ds with
      | none =>
        rw [q, q2] at e
        cases e
      | some ks =>
        rw [q, q2] at e
        cases e
        obtain ⟨rfl, f1⟩ := flV_is q h
        obtain ⟨rfl, f2⟩ := flVs_is q2 t
        exact ⟨rfl, by rw [List.all_cons, f1, f2]; rfl⟩
/-- whether x is in y -/
def inB (env : Env) (μ : Mu) (a b : D) : Option Bool :=
  match a, b with
  | .str x, .str y => some (!(Builtin.Str.occurrences y x 0 y.length 1).isEmpty)
  | a, b => match dctOf env μ b with
    | some (t, l) => match kkOf a with
      | some k => if kindOk t k then some (gval l k).isSome else none
      | none => none
    | none => match seqOf env μ b with
      | some (_, l) => match flV a, flVs l with
        | some x, some xs => some (inV x xs)
        | _, _ => none
      | none => none
def inD (env : Env) (μ : Mu) (a b : D) : Option D := (inB env μ a b).map .bl
def notInD (env : Env) (μ : Mu) (a b : D) : Option D := (inB env μ a b).map fun x => .bl (!x)
/-- what the rules of in ask -/
def rInX (K : Fg) (neg : Bool) : R2 := fun x y H Q => ∃ k : Bool, ((∃ i j, x = .str i ∧ y = .str j ∧ k = !(Builtin.Str.occurrences j i 0 j.length 1).isEmpty) ∨
  ((∃ a o, y = .ref a ∧ DGet H a x o ∧ k = o.isSome) ∨ ∃ p xs, y = .ref p ∧ (SqL K H p xs ∨ SqT K H p xs) ∧ flatV x = true ∧ xs.all flatV = true ∧ k = inV x xs)) ∧ Q (.bl (if neg then !k else k)) H
theorem op_inX (hu : X.A.units + 1 < cLine) : OpR X (compareOp .In) (rInX X.K false) := by
  intro pins s σ H x y v u Q I rx ry h
  obtain ⟨k, (⟨i, j, rfl, rfl, rfl⟩ | ⟨a, o, rfl, g, rfl⟩ | ⟨p, xs, rfl, s1, f1, f2, rfl⟩), q⟩ := h
  · exact op_in_str pins s σ H _ _ v u Q I rx ry ⟨i, j, rfl, rfl, q⟩
  · obtain rfl : u = Value.ref a := ry
    exact d_in hu I g rx fun s3 I3 => ⟨.bl o.isSome, H, I3, rfl, q⟩
  · exact op_in_seq pins s σ H _ _ v u Q I rx ry ⟨p, xs, rfl, s1, f1, f2, q⟩
theorem op_notInX (hu : X.A.units + 1 < cLine) : OpR X (compareOp .NotIn) (rInX X.K true) := by
  intro pins s σ H x y v u Q I rx ry h
  obtain ⟨k, (⟨i, j, rfl, rfl, rfl⟩ | ⟨a, o, rfl, g, rfl⟩ | ⟨p, xs, rfl, s1, f1, f2, rfl⟩), q⟩ := h
  · exact op_notIn_str pins s σ H _ _ v u Q I rx ry ⟨i, j, rfl, rfl, q⟩
  · obtain rfl : u = Value.ref a := ry
    exact d_notIn hu I g rx fun s3 I3 => ⟨.bl (!o.isSome), H, I3, rfl, q⟩
  · exact op_notIn_seq pins s σ H _ _ v u Q I rx ry ⟨p, xs, rfl, s1, f1, f2, q⟩
theorem in_asks {κ : Kx} {w : W3} (rs : RS κ w) {v u : V} {a b : D} (ia : IsR κ w v a) (ib : IsR κ w u b) {k : Bool} (h : inB w.env w.μ a b = some k) :
    (∃ i j, v = .str i ∧ u = .str j ∧ k = !(Builtin.Str.occurrences j i 0 j.length 1).isEmpty) ∨
  ((∃ a o, u = .ref a ∧ DGet w.H a v o ∧ k = o.isSome) ∨ ∃ p xs, u = .ref p ∧ (SqL κ.K w.H p xs ∨ SqT κ.K w.H p xs) ∧ flatV v = true ∧ xs.all flatV = true ∧ k = inV v xs) := by
  have rest : (match dctOf w.env w.μ b with
    | some (t, l) => match kkOf a with
      | some k => if kindOk t k then some (gval l k).isSome else none
      | none => none
    | none => match seqOf w.env w.μ b with
      | some (_, l) => match flV a, flVs l with
        | some x, some xs => some (inV x xs)
        | _, _ => none
      | none => none) = some k → ((∃ a o, u = .ref a ∧ DGet w.H a v o ∧ k = o.isSome) ∨ ∃ p xs, u = .ref p ∧ (SqL κ.K w.H p xs ∨ SqT κ.K w.H p xs) ∧ flatV v = true ∧ xs.all flatV = true ∧ k = inV v xs) := fun h => by
    cases e : dctOf w.env w.μ b with
    | some tl =>
      obtain ⟨t, l⟩ := tl
      rw [e] at h
      obtain ⟨p, rfl, idk⟩ := dct_heap rs ib e
      cases ek : kkOf a with
      | none =>
        rw [ek] at h
        cases h
      | some kk =>
        rw [ek] at h
        dsimp only at h
        obtain ⟨hk, rfl⟩ := some_if h
        obtain ⟨o, g, f1, f2⟩ := dk_get rs idk ek hk ia
        refine .inl ⟨p, o, rfl, g, ?_⟩
        cases eg : gval l kk with
        | none => rw [f2 eg]; rfl
        | some x =>
          obtain ⟨v', e1, _⟩ := f1 x eg
          rw [e1]
          rfl
    | none =>
      rw [e] at h
      cases es : seqOf w.env w.μ b with
      | none =>
        rw [es] at h
        cases h
      | some kl =>
        obtain ⟨sk, l⟩ := kl
        rw [es] at h
        obtain ⟨p, xs, rfl, il, sq⟩ := seq_heap rs ib es
        dsimp only at h
        cases e1 : flV a with
        | none =>
          rw [e1] at h
          cases h
        | some x =>
          cases e2 : flVs l with
          | none =>
            rw [e1, e2] at h
            cases h
          | some ys =>
            rw [e1, e2] at h
            cases h
            have ia' : Is κ w.m w.F v a := by
              cases a with
              | loc j => cases e1
              | exn c gs => cases e1
              | _ => exact ia
            obtain ⟨rfl, f1⟩ := flV_is e1 ia'
            obtain ⟨rfl, f2⟩ := flVs_is e2 il
            exact .inr ⟨p, _, rfl, sq.sq, f1, f2, rfl⟩
  unfold inB at h
  cases a with
  | str x =>
    cases b with
    | str y =>
      cases h
      exact .inl ⟨x, y, isR_str ia, isR_str ib, rfl⟩
    | _ => exact .inr (rest h)
  | _ => exact .inr (rest h)
theorem c_in (hu : X.A.units + 1 < cLine) : CmpOk hx X .In (rInX X.K false) inD := ⟨op_inX hu, by
  intro W w v u a b d Q rs ia ib h p
  unfold inD at h
  cases e : inB w.env w.μ a b with
  | none =>
    rw [e] at h
    cases h
  | some k =>
    rw [e] at h
    cases h
    exact ⟨k, in_asks rs ia ib e, post_now rs (Is.bl _).toR p⟩⟩
theorem c_notIn (hu : X.A.units + 1 < cLine) : CmpOk hx X .NotIn (rInX X.K true) notInD := ⟨op_notInX hu, by
  intro W w v u a b d Q rs ia ib h p
  unfold notInD at h
  cases e : inB w.env w.μ a b with
  | none =>
    rw [e] at h
    cases h
  | some k =>
    rw [e] at h
    cases h
    exact ⟨k, in_asks rs ia ib e, post_now rs (Is.bl _).toR p⟩⟩
end
end DL
set_option Elab.async false
set_option linter.all false
set_option maxRecDepth 100000
set_option maxHeartbeats 2000000
namespace DL
open PySem PySem.Spec PyProof.Rows L2
section
variable {hx : HX} {X : Cx}
/-! ### tests -/
theorem PostT.imp {κ : Kx} {W : WX} {w : W3} {r : TR} {Q Q' : Bool → Hp → Prop} (h : PostT κ W w r Q) (q : ∀ v H, Q v H → Q' v H) : PostT κ W w r Q' := by
  cases r with
  | ok d env' μ' => exact fun w' e1 e2 e3 rs st => q _ _ (h w' e1 e2 e3 rs st)
  | exc x env' μ' => exact h
  | stk => exact h
theorem PostT.step {κ : Kx} {W : WX} {w w1 : W3} {r : TR} {Q : Bool → Hp → Prop} (e : w1.σ = w.σ) (s : Stp w w1) (h : PostT κ W w r Q) : PostT κ W w1 r Q := by
  cases r with
  | ok d env' μ' => exact fun w' e1 e2 e3 rs st => h w' (e1.trans e) e2 e3 rs (s.trans st)
  | exc x env' μ' => exact fun w' cls dd e1 e2 e3 rs st i => h w' cls dd (e1.trans e) e2 e3 rs (s.trans st) i
  | stk => exact h
def ER.toT (r : ER) (k : D → Env → Mu → TR) : TR :=
  match r with
  | .ok d env μ => k d env μ
  | .exc x env μ => .exc x env μ
  | .stk => .stk
theorem PostT.bindE {κ : Kx} {W : WX} {w : W3} {r : ER} {k : D → Env → Mu → TR} {Q : Bool → Hp → Prop} (h : PostT κ W w (r.toT k) Q) :
    PostE κ W w r fun v H => ∃ (w1 : W3) (d : D), w1.H = H ∧ w1.σ = w.σ ∧ RS κ w1 ∧ Stp w w1 ∧ IsR κ w1 v d ∧ PostT κ W w1 (k d w1.env w1.μ) Q := by
  cases r with
  | ok d env' μ' =>
    intro w' v e1 e2 e3 rs st i
    subst e2 e3
    exact ⟨w', d, rfl, e1, rs, st, i, PostT.step e1 st h⟩
  | exc x env' μ' => exact h
  | stk => exact h.elim
/-- truth -/
def truB (env : Env) (μ : Mu) (d : D) : Option Bool :=
  match d with
  | .non => some false
  | .bl b => some b
  | .int i => some (i != 0)
  | .str s => if s.length ≤ sizeLine then some ((s.length : Int) != 0) else none
  | d => match seqOf env μ d with
    | some (_, l) => some (!l.isEmpty)
    | none => match dctOf env μ d with
      | some (false, l) => some (!l.isEmpty)
      | _ => none
theorem isEmpty_is {κ : Kx} {m : List Addr} {F : Hp} {xs : List V} {l : List D} (h : IsL κ m F xs l) : xs.isEmpty = l.isEmpty := by
  cases h <;> rfl
theorem isEmptyK_is {κ : Kx} {m : List Addr} {F : Hp} {xs : List (Key × V)} {l : List (KK × D)} (h : IsK κ m F xs l) : xs.isEmpty = l.isEmpty := by
  cases h <;> rfl
theorem tru_asks {κ : Kx} {w : W3} (rs : RS κ w) {v : V} {d : D} (i : IsR κ w v d) {k : Bool} (h : truB w.env w.μ d = some k) : TruV κ.K v w.H k := by
  have rest : (match seqOf w.env w.μ d with
    | some (_, l) => some (!l.isEmpty)
    | none => match dctOf w.env w.μ d with
      | some (false, l) => some (!l.isEmpty)
      | _ => none) = some k → TruV κ.K v w.H k := fun h => by
    cases e : seqOf w.env w.μ d with
    | some kl =>
      obtain ⟨sk, l⟩ := kl
      rw [e] at h
      cases h
      obtain ⟨a, xs, rfl, il, s⟩ := seq_heap rs i e
      rw [← isEmpty_is il]
      rcases s.sq with z | z
      · exact .inl ⟨xs, z, rfl⟩
      · exact .inr (.inl ⟨xs, z, rfl⟩)
    | none =>
      rw [e] at h
      cases e2 : dctOf w.env w.μ d with
      | none =>
        rw [e2] at h
        cases h
      | some tl =>
        obtain ⟨t, l⟩ := tl
        rw [e2] at h
        cases t with
        | true => cases h
        | false =>
          cases h
          obtain ⟨a, rfl, kvs, e3, ik⟩ := dct_heap rs i e2
          rw [← isEmptyK_is ik]
          exact .inr (.inr ⟨kvs, e3, rfl⟩)
  unfold truB at h
  cases d with
  | non =>
    cases h
    rw [isR_non i]
    exact rfl
  | bl b =>
    cases h
    rw [isR_bl i]
    exact rfl
  | int j =>
    cases h
    rw [isR_int i]
    exact rfl
  | str s =>
    obtain ⟨hz, rfl⟩ := some_if h
    rw [isR_str i]
    exact ⟨hz, rfl⟩
  | _ => exact rest h
def mTru (Me : EM) : TM := fun env μ => (Me env μ).toT fun d env μ => match truB env μ d with
  | some b => .ok b env μ
  | none => .stk
theorem t_val {e : Expr} {Me : EM} (h : EOk hx X e Me) (he : ∀ whole, isTrue e X.env whole = (do let v ← whole; standAt e.pos; holding [v] (truthy v)) := by intro _; rfl) : TOk hx X e (mTru Me) := by
  refine fun W tk => impPT (pt_truth (h W tk) he) fun σ H Q q => ?_
  obtain ⟨w, rfl, rfl, rs, p⟩ := q
  refine ⟨w, rfl, rfl, rs, (PostT.bindE p).imp fun v H1 ⟨w1, d, e1, e2, rs1, st1, i1, p1⟩ => ?_⟩
  subst e1
  cases e3 : truB w1.env w1.μ d with
  | none =>
    rw [e3] at p1
    exact p1.elim
  | some b =>
    rw [e3] at p1
    exact ⟨b, tru_asks rs1 i1 e3, p1 w1 rfl rfl rfl rs1 (.refl _)⟩
/-- a comparison whose answer is a bool, as a test -/
def mTst (Me : EM) : TM := fun env μ => (Me env μ).toT fun d env μ => match d with
  | .bl b => .ok b env μ
  | _ => .stk
theorem tst_of {W : WX} {t : TE} {Me : EM} (ht : ∀ σ H Q, rdE (kx X hx) W Me σ H Q → t σ H Q) {σ : L2.St} {H : Hp} {Q : Bool → Hp → Prop} (h : rdT (kx X hx) W (mTst Me) σ H Q) : tTest t σ H Q := by
  obtain ⟨w, rfl, rfl, rs, p⟩ := h
  refine ht _ _ _ ⟨w, rfl, rfl, rs, (PostT.bindE p).imp fun v H1 ⟨w1, d, e1, e2, rs1, st1, i1, p1⟩ => ?_⟩
  subst e1
  cases d with
  | bl b => exact ⟨b, isR_bl i1, p1 w1 rfl rfl rfl rs1 (.refl _)⟩
  | _ => exact p1.elim
theorem t_cmp {op : CmpOp} {r : R2} {f : Env → Mu → D → D → Option D} {Ma Mb : EM} {a b : Expr} {pos : Pos} (c : CmpOk hx X op r f) (ha : EOk hx X a Ma) (hb : EOk hx X b Mb) (hm : behindInMarks op b = false) : TOk hx X (.Compare a [op] [b] pos) (mTst (mBin f Ma Mb)) :=
  fun W tk => impPT (pt_cmpR c.ho (ha W tk) (hb W tk) hm) fun _ _ _ h => tst_of (fun _ _ _ h => bin_tOp c.hf h) h
theorem e_cmp1 {op : CmpOp} {r : R2} {f : Env → Mu → D → D → Option D} {Ma Mb : EM} {a b : Expr} {pos : Pos} (c : CmpOk hx X op r f) (ha : EOk hx X a Ma) (hb : EOk hx X b Mb) (hm : behindInMarks op b = false) : EOk hx X (.Compare a [op] [b] pos) (mBin f Ma Mb) :=
  e_cmp c.ho c.hf ha hb hm
/-- a < b < c -/
def mChain (f f' : Env → Mu → D → D → Option D) (a b c : EM) : EM := a.bind fun x => b.bind fun y => fun env μ => (lift (f env μ x y) env μ).bind fun z => match z with
  | .bl true => c.bind fun u => fun env μ => lift (f' env μ y u) env μ
  | .bl false => fun env μ => .ok (.bl false) env μ
  | _ => fun _ _ => .stk
theorem chain_of {W : WX} {r r' : R2} {f f' : Env → Mu → D → D → Option D} {Ma Mb Mc : EM} (hf : Bin2 hx X r f) (hf' : Bin2 hx X r' f') {σ : L2.St} {H : Hp} {Q : VK} (h : rdE (kx X hx) W (mChain f f' Ma Mb Mc) σ H Q) :
    tChain r r' (rdE (kx X hx) W Ma) (rdE (kx X hx) W Mb) (rdE (kx X hx) W Mc) σ H Q := by
  obtain ⟨w, rfl, rfl, rs, p⟩ := h
  refine ⟨w, rfl, rfl, rs, (PostE.bind p).imp fun x H1 a1 => ?_⟩
  obtain ⟨w1, d1, rfl, e1, rs1, st1, i1, p1⟩ := a1.ex
  refine ⟨w1, e1, rfl, rs1, (PostE.bind p1).imp fun y H2 a2 => ?_⟩
  obtain ⟨w2, d2, rfl, e2, rs2, st2, i2, p2⟩ := a2.ex
  cases e3 : f w2.env w2.μ d1 d2 with
  | none =>
    rw [e3] at p2
    exact p2.elim
  | some z =>
    rw [e3] at p2
    refine hf W w2 x y d1 d2 z _ rs2 (i1.mono e2 st2.gr) i2 e3 ?_
    intro w3 v e4 e5 e6 rs3 st3 i3
    cases z with
    | bl k =>
      refine ⟨k, isR_bl i3, ?_⟩
      cases k with
      | true =>
        rw [if_pos rfl]
        have p2' : PostE (kx X hx) W w2 ((Mc w2.env w2.μ).bind fun u => fun env μ => lift (f' env μ d2 u) env μ) Q := p2
        have p3 : PostE (kx X hx) W w3 ((Mc w3.env w3.μ).bind fun u => fun env μ => lift (f' env μ d2 u) env μ) Q := by
          rw [e5, e6]
          exact PostE.step e4 st3 p2'
        refine ⟨w3, e4.trans (e2.trans e1), rfl, rs3, (PostE.bind p3).imp fun u H4 a4 => ?_⟩
        obtain ⟨w4, d4, rfl, e7, rs4, st4, i4, p4⟩ := a4.ex
        obtain ⟨d5, e8, p5⟩ := PostE.lift p4
        exact hf' W w4 y u d2 d4 d5 Q rs4 ((i2.mono e4 st3.gr).mono e7 st4.gr) i4 e8 p5
      | false =>
        rw [if_neg Bool.false_ne_true]
        have p2' : PostE (kx X hx) W w2 (.ok (.bl false) w2.env w2.μ) Q := p2
        exact p2' w3 _ e4 e5 e6 rs3 st3 (Is.bl false).toR
    | _ => exact p2.elim
theorem e_chain {op op' : CmpOp} {r r' : R2} {f f' : Env → Mu → D → D → Option D} {Ma Mb Mc : EM} {a b c : Expr} {pos : Pos} (c1 : CmpOk hx X op r f) (c2 : CmpOk hx X op' r' f') (ha : EOk hx X a Ma) (hb : EOk hx X b Mb) (hc : EOk hx X c Mc)
    (hm : lastMarks [op, op'] [b, c] = false := by rfl) : EOk hx X (.Compare a [op, op'] [b, c] pos) (mChain f f' Ma Mb Mc) :=
  fun W tk => impPE (pe_chain c1.ho c2.ho (ha W tk) (hb W tk) (hc W tk) hm) fun _ _ _ h => chain_of c1.hf c2.hf h
theorem t_chain {op op' : CmpOp} {r r' : R2} {f f' : Env → Mu → D → D → Option D} {Ma Mb Mc : EM} {a b c : Expr} {pos : Pos} (c1 : CmpOk hx X op r f) (c2 : CmpOk hx X op' r' f') (ha : EOk hx X a Ma) (hb : EOk hx X b Mb) (hc : EOk hx X c Mc) (hm : lastMarks [op, op'] [b, c] = false := by rfl) :
    TOk hx X (.Compare a [op, op'] [b, c] pos) (mTst (mChain f f' Ma Mb Mc)) :=
  fun W tk => impPT (pt_chain c1.ho c2.ho (ha W tk) (hb W tk) (hc W tk) hm) fun _ _ _ h => tst_of (fun _ _ _ h => chain_of c1.hf c2.hf h) h
/-! ### and, or, not -/
def TR.bind (r : TR) (k : Bool → TM) : TR :=
  match r with
  | .ok d env μ => k d env μ
  | .exc x env μ => .exc x env μ
  | .stk => .stk
theorem PostT.bind {κ : Kx} {W : WX} {w : W3} {r : TR} {k : Bool → TM} {Q : Bool → Hp → Prop} (h : PostT κ W w (r.bind k) Q) :
    PostT κ W w r fun b H => ∃ (w1 : W3), w1.H = H ∧ w1.σ = w.σ ∧ RS κ w1 ∧ Stp w w1 ∧ PostT κ W w1 (k b w1.env w1.μ) Q := by
  cases r with
  | ok d env' μ' =>
    intro w' e1 e2 e3 rs st
    subst e2 e3
    exact ⟨w', rfl, e1, rs, st, PostT.step e1 st h⟩
  | exc x env' μ' => exact h
  | stk => exact h.elim
def mAndT (a b : TM) : TM := fun env μ => (a env μ).bind fun k => if k = true then b else fun env μ => .ok false env μ
def mOrT (a b : TM) : TM := fun env μ => (a env μ).bind fun k => if k = true then fun env μ => .ok true env μ else b
def mNotT (a : TM) : TM := fun env μ => (a env μ).bind fun k => fun env μ => .ok (!k) env μ
theorem w_and1 {a : Expr} {Ma : TM} {pos : Pos} (ha : TOk hx X a Ma) : WOk hx X (.BoolOp .And [a] pos) Ma := fun W tk => pw_and1 (ha W tk)
theorem w_or1 {a : Expr} {Ma : TM} {pos : Pos} (ha : TOk hx X a Ma) : WOk hx X (.BoolOp .Or [a] pos) Ma := fun W tk => pw_or1 (ha W tk)
theorem w_and {a b : Expr} {rest : List Expr} {Ma Mb : TM} {pos : Pos} (ha : TOk hx X a Ma) (hb : WOk hx X (.BoolOp .And (b :: rest) pos) Mb) : WOk hx X (.BoolOp .And (a :: b :: rest) pos) (mAndT Ma Mb) := by
  refine fun W tk => impPW (pw_and (ha W tk) (hb W tk)) fun σ H Q q => ?_
  obtain ⟨w, rfl, rfl, rs, p⟩ := q
  refine ⟨w, rfl, rfl, rs, (PostT.bind p).imp fun k H1 ⟨w1, e1, e2, rs1, st1, p1⟩ => ?_⟩
  subst e1
  cases k with
  | true => exact iteT ⟨w1, e2, rfl, rs1, p1⟩
  | false => exact iteF (p1 w1 rfl rfl rfl rs1 (.refl _))
theorem w_or {a b : Expr} {rest : List Expr} {Ma Mb : TM} {pos : Pos} (ha : TOk hx X a Ma) (hb : WOk hx X (.BoolOp .Or (b :: rest) pos) Mb) : WOk hx X (.BoolOp .Or (a :: b :: rest) pos) (mOrT Ma Mb) := by
  refine fun W tk => impPW (pw_or (ha W tk) (hb W tk)) fun σ H Q q => ?_
  obtain ⟨w, rfl, rfl, rs, p⟩ := q
  refine ⟨w, rfl, rfl, rs, (PostT.bind p).imp fun k H1 ⟨w1, e1, e2, rs1, st1, p1⟩ => ?_⟩
  subst e1
  cases k with
  | true => exact iteT (p1 w1 rfl rfl rfl rs1 (.refl _))
  | false => exact iteF ⟨w1, e2, rfl, rs1, p1⟩
theorem t_w {e : Expr} {M : TM} (h : WOk hx X e M) : TOk hx X e M := fun W tk => (h W tk).pt
theorem t_not {a : Expr} {Ma : TM} {pos : Pos} (ha : TOk hx X a Ma) : TOk hx X (.UnaryOp .Not a pos) (mNotT Ma) := by
  refine fun W tk => impPT (pt_not (ha W tk)) fun σ H Q q => ?_
  obtain ⟨w, rfl, rfl, rs, p⟩ := q
  refine ⟨w, rfl, rfl, rs, (PostT.bind p).imp fun k H1 ⟨w1, e1, e2, rs1, st1, p1⟩ => ?_⟩
  subst e1
  exact p1 w1 rfl rfl rfl rs1 (.refl _)
/-! ### as values -/
def mAndV (a b : EM) : EM := a.bind fun x => fun env μ => match truB env μ x with
  | some true => b env μ
  | some false => .ok x env μ
  | none => .stk
def mOrV (a b : EM) : EM := a.bind fun x => fun env μ => match truB env μ x with
  | some false => b env μ
  | some true => .ok x env μ
  | none => .stk
def mNotV (a : EM) : EM := a.bind fun x => fun env μ => match truB env μ x with
  | some k => .ok (.bl (!k)) env μ
  | none => .stk
theorem e_one {op : BoolOp} {a : Expr} {Ma : EM} {pos : Pos} (ha : EOk hx X a Ma) : EOk hx X (.BoolOp op [a] pos) Ma := fun W tk => pe_one (ha W tk)
theorem e_and {a b : Expr} {rest : List Expr} {Ma Mb : EM} {pos : Pos} (ha : EOk hx X a Ma) (hb : EOk hx X (.BoolOp .And (b :: rest) pos) Mb) : EOk hx X (.BoolOp .And (a :: b :: rest) pos) (mAndV Ma Mb) := by
  refine fun W tk => impPE (pe_andT (ha W tk) (hb W tk)) fun σ H Q q => ?_
  obtain ⟨w, rfl, rfl, rs, p⟩ := q
  refine ⟨w, rfl, rfl, rs, (PostE.bind p).imp fun x H1 a1 => ?_⟩
  obtain ⟨w1, d1, rfl, e1, rs1, st1, i1, p1⟩ := a1.ex
  cases e : truB w1.env w1.μ d1 with
  | none =>
    simp only [e] at p1
    exact p1.elim
  | some k =>
    simp only [e] at p1
    refine ⟨k, tru_asks rs1 i1 e, ?_⟩
    cases k with
    | true => exact iteT ⟨w1, e1, rfl, rs1, p1⟩
    | false => exact iteF (post_now rs1 i1 p1)
theorem e_or {a b : Expr} {rest : List Expr} {Ma Mb : EM} {pos : Pos} (ha : EOk hx X a Ma) (hb : EOk hx X (.BoolOp .Or (b :: rest) pos) Mb) : EOk hx X (.BoolOp .Or (a :: b :: rest) pos) (mOrV Ma Mb) := by
  refine fun W tk => impPE (pe_orT (ha W tk) (hb W tk)) fun σ H Q q => ?_
  obtain ⟨w, rfl, rfl, rs, p⟩ := q
  refine ⟨w, rfl, rfl, rs, (PostE.bind p).imp fun x H1 a1 => ?_⟩
  obtain ⟨w1, d1, rfl, e1, rs1, st1, i1, p1⟩ := a1.ex
  cases e : truB w1.env w1.μ d1 with
  | none =>
    simp only [e] at p1
    exact p1.elim
  | some k =>
    simp only [e] at p1
    refine ⟨k, tru_asks rs1 i1 e, ?_⟩
    cases k with
    | false => exact iteF ⟨w1, e1, rfl, rs1, p1⟩
    | true => exact iteT (post_now rs1 i1 p1)
theorem e_not {a : Expr} {Ma : EM} {pos : Pos} (ha : EOk hx X a Ma) : EOk hx X (.UnaryOp .Not a pos) (mNotV Ma) := by
  refine fun W tk => impPE (pe_notT (ha W tk)) fun σ H Q q => ?_
  obtain ⟨w, rfl, rfl, rs, p⟩ := q
  refine ⟨w, rfl, rfl, rs, (PostE.bind p).imp fun x H1 a1 => ?_⟩
  obtain ⟨w1, d1, rfl, e1, rs1, st1, i1, p1⟩ := a1.ex
  cases e : truB w1.env w1.μ d1 with
  | none =>
    simp only [e] at p1
    exact p1.elim
  | some k =>
    simp only [e] at p1
    exact ⟨k, tru_asks rs1 i1 e, post_now rs1 (Is.bl _).toR p1⟩
def TR.toE (r : TR) (k : Bool → EM) : ER :=
  match r with
  | .ok b env μ => k b env μ
  | .exc x env μ => .exc x env μ
  | .stk => .stk
def mIf (c : TM) (a b : EM) : EM := fun env μ => (c env μ).toE fun k => if k = true then a else b
theorem e_if {c a b : Expr} {Mc : TM} {Ma Mb : EM} {pos : Pos} (hc : TOk hx X c Mc) (ha : EOk hx X a Ma) (hb : EOk hx X b Mb) : EOk hx X (.IfExp c a b pos) (mIf Mc Ma Mb) := by
  refine fun W tk => impPE (pe_ifExp (hc W tk) (ha W tk) (hb W tk)) fun σ H Q q => ?_
  obtain ⟨w, rfl, rfl, rs, p⟩ := q
  refine ⟨w, rfl, rfl, rs, ?_⟩
  unfold mIf at p
  cases e : Mc w.env w.μ with
  | stk =>
    rw [e] at p
    exact p.elim
  | exc x env' μ' =>
    rw [e] at p
    exact p
  | ok k env' μ' =>
    rw [e] at p
    intro w1 e1 e2 e3 rs1 st1
    subst e2 e3
    cases k with
    | true => exact iteT ⟨w1, e1, rfl, rs1, PostE.step e1 st1 p⟩
    | false => exact iteF ⟨w1, e1, rfl, rs1, PostE.step e1 st1 p⟩
end
end DL
set_option Elab.async false
set_option linter.all false
set_option maxRecDepth 100000
set_option maxHeartbeats 2000000
namespace DL
open PySem PySem.Spec PyProof.Rows L2
/-! ### argument lists -/
theorem PostA.imp {κ : Kx} {W : WX} {w : W3} {r : AR} {Q Q' : List V → Hp → Prop} (h : PostA κ W w r Q) (q : ∀ v H, Q v H → Q' v H) : PostA κ W w r Q' := by
  cases r with
  | ok d env' μ' => exact fun w' v e1 e2 e3 rs st i => q _ _ (h w' v e1 e2 e3 rs st i)
  | exc x env' μ' => exact h
  | stk => exact h
theorem PostA.step {κ : Kx} {W : WX} {w w1 : W3} {r : AR} {Q : List V → Hp → Prop} (e : w1.σ = w.σ) (s : Stp w w1) (h : PostA κ W w r Q) : PostA κ W w1 r Q := by
  cases r with
  | ok d env' μ' => exact fun w' v e1 e2 e3 rs st i => h w' v (e1.trans e) e2 e3 rs (s.trans st) i
  | exc x env' μ' => exact fun w' cls dd e1 e2 e3 rs st i => h w' cls dd (e1.trans e) e2 e3 rs (s.trans st) i
  | stk => exact h
def ER.toA (r : ER) (k : D → AM) : AR :=
  match r with
  | .ok d env μ => k d env μ
  | .exc x env μ => .exc x env μ
  | .stk => .stk
def AR.bind (r : AR) (k : List D → AM) : AR :=
  match r with
  | .ok d env μ => k d env μ
  | .exc x env μ => .exc x env μ
  | .stk => .stk
def AR.toE (r : AR) (k : List D → EM) : ER :=
  match r with
  | .ok d env μ => k d env μ
  | .exc x env μ => .exc x env μ
  | .stk => .stk
def AR.toN (r : AR) (k : List D → NM) : NR :=
  match r with
  | .ok d env μ => k d env μ
  | .exc x env μ => .exc x env μ
  | .stk => .stk
def ER.toN (r : ER) (k : D → NM) : NR :=
  match r with
  | .ok d env μ => k d env μ
  | .exc x env μ => .exc x env μ
  | .stk => .stk
theorem PostA.bindE {κ : Kx} {W : WX} {w : W3} {r : ER} {k : D → AM} {Q : List V → Hp → Prop} (h : PostA κ W w (r.toA k) Q) :
    PostE κ W w r fun v H => ∃ (w1 : W3) (d : D), w1.H = H ∧ w1.σ = w.σ ∧ RS κ w1 ∧ Stp w w1 ∧ IsR κ w1 v d ∧ PostA κ W w1 (k d w1.env w1.μ) Q := by
  cases r with
  | ok d env' μ' =>
    intro w' v e1 e2 e3 rs st i
    subst e2 e3
    exact ⟨w', d, rfl, e1, rs, st, i, PostA.step e1 st h⟩
  | exc x env' μ' => exact h
  | stk => exact h.elim
theorem PostA.bind {κ : Kx} {W : WX} {w : W3} {r : AR} {k : List D → AM} {Q : List V → Hp → Prop} (h : PostA κ W w (r.bind k) Q) :
    PostA κ W w r fun v H => ∃ (w1 : W3) (d : List D), w1.H = H ∧ w1.σ = w.σ ∧ RS κ w1 ∧ Stp w w1 ∧ IsRL κ w1 v d ∧ PostA κ W w1 (k d w1.env w1.μ) Q := by
  cases r with
  | ok d env' μ' =>
    intro w' v e1 e2 e3 rs st i
    subst e2 e3
    exact ⟨w', d, rfl, e1, rs, st, i, PostA.step e1 st h⟩
  | exc x env' μ' => exact h
  | stk => exact h.elim
theorem PostE.bindA {κ : Kx} {W : WX} {w : W3} {r : AR} {k : List D → EM} {Q : VK} (h : PostE κ W w (r.toE k) Q) :
    PostA κ W w r fun v H => ∃ (w1 : W3) (d : List D), w1.H = H ∧ w1.σ = w.σ ∧ RS κ w1 ∧ Stp w w1 ∧ IsRL κ w1 v d ∧ PostE κ W w1 (k d w1.env w1.μ) Q := by
  cases r with
  | ok d env' μ' =>
    intro w' v e1 e2 e3 rs st i
    subst e2 e3
    exact ⟨w', d, rfl, e1, rs, st, i, PostE.step e1 st h⟩
  | exc x env' μ' => exact h
  | stk => exact h.elim
theorem PostN.step {κ : Kx} {W : WX} {w w1 : W3} {r : NR} {Q : VK} (e : w1.σ = w.σ) (s : Stp w w1) (h : PostN κ W w r Q) : PostN κ W w1 r Q := by
  cases r with
  | ok d env' μ' => exact fun w' p e1 e2 e3 rs st hp hf nm' l c => h w' p (e1.trans e) e2 e3 rs (s.trans st) (s.gone hp) hf nm' l c
  | exc x env' μ' => exact fun w' cls dd e1 e2 e3 rs st i => h w' cls dd (e1.trans e) e2 e3 rs (s.trans st) i
  | stk => exact h
theorem PostN.imp {κ : Kx} {W : WX} {w : W3} {r : NR} {Q Q' : VK} (h : PostN κ W w r Q) (q : ∀ v H, Q v H → Q' v H) : PostN κ W w r Q' := by
  cases r with
  | ok d env' μ' => exact fun w' v e1 e2 e3 rs st a b c d e => q _ _ (h w' v e1 e2 e3 rs st a b c d e)
  | exc x env' μ' => exact h
  | stk => exact h
theorem PostN.bindE {κ : Kx} {W : WX} {w : W3} {r : ER} {k : D → NM} {Q : VK} (h : PostN κ W w (r.toN k) Q) :
    PostE κ W w r fun v H => ∃ (w1 : W3) (d : D), w1.H = H ∧ w1.σ = w.σ ∧ RS κ w1 ∧ Stp w w1 ∧ IsR κ w1 v d ∧ PostN κ W w1 (k d w1.env w1.μ) Q := by
  cases r with
  | ok d env' μ' =>
    intro w' v e1 e2 e3 rs st i
    subst e2 e3
    exact ⟨w', d, rfl, e1, rs, st, i, PostN.step e1 st h⟩
  | exc x env' μ' => exact h
  | stk => exact h.elim
theorem PostN.bindA {κ : Kx} {W : WX} {w : W3} {r : AR} {k : List D → NM} {Q : VK} (h : PostN κ W w (r.toN k) Q) :
    PostA κ W w r fun v H => ∃ (w1 : W3) (d : List D), w1.H = H ∧ w1.σ = w.σ ∧ RS κ w1 ∧ Stp w w1 ∧ IsRL κ w1 v d ∧ PostN κ W w1 (k d w1.env w1.μ) Q := by
  cases r with
  | ok d env' μ' =>
    intro w' v e1 e2 e3 rs st i
    subst e2 e3
    exact ⟨w', d, rfl, e1, rs, st, i, PostN.step e1 st h⟩
  | exc x env' μ' => exact h
  | stk => exact h.elim
theorem IsRL.mono {κ : Kx} {w w' : W3} (e : w'.σ = w.σ) (g : Gr w.m w.F w'.m w'.F) : ∀ {vs : List V} {ds : List D}, IsRL κ w vs ds → IsRL κ w' vs ds
  | _, _, .nil => .nil
  | _, _, .cons h t => .cons (h.mono e g) (t.mono e g)
theorem IsR.is {κ : Kx} {w : W3} {v : V} {d : D} (h : IsR κ w v d) (n : noLoc d = true) : Is κ w.m w.F v d := by
  cases d with
  | loc i => cases n
  | exn c gs => cases n
  | _ => exact h
theorem IsRL.is {κ : Kx} {w : W3} : ∀ {vs : List V} {ds : List D}, IsRL κ w vs ds → ds.all noLoc = true → IsL κ w.m w.F vs ds
  | _, _, .nil, _ => .nil
  | _, _, .cons h t, n => by
    rw [List.all_cons] at n
    obtain ⟨n1, n2⟩ := Bool.and_eq_true_iff.mp n
    exact .cons (h.is n1) (t.is n2)
def aNil : AM := fun env μ => .ok [] env μ
def aCons (Me : EM) (Ma : AM) : AM := fun env μ => (Me env μ).toA fun d env μ => (Ma env μ).bind fun ds env μ => .ok (d :: ds) env μ
section
variable {hx : HX} {X : Cx}
theorem a_nil : AOk hx X [] aNil := by
  refine fun W tk => impPA pa_nil fun σ H Q q => ?_
  obtain ⟨w, rfl, rfl, rs, p⟩ := q
  exact p w [] rfl rfl rfl rs (.refl _) .nil
theorem a_of {W : WX} {te : TE} {ta : TA} {Me : EM} {Ma : AM} (he : ∀ σ H Q, rdE (kx X hx) W Me σ H Q → te σ H Q) (ha : ∀ σ H Q, rdA (kx X hx) W Ma σ H Q → ta σ H Q) {σ : L2.St} {H : Hp} {Q : List V → Hp → Prop} (h : rdA (kx X hx) W (aCons Me Ma) σ H Q) : tCons te ta σ H Q := by
  obtain ⟨w, rfl, rfl, rs, p⟩ := h
  refine he _ _ _ ⟨w, rfl, rfl, rs, (PostA.bindE p).imp fun x H1 ⟨w1, d1, e1, e2, rs1, st1, i1, p1⟩ => ?_⟩
  subst e1
  refine ha _ _ _ ⟨w1, e2, rfl, rs1, (PostA.bind p1).imp fun xs H2 ⟨w2, d2, e3, e4, rs2, st2, i2, p2⟩ => ?_⟩
  subst e3
  exact p2 w2 (x :: xs) rfl rfl rfl rs2 (.refl _) (.cons (i1.mono e4 st2.gr) i2)
theorem a_cons {e : Expr} {es : List Expr} {Me : EM} {Ma : AM} (he : EOk hx X e Me) (ha : AOk hx X es Ma) (hs : starEach (e :: es) X.env = (false, eval e X.env) :: starEach es X.env := by rfl) : AOk hx X (e :: es) (aCons Me Ma) :=
  fun W tk => impPA (pa_cons (he W tk) (ha W tk) hs) fun _ _ _ h => a_of (fun _ _ _ h => h) (fun _ _ _ h => h) h
/-! ### displays -/
def mTup (Ma : AM) : EM := fun env μ => (Ma env μ).toE fun ds env μ => if ds.all noLoc = true ∧ ds.length ≤ sizeLine then .ok (.tup ds) env μ else .stk
def mLst (Ma : AM) : NM := fun env μ => (Ma env μ).toN fun ds env μ => if ds.all noLoc = true ∧ ds.length ≤ sizeLine then .ok (.lst ds) env μ else .stk
theorem e_tup {es : List Expr} {x1} {pos : Pos} {Ma : AM} (ha : AOk hx X es Ma) : EOk hx X (.Tuple es x1 pos) (mTup Ma) := by
  refine fun W tk => impPE (pe_tup (ha W tk)) fun σ H Q q => ?_
  obtain ⟨w, rfl, rfl, rs, p⟩ := q
  refine ⟨w, rfl, rfl, rs, (PostE.bindA p).imp fun xs H1 ⟨w1, ds, e1, e2, rs1, st1, i1, p1⟩ => ?_⟩
  subst e1
  by_cases h : ds.all noLoc = true ∧ ds.length ≤ sizeLine
  · rw [if_pos h] at p1
    have il := i1.is h.1
    exact ⟨by rw [il.length]; exact h.2, fun a ha => post_tup rs1 ha il p1⟩
  · rw [if_neg h] at p1
    exact p1.elim
theorem n_lst {es : List Expr} {pos : Pos} {Ma : AM} (ha : AOk hx X es Ma) : NOk hx X (.List es pos) (mLst Ma) := by
  refine fun W tk => impPE (pe_lst (ha W tk)) fun σ H Q q => ?_
  obtain ⟨w, rfl, rfl, rs, p⟩ := q
  refine ⟨w, rfl, rfl, rs, (PostN.bindA p).imp fun xs H1 ⟨w1, ds, e1, e2, rs1, st1, i1, p1⟩ => ?_⟩
  subst e1
  by_cases h : ds.all noLoc = true ∧ ds.length ≤ sizeLine
  · rw [if_pos h] at p1
    have il := i1.is h.1
    refine ⟨by rw [il.length]; exact h.2, fun a ha => ?_⟩
    exact p1 (w1.ah a (.lst xs)) a rfl rfl rfl (rs1.ah ha) (.ah rs1 ha) (.inr ha) (rs1.fnone ha) (rs1.notMut ha) trivial ⟨xs, upd_same, il⟩
  · rw [if_neg h] at p1
    exact p1.elim
/-- a new object that is shared at once -/
def Cell.toD : Cell → D
  | .lst l => .lst l
  | .dct t l => .dct t l
  | .ins c fs => .ins c fs
  | .slf c fs => .ins c fs
  | .dead => .non
def NR.toE (r : NR) : ER :=
  match r with
  | .ok c env μ => .ok c.toD env μ
  | .exc x env μ => .exc x env μ
  | .stk => .stk
def mN (M : NM) : EM := fun env μ => (M env μ).toE
/-- the object that stands for a cell -/
theorem cell_obj {κ : Kx} {m : List Addr} {F H : Hp} {a : Addr} {c : Cell} (h : CellOk κ m F H a c) (l : c.live) : ∃ o, H a = some o ∧ ∀ m' F', Gr m F m' F' → F' a = some o → Is κ m' F' (.ref a) c.toD := by
  cases c with
  | lst l' =>
    obtain ⟨xs, h1, h2⟩ := h
    exact ⟨_, h1, fun m' F' g e => .lst e (h2.mono g)⟩
  | dct t l' =>
    cases t with
    | false =>
      obtain ⟨xs, h1, h2⟩ := h
      exact ⟨_, h1, fun m' F' g e => .dct e (h2.mono g)⟩
    | true =>
      obtain ⟨xs, h1, h2⟩ := h
      exact ⟨_, h1, fun m' F' g e => .dctT e (h2.mono g)⟩
  | ins c gs =>
    obtain ⟨hc, dx, fs, h1, h2⟩ := h
    exact ⟨_, h1, fun m' F' g e => .ins hc e (h2.mono g)⟩
  | slf c gs =>
    obtain ⟨_, hc, dx, fs, h1, h2⟩ := h
    exact ⟨_, h1, fun m' F' g e => .ins hc e (h2.mono g)⟩
  | dead => exact l.elim
theorem e_n {e : Expr} {M : NM} (h : NOk hx X e M) : EOk hx X e (mN M) := by
  refine fun W tk => impPE (h W tk) fun σ H Q q => ?_
  obtain ⟨w, rfl, rfl, rs, p⟩ := q
  refine ⟨w, rfl, rfl, rs, ?_⟩
  unfold mN at p
  cases e1 : M w.env w.μ with
  | stk =>
    rw [e1] at p
    exact p.elim
  | exc x env' μ' =>
    rw [e1] at p
    exact p
  | ok c env' μ' =>
    rw [e1] at p
    intro w' a e2 e3 e4 rs' st' hp hf nm l ck
    obtain ⟨o, ho, hi⟩ := cell_obj ck l
    have g2 : Gr w'.m w'.F (w'.fz a o).m (w'.fz a o).F := Gr.fz hf
    exact p (w'.fz a o) (.ref a) e2 e3 e4 (rs'.fz ho hf nm) (st'.fz hf hp) (hi _ _ g2 upd_same).toR
/-! ### calls of built-ins -/
/-- what a call's rule asks, from data -/
def Call1 (hx : HX) (X : Cx) (r : List V → Hp → VK → Prop) (f : Env → Mu → List D → Option D) : Prop :=
  ∀ (W : WX) (w : W3) (vs : List V) (ds : List D) (d : D) (Q : VK), RS (kx X hx) w → IsRL (kx X hx) w vs ds → f w.env w.μ ds = some d → PostE (kx X hx) W w (.ok d w.env w.μ) Q → r vs w.H Q
def mCall (f : Env → Mu → List D → Option D) (Ma : AM) : EM := fun env μ => (Ma env μ).toE fun ds env μ => lift (f env μ ds) env μ
theorem call_of {W : WX} {r : List V → Hp → VK → Prop} {f : Env → Mu → List D → Option D} {Ma : AM} (hf : Call1 hx X r f) {σ : L2.St} {H : Hp} {Q : VK} (h : rdE (kx X hx) W (mCall f Ma) σ H Q) : tCB r (rdA (kx X hx) W Ma) σ H Q := by
  obtain ⟨w, rfl, rfl, rs, p⟩ := h
  refine ⟨w, rfl, rfl, rs, (PostE.bindA p).imp fun xs H1 ⟨w1, ds, e1, e2, rs1, st1, i1, p1⟩ => ?_⟩
  subst e1
  obtain ⟨d, e, p2⟩ := PostE.lift p1
  exact hf W w1 xs ds d Q rs1 i1 e p2
theorem e_callB {x : Str} {p pos : Pos} {e : Expr} {es : List Expr} {id : String} {r : List V → Hp → VK → Prop} {f : Env → Mu → List D → Option D} {Ma : AM} (hc : CallR X (.builtin id) r) (hf : Call1 hx X r f) (hg : Gl X x) (hm : X.mg x = none) (hv : bootBuiltins x = some (.builtin id)) (ha : AOk hx X (e :: es) Ma)
    (hn : x ≠ "__name__" := by decide) (hdb : (x == ("__debug__" : Str)) = false := by decide) (he : starEach (e :: es) X.env = (false, eval e X.env) :: starEach es X.env := by rfl) (hpl : (backTo pos (starEach es X.env)).any (·.1) = false := by rfl) : EOk hx X (.Call (.Name x p) (e :: es) [] pos) (mCall f Ma) :=
  fun W tk => impPE (pe_callB hc hg hm hv (ha W tk) hn hdb he hpl) fun _ _ _ h => call_of hf h
theorem e_callTy {x : Str} {p pos : Pos} {e : Expr} {es : List Expr} {T : String} {r : List V → Hp → VK → Prop} {f : Env → Mu → List D → Option D} {Ma : AM} (hc : CallR X (.type T) r) (hf : Call1 hx X r f) (hg : Gl X x) (hm : X.mg x = none) (hv : bootBuiltins x = some (.type T)) (ha : AOk hx X (e :: es) Ma)
    (hn : x ≠ "__name__" := by decide) (hdb : (x == ("__debug__" : Str)) = false := by decide) (he : starEach (e :: es) X.env = (false, eval e X.env) :: starEach es X.env := by rfl) (hpl : (backTo pos (starEach es X.env)).any (·.1) = false := by rfl) : EOk hx X (.Call (.Name x p) (e :: es) [] pos) (mCall f Ma) :=
  fun W tk => impPE (pe_callTy hc hg hm hv (ha W tk) hn hdb he hpl) fun _ _ _ h => call_of hf h
/-- a new object by a call -/
def Call2 (hx : HX) (X : Cx) (r : List V → Hp → VK → Prop) (f : Env → Mu → List D → Option Cell) : Prop :=
  ∀ (W : WX) (w : W3) (vs : List V) (ds : List D) (c : Cell) (Q : VK), RS (kx X hx) w → IsRL (kx X hx) w vs ds → f w.env w.μ ds = some c → PostN (kx X hx) W w (.ok c w.env w.μ) Q → r vs w.H Q
def liftN (o : Option Cell) : NM := fun env μ =>
  match o with
  | some d => .ok d env μ
  | none => .stk
theorem PostN.lift {κ : Kx} {W : WX} {w : W3} {o : Option Cell} {Q : VK} (h : PostN κ W w (liftN o w.env w.μ) Q) : ∃ d, o = some d ∧ PostN κ W w (.ok d w.env w.μ) Q := by
  cases o with
  | none => exact h.elim
  | some d => exact ⟨d, rfl, h⟩
def mCallN (f : Env → Mu → List D → Option Cell) (Ma : AM) : NM := fun env μ => (Ma env μ).toN fun ds env μ => liftN (f env μ ds) env μ
theorem callN_of {W : WX} {r : List V → Hp → VK → Prop} {f : Env → Mu → List D → Option Cell} {Ma : AM} (hf : Call2 hx X r f) {σ : L2.St} {H : Hp} {Q : VK} (h : rdN (kx X hx) W (mCallN f Ma) σ H Q) : tCB r (rdA (kx X hx) W Ma) σ H Q := by
  obtain ⟨w, rfl, rfl, rs, p⟩ := h
  refine ⟨w, rfl, rfl, rs, (PostN.bindA p).imp fun xs H1 ⟨w1, ds, e1, e2, rs1, st1, i1, p1⟩ => ?_⟩
  subst e1
  obtain ⟨d, e, p2⟩ := PostN.lift p1
  exact hf W w1 xs ds d Q rs1 i1 e p2
theorem n_callB {x : Str} {p pos : Pos} {e : Expr} {es : List Expr} {id : String} {r : List V → Hp → VK → Prop} {f : Env → Mu → List D → Option Cell} {Ma : AM} (hc : CallR X (.builtin id) r) (hf : Call2 hx X r f) (hg : Gl X x) (hm : X.mg x = none) (hv : bootBuiltins x = some (.builtin id)) (ha : AOk hx X (e :: es) Ma)
    (hn : x ≠ "__name__" := by decide) (hdb : (x == ("__debug__" : Str)) = false := by decide) (he : starEach (e :: es) X.env = (false, eval e X.env) :: starEach es X.env := by rfl) (hpl : (backTo pos (starEach es X.env)).any (·.1) = false := by rfl) : NOk hx X (.Call (.Name x p) (e :: es) [] pos) (mCallN f Ma) :=
  fun W tk => impPE (pe_callB hc hg hm hv (ha W tk) hn hdb he hpl) fun _ _ _ h => callN_of hf h
theorem n_callTy {x : Str} {p pos : Pos} {e : Expr} {es : List Expr} {T : String} {r : List V → Hp → VK → Prop} {f : Env → Mu → List D → Option Cell} {Ma : AM} (hc : CallR X (.type T) r) (hf : Call2 hx X r f) (hg : Gl X x) (hm : X.mg x = none) (hv : bootBuiltins x = some (.type T)) (ha : AOk hx X (e :: es) Ma)
    (hn : x ≠ "__name__" := by decide) (hdb : (x == ("__debug__" : Str)) = false := by decide) (he : starEach (e :: es) X.env = (false, eval e X.env) :: starEach es X.env := by rfl) (hpl : (backTo pos (starEach es X.env)).any (·.1) = false := by rfl) : NOk hx X (.Call (.Name x p) (e :: es) [] pos) (mCallN f Ma) :=
  fun W tk => impPE (pe_callTy hc hg hm hv (ha W tk) hn hdb he hpl) fun _ _ _ h => callN_of hf h
theorem isRL1 {κ : Kx} {w : W3} {vs : List V} {d : D} (h : IsRL κ w vs [d]) : ∃ v, vs = [v] ∧ IsR κ w v d := by
  cases h with
  | cons h t =>
    cases t
    exact ⟨_, rfl, h⟩
theorem isRL2 {κ : Kx} {w : W3} {vs : List V} {d e : D} (h : IsRL κ w vs [d, e]) : ∃ v u, vs = [v, u] ∧ IsR κ w v d ∧ IsR κ w u e := by
  cases h with
  | cons h t =>
    obtain ⟨u, rfl, i⟩ := isRL1 t
    exact ⟨_, _, rfl, h, i⟩
/-! len -/
def lenD (env : Env) (μ : Mu) : List D → Option D
  | [.str s] => if s.length ≤ sizeLine then some (.int s.length) else none
  | [d] => match seqOf env μ d with
    | some (_, l) => some (.int l.length)
    | none => match dctOf env μ d with
      | some (false, l) => some (.int l.length)
      | _ => none
  | _ => none
def rLenD (K : Fg) : List V → Hp → VK → Prop := fun xs H Q => (∃ x n, xs = [x] ∧ LenV K x H n ∧ Q (.int n) H) ∨ ∃ a kvs, xs = [.ref a] ∧ H a = some (.dK kvs) ∧ Q (.int kvs.length) H
theorem isK_length {κ : Kx} {m : List Addr} {F : Hp} : ∀ {xs : List (Key × V)} {l : List (KK × D)}, IsK κ m F xs l → xs.length = l.length
  | _, _, .nil => rfl
  | _, _, .cons _ t => congrArg Nat.succ (isK_length t)
theorem call1_len : Call1 hx X (rLenD X.K) lenD := by
  intro W w vs ds d Q rs i h p
  match ds, i, h with
  | [e], i, h =>
    obtain ⟨v, rfl, i1⟩ := isRL1 i
    have rest : (match seqOf w.env w.μ e with
        | some (_, l) => some (D.int l.length)
        | none => match dctOf w.env w.μ e with
          | some (false, l) => some (D.int l.length)
          | _ => none) = some d → rLenD X.K [v] w.H Q := fun h => by
      cases e1 : seqOf w.env w.μ e with
      | some kl =>
        obtain ⟨k, l⟩ := kl
        rw [e1] at h
        cases h
        obtain ⟨a, xs, rfl, il, s⟩ := seq_heap rs i1 e1
        refine .inl ⟨_, xs.length, rfl, s.len, ?_⟩
        rw [il.length]
        exact post_now rs (Is.int _).toR p
      | none =>
        rw [e1] at h
        cases e2 : dctOf w.env w.μ e with
        | none =>
          rw [e2] at h
          cases h
        | some tl =>
          obtain ⟨t, l⟩ := tl
          rw [e2] at h
          cases t with
          | true => cases h
          | false =>
            cases h
            obtain ⟨a, rfl, kvs, e3, ik⟩ := dct_heap rs i1 e2
            refine .inr ⟨a, kvs, rfl, e3, ?_⟩
            rw [isK_length ik]
            exact post_now rs (Is.int _).toR p
    cases e with
    | str s =>
      obtain ⟨hz, rfl⟩ := some_if h
      rw [isR_str i1]
      exact .inl ⟨_, s.length, rfl, ⟨hz, rfl⟩, post_now rs (Is.int _).toR p⟩
    | _ => exact rest h
  | a :: b :: c, i, h => cases a <;> cases h
/-! abs, max, min of two, int -/
def absD (_ : Env) (_ : Mu) : List D → Option D
  | [.int i] => some (.int (if i < 0 then -i else i))
  | _ => none
theorem call1_abs : Call1 hx X (fun xs H Q => ∃ i, xs = [.int i] ∧ Q (.int (if i < 0 then -i else i)) H) absD := by
  intro W w vs ds d Q rs i h p
  match ds, i, h with
  | [.int j], i, h =>
    obtain ⟨v, rfl, i1⟩ := isRL1 i
    cases h
    rw [isR_int i1]
    exact ⟨j, rfl, post_now rs (Is.int _).toR p⟩
def max2D (_ : Env) (_ : Mu) : List D → Option D
  | [.int i, .int j] => some (.int (if j > i then j else i))
  | _ => none
def min2D (_ : Env) (_ : Mu) : List D → Option D
  | [.int i, .int j] => some (.int (if j < i then j else i))
  | _ => none
theorem call1_max2 : Call1 hx X (fun xs H Q => ∃ i j, xs = [.int i, .int j] ∧ Q (.int (if j > i then j else i)) H) max2D := by
  intro W w vs ds d Q rs i h p
  match ds, i, h with
  | [.int j, .int j'], i, h =>
    obtain ⟨v, u, rfl, i1, i2⟩ := isRL2 i
    cases h
    rw [isR_int i1, isR_int i2]
    exact ⟨j, j', rfl, post_now rs (Is.int _).toR p⟩
theorem call1_min2 : Call1 hx X (fun xs H Q => ∃ i j, xs = [.int i, .int j] ∧ Q (.int (if j < i then j else i)) H) min2D := by
  intro W w vs ds d Q rs i h p
  match ds, i, h with
  | [.int j, .int j'], i, h =>
    obtain ⟨v, u, rfl, i1, i2⟩ := isRL2 i
    cases h
    rw [isR_int i1, isR_int i2]
    exact ⟨j, j', rfl, post_now rs (Is.int _).toR p⟩
def intD (_ : Env) (_ : Mu) : List D → Option D
  | [.int i] => some (.int i)
  | [.bl k] => some (.int (if k then 1 else 0))
  | _ => none
theorem call1_int : Call1 hx X (fun xs H Q => (∃ i, xs = [.int i] ∧ Q (.int i) H) ∨ ∃ k, xs = [.bl k] ∧ Q (.int (if k then 1 else 0)) H) intD := by
  intro W w vs ds d Q rs i h p
  match ds, i, h with
  | [.int j], i, h =>
    obtain ⟨v, rfl, i1⟩ := isRL1 i
    cases h
    rw [isR_int i1]
    exact .inl ⟨j, rfl, post_now rs (Is.int _).toR p⟩
  | [.bl j], i, h =>
    obtain ⟨v, rfl, i1⟩ := isRL1 i
    cases h
    rw [isR_bl i1]
    exact .inr ⟨j, rfl, post_now rs (Is.int _).toR p⟩
/-! tuple, list of a sequence -/
def tupleD (env : Env) (μ : Mu) : List D → Option D
  | [d] => match seqOf env μ d with
    | some (_, l) => some (.tup l)
    | _ => none
  | _ => none
theorem call1_tuple : Call1 hx X (fun xs H Q => ∃ p ys, xs = [.ref p] ∧ ((SqL X.K H p ys ∧ ∀ l, H l = none → Q (.ref l) (upd H l (.tup ys))) ∨ (SqT X.K H p ys ∧ Q (.ref p) H))) tupleD := by
  intro W w vs ds d Q rs i h p
  match ds, i, h with
  | [e], i, h =>
    obtain ⟨v, rfl, i1⟩ := isRL1 i
    have h' : (match seqOf w.env w.μ e with
      | some (_, l) => some (D.tup l)
      | _ => none) = some d := h
    cases e1 : seqOf w.env w.μ e with
    | none =>
      rw [e1] at h'
      cases h'
    | some kl =>
      obtain ⟨k, l⟩ := kl
      rw [e1] at h'
      cases h'
      obtain ⟨a, xs, rfl, il, s⟩ := seq_heap rs i1 e1
      cases k with
      | lst => exact ⟨a, xs, rfl, .inl ⟨SqL.of s, fun q hq => post_tup rs hq il p⟩⟩
      | rol => exact ⟨a, xs, rfl, .inl ⟨s, fun q hq => post_tup rs hq il p⟩⟩
      | tup =>
        refine ⟨a, xs, rfl, .inr ⟨SqT.of s, post_now rs ?_ p⟩⟩
        cases e with
        | tup l' =>
          cases e1
          exact i1
        | cel n =>
          unfold seqOf at e1
          dsimp only at e1
          split at e1 <;> cases e1
        | loc n =>
          unfold seqOf at e1
          dsimp only at e1
          split at e1 <;> cases e1
        | _ => cases e1
def listC (env : Env) (μ : Mu) : List D → Option Cell
  | [d] => match seqOf env μ d with
    | some (_, l) => some (.lst l)
    | _ => none
  | _ => none
theorem postN_lst {κ : Kx} {w : W3} {W : WX} {l : List D} {Q : VK} {a : Addr} {xs : List V} (rs : RS κ w) (h : w.H a = none) (i : IsL κ w.m w.F xs l) (p : PostN κ W w (.ok (.lst l) w.env w.μ) Q) : Q (.ref a) (upd w.H a (.lst xs)) :=
  p (w.ah a (.lst xs)) a rfl rfl rfl (rs.ah h) (.ah rs h) (.inr h) (rs.fnone h) (rs.notMut h) trivial ⟨xs, upd_same, i⟩
theorem call2_list : Call2 hx X (fun xs H Q => ∃ p ys, xs = [.ref p] ∧ (SqL X.K H p ys ∨ SqT X.K H p ys) ∧ ∀ l, H l = none → Q (.ref l) (upd H l (.lst ys))) listC := by
  intro W w vs ds d Q rs i h p
  match ds, i, h with
  | [e], i, h =>
    obtain ⟨v, rfl, i1⟩ := isRL1 i
    have h' : (match seqOf w.env w.μ e with
      | some (_, l) => some (Cell.lst l)
      | _ => none) = some d := h
    cases e1 : seqOf w.env w.μ e with
    | none =>
      rw [e1] at h'
      cases h'
    | some kl =>
      obtain ⟨k, l⟩ := kl
      rw [e1] at h'
      cases h'
      obtain ⟨a, xs, rfl, il, s⟩ := seq_heap rs i1 e1
      exact ⟨a, xs, rfl, s.sq, fun q hq => postN_lst rs hq il p⟩
/-! all, any -/
def blsOf : List D → Option (List Bool)
  | [] => some []
  | .bl b :: ds => (blsOf ds).map (b :: ·)
  | _ => none
theorem blsOf_is {κ : Kx} {m : List Addr} {F : Hp} : ∀ {ds : List D} {bs : List Bool} {vs : List V}, blsOf ds = some bs → IsL κ m F vs ds → vs = bs.map V.bl
  | [], _, _, e, .nil => by
    cases e
    rfl
  | .bl b :: ds, _, _, e, .cons h t => by
    unfold blsOf at e
    cases q : blsOf ds with
    | none =>
      rw [q] at e
      cases e
    | some bs =>
      rw [q] at e
      cases e
      cases h
      rw [blsOf_is q t]
      rfl
def allD (env : Env) (μ : Mu) : List D → Option D
  | [d] => match seqOf env μ d with
    | some (.tup, _) => none
    | some (_, l) => (blsOf l).map fun bs => .bl (bs.all id)
    | _ => none
  | _ => none
def anyD (env : Env) (μ : Mu) : List D → Option D
  | [d] => match seqOf env μ d with
    | some (.tup, _) => none
    | some (_, l) => (blsOf l).map fun bs => .bl (bs.any id)
    | _ => none
  | _ => none
theorem seqL_of {K : Fg} {H : Hp} {a : Addr} {xs : List V} {k : SK} (h : SeqAt K H a xs k) (n : k ≠ .tup) : SqL K H a xs := by
  cases k with
  | lst => exact SqL.of h
  | rol => exact h
  | tup => exact absurd rfl n
theorem call1_all : Call1 hx X (rAll X.K) allD := by
  intro W w vs ds d Q rs i h p
  match ds, i, h with
  | [e], i, h =>
    obtain ⟨v, rfl, i1⟩ := isRL1 i
    have h' : (match seqOf w.env w.μ e with
      | some (.tup, _) => none
      | some (_, l) => (blsOf l).map fun bs => D.bl (bs.all id)
      | _ => none) = some d := h
    cases e1 : seqOf w.env w.μ e with
    | none =>
      rw [e1] at h'
      cases h'
    | some kl =>
      obtain ⟨k, l⟩ := kl
      rw [e1] at h'
      obtain ⟨a, xs, rfl, il, s⟩ := seq_heap rs i1 e1
      have hk : k ≠ .tup := fun z => by
        subst z
        cases h'
      have h2 : (blsOf l).map (fun bs => D.bl (bs.all id)) = some d := by
        cases k with
        | tup => exact absurd rfl hk
        | _ => exact h'
      cases e2 : blsOf l with
      | none =>
        rw [e2] at h2
        cases h2
      | some bs =>
        rw [e2] at h2
        cases h2
        have ex := blsOf_is e2 il
        subst ex
        exact ⟨a, bs, rfl, seqL_of s hk, post_now rs (Is.bl _).toR p⟩
theorem call1_any : Call1 hx X (rAny X.K) anyD := by
  intro W w vs ds d Q rs i h p
  match ds, i, h with
  | [e], i, h =>
    obtain ⟨v, rfl, i1⟩ := isRL1 i
    have h' : (match seqOf w.env w.μ e with
      | some (.tup, _) => none
      | some (_, l) => (blsOf l).map fun bs => D.bl (bs.any id)
      | _ => none) = some d := h
    cases e1 : seqOf w.env w.μ e with
    | none =>
      rw [e1] at h'
      cases h'
    | some kl =>
      obtain ⟨k, l⟩ := kl
      rw [e1] at h'
      obtain ⟨a, xs, rfl, il, s⟩ := seq_heap rs i1 e1
      have hk : k ≠ .tup := fun z => by
        subst z
        cases h'
      have h2 : (blsOf l).map (fun bs => D.bl (bs.any id)) = some d := by
        cases k with
        | tup => exact absurd rfl hk
        | _ => exact h'
      cases e2 : blsOf l with
      | none =>
        rw [e2] at h2
        cases h2
      | some bs =>
        rw [e2] at h2
        cases h2
        have ex := blsOf_is e2 il
        subst ex
        exact ⟨a, bs, rfl, seqL_of s hk, post_now rs (Is.bl _).toR p⟩
end
end DL
set_option Elab.async false
set_option linter.all false
set_option maxRecDepth 100000
set_option maxHeartbeats 2000000
namespace DL
open PySem PySem.Spec PyProof.Rows L2
/-! ### a def's promise -/
/-- the state as a callee sees it -/
def w0 (m : List Addr) (F : Hp) (μ : Mu) (H : Hp) : W3 := ⟨m, F, [], μ, [], H⟩
def spF (κ : Kx) (np : Nat) (M : FM) : Sp := fun vs H Q E => ∃ (m : List Addr) (F : Hp) (μ : Mu) (ds : List D), RS κ (w0 m F μ H) ∧ vs.length = np ∧ IsL κ m F vs ds ∧
  match M ds μ with
  | .ok d μ' => ∀ (m' : List Addr) (F' H' : Hp) (v : V), RS κ (w0 m' F' μ' H') → Stp (w0 m F μ H) (w0 m' F' μ' H') → Is κ m' F' v d → Q v H'
  | .exc x μ' => ∀ (m' : List Addr) (F' H' : Hp) (cls : Value) (dd : Option Addr), RS κ (w0 m' F' μ' H') → Stp (w0 m F μ H) (w0 m' F' μ' H') → ExIs κ (w0 m' F' μ' H') x cls dd → E cls dd H'
  | .stk => False
def startD (nl : Nat) (ds : List D) : Env := ds.map Slot.d ++ List.replicate (nl - ds.length) Slot.non
def runDef (np nl : Nat) (body : SM) : FM := fun ds μ =>
  if ds.length = np then match body (startD nl ds) μ with
    | .nx _ μ' => .ok .non μ'
    | .ret d _ μ' => .ok d μ'
    | .exc x _ μ' => .exc x μ'
    | _ => .stk
  else .stk
section
variable {κ : Kx} {w w' : W3}
theorem noO {m : List Addr} {F : Hp} {μ : Mu} {H : Hp} {i : Nat} {a : Addr} {c : Cell} (h : (w0 m F μ H).isO i a c) : False := by
  obtain ⟨h1, _⟩ := h
  have h2 : ([] : Env)[i]? = some (.own c) := h1
  rw [List.getElem?_nil] at h2
  cases h2
theorem mut0 {m : List Addr} {F : Hp} {μ : Mu} {H : Hp} {a : Addr} (h : (w0 m F μ H).Mut a) : ∃ n c, (w0 m F μ H).isC n a c := by
  rcases h with h | ⟨i, c, h⟩
  · exact h
  · exact (noO h).elim
/-- what a callee sees -/
theorem RS.drop (rs : RS κ w) : RS κ (w0 w.m w.F w.μ w.H) := by
  refine ⟨rs.le, rs.lm, rfl, fun i d e => ?_, fun i c e => ?_, rs.cel, rs.cc, fun i j a c c' h => (noO h).elim, fun i n a c c' h => (noO h).elim⟩
  · have h2 : ([] : Env)[i]? = some (.d d) := e
    rw [List.getElem?_nil] at h2
    cases h2
  · have h2 : ([] : Env)[i]? = some (.own c) := e
    rw [List.getElem?_nil] at h2
    cases h2
theorem mut_drop {a : Addr} (h : (w0 w.m w.F w.μ w.H).Mut a) : w.Mut a := .inl (mut0 h)
/-- behind a call: the caller's state -/
theorem RS.back {m' : List Addr} {F' H' : Hp} {μ' : Mu} (rs : RS κ w) (rs' : RS κ (w0 m' F' μ' H')) (st : Stp (w0 w.m w.F w.μ w.H) (w0 m' F' μ' H')) :
    RS κ ⟨m', F', w.env, μ', w.σ, H'⟩ ∧ Stp w ⟨m', F', w.env, μ', w.σ, H'⟩ := by
  have own0 : ∀ i a c, w.isO i a c → ¬ (w0 w.m w.F w.μ w.H).Mut a := fun i a c h z => by
    obtain ⟨n, c', z⟩ := mut0 z
    exact rs.oc i n a c c' h z
  have ownT : ∀ i a c, w.isO i a c → ∃ o, w.H a = some o := fun i a c h => rs.mutThere (.inr ⟨i, c, h⟩)
  have sep : ∀ i a c n c', w.isO i a c → (w0 m' F' μ' H').isC n a c' → False := fun i a c n c' h z => by
    rcases st.fr a (.inl ⟨n, c', z⟩) with q | q
    · exact own0 i a c h q
    · obtain ⟨o, e⟩ := ownT i a c h
      have q' : w.H a = none := q
      rw [e] at q'
      cases q'
  refine ⟨⟨rs'.le, rs'.lm, rs.ls, fun i d e => ?_, fun i c e => ?_, rs'.cel, rs'.cc, fun i j a c c' h h' => rs.oo i j a c c' h h', fun i n a c c' h h' => sep i a c n c' h h'⟩,
    ⟨st.gr, fun a o e n => st.kp a o e fun z => n (mut_drop z), fun a h => ?_, fun a o e => ?_⟩⟩
  · obtain ⟨v, e1, e2⟩ := rs.slot i d e
    exact ⟨v, e1, e2.mono st.gr⟩
  · obtain ⟨l, a, e1, e2, e3⟩ := rs.own i c e
    have io : w.isO i a c := ⟨e, e1⟩
    obtain ⟨o, eo⟩ := ownT i a c io
    have eo' : H' a = some o := st.kp a o eo (own0 i a c io)
    refine ⟨l, a, e1, ?_, e3.mono st.gr (eo'.trans eo.symm)⟩
    cases q : F' a with
    | none => exact q
    | some u =>
      rcases st.ff a u q with z | z | z
      · have z' : w.F a = some u := z
        rw [e2] at z'
        cases z'
      · exact (own0 i a c io z).elim
      · have z' : w.H a = none := z
        rw [eo] at z'
        cases z'
  · rcases h with ⟨n, c, h⟩ | ⟨i, c, h⟩
    · rcases st.fr a (.inl ⟨n, c, h⟩) with q | q
      · exact .inl (mut_drop q)
      · exact .inr q
    · exact .inl (.inr ⟨i, c, h⟩)
  · rcases st.ff a o e with q | q | q
    · exact .inl q
    · exact .inr (.inl (mut_drop q))
    · exact .inr (.inr q)
/-- a callee's end -/
theorem Stp.drop {m : List Addr} {F : Hp} {μ : Mu} {H : Hp} (st : Stp w w') (e1 : w.m = m) (e2 : w.F = F) (e3 : w.μ = μ) (e4 : w.H = H) (no : ∀ i a c, ¬ w.isO i a c) : Stp (w0 m F μ H) (w0 w'.m w'.F w'.μ w'.H) := by
  subst e1 e2 e3 e4
  have mu : ∀ a, w.Mut a → (w0 w.m w.F w.μ w.H).Mut a := fun a h => by
    rcases h with h | ⟨i, c, h⟩
    · exact .inl h
    · exact (no i a c h).elim
  refine ⟨st.gr, fun a o e n => st.kp a o e fun z => n (mu a z), fun a h => ?_, fun a o e => ?_⟩
  · rcases st.fr a (mut_drop h) with q | q
    · exact .inl (mu a q)
    · exact .inr q
  · rcases st.ff a o e with q | q | q
    · exact .inl q
    · exact .inr (.inl (mu a q))
    · exact .inr (.inr q)
end
theorem ExIs.drop {κ : Kx} {w : W3} {x : Exn} {cls : Value} {dd : Option Addr} (h : ExIs κ w x cls dd) : ExIs κ (w0 w.m w.F w.μ w.H) x cls dd := h
/-- the slots at a def's entry -/
theorem start_rs {κ : Kx} {N : List Str} {vs : List V} {ds : List D} {m : List Addr} {F : Hp} {μ : Mu} {H : Hp} (rs : RS κ (w0 m F μ H)) (il : IsL κ m F vs ds) (hl : vs.length ≤ N.length) :
    RS κ ⟨m, F, startD N.length ds, μ, start N vs, H⟩ ∧ ∀ i a c, ¬ (⟨m, F, startD N.length ds, μ, start N vs, H⟩ : W3).isO i a c := by
  have len := il.length
  have noown : ∀ i c, (startD N.length ds)[i]? ≠ some (Slot.own c) := fun i c e => by
    unfold startD at e
    by_cases hi : i < ds.length
    · rw [List.getElem?_append_left (by simpa using hi), List.getElem?_map] at e
      cases q : ds[i]? with
      | none =>
        rw [q] at e
        cases e
      | some d =>
        rw [q] at e
        cases e
    · rw [List.getElem?_append_right (by simpa using hi), List.getElem?_replicate] at e
      split at e <;> cases e
  refine ⟨⟨rs.le, rs.lm, ?_, fun i d e => ?_, fun i c e => (noown i c e).elim, rs.cel, rs.cc, fun i j a c c' h => (noown i c h.1).elim, fun i n a c c' h => (noown i c h.1).elim⟩, fun i a c h => noown i c h.1⟩
  · show (startD N.length ds).length = (start N vs).length
    unfold startD L2.start
    rw [List.length_append, List.length_append, List.length_map, List.length_map, List.length_replicate, List.length_replicate, len]
  · have e' : (startD N.length ds)[i]? = some (Slot.d d) := e
    unfold startD at e'
    by_cases hi : i < ds.length
    · rw [List.getElem?_append_left (by simpa using hi), List.getElem?_map] at e'
      cases q : ds[i]? with
      | none =>
        rw [q] at e'
        cases e'
      | some d' =>
        rw [q] at e'
        cases e'
        obtain ⟨v, h1, h2⟩ := il.get q
        refine ⟨v, ?_, h2.slot⟩
        show (start N vs)[i]? = some (some v)
        unfold L2.start
        rw [List.getElem?_append_left (by rw [List.length_map, len]; exact hi), List.getElem?_map, h1]
        rfl
    · rw [List.getElem?_append_right (by simpa using hi), List.getElem?_replicate] at e'
      split at e' <;> cases e'
/-! ### room, and nothing that is being shown -/
structure RoomG (k : Nat) (A : Around) : Prop where
  r : Room k A
  g : A.guards = some []
theorem RoomG.mono {j k : Nat} {A : Around} (h : RoomG k A) (l : j ≤ k) : RoomG j A := ⟨h.r.mono l, h.g⟩
theorem RoomG.deeper {k : Nat} {A : Around} (h : RoomG (k + 1) A) (env : PySem.Env) : RoomG k (A.deeper env) := ⟨h.r.deeper env, h.g⟩
theorem RoomG.in1 {k : Nat} {A : Around} (h : RoomG (k + 1) A) : RoomG k A.in1 := ⟨h.r.in1, h.g⟩
theorem make_guards {A : Around} {C : Addr} {us : List Value} {kw : List (Str × Value)} (h : A.guards = some []) : (A.under (.builtin "type.__call__" ⟨.ref C :: us, kw⟩)).guards = some [] := by
  show pushGuards (Code.builtin "type.__call__" ⟨.ref C :: us, kw⟩).guards A.guards = some []
  rw [h]
  rfl
theorem RoomG.make {k : Nat} {A : Around} (h : RoomG (k + 1) A) (C : Addr) (us : List Value) (kw : List (Str × Value)) : RoomG k (A.under (.builtin "type.__call__" ⟨.ref C :: us, kw⟩)) := ⟨h.r.make C us kw, make_guards h.g⟩
/-- a def keeps its promise wherever nothing is being shown -/
structure FnG (P : Program) (w : World) (K : Fg) (mg : Str → Option Value) (base : Heap) (CX : CXT) (k : Nat) (f : Addr) (fd : FuncData) (ps : List Str) (sp : Sp) : Prop where
  len : ∀ vs H Q E, sp vs H Q E → vs.length = ps.length
  run : ∀ (A : Around) (outer : List PySem.Env) (s : Shared) (H : Hp) (args : Args) (us : List Value) (vs : List V) (Q : VK) (E : XK), RoomG k A → Env0 P w K mg base A outer s H → BindsTo s fd args (ps.zip us) → Vals vs us → sp vs H Q E →
    codeAny (model P w) A (.call (.ref f) args) (CR CX outer P w H s Q E) s
theorem FnG.mono {P : Program} {w : World} {K : Fg} {mg : Str → Option Value} {base : Heap} {CX : CXT} {j k : Nat} {f : Addr} {fd : FuncData} {ps : List Str} {sp : Sp} (F : FnG P w K mg base CX j f fd ps sp) (h : j ≤ k) : FnG P w K mg base CX k f fd ps sp :=
  ⟨F.len, fun A outer s H args us vs Q E hr => F.run A outer s H args us vs Q E (hr.mono h)⟩
section
variable {P : Program} {w : World} {K : Fg} {mg : Str → Option Value} {base : Heap} {x qual : Str} {params : Arguments} {body : List Stmt} {scope : Scope} {dvs : List V} {kws : List (Str × V)} {f : Addr} {fd : FuncData} {N ps : List Str} {k : Nat} {cs : List Nat}
/-- from the body's reading to the def's promise -/
theorem fn_G {CX : CXT} {sp : Sp} (F : FunD K x qual params body scope dvs kws f fd) (S : FnScope N ps scope) (len : ∀ vs H Q E, sp vs H Q E → vs.length = ps.length)
    (hbody : ∀ (cdv : Value) (A : Around) (outer : List PySem.Env) (s : Shared) (H : Hp) (vs : List V) (Q : VK) (E : XK), RoomG k (A.deeper (envOfC qual scope s.heap.objs.size f cdv)) → sp vs H Q E →
      ∃ t, PSs (cxOf CX P w K mg base N qual scope f cdv A outer s H E) body t ∧ t { nx := fun _ H' => Q .non H', rt := Q } (start N vs) H) : FnG P w K mg base CX (k + 1) f fd ps sp := by
  obtain ⟨oc, od, dV, kV, doc, pm, an, cdv, ct, osl, rfl, lk, hcd, _, _⟩ := F.ex
  refine ⟨len, fun A outer s H args us vs Q E hr e0 hb r hsp => ?_⟩
  have old : ∀ {b : Addr} {o : Obj}, base.get? b = some o → s.heap.get? b = some o := fun {b o} e => (e0.bs b o e).1
  have KX : K.In s.heap := e0.mod.kin.keeps fun b o e => old e
  have names : ∀ y ∈ ps.zip us, scope.names.lookup y.1 = some .local ∨ (scope.names.lookup y.1 = some .cell ∧ ((cellsFrom (s.heap.objs.size + 1) scope.names []).lookup y.1).isSome = true) := by
    rintro ⟨n, v⟩ hy
    cases S.par n (List.of_mem_zip hy).1 with
    | inl q => exact .inl q
    | inr q => exact .inr ⟨q, PySem.W.cellsFrom_some _ _ _ (.inl q)⟩
  refine codeAny_call_function hr.r.depth (KX _ _ lk) rfl S.co S.gen rfl (PySem.W.codeRec_of KX hcd) (hb _ _ _ _ ?_)
  refine wpAny_newFunctionEnv_cells S.kind names fun env he s1 x => ?_
  subst he
  refine ⟨(e0.mod.nolimit.keeps fun b o e => old e).keeps x.toInCall.keep, codeAny_func ?_⟩
  obtain ⟨t, ht, hq⟩ := hbody cdv A outer s H vs Q E (hr.deeper _) hsp
  have I := inv_start (CX := CX) (E := E) (vs := vs) S hr.r.hd e0 (len _ _ _ _ hsp) r x
  refine wpAny_mono (ht.run [] s1 (start N vs) H _ I hq) (fun fl s' hs => ?_) fun e s' hs => hs
  cases fl with
  | ret u =>
    obtain ⟨v, σ', H', J, rv, q⟩ := hs
    exact ⟨v, H', J.os, J.bare, J.base, J.hok, rv, q⟩
  | next =>
    obtain ⟨σ', H', J, q⟩ := hs
    exact ⟨V.non, H', J.os, J.bare, J.base, J.hok, rfl, q⟩
  | brk =>
    obtain ⟨_, _, _, q⟩ := hs
    exact q.elim
  | cont =>
    obtain ⟨_, _, _, q⟩ := hs
    exact q.elim
/-- a def whose body has a mirror keeps its promise -/
theorem d_ok {Mb : SM} (F : FunD K x qual params body scope dvs kws f fd) (S : FnScope N ps scope)
    (hb : ∀ (cdv : Value) (A : Around) (outer : List PySem.Env) (s : Shared) (H : Hp) (E : XK), RoomG k (A.deeper (envOfC qual scope s.heap.objs.size f cdv)) → BOk ⟨none, cs⟩ (cxOf (L2.CX P w) P w K mg base N qual scope f cdv A outer s H E) body Mb) :
    FnG P w K mg base (L2.CX P w) (k + 1) f fd ps (spF ⟨K, none, cs⟩ ps.length (runDef ps.length N.length Mb)) := by
  refine fn_G F S (fun vs H Q E h => ?_) (fun cdv A outer s H vs Q E hr h => ?_)
  · obtain ⟨m, F0, μ, ds, _, hl, _⟩ := h
    exact hl
  · obtain ⟨m, F0, μ, ds, rs, hl, il, post⟩ := h
    have tk : Takes (cxOf (L2.CX P w) P w K mg base N qual scope f cdv A outer s H E) (fun cls d _ H => E cls d H) := takes_of rfl rfl rfl rfl
    refine ⟨_, hb cdv A outer s H E hr _ tk, ?_⟩
    have hpl : ps.length ≤ N.length := by
      have := congrArg List.length S.pre
      rw [List.length_take] at this
      omega
    obtain ⟨rs1, no⟩ := start_rs (N := N) rs il (by omega)
    refine ⟨_, rfl, rfl, rs1, ?_⟩
    unfold runDef at post
    rw [if_pos (show ds.length = ps.length from by rw [← il.length]; exact hl)] at post
    show PostS _ _ _ (Mb (startD N.length ds) μ) _
    cases e : Mb (startD N.length ds) μ with
    | nx env' μ' =>
      rw [e] at post
      intro w' e1 e2 rs' st
      subst e2
      exact post w'.m w'.F w'.H .non rs'.drop (st.drop rfl rfl rfl rfl no) .non
    | ret d env' μ' =>
      rw [e] at post
      intro w' v e1 e2 rs' st i
      subst e2
      exact post w'.m w'.F w'.H v rs'.drop (st.drop rfl rfl rfl rfl no) i
    | exc d env' μ' =>
      rw [e] at post
      intro w' cls dd e1 e2 rs' st i
      subst e2
      exact post w'.m w'.F w'.H cls dd rs'.drop (st.drop rfl rfl rfl rfl no) i.drop
    | bk _ _ =>
      rw [e] at post
      exact post.elim
    | ct _ _ =>
      rw [e] at post
      exact post.elim
    | stk =>
      rw [e] at post
      exact post.elim
end
/-! ### without an exception at hand, data is data -/
def NoX (κ : Kx) : Prop := ∀ a t d, κ.hx ≠ some (a, .ref t, d)
abbrev k0 (κ : Kx) : Kx := ⟨κ.K, none, κ.cs⟩
section
variable {κ : Kx} {m : List Addr} {F : Hp}
mutual
theorem Is.to0 (n : NoX κ) : ∀ {v : V} {d : D}, Is κ m F v d → Is (k0 κ) m F v d
  | _, _, .non => .non
  | _, _, .bl b => .bl b
  | _, _, .int i => .int i
  | _, _, .str s => .str s
  | _, _, .tup h l => .tup h (IsL.to0 n l)
  | _, _, .lst h l => .lst h (IsL.to0 n l)
  | _, _, .rol h l => .rol h (IsL.to0 n l)
  | _, _, .dct h l => .dct h (IsK.to0 n l)
  | _, _, .dctT h l => .dctT h (IsT.to0 n l)
  | _, _, .ins c h l => .ins c h (IsF.to0 n l)
  | _, _, .cel h => .cel h
theorem IsL.to0 (n : NoX κ) : ∀ {vs : List V} {ds : List D}, IsL κ m F vs ds → IsL (k0 κ) m F vs ds
  | _, _, .nil => .nil
  | _, _, .cons h t => .cons (Is.to0 n h) (IsL.to0 n t)
theorem IsK.to0 (n : NoX κ) : ∀ {vs : List (Key × V)} {ds : List (KK × D)}, IsK κ m F vs ds → IsK (k0 κ) m F vs ds
  | _, _, .nil => .nil
  | _, _, .cons h t => .cons (Is.to0 n h) (IsK.to0 n t)
theorem IsT.to0 (n : NoX κ) : ∀ {vs : List (List Key × V)} {ds : List (KK × D)}, IsT κ m F vs ds → IsT (k0 κ) m F vs ds
  | _, _, .nil => .nil
  | _, _, .cons h t => .cons (Is.to0 n h) (IsT.to0 n t)
theorem IsF.to0 (n : NoX κ) : ∀ {vs : List (Str × V)} {ds : List (Nat × D)}, IsF κ m F vs ds → IsF (k0 κ) m F vs ds
  | _, _, .nil => .nil
  | _, _, .cons h t => .cons (Is.to0 n h) (IsF.to0 n t)
end
mutual
theorem Is.from0 : ∀ {v : V} {d : D}, Is (k0 κ) m F v d → Is κ m F v d
  | _, _, .non => .non
  | _, _, .bl b => .bl b
  | _, _, .int i => .int i
  | _, _, .str s => .str s
  | _, _, .tup h l => .tup h (IsL.from0 l)
  | _, _, .lst h l => .lst h (IsL.from0 l)
  | _, _, .rol h l => .rol h (IsL.from0 l)
  | _, _, .dct h l => .dct h (IsK.from0 l)
  | _, _, .dctT h l => .dctT h (IsT.from0 l)
  | _, _, .ins c h l => .ins c h (IsF.from0 l)
  | _, _, .cel h => .cel h
theorem IsL.from0 : ∀ {vs : List V} {ds : List D}, IsL (k0 κ) m F vs ds → IsL κ m F vs ds
  | _, _, .nil => .nil
  | _, _, .cons h t => .cons (Is.from0 h) (IsL.from0 t)
theorem IsK.from0 : ∀ {vs : List (Key × V)} {ds : List (KK × D)}, IsK (k0 κ) m F vs ds → IsK κ m F vs ds
  | _, _, .nil => .nil
  | _, _, .cons h t => .cons (Is.from0 h) (IsK.from0 t)
theorem IsT.from0 : ∀ {vs : List (List Key × V)} {ds : List (KK × D)}, IsT (k0 κ) m F vs ds → IsT κ m F vs ds
  | _, _, .nil => .nil
  | _, _, .cons h t => .cons (Is.from0 h) (IsT.from0 t)
theorem IsF.from0 : ∀ {vs : List (Str × V)} {ds : List (Nat × D)}, IsF (k0 κ) m F vs ds → IsF κ m F vs ds
  | _, _, .nil => .nil
  | _, _, .cons h t => .cons (Is.from0 h) (IsF.from0 t)
end
theorem CellOk.to0 {H : Hp} {a : Addr} {c : Cell} (n : NoX κ) (l : c.liveC) (h : CellOk κ m F H a c) : CellOk (k0 κ) m F H a c := by
  cases c with
  | lst l' =>
    obtain ⟨xs, h1, h2⟩ := h
    exact ⟨xs, h1, h2.to0 n⟩
  | dct t l' =>
    cases t with
    | false =>
      obtain ⟨xs, h1, h2⟩ := h
      exact ⟨xs, h1, h2.to0 n⟩
    | true =>
      obtain ⟨xs, h1, h2⟩ := h
      exact ⟨xs, h1, h2.to0 n⟩
  | ins c gs =>
    obtain ⟨hc, dx, fs, h1, h2⟩ := h
    exact ⟨hc, dx, fs, h1, h2.to0 n⟩
  | slf c gs => exact l.elim
  | dead => trivial
theorem CellOk.from0 {H : Hp} {a : Addr} {c : Cell} (l : c.liveC) (h : CellOk (k0 κ) m F H a c) : CellOk κ m F H a c := by
  cases c with
  | lst l' =>
    obtain ⟨xs, h1, h2⟩ := h
    exact ⟨xs, h1, h2.from0⟩
  | dct t l' =>
    cases t with
    | false =>
      obtain ⟨xs, h1, h2⟩ := h
      exact ⟨xs, h1, h2.from0⟩
    | true =>
      obtain ⟨xs, h1, h2⟩ := h
      exact ⟨xs, h1, h2.from0⟩
  | ins c gs =>
    obtain ⟨hc, dx, fs, h1, h2⟩ := h
    exact ⟨hc, dx, fs, h1, h2.from0⟩
  | slf c gs => exact l.elim
  | dead => trivial
theorem noEnv {i : Nat} {s : Slot} (e : ([] : Env)[i]? = some s) : False := by
  rw [List.getElem?_nil] at e
  cases e
theorem RS.to0 {μ : Mu} {H : Hp} (n : NoX κ) (rs : RS κ (w0 m F μ H)) : RS (k0 κ) (w0 m F μ H) :=
  ⟨rs.le, rs.lm, rs.ls, fun i d e => (noEnv e).elim, fun i c e => (noEnv e).elim, fun n' a c h => ⟨(rs.cel n' a c h).1, (rs.cel n' a c h).2.to0 n h.2.2⟩, rs.cc, rs.oo, rs.oc⟩
theorem RS.from0 {μ : Mu} {H : Hp} (rs : RS (k0 κ) (w0 m F μ H)) : RS κ (w0 m F μ H) :=
  ⟨rs.le, rs.lm, rs.ls, fun i d e => (noEnv e).elim, fun i c e => (noEnv e).elim, fun n' a c h => ⟨(rs.cel n' a c h).1, (rs.cel n' a c h).2.from0 h.2.2⟩, rs.cc, rs.oo, rs.oc⟩
theorem ExIs.from0 {w : W3} {x : Exn} {cls : Value} {dd : Option Addr} (h : ExIs (k0 κ) w x cls dd) : ExIs κ w x cls dd := by
  obtain ⟨h1, d, fs, h2, h3, h4⟩ := h
  exact ⟨h1, d, fs, h2, h3, h4.from0⟩
theorem noX_none {K : Fg} {cs : List Nat} : NoX ⟨K, none, cs⟩ := fun _ _ _ h => nomatch h
theorem noX_self {K : Fg} {cs : List Nat} {a : Addr} : NoX ⟨K, some (a, .none, none), cs⟩ := fun _ _ _ h => nomatch h
end
/-! ### calls of defs -/
def runF (M : FM) (ds : List D) : EM := fun env μ =>
  if ds.all noLoc = true then match M ds μ with
    | .ok d μ' => .ok d env μ'
    | .exc x μ' => .exc x env μ'
    | .stk => .stk
  else .stk
def mCallF (M : FM) (dd : List D) (Ma : AM) : EM := fun env μ => (Ma env μ).toE fun ds => runF M (ds ++ dd)
section
variable {X : Cx} {cs : List Nat}
/-- what a call asks, from the mirror -/
theorem runF_sp {h0 : HX} {W : WX} {w : W3} {M : FM} {np : Nat} {vs : List V} {ds : List D} {Q : VK} (hz : NoX (kx X h0)) (rs : RS (kx X h0) w) (il : IsRL (kx X h0) w vs ds) (hl : vs.length = np) (p : PostE (kx X h0) W w (runF M ds w.env w.μ) Q) :
    spF ⟨X.K, none, h0.cs⟩ np M vs w.H Q (WE W w.σ) := by
  unfold runF at p
  by_cases hn : ds.all noLoc = true
  · rw [if_pos hn] at p
    refine ⟨w.m, w.F, w.μ, ds, (rs.drop).to0 hz, hl, (il.is hn).to0 hz, ?_⟩
    cases e : M ds w.μ with
    | stk =>
      rw [e] at p
      exact p.elim
    | ok d μ' =>
      rw [e] at p
      intro m' F' H' v rs' st i
      obtain ⟨r1, s1⟩ := rs.back (RS.from0 (κ := kx X h0) rs') st
      exact p ⟨m', F', w.env, μ', w.σ, H'⟩ v rfl rfl rfl r1 s1 (Is.toR (w := ⟨m', F', w.env, μ', w.σ, H'⟩) (Is.from0 (κ := kx X h0) i))
    | exc x μ' =>
      rw [e] at p
      intro m' F' H' cls dd rs' st i
      obtain ⟨r1, s1⟩ := rs.back (RS.from0 (κ := kx X h0) rs') st
      exact p ⟨m', F', w.env, μ', w.σ, H'⟩ cls dd rfl rfl rfl r1 s1 (ExIs.from0 (κ := kx X h0) (w := ⟨m', F', w.env, μ', w.σ, H'⟩) i)
  · rw [if_neg hn] at p
    exact p.elim
theorem IsRL.append {κ : Kx} {w : W3} : ∀ {vs us : List V} {ds es : List D}, IsRL κ w vs ds → IsRL κ w us es → IsRL κ w (vs ++ us) (ds ++ es)
  | _, _, _, _, .nil, s => s
  | _, _, _, _, .cons h t, s => .cons h (IsRL.append t s)
theorem IsRL.length {κ : Kx} {w : W3} : ∀ {vs : List V} {ds : List D}, IsRL κ w vs ds → vs.length = ds.length
  | _, _, .nil => rfl
  | _, _, .cons _ t => congrArg Nat.succ (IsRL.length t)
/-- constants as data: defaults -/
def litV : V → D
  | .bl b => .bl b
  | .int i => .int i
  | .str s => .str s
  | _ => .non
def isLit : V → Bool
  | .non => true
  | .bl _ => true
  | .int _ => true
  | .str _ => true
  | _ => false
theorem lits_is {κ : Kx} {w : W3} : ∀ {vs : List V}, vs.all isLit = true → IsRL κ w vs (vs.map litV)
  | [], _ => .nil
  | v :: vs, h => by
    rw [List.all_cons] at h
    obtain ⟨h1, h2⟩ := Bool.and_eq_true_iff.mp h
    refine .cons ?_ (lits_is h2)
    cases v with
    | non => exact (Is.non : Is κ w.m w.F .non .non)
    | bl b => exact (Is.bl b : Is κ w.m w.F _ _)
    | int b => exact (Is.int b : Is κ w.m w.F _ _)
    | str b => exact (Is.str b : Is κ w.m w.F _ _)
    | _ => cases h1
end
/-! ### how a call binds -/
inductive Sel where
  | p (i : Nat)
  | k (i : Nat)
  | d (i : Nat)
def selG {α : Type} (z : α) (sel : List Sel) (us ws its : List α) : List α := sel.map fun
  | .p i => us.getD i z
  | .k i => ws.getD i z
  | .d i => its.getD i z
theorem vals_getD {vs : List V} {us : List Value} (h : Vals vs us) : ∀ i : Nat, RelV (vs.getD i .non) (us.getD i .none) := by
  induction h with
  | nil => exact fun i => rfl
  | cons r _ ih =>
    intro i
    cases i with
    | zero => exact r
    | succ i => simpa using ih i
theorem vals_sel {vs zs ds : List V} {us ws its : List Value} (h1 : Vals vs us) (h2 : Vals zs ws) (h3 : Vals ds its) : ∀ sel : List Sel, Vals (selG .non sel vs zs ds) (selG .none sel us ws its)
  | [] => .nil
  | c :: r => by
    refine .cons ?_ (vals_sel h1 h2 h3 r)
    cases c with
    | p i => exact vals_getD h1 i
    | k i => exact vals_getD h2 i
    | d i => exact vals_getD h3 i
theorem isRL_getD {κ : Kx} {w : W3} {vs : List V} {ds : List D} (h : IsRL κ w vs ds) : ∀ i : Nat, IsR κ w (vs.getD i .non) (ds.getD i .non) := by
  induction h with
  | nil => exact fun i => (Is.non : Is κ w.m w.F .non .non)
  | cons r _ ih =>
    intro i
    cases i with
    | zero => exact r
    | succ i => simpa using ih i
theorem isRL_sel {κ : Kx} {w : W3} {vs zs xs : List V} {ds es ls : List D} (h1 : IsRL κ w vs ds) (h2 : IsRL κ w zs es) (h3 : IsRL κ w xs ls) : ∀ sel : List Sel, IsRL κ w (selG .non sel vs zs xs) (selG .non sel ds es ls)
  | [] => .nil
  | c :: r => by
    refine .cons ?_ (isRL_sel h1 h2 h3 r)
    cases c with
    | p i => exact isRL_getD h1 i
    | k i => exact isRL_getD h2 i
    | d i => exact isRL_getD h3 i
abbrev KB (K : Fg) (fd : FuncData) (ps : List Str) (n : Nat) (ks : List Str) (sel : List Sel) (dvs : List V) : Prop := ∃ its : List Value, KBn K fd ps n ks (fun us ws => selG .none sel us ws its) (fun vs zs => selG .non sel vs zs dvs)
section
variable {K : Fg} {x qual : Str} {params : Arguments} {body : List Stmt} {scope : Scope} {dvs : List V} {f : Addr} {fd : FuncData} {ps : List Str}
/-- no defaults -/
theorem kb0 (F : FunD K x qual params body scope [] [] f fd) (n : Nat) (ks : List Str) (sel : List Sel)
    (h : ∀ (kV doc pm : Value) (an : Option Addr) (cdv ct : Value) (us ws : List Value), us.length = n → ws.length = ks.length → bindArgs (PySem.W.fnOf x qual params body scope .none kV doc pm an cdv ct) ⟨us, ks.zip ws⟩ = pure (ps.zip (selG .none sel us ws []))) : KB K fd ps n ks sel [] := by
  obtain ⟨oc, od, dV, kV, doc, pm, an, cdv, ct, osl, rfl, lk, hcd, hD, hK⟩ := F.ex
  rcases hD with ⟨_, rfl⟩ | ⟨e, _⟩
  · exact ⟨[], fun s us ws X l1 l2 => .of_eq (h kV doc pm an cdv ct us ws l1 l2), fun r1 r2 => vals_sel r1 r2 .nil sel⟩
  · exact absurd rfl e
/-- with defaults -/
theorem kb1 (F : FunD K x qual params body scope dvs [] f fd) (n : Nat) (ks : List Str) (sel : List Sel) (hd : dvs ≠ [])
    (h : ∀ (T : Addr) (kV doc pm : Value) (an : Option Addr) (cdv ct : Value) (us ws its : List Value), us.length = n → ws.length = ks.length → its.length = dvs.length →
      ∃ k, bindArgs (PySem.W.fnOf x qual params body scope (.ref T) kV doc pm an cdv ct) ⟨us, ks.zip ws⟩ = seqItems? (.ref T) >>= k ∧ k (some its.toArray) = pure (ps.zip (selG .none sel us ws its))) : KB K fd ps n ks sel dvs := by
  obtain ⟨oc, od, dV, kV, doc, pm, an, cdv, ct, osl, rfl, lk, hcd, hD, hK⟩ := F.ex
  rcases hD with ⟨e, _⟩ | ⟨_, T, o, its, m, rfl, lT, oT, rT⟩
  · exact absurd e hd
  · refine ⟨its, fun s us ws X l1 l2 => BindsTo.of_looks fun M => ?_, fun r1 r2 => vals_sel r1 r2 rT sel⟩
    obtain ⟨k, e1, e2⟩ := h T kV doc pm an cdv ct us ws its l1 l2 rT.length.symm
    rw [e1]
    exact looks_items X lT oT (.of_pure e2)
end
/-! ### what may be called -/
/-- a callee, by values: n positional arguments, keywords ks -/
def RunU (X : Cx) (c : Value) (first : List (V × Value)) (n : Nat) (ks : List Str) (t : List V → List V → L2.St → Hp → VK → Prop) : Prop :=
  ∀ (pins : List (Addr × Obj)) (s : Shared) (σ : L2.St) (H : Hp) (us ws : List Value) (vs zs : List V) (Q : VK), Inv X pins σ H s → Vals vs us → Vals zs ws → vs.length = n → zs.length = ks.length → t vs zs σ H Q →
    wpAny (model X.prog X.w) X.A (call c (first.map (·.2) ++ us) (ks.zip ws)) (EP X pins σ Q) X.xe s
def tU (n m : Nat) (t : List V → List V → L2.St → Hp → VK → Prop) (ta tk : TA) : TE := fun σ H Q => ta σ H fun vs H1 => tk σ H1 fun zs H2 => vs.length = n ∧ zs.length = m ∧ t vs zs σ H2 Q
section
variable {X : Cx} {c : Value} {x : Str} {p pos : Pos} {e : Expr} {es : List Expr} {kws : List Keyword} {n : Nat} {ks : List Str} {t : List V → List V → L2.St → Hp → VK → Prop} {ta tk : TA}
theorem pu_pos (U : RunU X c [] n [] t) (hg : Gl X x) (hm : X.mg x = some c) (hk : PySem.W.keepIn X.K c = true) (ha : PA X (e :: es) ta) (hdb : (x == ("__debug__" : Str)) = false := by decide)
    (he : starEach (e :: es) X.env = (false, eval e X.env) :: starEach es X.env := by rfl) (hpl : (backTo pos (starEach es X.env)).any (·.1) = false := by rfl) : PE X (.Call (.Name x p) (e :: es) [] pos) (tU n 0 t ta tNil) := by
  refine ⟨fun pins s σ H Q I h => ?_⟩
  refine wpAny_Call_Name_kw (ld_glob I hg hm ?_ hdb)
  refine PySem.W.callWith_K (h₀ := X.base) I.ok.mod.kin hk (thn (ha.run pos pins s σ H _ I h) fun us s1 ⟨vs, H1, I1, r, l1, l2, q⟩ => ⟨I1.kIn, ?_⟩) he hpl
  exact U pins s1 σ H1 us [] vs [] Q I1 r .nil l1 rfl q
theorem pu_none (U : RunU X c [] 0 [] t) (hg : Gl X x) (hm : X.mg x = some c) (hk : PySem.W.keepIn X.K c = true) (hdb : (x == ("__debug__" : Str)) = false := by decide) : PE X (.Call (.Name x p) [] [] pos) (tU 0 0 t tNil tNil) := by
  refine ⟨fun pins s σ H Q I h => ?_⟩
  refine wpAny_Call_Name_kw (ld_glob I hg hm ?_ hdb)
  exact PySem.W.callWith_K0 I.kIn hk (U pins s σ H [] [] [] [] Q I .nil .nil rfl rfl h.2.2)
theorem pu_kw (U : RunU X c [] n ks t) (hg : Gl X x) (hm : X.mg x = some c) (hk : PySem.W.keepIn X.K c = true) (ha : PA X (e :: es) ta) (hkw : PK X kws tk)
    (hall : (backToKw pos (keywordEach kws X.env)).all (·.1.isSome) = true := by rfl) (hks : (backToKw pos (keywordEach kws X.env)).filterMap (·.1) = ks := by rfl) (hdb : (x == ("__debug__" : Str)) = false := by decide)
    (he : starEach (e :: es) X.env = (false, eval e X.env) :: starEach es X.env := by rfl) (hpl : ((backTo pos (starEach (e :: es) X.env)).any (·.1) || (backToKw pos (keywordEach kws X.env)).any (·.1.isNone)) = false := by rfl) :
    PE X (.Call (.Name x p) (e :: es) kws pos) (tU n ks.length t ta tk) := by
  refine ⟨fun pins s σ H Q I h => ?_⟩
  refine wpAny_Call_Name_kw (ld_glob I hg hm ?_ hdb)
  refine PySem.W.callWith_KW (h₀ := X.base) I.ok.mod.kin hk hall (thn (ha.run pos pins s σ H _ I h) fun us s1 ⟨vs, H1, I1, r, q⟩ => ?_) hpl he
  refine thn (hkw.run pos pins s1 σ H1 _ I1 q) fun ws s2 ⟨zs, H2, I2, rz, l1, l2, q2⟩ => ⟨I2.kIn, ?_⟩
  rw [hks]
  exact U pins s2 σ H2 us ws vs zs Q I2 r rz l1 l2 q2
theorem pu_kw0 (U : RunU X c [] 0 ks t) (hg : Gl X x) (hm : X.mg x = some c) (hk : PySem.W.keepIn X.K c = true) (hkw : PK X kws tk)
    (hall : (backToKw pos (keywordEach kws X.env)).all (·.1.isSome) = true := by rfl) (hks : (backToKw pos (keywordEach kws X.env)).filterMap (·.1) = ks := by rfl) (hdb : (x == ("__debug__" : Str)) = false := by decide)
    (hpl : ((backTo pos (starEach [] X.env)).any (·.1) || (backToKw pos (keywordEach kws X.env)).any (·.1.isNone)) = false := by rfl) :
    PE X (.Call (.Name x p) [] kws pos) (tU 0 ks.length t tNil tk) := by
  refine ⟨fun pins s σ H Q I h => ?_⟩
  refine wpAny_Call_Name_kw (ld_glob I hg hm ?_ hdb)
  refine PySem.W.callWith_KW0 (h₀ := X.base) I.ok.mod.kin hk hall ?_ hpl
  refine thn (hkw.run pos pins s σ H _ I h) fun ws s2 ⟨zs, H2, I2, rz, l1, l2, q2⟩ => ⟨I2.kIn, ?_⟩
  rw [hks]
  exact U pins s2 σ H2 [] ws [] zs Q I2 .nil rz rfl l2 q2
/-- a def, by its name or as a method: first, the values that stand ahead of the written ones -/
theorem run_G {CX : CXT} {k : Nat} {f : Addr} {fd : FuncData} {ps : List Str} {sp : Sp} {E : L2.St → XK} {sel : List Sel} {dvs : List V} {first : List (V × Value)} (F : FnG X.prog X.w X.K X.mg X.base CX k f fd ps sp) (hr : RoomG k X.A) (hb : KB X.K fd ps (first.length + n) ks sel dvs) (hf : Vals (first.map (·.1)) (first.map (·.2))) (hx : ∀ σ, PassesAt CX X σ (E σ)) :
    RunU X (.ref f) first n ks (fun vs zs σ H Q => sp (selG .non sel (first.map (·.1) ++ vs) zs dvs) H Q (E σ)) := by
  obtain ⟨its, hb⟩ := hb
  intro pins s σ H us ws vs zs Q I r rz l1 l2 h
  have r1 := hf.append r
  have n1 : (first.map (·.2) ++ us).length = first.length + n := by
    rw [List.length_append, List.length_map, ← r.length, l1]
  have r2 := hb.rel r1 rz
  refine wpAny_call (codeAny_mono (F.run X.A X.stack s H ⟨first.map (·.2) ++ us, ks.zip ws⟩ _ _ Q (E σ) hr I.env0 (hb.to s _ ws I.kIn n1 (rz.length.symm.trans l2)) r2 h) fun r s' hq => ?_)
  cases r with
  | error e => exact hx σ pins H s e s' I hq
  | ok fl =>
    cases fl with
    | ret u => exact I.after hq
    | next => exact hq.elim
    | brk => exact hq.elim
    | cont => exact hq.elim
end
/-! ### calls of defs, from data -/
def mCallU (M : FM) (sel : List Sel) (dd : List D) (Ma Mk : AM) : EM := fun env μ => (Ma env μ).toE fun ds env μ => (Mk env μ).toE fun es env μ => runF M (selG .non sel ds es dd) env μ
def KOk (hx : HX) (X : Cx) (kws : List Keyword) (M : AM) : Prop := ∀ W, Takes X W → PK X kws (rdA (kx X hx) W M)
theorem impPK {X : Cx} {e : List Keyword} {t t' : TA} (h : PK X e t) (i : ∀ σ H Q, t' σ H Q → t σ H Q) : PK X e t' := ⟨fun pos pins s σ H Q I q => h.run pos pins s σ H Q I (i σ H Q q)⟩
section
variable {X : Cx} {hx : HX}
/-- what the mirror's call gives to the rule -/
theorem callU_of {W : WX} {M : FM} {np n m : Nat} {sel : List Sel} {dvs : List V} {Ma Mk : AM} (nx : NoX (kx X hx)) (hv : dvs.all isLit = true) (hnp : sel.length = np)
    (hla : ∀ env μ ds env' μ', Ma env μ = .ok ds env' μ' → ds.length = n) (hlk : ∀ env μ ds env' μ', Mk env μ = .ok ds env' μ' → ds.length = m) {σ : L2.St} {H : Hp} {Q : VK} (h : rdE (kx X hx) W (mCallU M sel (dvs.map litV) Ma Mk) σ H Q) :
    tU n m (fun vs zs σ H Q => spF ⟨X.K, none, hx.cs⟩ np M (selG .non sel vs zs dvs) H Q (WE W σ)) (rdA (kx X hx) W Ma) (rdA (kx X hx) W Mk) σ H Q := by
  obtain ⟨w, rfl, rfl, rs, p⟩ := h
  unfold mCallU at p
  refine ⟨w, rfl, rfl, rs, ?_⟩
  cases em : Ma w.env w.μ with
  | stk =>
    rw [em] at p
    exact p.elim
  | exc x env' μ' =>
    rw [em] at p
    exact p
  | ok ds' env' μ' =>
    have p' : PostE (kx X hx) W w ((Mk env' μ').toE fun es env μ => runF M (selG .non sel ds' es (dvs.map litV)) env μ) Q := by
      rw [em] at p
      exact p
    intro w1 vs e1 e2 e3 rs1 st1 i1
    subst e2 e3
    refine ⟨w1, e1, rfl, rs1, ?_⟩
    cases ek : Mk w1.env w1.μ with
    | stk =>
      rw [ek] at p'
      exact p'.elim
    | exc x env' μ' =>
      rw [ek] at p'
      exact fun w' cls dd a1 a2 a3 rs' st i => p' w' cls dd (a1.trans e1) a2 a3 rs' (st1.trans st) i
    | ok es' env2 μ2 =>
      rw [ek] at p'
      intro w2 zs a1 a2 a3 rs2 st2 i2
      subst a2 a3
      have h1 := hla _ _ _ _ _ em
      have h2 := hlk _ _ _ _ _ ek
      refine ⟨i1.length.trans h1, i2.length.trans h2, ?_⟩
      have il := isRL_sel (i1.mono a1 st2.gr) i2 (lits_is (κ := kx X hx) (w := w2) hv) sel
      have r := runF_sp (h0 := hx) (np := np) (Q := Q) nx rs2 il (by unfold selG; rw [List.length_map]; exact hnp) (PostE.step (a1.trans e1) (st1.trans st2) p')
      rw [a1, e1] at r
      exact r
section
variable {x : Str} {p pos : Pos} {e : Expr} {es : List Expr} {kws : List Keyword} {Ma Mk : AM} {M : FM} {n k : Nat} {f : Addr} {fd : FuncData} {ps : List Str} {dvs : List V} {ks : List Str} {sel : List Sel}
theorem e_call (nx : NoX (kx X hx)) (F : FnG X.prog X.w X.K X.mg X.base (L2.CX X.prog X.w) k f fd ps (spF ⟨X.K, none, hx.cs⟩ ps.length M)) (hr : RoomG k X.A) (hg : Gl X x) (hm : X.mg x = some (.ref f)) (hk : PySem.W.keepIn X.K (.ref f) = true) (hb : KB X.K fd ps n [] sel dvs)
    (hv : dvs.all isLit = true) (hnp : sel.length = ps.length) (ha : AOk hx X (e :: es) Ma) (hla : ∀ env μ ds env' μ', Ma env μ = .ok ds env' μ' → ds.length = n)
    (hdb : (x == ("__debug__" : Str)) = false := by decide) (he : starEach (e :: es) X.env = (false, eval e X.env) :: starEach es X.env := by rfl) (hpl : (backTo pos (starEach es X.env)).any (·.1) = false := by rfl) :
    EOk hx X (.Call (.Name x p) (e :: es) [] pos) (mCallU M sel (dvs.map litV) Ma aNil) := by
  refine fun W tk => impPE (pu_pos (run_G (first := []) (n := n) F hr (by rw [List.length_nil, Nat.zero_add]; exact hb) .nil (fun σ => passAt tk σ)) hg hm hk (ha W tk) hdb he hpl) fun σ H Q q => ?_
  obtain ⟨w, rfl, rfl, rs, q⟩ := q
  have q2 := callU_of (m := 0) nx hv hnp hla (fun _ _ _ _ _ z => by cases z; rfl) (⟨w, rfl, rfl, rs, q⟩ : rdE (kx X hx) W (mCallU M sel (dvs.map litV) Ma aNil) w.σ w.H Q)
  obtain ⟨w0, e1, e2, rs0, q2⟩ := q2
  refine ⟨w0, e1, e2, rs0, PostA.imp q2 fun vs H1 q3 => ?_⟩
  obtain ⟨w1, e3, e4, rs1, q4⟩ := q3
  obtain ⟨l1, l2, q5⟩ := q4 w1 [] rfl rfl rfl rs1 (.refl _) .nil
  rw [e4] at q5
  exact ⟨l1, l2, q5⟩
theorem e_callK (nx : NoX (kx X hx)) (F : FnG X.prog X.w X.K X.mg X.base (L2.CX X.prog X.w) k f fd ps (spF ⟨X.K, none, hx.cs⟩ ps.length M)) (hr : RoomG k X.A) (hg : Gl X x) (hm : X.mg x = some (.ref f)) (hk : PySem.W.keepIn X.K (.ref f) = true) (hb : KB X.K fd ps n ks sel dvs)
    (hv : dvs.all isLit = true) (hnp : sel.length = ps.length) (ha : AOk hx X (e :: es) Ma) (hkw : KOk hx X kws Mk) (hla : ∀ env μ ds env' μ', Ma env μ = .ok ds env' μ' → ds.length = n) (hlk : ∀ env μ ds env' μ', Mk env μ = .ok ds env' μ' → ds.length = ks.length)
    (hall : (backToKw pos (keywordEach kws X.env)).all (·.1.isSome) = true := by rfl) (hks : (backToKw pos (keywordEach kws X.env)).filterMap (·.1) = ks := by rfl) (hdb : (x == ("__debug__" : Str)) = false := by decide)
    (he : starEach (e :: es) X.env = (false, eval e X.env) :: starEach es X.env := by rfl) (hpl : ((backTo pos (starEach (e :: es) X.env)).any (·.1) || (backToKw pos (keywordEach kws X.env)).any (·.1.isNone)) = false := by rfl) :
    EOk hx X (.Call (.Name x p) (e :: es) kws pos) (mCallU M sel (dvs.map litV) Ma Mk) :=
  fun W tk => impPE (pu_kw (run_G (first := []) (n := n) F hr (by rw [List.length_nil, Nat.zero_add]; exact hb) .nil (fun σ => passAt tk σ)) hg hm hk (ha W tk) (hkw W tk) hall hks hdb he hpl) fun σ H Q q => callU_of nx hv hnp hla hlk q
theorem e_callK0 (nx : NoX (kx X hx)) (F : FnG X.prog X.w X.K X.mg X.base (L2.CX X.prog X.w) k f fd ps (spF ⟨X.K, none, hx.cs⟩ ps.length M)) (hr : RoomG k X.A) (hg : Gl X x) (hm : X.mg x = some (.ref f)) (hk : PySem.W.keepIn X.K (.ref f) = true) (hb : KB X.K fd ps 0 ks sel dvs)
    (hv : dvs.all isLit = true) (hnp : sel.length = ps.length) (hkw : KOk hx X kws Mk) (hlk : ∀ env μ ds env' μ', Mk env μ = .ok ds env' μ' → ds.length = ks.length)
    (hall : (backToKw pos (keywordEach kws X.env)).all (·.1.isSome) = true := by rfl) (hks : (backToKw pos (keywordEach kws X.env)).filterMap (·.1) = ks := by rfl) (hdb : (x == ("__debug__" : Str)) = false := by decide)
    (hpl : ((backTo pos (starEach [] X.env)).any (·.1) || (backToKw pos (keywordEach kws X.env)).any (·.1.isNone)) = false := by rfl) :
    EOk hx X (.Call (.Name x p) [] kws pos) (mCallU M sel (dvs.map litV) aNil Mk) := by
  refine fun W tk => impPE (pu_kw0 (run_G (first := []) (n := 0) F hr (by rw [List.length_nil, Nat.zero_add]; exact hb) .nil (fun σ => passAt tk σ)) hg hm hk (hkw W tk) hall hks hdb hpl) fun σ H Q q => ?_
  have q2 := callU_of (n := 0) nx hv hnp (fun _ _ _ _ _ z => by cases z; rfl) hlk q
  obtain ⟨w, rfl, rfl, rs, q3⟩ := q2
  exact q3 w [] rfl rfl rfl rs (.refl _) .nil
end
theorem len_nil : ∀ env μ ds env' μ', aNil env μ = .ok ds env' μ' → ds.length = 0 := fun _ _ _ _ _ h => by
  cases h
  rfl
theorem len_cons {Me : EM} {Ma : AM} {n : Nat} (h : ∀ env μ ds env' μ', Ma env μ = .ok ds env' μ' → ds.length = n) : ∀ env μ ds env' μ', aCons Me Ma env μ = .ok ds env' μ' → ds.length = n + 1 := fun env μ ds env' μ' e => by
  unfold aCons at e
  cases q : Me env μ with
  | stk =>
    rw [q] at e
    cases e
  | exc x _ _ =>
    rw [q] at e
    cases e
  | ok d env1 μ1 =>
    rw [q] at e
    have e' : (Ma env1 μ1).bind (fun ds env μ => AR.ok (d :: ds) env μ) = .ok ds env' μ' := e
    cases q2 : Ma env1 μ1 with
    | stk =>
      rw [q2] at e'
      cases e'
    | exc x _ _ =>
      rw [q2] at e'
      cases e'
    | ok ds2 env2 μ2 =>
      rw [q2] at e'
      cases e'
      rw [List.length_cons, h _ _ _ _ _ q2]
end
end DL
set_option Elab.async false
set_option linter.all false
set_option maxRecDepth 100000
set_option maxHeartbeats 2000000
namespace DL
open PySem PySem.Spec PyProof.Rows L2
/-! ### slots stored -/
def W3.setD (w : W3) (i : Nat) (v : V) (d : D) : W3 := { w with env := w.env.set i (.d d), σ := w.σ.set i (some v) }
def W3.setO (w : W3) (i : Nat) (p : Addr) (c : Cell) : W3 := { w with env := w.env.set i (.own c), σ := w.σ.set i (some (.ref p)) }
section
variable {κ : Kx} {w w1 : W3} {i : Nat} {v : V} {d : D} {p : Addr} {c : Cell}
theorem getSet {α : Type} {l : List α} {i j : Nat} {x y : α} (h : (l.set i x)[j]? = some y) : (j = i ∧ i < l.length ∧ x = y) ∨ (j ≠ i ∧ l[j]? = some y) := by
  by_cases e : j = i
  · subst e
    by_cases hl : j < l.length
    · rw [List.getElem?_set_self hl] at h
      exact .inl ⟨rfl, hl, Option.some.inj h⟩
    · rw [List.getElem?_eq_none (by rw [List.length_set]; omega)] at h
      cases h
  · rw [List.getElem?_set_ne (Ne.symm e)] at h
    exact .inr ⟨e, h⟩
theorem RS.setS (rs : RS κ w) (hi : SlotIs κ w.m w.F v d) : RS κ (w.setD i v d) := by
  have oo : ∀ j a c, (w.setD i v d).isO j a c → w.isO j a c := fun j a c ⟨h1, h2⟩ => by
    have h1' : (w.env.set i (Slot.d d))[j]? = some (Slot.own c) := h1
    have h2' : (w.σ.set i (some v))[j]? = some (some (.ref a)) := h2
    rcases getSet h1' with ⟨_, _, e⟩ | ⟨e, h1'⟩
    · cases e
    · rcases getSet h2' with ⟨e2, _, _⟩ | ⟨_, h2'⟩
      · exact (e e2).elim
      · exact ⟨h1', h2'⟩
  refine ⟨rs.le, rs.lm, ?_, fun j x e => ?_, fun j c e => ?_, rs.cel, rs.cc, fun j k a c c' h h' => rs.oo j k a c c' (oo _ _ _ h) (oo _ _ _ h'), fun j n a c c' h h' => rs.oc j n a c c' (oo _ _ _ h) h'⟩
  · show (w.env.set i _).length = (w.σ.set i _).length
    rw [List.length_set, List.length_set]
    exact rs.ls
  · have e' : (w.env.set i (Slot.d d))[j]? = some (Slot.d x) := e
    rcases getSet e' with ⟨rfl, hl, e2⟩ | ⟨ne, e'⟩
    · cases e2
      exact ⟨v, List.getElem?_set_self (by rw [← rs.ls]; exact hl), hi⟩
    · obtain ⟨u, h1, h2⟩ := rs.slot j x e'
      exact ⟨u, (List.getElem?_set_ne (Ne.symm ne)).trans h1, h2⟩
  · have e' : (w.env.set i (Slot.d d))[j]? = some (Slot.own c) := e
    rcases getSet e' with ⟨_, _, e2⟩ | ⟨ne, e'⟩
    · cases e2
    · obtain ⟨l, a, h1, h2⟩ := rs.own j c e'
      exact ⟨l, a, (List.getElem?_set_ne (Ne.symm ne)).trans h1, h2⟩
theorem RS.setD (rs : RS κ w) (hi : Is κ w.m w.F v d) : RS κ (w.setD i v d) := rs.setS hi.slot
theorem Stp.setD (st : Stp w1 w) : Stp w1 (w.setD i v d) := by
  refine ⟨st.gr, st.kp, fun a h => st.fr a ?_, st.ff⟩
  rcases h with h | ⟨j, c, h1, h2⟩
  · exact .inl h
  · have h1' : (w.env.set i (Slot.d d))[j]? = some (Slot.own c) := h1
    have h2' : (w.σ.set i (some v))[j]? = some (some (.ref a)) := h2
    rcases getSet h1' with ⟨_, _, e⟩ | ⟨e, h1'⟩
    · cases e
    · rcases getSet h2' with ⟨e2, _, _⟩ | ⟨_, h2'⟩
      · exact (e e2).elim
      · exact .inr ⟨j, c, h1', h2'⟩
theorem setO_isO {j : Nat} {a : Addr} {c' : Cell} (h : (w.setO i p c).isO j a c') : (j = i ∧ a = p ∧ c' = c) ∨ (j ≠ i ∧ w.isO j a c') := by
  obtain ⟨h1, h2⟩ := h
  have h1' : (w.env.set i (Slot.own c))[j]? = some (Slot.own c') := h1
  have h2' : (w.σ.set i (some (V.ref p)))[j]? = some (some (.ref a)) := h2
  rcases getSet h1' with ⟨e, _, e3⟩ | ⟨e, h1'⟩
  · rcases getSet h2' with ⟨_, _, e2⟩ | ⟨e2, _⟩
    · cases e2
      cases e3
      exact .inl ⟨e, rfl, rfl⟩
    · exact (e2 e).elim
  · rcases getSet h2' with ⟨e2, _, _⟩ | ⟨_, h2'⟩
    · exact (e e2).elim
    · exact .inr ⟨e, h1', h2'⟩
theorem RS.setO (rs : RS κ w) (hf : w.F p = none) (nm : ¬ w.Mut p) (l : c.live) (ck : CellOk κ w.m w.F w.H p c) : RS κ (w.setO i p c) := by
  refine ⟨rs.le, rs.lm, ?_, fun j x e => ?_, fun j c' e => ?_, rs.cel, rs.cc, fun j k a c1 c2 h h' => ?_, fun j n a c1 c2 h h' => ?_⟩
  · show (w.env.set i _).length = (w.σ.set i _).length
    rw [List.length_set, List.length_set]
    exact rs.ls
  · have e' : (w.env.set i (Slot.own c))[j]? = some (Slot.d x) := e
    rcases getSet e' with ⟨_, _, e2⟩ | ⟨ne, e'⟩
    · cases e2
    · obtain ⟨u, h1, h2⟩ := rs.slot j x e'
      exact ⟨u, (List.getElem?_set_ne (Ne.symm ne)).trans h1, h2⟩
  · have e' : (w.env.set i (Slot.own c))[j]? = some (Slot.own c') := e
    rcases getSet e' with ⟨rfl, hl, e2⟩ | ⟨ne, e'⟩
    · cases e2
      exact ⟨l, p, List.getElem?_set_self (by rw [← rs.ls]; exact hl), hf, ck⟩
    · obtain ⟨l, a, h1, h2⟩ := rs.own j c' e'
      exact ⟨l, a, (List.getElem?_set_ne (Ne.symm ne)).trans h1, h2⟩
  · rcases setO_isO h with ⟨rfl, rfl, rfl⟩ | ⟨e, h⟩
    · rcases setO_isO h' with ⟨e', _, _⟩ | ⟨_, h'⟩
      · exact e'.symm
      · exact (nm (.inr ⟨k, c2, h'⟩)).elim
    · rcases setO_isO h' with ⟨_, e2, _⟩ | ⟨_, h'⟩
      · exact (nm (.inr ⟨j, c1, by rw [← e2]; exact h⟩)).elim
      · exact rs.oo j k a c1 c2 h h'
  · rcases setO_isO h with ⟨rfl, rfl, rfl⟩ | ⟨e, h⟩
    · exact nm (.inl ⟨n, c2, h'⟩)
    · exact rs.oc j n a c1 c2 h h'
theorem Stp.setO (st : Stp w1 w) (hn : w1.Mut p ∨ w1.H p = none) : Stp w1 (w.setO i p c) := by
  refine ⟨st.gr, st.kp, fun a h => ?_, st.ff⟩
  rcases h with h | ⟨j, c', h⟩
  · exact st.fr a (.inl h)
  · rcases setO_isO h with ⟨_, rfl, _⟩ | ⟨_, h⟩
    · exact hn
    · exact st.fr a (.inr ⟨j, c', h⟩)
/-- an owned object changed in its place -/
def W3.modO (w : W3) (i : Nat) (p : Addr) (c : Cell) (o : HO) : W3 := { w with env := w.env.set i (.own c), H := upd w.H p o }
theorem modO_isO {o : HO} {j : Nat} {a : Addr} {c' : Cell} (hi : ∃ c0, w.isO i p c0) (h : (w.modO i p c o).isO j a c') : (j = i ∧ a = p ∧ c' = c) ∨ (j ≠ i ∧ w.isO j a c') := by
  obtain ⟨h1, h2⟩ := h
  obtain ⟨c0, i1, i2⟩ := hi
  have h1' : (w.env.set i (Slot.own c))[j]? = some (Slot.own c') := h1
  have h2' : w.σ[j]? = some (some (.ref a)) := h2
  rcases getSet h1' with ⟨e, _, e3⟩ | ⟨e, h1'⟩
  · subst e
    rw [i2] at h2'
    cases h2'
    cases e3
    exact .inl ⟨rfl, rfl, rfl⟩
  · exact .inr ⟨e, h1', h2'⟩
theorem RS.modO {o : HO} (rs : RS κ w) {c0 : Cell} (hi : w.isO i p c0) (l : c.live) (ck : CellOk κ w.m w.F (upd w.H p o) p c) : RS κ (w.modO i p c o) := by
  have hm : w.Mut p := .inr ⟨i, c0, hi⟩
  have hF := rs.mutF hm
  have ne : ∀ j a c', w.isO j a c' → j ≠ i → a ≠ p := fun j a c' h n e => by
    subst e
    exact n (rs.oo j i a c' c0 h hi)
  refine ⟨fun a u e => ?_, rs.lm, ?_, fun j x e => ?_, fun j c' e => ?_, fun n a c' h => ?_, rs.cc, fun j k a c1 c2 h h' => ?_, fun j n a c1 c2 h h' => ?_⟩
  · show upd w.H p o a = some u
    rw [upd_ne (ne_of_none e hF)]
    exact rs.le a u e
  · show (w.env.set i _).length = w.σ.length
    rw [List.length_set]
    exact rs.ls
  · have e' : (w.env.set i (Slot.own c))[j]? = some (Slot.d x) := e
    rcases getSet e' with ⟨_, _, e2⟩ | ⟨ne, e'⟩
    · cases e2
    · exact rs.slot j x e'
  · have e' : (w.env.set i (Slot.own c))[j]? = some (Slot.own c') := e
    rcases getSet e' with ⟨rfl, hl, e2⟩ | ⟨nj, e'⟩
    · cases e2
      exact ⟨l, p, hi.2, hF, ck⟩
    · obtain ⟨l, a, h1, h2, h3⟩ := rs.own j c' e'
      exact ⟨l, a, h1, h2, h3.mono (.refl _ _) (upd_ne (ne j a c' ⟨e', h1⟩ nj))⟩
  · obtain ⟨h2, h3⟩ := rs.cel n a c' h
    refine ⟨h2, h3.mono (.refl _ _) (upd_ne fun e => ?_)⟩
    subst e
    exact rs.oc i n a c0 c' hi h
  · rcases modO_isO ⟨c0, hi⟩ h with ⟨rfl, rfl, rfl⟩ | ⟨e, h⟩
    · rcases modO_isO ⟨c0, hi⟩ h' with ⟨e', _, _⟩ | ⟨_, h'⟩
      · exact e'.symm
      · exact rs.oo j k a c0 c2 hi h'
    · rcases modO_isO ⟨c0, hi⟩ h' with ⟨e1, e2, _⟩ | ⟨_, h'⟩
      · exact (rs.oo j i a c1 c0 h (by rw [e2]; exact hi)).trans e1.symm
      · exact rs.oo j k a c1 c2 h h'
  · rcases modO_isO ⟨c0, hi⟩ h with ⟨rfl, rfl, rfl⟩ | ⟨e, h⟩
    · exact rs.oc j n a c0 c2 hi h'
    · exact rs.oc j n a c1 c2 h h'
theorem Stp.modO {o : HO} {c0 : Cell} (hi : w.isO i p c0) : Stp w (w.modO i p c o) := by
  refine ⟨.refl _ _, fun a u e n => ?_, fun a h => ?_, fun a u e => .inl e⟩
  · show upd w.H p o a = some u
    rw [upd_ne fun e => n (by rw [e]; exact .inr ⟨i, c0, hi⟩)]
    exact e
  · rcases h with h | ⟨j, c', h⟩
    · exact .inl (.inl h)
    · rcases modO_isO ⟨c0, hi⟩ h with ⟨rfl, rfl, _⟩ | ⟨_, h⟩
      · exact .inl (.inr ⟨j, c0, hi⟩)
      · exact .inl (.inr ⟨j, c', h⟩)
/-- a cell of the store changed in its place -/
def W3.modC (w : W3) (n : Nat) (p : Addr) (c : Cell) (o : HO) : W3 := { w with μ := w.μ.set n c, H := upd w.H p o }
theorem modC_isC {o : HO} {n k : Nat} {a : Addr} {c' : Cell} (hi : ∃ c0, w.isC n p c0) (h : (w.modC n p c o).isC k a c') : (k = n ∧ a = p ∧ c' = c) ∨ (k ≠ n ∧ w.isC k a c') := by
  obtain ⟨h1, h2, h3⟩ := h
  obtain ⟨c0, i1, i2, i3⟩ := hi
  have h1' : (w.μ.set n c)[k]? = some c' := h1
  have h2' : w.m[k]? = some a := h2
  rcases getSet h1' with ⟨e, _, e3⟩ | ⟨e, h1'⟩
  · subst e
    rw [i2] at h2'
    cases h2'
    exact .inl ⟨rfl, rfl, e3.symm⟩
  · exact .inr ⟨e, h1', h2', h3⟩
theorem RS.modC {o : HO} {n : Nat} (rs : RS κ w) {c0 : Cell} (hi : w.isC n p c0) (l : c.live) (ck : CellOk κ w.m w.F (upd w.H p o) p c) : RS κ (w.modC n p c o) := by
  have hm : w.Mut p := .inl ⟨n, c0, hi⟩
  have hF := rs.mutF hm
  have ne : ∀ j a c', w.isC j a c' → j ≠ n → a ≠ p := fun j a c' h n' e => by
    subst e
    exact n' (rs.cc j n a c' c0 h hi)
  refine ⟨fun a u e => ?_, ?_, rs.ls, rs.slot, fun j c' e => ?_, fun k a c' h => ?_, fun j k a c1 c2 h h' => ?_, rs.oo, fun j k a c1 c2 h h' => ?_⟩
  · show upd w.H p o a = some u
    rw [upd_ne (ne_of_none e hF)]
    exact rs.le a u e
  · show w.m.length = (w.μ.set n c).length
    rw [List.length_set]
    exact rs.lm
  · obtain ⟨l, a, h1, h2, h3⟩ := rs.own j c' e
    refine ⟨l, a, h1, h2, h3.mono (.refl _ _) (upd_ne fun e2 => ?_)⟩
    subst e2
    exact rs.oc j n a c' c0 ⟨e, h1⟩ hi
  · rcases modC_isC ⟨c0, hi⟩ h with ⟨rfl, rfl, rfl⟩ | ⟨e, h⟩
    · exact ⟨hF, ck⟩
    · obtain ⟨h2, h3⟩ := rs.cel k a c' h
      exact ⟨h2, h3.mono (.refl _ _) (upd_ne (ne k a c' h e))⟩
  · rcases modC_isC ⟨c0, hi⟩ h with ⟨rfl, rfl, rfl⟩ | ⟨e, h⟩
    · rcases modC_isC ⟨c0, hi⟩ h' with ⟨e', _, _⟩ | ⟨_, h'⟩
      · exact e'.symm
      · exact rs.cc j k a c0 c2 hi h'
    · rcases modC_isC ⟨c0, hi⟩ h' with ⟨e1, e2, _⟩ | ⟨_, h'⟩
      · exact (rs.cc j n a c1 c0 h (by rw [e2]; exact hi)).trans e1.symm
      · exact rs.cc j k a c1 c2 h h'
  · rcases modC_isC ⟨c0, hi⟩ h' with ⟨rfl, rfl, rfl⟩ | ⟨e, h'⟩
    · exact rs.oc j k a c1 c0 h hi
    · exact rs.oc j k a c1 c2 h h'
theorem Stp.modC {o : HO} {n : Nat} {c0 : Cell} (hi : w.isC n p c0) : Stp w (w.modC n p c o) := by
  refine ⟨.refl _ _, fun a u e n' => ?_, fun a h => ?_, fun a u e => .inl e⟩
  · show upd w.H p o a = some u
    rw [upd_ne fun e => n' (by rw [e]; exact .inl ⟨n, c0, hi⟩)]
    exact e
  · rcases h with ⟨j, c', h⟩ | h
    · rcases modC_isC ⟨c0, hi⟩ h with ⟨rfl, rfl, _⟩ | ⟨_, h⟩
      · exact .inl (.inl ⟨j, c0, hi⟩)
      · exact .inl (.inl ⟨j, c', h⟩)
    · exact .inl (.inr h)
/-- a new cell of the store -/
def W3.newC (w : W3) (p : Addr) (c : Cell) : W3 := { w with m := w.m ++ [p], μ := w.μ ++ [c] }
theorem newC_isC (rs : RS κ w) {n : Nat} {a : Addr} {c' : Cell} (h : (w.newC p c).isC n a c') : (n = w.μ.length ∧ a = p ∧ c' = c) ∨ w.isC n a c' := by
  obtain ⟨h1, h2, h3⟩ := h
  have h1' : (w.μ ++ [c])[n]? = some c' := h1
  have h2' : (w.m ++ [p])[n]? = some a := h2
  by_cases hn : n < w.μ.length
  · rw [List.getElem?_append_left hn] at h1'
    rw [List.getElem?_append_left (by rw [rs.lm]; exact hn)] at h2'
    exact .inr ⟨h1', h2', h3⟩
  · rw [List.getElem?_append_right (by omega)] at h1'
    rw [List.getElem?_append_right (by rw [rs.lm]; omega)] at h2'
    rw [rs.lm] at h2'
    by_cases e : n - w.μ.length = 0
    · rw [e] at h1' h2'
      cases h1'
      cases h2'
      exact .inl ⟨by omega, rfl, rfl⟩
    · rw [List.getElem?_eq_none (by simp; omega)] at h1'
      cases h1'
theorem Gr.newC : Gr w.m w.F (w.newC p c).m (w.newC p c).F := ⟨fun n a h => by
  show (w.m ++ [p])[n]? = some a
  rw [List.getElem?_append_left (List.getElem?_eq_some_iff.mp h).1]
  exact h, fun _ _ h => h⟩
theorem RS.newC (rs : RS κ w) (hf : w.F p = none) (nm : ¬ w.Mut p) (ck : CellOk κ w.m w.F w.H p c) : RS κ (w.newC p c) := by
  have g : Gr w.m w.F (w.newC p c).m (w.newC p c).F := Gr.newC
  refine ⟨rs.le, ?_, rs.ls, fun i d e => ?_, fun i c' e => ?_, fun n a c' h => ?_, fun j k a c1 c2 h h' => ?_, rs.oo, fun j k a c1 c2 h h' => ?_⟩
  · show (w.m ++ [p]).length = (w.μ ++ [c]).length
    rw [List.length_append, List.length_append, rs.lm]
    rfl
  · obtain ⟨v, h1, h2⟩ := rs.slot i d e
    exact ⟨v, h1, h2.mono g⟩
  · obtain ⟨l, a, h1, h2, h3⟩ := rs.own i c' e
    exact ⟨l, a, h1, h2, h3.mono g rfl⟩
  · rcases newC_isC rs h with ⟨_, rfl, rfl⟩ | h
    · exact ⟨hf, ck.mono g rfl⟩
    · obtain ⟨h2, h3⟩ := rs.cel n a c' h
      exact ⟨h2, h3.mono g rfl⟩
  · rcases newC_isC rs h with ⟨e, rfl, rfl⟩ | h
    · rcases newC_isC rs h' with ⟨e', _, _⟩ | h'
      · exact e.trans e'.symm
      · exact (nm (.inl ⟨k, c2, h'⟩)).elim
    · rcases newC_isC rs h' with ⟨_, e2, _⟩ | h'
      · exact (nm (.inl ⟨j, c1, by rw [← e2]; exact h⟩)).elim
      · exact rs.cc j k a c1 c2 h h'
  · rcases newC_isC rs h' with ⟨_, rfl, _⟩ | h'
    · exact nm (.inr ⟨j, c1, h⟩)
    · exact rs.oc j k a c1 c2 h h'
theorem Stp.newC (rs : RS κ w) (st : Stp w1 w) (hn : w1.Mut p ∨ w1.H p = none) : Stp w1 (w.newC p c) := by
  refine ⟨st.gr.trans Gr.newC, st.kp, fun a h => ?_, st.ff⟩
  rcases h with ⟨n, c', h⟩ | h
  · rcases newC_isC rs h with ⟨_, rfl, _⟩ | h
    · exact hn
    · exact st.fr a (.inl ⟨n, c', h⟩)
  · exact st.fr a (.inr h)
end
end DL
set_option Elab.async false
set_option linter.all false
set_option maxRecDepth 100000
set_option maxHeartbeats 2000000
namespace DL
open PySem PySem.Spec PyProof.Rows L2
theorem PostS.step {κ : Kx} {W : WX} {w w1 : W3} {r : SR} {E : Ends} (s : Stp w w1) (h : PostS κ W w r E) : PostS κ W w1 r E := by
  cases r with
  | nx env' μ' => exact fun w' e1 e2 rs st => h w' e1 e2 rs (s.trans st)
  | ret d env' μ' => exact fun w' v e1 e2 rs st i => h w' v e1 e2 rs (s.trans st) i
  | bk env' μ' => exact fun w' e1 e2 rs st => h w' e1 e2 rs (s.trans st)
  | ct env' μ' => exact fun w' e1 e2 rs st => h w' e1 e2 rs (s.trans st)
  | exc x env' μ' => exact fun w' cls dd e1 e2 rs st i => h w' cls dd e1 e2 rs (s.trans st) i
  | stk => exact h
def SR.bind (r : SR) (k : SM) : SR :=
  match r with
  | .nx env μ => k env μ
  | r => r
def ER.toS (r : ER) (k : D → SM) : SR :=
  match r with
  | .ok d env μ => k d env μ
  | .exc x env μ => .exc x env μ
  | .stk => .stk
def AR.toS (r : AR) (k : List D → SM) : SR :=
  match r with
  | .ok d env μ => k d env μ
  | .exc x env μ => .exc x env μ
  | .stk => .stk
def TR.toS (r : TR) (k : Bool → SM) : SR :=
  match r with
  | .ok b env μ => k b env μ
  | .exc x env μ => .exc x env μ
  | .stk => .stk
def NR.toS (r : NR) (k : Cell → SM) : SR :=
  match r with
  | .ok c env μ => k c env μ
  | .exc x env μ => .exc x env μ
  | .stk => .stk
/-- from an expression's outcome to a statement's -/
theorem PostS.bindE {κ : Kx} {W : WX} {w : W3} {r : ER} {k : D → SM} {E : Ends} (h : PostS κ W w (r.toS k) E) :
    PostE κ W w r fun v H => ∃ (w1 : W3) (d : D), w1.H = H ∧ w1.σ = w.σ ∧ RS κ w1 ∧ Stp w w1 ∧ IsR κ w1 v d ∧ PostS κ W w1 (k d w1.env w1.μ) E := by
  cases r with
  | ok d env' μ' =>
    intro w' v e1 e2 e3 rs st i
    subst e2 e3
    exact ⟨w', d, rfl, e1, rs, st, i, PostS.step st h⟩
  | exc x env' μ' => exact fun w' cls dd _ e2 e3 rs st i => h w' cls dd e2 e3 rs st i
  | stk => exact h.elim
theorem PostS.bindA {κ : Kx} {W : WX} {w : W3} {r : AR} {k : List D → SM} {E : Ends} (h : PostS κ W w (r.toS k) E) :
    PostA κ W w r fun v H => ∃ (w1 : W3) (d : List D), w1.H = H ∧ w1.σ = w.σ ∧ RS κ w1 ∧ Stp w w1 ∧ IsRL κ w1 v d ∧ PostS κ W w1 (k d w1.env w1.μ) E := by
  cases r with
  | ok d env' μ' =>
    intro w' v e1 e2 e3 rs st i
    subst e2 e3
    exact ⟨w', d, rfl, e1, rs, st, i, PostS.step st h⟩
  | exc x env' μ' => exact fun w' cls dd _ e2 e3 rs st i => h w' cls dd e2 e3 rs st i
  | stk => exact h.elim
theorem PostS.bindT {κ : Kx} {W : WX} {w : W3} {r : TR} {k : Bool → SM} {E : Ends} (h : PostS κ W w (r.toS k) E) :
    PostT κ W w r fun b H => ∃ (w1 : W3), w1.H = H ∧ w1.σ = w.σ ∧ RS κ w1 ∧ Stp w w1 ∧ PostS κ W w1 (k b w1.env w1.μ) E := by
  cases r with
  | ok d env' μ' =>
    intro w' e1 e2 e3 rs st
    subst e2 e3
    exact ⟨w', rfl, e1, rs, st, PostS.step st h⟩
  | exc x env' μ' => exact fun w' cls dd _ e2 e3 rs st i => h w' cls dd e2 e3 rs st i
  | stk => exact h.elim
theorem PostS.bindN {κ : Kx} {W : WX} {w : W3} {r : NR} {k : Cell → SM} {E : Ends} (h : PostS κ W w (r.toS k) E) :
    PostN κ W w r fun v H => ∃ (w1 : W3) (c : Cell) (p : Addr), v = .ref p ∧ w1.H = H ∧ w1.σ = w.σ ∧ RS κ w1 ∧ Stp w w1 ∧ (w.Mut p ∨ w.H p = none) ∧ w1.F p = none ∧ ¬ w1.Mut p ∧ c.live ∧ CellOk κ w1.m w1.F w1.H p c ∧ PostS κ W w (k c w1.env w1.μ) E := by
  cases r with
  | ok d env' μ' =>
    intro w' p e1 e2 e3 rs st a b c l ck
    subst e2 e3
    exact ⟨w', d, p, rfl, rfl, e1, rs, st, a, b, c, l, ck, h⟩
  | exc x env' μ' => exact fun w' cls dd _ e2 e3 rs st i => h w' cls dd e2 e3 rs st i
  | stk => exact h.elim
theorem postS_nx {κ : Kx} {W : WX} {w : W3} {E : Ends} (rs : RS κ w) (p : PostS κ W w (.nx w.env w.μ) E) : E.nx w.σ w.H := p w rfl rfl rs (.refl w)
section
variable {hx : HX} {X : Cx}
/-! ### blocks -/
def mNx : SM := fun env μ => .nx env μ
def mSeq (a b : SM) : SM := fun env μ => (a env μ).bind b
theorem b_nil : BOk hx X [] mNx := by
  refine fun W tk => impPSs pss_nil fun E σ H q => ?_
  obtain ⟨w, rfl, rfl, rs, p⟩ := q
  exact postS_nx rs p
theorem b_one {st : Stmt} {M : SM} (h : SOk hx X st M) : BOk hx X [st] M := fun W tk => pss_one (h W tk)
theorem seq_of {W : WX} {t : TS} {u : TS} {M Ms : SM} (ht : ∀ E σ H, rdS (kx X hx) W M E σ H → t E σ H) (hu : ∀ E σ H, rdS (kx X hx) W Ms E σ H → u E σ H) {E : Ends} {σ : L2.St} {H : Hp} (h : rdS (kx X hx) W (mSeq M Ms) E σ H) : tSeq t u E σ H := by
  obtain ⟨w, rfl, rfl, rs, p⟩ := h
  refine ht _ _ _ ⟨w, rfl, rfl, rs, ?_⟩
  unfold mSeq at p
  cases e : M w.env w.μ with
  | nx env' μ' =>
    rw [e] at p
    intro w' e1 e2 rs' st
    subst e1 e2
    exact hu _ _ _ ⟨w', rfl, rfl, rs', PostS.step st p⟩
  | ret d env' μ' =>
    rw [e] at p
    exact p
  | bk env' μ' =>
    rw [e] at p
    exact p
  | ct env' μ' =>
    rw [e] at p
    exact p
  | exc x env' μ' =>
    rw [e] at p
    exact p
  | stk =>
    rw [e] at p
    exact p.elim
theorem b_cons {st : Stmt} {rest : List Stmt} {M Ms : SM} (h : SOk hx X st M) (h2 : BOk hx X rest Ms) : BOk hx X (st :: rest) (mSeq M Ms) :=
  fun W tk => impPSs (pss_cons (h W tk) (h2 W tk)) fun _ _ _ q => seq_of (fun _ _ _ h => h) (fun _ _ _ h => h) q
/-! ### small statements -/
def mStk : SM := fun _ _ => .stk
theorem s_never {st : Stmt} : SOk hx X st mStk := by
  refine fun W tk => impPS ps_never fun E σ H q => ?_
  obtain ⟨w, rfl, rfl, rs, p⟩ := q
  exact p.elim
theorem s_pass {pos : Pos} : SOk hx X (.Pass pos) mNx := by
  refine fun W tk => impPS ps_pass fun E σ H q => ?_
  obtain ⟨w, rfl, rfl, rs, p⟩ := q
  exact postS_nx rs p
def mBk : SM := fun env μ => .bk env μ
def mCt : SM := fun env μ => .ct env μ
theorem s_break {pos : Pos} : SOk hx X (.Break pos) mBk := by
  refine fun W tk => impPS ps_break fun E σ H q => ?_
  obtain ⟨w, rfl, rfl, rs, p⟩ := q
  exact p w rfl rfl rs (.refl w)
theorem s_continue {pos : Pos} : SOk hx X (.Continue pos) mCt := by
  refine fun W tk => impPS ps_continue fun E σ H q => ?_
  obtain ⟨w, rfl, rfl, rs, p⟩ := q
  exact p w rfl rfl rs (.refl w)
def mExpr (Me : EM) : SM := fun env μ => (Me env μ).toS fun _ env μ => .nx env μ
theorem s_expr {e : Expr} {Me : EM} {pos : Pos} (he : EOk hx X e Me) (hs : swapsWith e none pos.line X.env = pure false := by rfl) : SOk hx X (.Expr e pos) (mExpr Me) := by
  refine fun W tk => impPS (ps_expr (he W tk) hs) fun E σ H q => ?_
  obtain ⟨w, rfl, rfl, rs, p⟩ := q
  refine ⟨w, rfl, rfl, rs, (PostS.bindE p).imp fun v H1 ⟨w1, d, e1, e2, rs1, st1, i1, p1⟩ => ?_⟩
  subst e1
  rw [← e2]
  exact postS_nx rs1 p1
def mRet (Me : EM) : SM := fun env μ => (Me env μ).toS fun d env μ => if noLoc d = true then .ret d env μ else .stk
theorem s_ret {e : Expr} {Me : EM} {pos : Pos} (he : EOk hx X e Me) : SOk hx X (.Return (some e) pos) (mRet Me) := by
  refine fun W tk => impPS (ps_ret (he W tk)) fun E σ H q => ?_
  obtain ⟨w, rfl, rfl, rs, p⟩ := q
  refine ⟨w, rfl, rfl, rs, (PostS.bindE p).imp fun v H1 ⟨w1, d, e1, e2, rs1, st1, i1, p1⟩ => ?_⟩
  subst e1
  by_cases h : noLoc d = true
  · rw [if_pos h] at p1
    exact p1 w1 v rfl rfl rs1 (.refl _) (i1.is h)
  · rw [if_neg h] at p1
    exact p1.elim
def mRetN : SM := fun env μ => .ret .non env μ
theorem s_retN {pos : Pos} : SOk hx X (.Return none pos) mRetN := by
  refine fun W tk => impPS ps_retN fun E σ H q => ?_
  obtain ⟨w, rfl, rfl, rs, p⟩ := q
  exact p w .non rfl rfl rs (.refl _) .non
def mIfS (c : TM) (a b : SM) : SM := fun env μ => (c env μ).toS fun k => if k = true then a else b
theorem s_if {c : Expr} {a b : List Stmt} {Mc : TM} {Ma Mb : SM} {pos : Pos} (hc : TOk hx X c Mc) (ha : BOk hx X a Ma) (hb : BOk hx X b Mb) : SOk hx X (.If c a b pos) (mIfS Mc Ma Mb) := by
  refine fun W tk => impPS (ps_if (hc W tk) (ha W tk) (hb W tk)) fun E σ H q => ?_
  obtain ⟨w, rfl, rfl, rs, p⟩ := q
  refine ⟨w, rfl, rfl, rs, (PostS.bindT p).imp fun k H1 ⟨w1, e1, e2, rs1, st1, p1⟩ => ?_⟩
  subst e1
  cases k with
  | true => exact iteT ⟨w1, e2, rfl, rs1, p1⟩
  | false => exact iteF ⟨w1, e2, rfl, rs1, p1⟩
/-! ### stores to names -/
def mSet (i : Nat) (Me : EM) : SM := fun env μ => (Me env μ).toS fun d env μ => if noLoc d = true then .nx (env.set i (.d d)) μ else .stk
theorem s_set (i : Nat) {x : Str} {e : Expr} {Me : EM} {pos pos' : Pos} (hN : X.N.Nodup) (hi : X.N[i]? = some x) (hl : Loc X.env.scope x) (he : EOk hx X e Me) (hs : swapsWith e (some (.Name x pos')) pos.line X.env = pure false := by rfl)
    (hf : X.fn x = true ∨ X.env.scope.names.lookup x = some .local := by first | exact .inl rfl | exact .inr rfl | assumption) : SOk hx X (.Assign [.Name x pos'] e pos) (mSet i Me) := by
  refine fun W tk => impPS (ps_set hN hi hl (he W tk) hs hf) fun E σ H q => ?_
  obtain ⟨w, rfl, rfl, rs, p⟩ := q
  refine ⟨w, rfl, rfl, rs, (PostS.bindE p).imp fun v H1 ⟨w1, d, e1, e2, rs1, st1, i1, p1⟩ => ?_⟩
  subst e1
  by_cases h : noLoc d = true
  · rw [if_pos h] at p1
    show E.nx (w.σ.set i (some v)) w1.H
    rw [← e2]
    exact p1 (w1.setD i v d) rfl rfl (rs1.setD (i1.is h)) (.setD (.refl _))
  · rw [if_neg h] at p1
    exact p1.elim
/-- a new object, owned by the name -/
def mSetN (i : Nat) (Mn : NM) : SM := fun env μ => (Mn env μ).toS fun c env μ => .nx (env.set i (.own c)) μ
theorem s_setN (i : Nat) {x : Str} {e : Expr} {Mn : NM} {pos pos' : Pos} (hN : X.N.Nodup) (hi : X.N[i]? = some x) (hl : Loc X.env.scope x) (he : NOk hx X e Mn) (hs : swapsWith e (some (.Name x pos')) pos.line X.env = pure false := by rfl)
    (hf : X.fn x = true ∨ X.env.scope.names.lookup x = some .local := by first | exact .inl rfl | exact .inr rfl | assumption) : SOk hx X (.Assign [.Name x pos'] e pos) (mSetN i Mn) := by
  refine fun W tk => impPS (ps_set hN hi hl (he W tk) hs hf) fun E σ H q => ?_
  obtain ⟨w, rfl, rfl, rs, p⟩ := q
  refine ⟨w, rfl, rfl, rs, (PostS.bindN p).imp fun v H1 ⟨w1, c, a, ev, e1, e2, rs1, st1, hn, hf, nm, l, ck, p1⟩ => ?_⟩
  subst e1 ev
  show E.nx (w.σ.set i (some (.ref a))) w1.H
  rw [← e2]
  exact p1 (w1.setO i a c) rfl rfl (rs1.setO hf nm l ck) (st1.setO hn)
/-- a new object, a cell of the store, known to the name -/
def mSetC (i : Nat) (Mn : NM) : SM := fun env μ => (Mn env μ).toS fun c env μ => .nx (env.set i (.d (.cel μ.length))) (μ ++ [c])
theorem s_setC (i : Nat) {x : Str} {e : Expr} {Mn : NM} {pos pos' : Pos} (hN : X.N.Nodup) (hi : X.N[i]? = some x) (hl : Loc X.env.scope x) (he : NOk hx X e Mn) (hs : swapsWith e (some (.Name x pos')) pos.line X.env = pure false := by rfl)
    (hf : X.fn x = true ∨ X.env.scope.names.lookup x = some .local := by first | exact .inl rfl | exact .inr rfl | assumption) : SOk hx X (.Assign [.Name x pos'] e pos) (mSetC i Mn) := by
  refine fun W tk => impPS (ps_set hN hi hl (he W tk) hs hf) fun E σ H q => ?_
  obtain ⟨w, rfl, rfl, rs, p⟩ := q
  refine ⟨w, rfl, rfl, rs, (PostS.bindN p).imp fun v H1 ⟨w1, c, a, ev, e1, e2, rs1, st1, hn, hf, nm, l, ck, p1⟩ => ?_⟩
  subst e1 ev
  show E.nx (w.σ.set i (some (.ref a))) w1.H
  rw [← e2]
  have r2 := rs1.newC hf nm ck
  have ic : Is (kx X hx) (w1.newC a c).m (w1.newC a c).F (.ref a) (.cel w1.μ.length) := .cel (by
    show (w1.m ++ [a])[w1.μ.length]? = some a
    rw [← rs1.lm, List.getElem?_append_right (Nat.le_refl _), Nat.sub_self]
    rfl)
  exact p1 ((w1.newC a c).setD i (.ref a) (.cel w1.μ.length)) rfl rfl (r2.setD ic) (.setD (Stp.newC rs1 st1 hn))
/-- a new object handed back as a cell of the store -/
def mCelN (Mn : NM) : EM := fun env μ => match Mn env μ with
  | .ok c env μ => .ok (.cel μ.length) env (μ ++ [c])
  | .exc x env μ => .exc x env μ
  | .stk => .stk
theorem e_cel {e : Expr} {Mn : NM} (h : NOk hx X e Mn) : EOk hx X e (mCelN Mn) := by
  refine fun W tk => impPE (h W tk) fun σ H Q q => ?_
  obtain ⟨w, rfl, rfl, rs, p⟩ := q
  refine ⟨w, rfl, rfl, rs, ?_⟩
  unfold mCelN at p
  cases e1 : Mn w.env w.μ with
  | stk =>
    rw [e1] at p
    exact p.elim
  | exc x env' μ' =>
    rw [e1] at p
    exact p
  | ok c env' μ' =>
    rw [e1] at p
    intro w1 a e2 e3 e4 rs1 st1 hn hf nm l ck
    subst e3 e4
    have ic : Is (kx X hx) (w1.newC a c).m (w1.newC a c).F (.ref a) (.cel w1.μ.length) := .cel (by
      show (w1.m ++ [a])[w1.μ.length]? = some a
      rw [← rs1.lm, List.getElem?_append_right (Nat.le_refl _), Nat.sub_self]
      rfl)
    exact p (w1.newC a c) (.ref a) e2 rfl rfl (rs1.newC hf nm ck) (Stp.newC rs1 st1 hn) ic.toR
/-- an owned object is shared from now on -/
def mFz (i : Nat) : SM := fun env μ => match env[i]? with
  | some (.own c) => .nx (env.set i (.d c.toD)) μ
  | _ => .nx env μ
theorem s_fz (i : Nat) {st : Stmt} {M : SM} (h : SOk hx X st M) : SOk hx X st (mSeq (mFz i) M) := by
  refine fun W tk => impPS (h W tk) fun E σ H q => ?_
  obtain ⟨w, rfl, rfl, rs, p⟩ := q
  have same : PostS (kx X hx) W w (M w.env w.μ) E → rdS (kx X hx) W M E w.σ w.H := fun p => ⟨w, rfl, rfl, rs, p⟩
  unfold mSeq mFz at p
  cases e : w.env[i]? with
  | none =>
    rw [e] at p
    exact same p
  | some s =>
    rw [e] at p
    cases s with
    | non => exact same p
    | d x => exact same p
    | own c =>
      have p' : PostS (kx X hx) W w (M (w.env.set i (.d c.toD)) w.μ) E := p
      obtain ⟨l, a, e1, hf, ck⟩ := rs.own i c e
      have io : w.isO i a c := ⟨e, e1⟩
      have hi : i < w.env.length := (List.getElem?_eq_some_iff.mp e).1
      obtain ⟨o, ho, his⟩ := cell_obj ck l
      -- the slot forgets its object, then the object never changes again
      have wσ : w.σ.set i (some (V.ref a)) = w.σ := by
        refine List.ext_getElem? fun j => ?_
        by_cases ej : j = i
        · subst ej
          rw [List.getElem?_set_self (by rw [← rs.ls]; exact hi), e1]
        · rw [List.getElem?_set_ne (Ne.symm ej)]
      have s1 : Stp w (w.setD i (.ref a) .non) := .setD (.refl w)
      -- an in-between state: the slot holds nothing that anybody reads
      let w2 : W3 := { w with env := w.env.set i .non }
      have oo : ∀ j b c', w2.isO j b c' → j ≠ i ∧ w.isO j b c' := fun j b c' ⟨h1, h2⟩ => by
        have h1' : (w.env.set i Slot.non)[j]? = some (Slot.own c') := h1
        rcases getSet h1' with ⟨_, _, e⟩ | ⟨e, h1'⟩
        · cases e
        · exact ⟨e, h1', h2⟩
      have rs2 : RS (kx X hx) w2 := by
        refine ⟨rs.le, rs.lm, ?_, fun j x e => ?_, fun j c e => ?_, rs.cel, rs.cc, fun j k b c c' h h' => rs.oo j k b c c' (oo _ _ _ h).2 (oo _ _ _ h').2, fun j n b c c' h h' => rs.oc j n b c c' (oo _ _ _ h).2 h'⟩
        · show (w.env.set i Slot.non).length = w.σ.length
          rw [List.length_set]
          exact rs.ls
        · have e' : (w.env.set i Slot.non)[j]? = some (Slot.d x) := e
          rcases getSet e' with ⟨_, _, e2⟩ | ⟨_, e'⟩
          · cases e2
          · exact rs.slot j x e'
        · have e' : (w.env.set i Slot.non)[j]? = some (Slot.own c) := e
          rcases getSet e' with ⟨_, _, e2⟩ | ⟨_, e'⟩
          · cases e2
          · exact rs.own j c e'
      have nm2 : ¬ w2.Mut a := fun z => by
        rcases z with ⟨n, c', z⟩ | ⟨j, c', z⟩
        · exact rs.oc i n a c c' io z
        · obtain ⟨ne, z⟩ := oo _ _ _ z
          exact ne (rs.oo j i a c' c z io)
      have st2 : Stp w w2 := ⟨.refl _ _, fun _ _ h _ => h, fun b h => by
        rcases h with h | ⟨j, c', h⟩
        · exact .inl (.inl h)
        · exact .inl (.inr ⟨j, c', (oo _ _ _ h).2⟩), fun _ _ h => .inl h⟩
      have rs3 := RS.fz (p := a) (o := o) rs2 ho hf nm2
      have st3 : Stp w (w2.fz a o) := st2.fz hf (.inl (.inr ⟨i, c, io⟩))
      have g3 : Gr w2.m w2.F (w2.fz a o).m (w2.fz a o).F := Gr.fz hf
      have rs4 : RS (kx X hx) ((w2.fz a o).setD i (.ref a) c.toD) := rs3.setD (his _ _ g3 upd_same)
      have st4 : Stp w ((w2.fz a o).setD i (.ref a) c.toD) := .setD st3
      have eenv : ((w2.fz a o).setD i (.ref a) c.toD).env = w.env.set i (.d c.toD) := by
        show (w.env.set i Slot.non).set i _ = _
        rw [List.set_set]
      refine ⟨(w2.fz a o).setD i (.ref a) c.toD, wσ, rfl, rs4, ?_⟩
      rw [eenv]
      exact PostS.step st4 p'
end
end DL
set_option Elab.async false
set_option linter.all false
set_option maxRecDepth 100000
set_option maxHeartbeats 2000000
namespace DL
open PySem PySem.Spec PyProof.Rows L2
/-! ### targets -/
inductive GR where
  | ok (env : Env) (μ : Mu)
  | no
abbrev GM := D → Env → Mu → GR
abbrev GMs := List D → Env → Mu → GR
def PostG (κ : Kx) (w : W3) (r : GR) (Q : L2.St → Hp → Prop) : Prop :=
  match r with
  | .ok env' μ' => ∀ w' : W3, w'.env = env' → w'.μ = μ' → RS κ w' → Stp w w' → Q w'.σ w'.H
  | .no => False
theorem PostG.step {κ : Kx} {w w1 : W3} {r : GR} {Q : L2.St → Hp → Prop} (s : Stp w w1) (h : PostG κ w r Q) : PostG κ w1 r Q := by
  cases r with
  | no => exact h
  | ok env' μ' => exact fun w' e1 e2 rs st => h w' e1 e2 rs (s.trans st)
def GR.bind (r : GR) (k : Env → Mu → GR) : GR := match r with
  | .ok env μ => k env μ
  | .no => .no
def rdG (κ : Kx) (T : GM) : TG := fun v σ H Q => ∃ (w : W3) (d : D), w.σ = σ ∧ w.H = H ∧ RS κ w ∧ IsR κ w v d ∧ PostG κ w (T d w.env w.μ) Q
def rdGs (κ : Kx) (T : GMs) : TGs := fun vs σ H Q => ∃ (w : W3) (ds : List D), w.σ = σ ∧ w.H = H ∧ RS κ w ∧ IsL κ w.m w.F vs ds ∧ PostG κ w (T ds w.env w.μ) Q
def GOk (hx : HX) (X : Cx) (t : Expr) (T : GM) : Prop := PG X t (rdG (kx X hx) T)
def GsOk (hx : HX) (X : Cx) (t : List Expr) (T : GMs) : Prop := PGs X t (rdGs (kx X hx) T)
theorem impPG {X : Cx} {e : Expr} {t t' : TG} (h : PG X e t) (i : ∀ v σ H Q, t' v σ H Q → t v σ H Q) : PG X e t' := ⟨fun pins s σ H v u Q I r q => h.run pins s σ H v u Q I r (i v σ H Q q)⟩
theorem impPGs {X : Cx} {e : List Expr} {t t' : TGs} (h : PGs X e t) (i : ∀ v σ H Q, t' v σ H Q → t v σ H Q) : PGs X e t' := ⟨fun pins s σ H v u Q I r q => h.run pins s σ H v u Q I r (i v σ H Q q)⟩
def gN (i : Nat) : GM := fun d env μ => if noLoc d = true then .ok (env.set i (.d d)) μ else .no
def gsNil : GMs := fun ds env μ => match ds with
  | [] => .ok env μ
  | _ => .no
def gsCons (t : GM) (ts : GMs) : GMs := fun ds env μ => match ds with
  | d :: r => (t d env μ).bind fun env' μ' => ts r env' μ'
  | [] => .no
def gT (n : Nat) (ts : GMs) : GM := fun d env μ => match d with
  | .tup l => if l.length = n then ts l env μ else .no
  | _ => .no
section
variable {hx : HX} {X : Cx}
theorem g_name (i : Nat) {x : Str} {pos : Pos} (hN : X.N.Nodup) (hi : X.N[i]? = some x) (hl : Loc X.env.scope x) (hf : X.fn x = true ∨ X.env.scope.names.lookup x = some .local := by first | exact .inl rfl | exact .inr rfl | assumption) : GOk hx X (.Name x pos) (gN i) := by
  refine impPG (pg_name hN hi hl hf) fun v σ H Q q => ?_
  obtain ⟨w, d, rfl, rfl, rs, iv, p⟩ := q
  unfold gN at p
  by_cases h : noLoc d = true
  · rw [if_pos h] at p
    exact p (w.setD i v d) rfl rfl (rs.setD (iv.is h)) (.setD (.refl _))
  · rw [if_neg h] at p
    exact p.elim
theorem gs_nil : GsOk hx X [] gsNil := by
  refine impPGs pgs_nil fun vs σ H Q q => ?_
  obtain ⟨w, ds, rfl, rfl, rs, il, p⟩ := q
  cases il with
  | nil => exact ⟨rfl, p w rfl rfl rs (.refl _)⟩
  | cons _ _ => exact p.elim
theorem gs_cons {e : Expr} {es : List Expr} {T : GM} {Ts : GMs} (h1 : GOk hx X e T) (h2 : GsOk hx X es Ts) (hs : (assignEach (e :: es) X.env).map (·.2) = assign e X.env :: (assignEach es X.env).map (·.2) := by rfl) : GsOk hx X (e :: es) (gsCons T Ts) := by
  refine impPGs (pgs_cons h1 h2 hs) fun vs σ H Q q => ?_
  obtain ⟨w, ds, rfl, rfl, rs, il, p⟩ := q
  cases il with
  | nil => exact p.elim
  | @cons v d vs ds h t =>
    refine ⟨v, vs, rfl, w, d, rfl, rfl, rs, h.toR, ?_⟩
    have p' : PostG (kx X hx) w ((T d w.env w.μ).bind fun env' μ' => Ts ds env' μ') Q := p
    cases e1 : T d w.env w.μ with
    | no =>
      rw [e1] at p'
      exact p'.elim
    | ok env' μ' =>
      rw [e1] at p'
      intro w' e2 e3 rs' st
      subst e2 e3
      exact ⟨w', ds, rfl, rfl, rs', t.mono st.gr, PostG.step st p'⟩
theorem g_tup {es : List Expr} {k : Nat} {Ts : GMs} {n : Nat} {pos : Pos} (hc : X.calm = true) (h : GsOk hx X es Ts) (hn : (assignEach es X.env).length = n := by rfl) (hst : (assignEach es X.env).findIdx? (·.1) = none := by rfl) : GOk hx X (.Tuple es k pos) (gT n Ts) := by
  refine impPG (pg_tup hc h hn hst) fun v σ H Q q => ?_
  obtain ⟨w, d, rfl, rfl, rs, iv, p⟩ := q
  unfold gT at p
  cases d with
  | tup l =>
    dsimp only at p
    by_cases hl : l.length = n
    · rw [if_pos hl] at p
      cases iv with
      | @tup a xs _ e il => exact ⟨a, xs, rfl, SqT.of (rs.le _ _ e), by rw [il.length]; exact hl, w, l, rfl, rfl, rs, il, p⟩
    · rw [if_neg hl] at p
      exact p.elim
  | _ => exact p.elim
/-- target = e -/
def mAsg (T : GM) (Me : EM) : SM := fun env μ => (Me env μ).toS fun d env μ => match T d env μ with
  | .ok env' μ' => .nx env' μ'
  | .no => .stk
theorem s_asg {tg e : Expr} {T : GM} {Me : EM} {pos : Pos} (he : EOk hx X e Me) (hg : GOk hx X tg T) (hs : swapsWithSole [tg] e pos.line X.env = pure false := by rfl) (hw : swappedStores [tg] e X.env = pure none := by rfl)
    (h1 : (assignEach [tg] X.env).map (·.2) = [assign tg X.env] := by rfl) : SOk hx X (.Assign [tg] e pos) (mAsg T Me) := by
  refine fun W tk => impPS (ps_asg (he W tk) hg hs hw h1) fun E σ H q => ?_
  obtain ⟨w, rfl, rfl, rs, p⟩ := q
  refine ⟨w, rfl, rfl, rs, (PostS.bindE p).imp fun v H1 ⟨w1, d, e1, e2, rs1, st1, i1, p1⟩ => ?_⟩
  subst e1
  refine ⟨w1, d, e2, rfl, rs1, i1, ?_⟩
  cases e3 : T d w1.env w1.μ with
  | no =>
    rw [e3] at p1
    exact p1.elim
  | ok env' μ' =>
    rw [e3] at p1
    exact p1
/-- a, b = x, y -/
def mPar (i j : Nat) (Ma : AM) : SM := fun env μ => (Ma env μ).toS fun ds env μ => match ds with
  | [d, e] => if noLoc d = true ∧ noLoc e = true then .nx ((env.set i (.d d)).set j (.d e)) μ else .stk
  | _ => .stk
theorem s_par (i j : Nat) {x y : Str} {a b : Expr} {Ma : AM} {px py pt : Pos} {kt k2 pt2} {pos : Pos} (hc : X.calm = true) (hN : X.N.Nodup) (hi : X.N[i]? = some x) (hj : X.N[j]? = some y) (hij : i ≠ j)
    (hx' : X.env.scope.names.lookup x = some .local) (hy : X.env.scope.names.lookup y = some .local) (ha : AOk hx X [a, b] Ma)
    (hw : swappedStores [.Tuple [.Name x px, .Name y py] kt pt] (.Tuple [a, b] k2 pt2) X.env = pure (some [x, y]))
    (hs : swapsWithSole [.Tuple [.Name x px, .Name y py] kt pt] (.Tuple [a, b] k2 pt2) pos.line X.env = pure false := by rfl) :
    SOk hx X (.Assign [.Tuple [.Name x px, .Name y py] kt pt] (.Tuple [a, b] k2 pt2) pos) (mPar i j Ma) := by
  refine fun W tk => impPS (ps_par hc hN hi hj hij hx' hy (ha W tk) hw hs) fun E σ H q => ?_
  obtain ⟨w, rfl, rfl, rs, p⟩ := q
  refine ⟨w, rfl, rfl, rs, (PostS.bindA p).imp fun vs H1 ⟨w1, ds, e1, e2, rs1, st1, i1, p1⟩ => ?_⟩
  subst e1
  match ds, i1, p1 with
  | [d, e], i1, p1 =>
    obtain ⟨v, u, rfl, iv, iu⟩ := isRL2 i1
    dsimp only at p1
    by_cases h : noLoc d = true ∧ noLoc e = true
    · rw [if_pos h] at p1
      refine ⟨v, u, rfl, ?_⟩
      rw [← e2]
      have r1 := rs1.setD (i := i) (iv.is h.1)
      exact p1 ((w1.setD i v d).setD j u e) rfl rfl (r1.setD (iu.is h.2)) (.setD (.setD (.refl _)))
    · rw [if_neg h] at p1
      exact p1.elim
/-! ### what a loop walks -/
inductive IR where
  | ok (l : List D) (ck : Mu → Prop) (env : Env) (μ : Mu)
  | exc (x : Exn) (env : Env) (μ : Mu)
  | stk
abbrev IM := Env → Mu → IR
/-- J yields the items l, as long as ck holds of the store -/
structure Src (κ : Kx) (w : W3) (l : List D) (ck : Mu → Prop) (J : It) : Prop where
  go : ∀ (w1 : W3) (i : Nat), RS κ w1 → Stp w w1 → ck w1.μ → i < l.length → J.go i w1.H
  stop : ∀ (w1 : W3) (i : Nat), RS κ w1 → Stp w w1 → ck w1.μ → l.length ≤ i → J.stop i w1.H
  yld : ∀ (w1 : W3) (i : Nat) (x : V) (H' : Hp) (d : D), RS κ w1 → Stp w w1 → ck w1.μ → l[i]? = some d → J.yld i w1.H x H' →
    ∃ w2 : W3, w2.H = H' ∧ w2.σ = w1.σ ∧ w2.env = w1.env ∧ w2.μ = w1.μ ∧ RS κ w2 ∧ Stp w1 w2 ∧ Is κ w2.m w2.F x d
theorem Src.later {κ : Kx} {w w1 : W3} {l : List D} {ck : Mu → Prop} {J : It} (h : Src κ w l ck J) (st : Stp w w1) : Src κ w1 l ck J :=
  ⟨fun w2 i rs s => h.go w2 i rs (st.trans s), fun w2 i rs s => h.stop w2 i rs (st.trans s), fun w2 i x H' d rs s => h.yld w2 i x H' d rs (st.trans s)⟩
def PostI (κ : Kx) (W : WX) (w : W3) (r : IR) (R : It → Hp → Prop) : Prop :=
  match r with
  | .ok l ck env' μ' => ∀ (w' : W3) (J : It), w'.σ = w.σ → w'.env = env' → w'.μ = μ' → RS κ w' → Stp w w' → Src κ w' l ck J → R J w'.H
  | .exc x env' μ' => ∀ (w' : W3) (cls : Value) (dd : Option Addr), w'.σ = w.σ → w'.env = env' → w'.μ = μ' → RS κ w' → Stp w w' → ExIs κ w' x cls dd → W cls dd w'.σ w'.H
  | .stk => False
def rdI (κ : Kx) (W : WX) (S : IM) : TI := fun σ H R => ∃ w : W3, w.σ = σ ∧ w.H = H ∧ RS κ w ∧ PostI κ W w (S w.env w.μ) R
def IOk (hx : HX) (X : Cx) (tg iter : Expr) (S : IM) : Prop := ∀ W, Takes X W → PI X tg iter (rdI (kx X hx) W S)
theorem impPI {X : Cx} {tg e : Expr} {t t' : TI} (h : PI X tg e t) (i : ∀ σ H Q, t' σ H Q → t σ H Q) : PI X tg e t' := ⟨fun pins s σ H Q I q => h.run pins s σ H Q I (i σ H Q q)⟩
def ER.toI (r : ER) (k : D → IM) : IR :=
  match r with
  | .ok d env μ => k d env μ
  | .exc x env μ => .exc x env μ
  | .stk => .stk
def AR.toI (r : AR) (k : List D → IM) : IR :=
  match r with
  | .ok d env μ => k d env μ
  | .exc x env μ => .exc x env μ
  | .stk => .stk
theorem PostI.step {κ : Kx} {W : WX} {w w1 : W3} {r : IR} {R : It → Hp → Prop} (e : w1.σ = w.σ) (s : Stp w w1) (h : PostI κ W w r R) : PostI κ W w1 r R := by
  cases r with
  | ok l ck env' μ' => exact fun w' J e1 e2 e3 rs st i => h w' J (e1.trans e) e2 e3 rs (s.trans st) i
  | exc x env' μ' => exact fun w' cls dd e1 e2 e3 rs st i => h w' cls dd (e1.trans e) e2 e3 rs (s.trans st) i
  | stk => exact h
theorem PostI.bindE {κ : Kx} {W : WX} {w : W3} {r : ER} {k : D → IM} {R : It → Hp → Prop} (h : PostI κ W w (r.toI k) R) :
    PostE κ W w r fun v H => ∃ (w1 : W3) (d : D), w1.H = H ∧ w1.σ = w.σ ∧ RS κ w1 ∧ Stp w w1 ∧ IsR κ w1 v d ∧ PostI κ W w1 (k d w1.env w1.μ) R := by
  cases r with
  | ok d env' μ' =>
    intro w' v e1 e2 e3 rs st i
    subst e2 e3
    exact ⟨w', d, rfl, e1, rs, st, i, PostI.step e1 st h⟩
  | exc x env' μ' => exact h
  | stk => exact h.elim
theorem PostI.bindA {κ : Kx} {W : WX} {w : W3} {r : AR} {k : List D → IM} {R : It → Hp → Prop} (h : PostI κ W w (r.toI k) R) :
    PostA κ W w r fun v H => ∃ (w1 : W3) (d : List D), w1.H = H ∧ w1.σ = w.σ ∧ RS κ w1 ∧ Stp w w1 ∧ IsRL κ w1 v d ∧ PostI κ W w1 (k d w1.env w1.μ) R := by
  cases r with
  | ok d env' μ' =>
    intro w' v e1 e2 e3 rs st i
    subst e2 e3
    exact ⟨w', d, rfl, e1, rs, st, i, PostI.step e1 st h⟩
  | exc x env' μ' => exact h
  | stk => exact h.elim
/-- the items of a sequence, and what must stay of the store -/
def itemsOf (μ : Mu) : D → Option (Bool × List D × (Mu → Prop))
  | .lst l => some (true, l, fun _ => True)
  | .rol l => some (true, l, fun _ => True)
  | .tup l => some (false, l, fun _ => True)
  | .cel n => match μ[n]? with
    | some (.lst l) => some (true, l, fun μ => μ[n]? = some (.lst l))
    | _ => none
  | _ => none
theorem sqL_inj {K : Fg} {H : Hp} {a : Addr} {xs ys : List V} (h : H a = some (.lst xs)) (h' : H a = some (.lst ys)) : xs = ys := by
  rw [h] at h'
  cases h'
  rfl
/-- a list as it stands -/
theorem src_lst {κ : Kx} {w : W3} {v : V} {d : D} {l : List D} {ck : Mu → Prop} (rs : RS κ w) (i : IsR κ w v d) (e : itemsOf w.μ d = some (true, l, ck)) : ∃ a, v = .ref a ∧ (∃ xs, SqL κ.K w.H a xs) ∧ Src κ w l ck (Itl κ.K a) := by
  have fixed : ∀ {a : Addr} {xs : List V}, (∀ w1 : W3, Stp w w1 → RS κ w1 → ck w1.μ → ∃ ys, SqL κ.K w1.H a ys ∧ IsL κ w1.m w1.F ys l) → Src κ w l ck (Itl κ.K a) := fun {a xs} h => by
    refine ⟨fun w1 j rs1 st c hj => ?_, fun w1 j rs1 st c hj => ?_, fun w1 j x H' d' rs1 st c hj y => ?_⟩
    · obtain ⟨ys, h1, h2⟩ := h w1 st rs1 c
      have hl := h2.length
      exact ⟨ys, ys[j], h1, List.getElem?_eq_getElem (by omega)⟩
    · obtain ⟨ys, h1, h2⟩ := h w1 st rs1 c
      exact ⟨ys, h1, by rw [h2.length]; exact hj⟩
    · obtain ⟨ys, h1, h2⟩ := h w1 st rs1 c
      obtain ⟨rfl, y2⟩ := y
      obtain ⟨v', e1, e2⟩ := h2.get hj
      have e3 := (y2 ys h1).symm.trans e1
      cases e3
      exact ⟨w1, rfl, rfl, rfl, rfl, rs1, .refl _, e2⟩
  cases d with
  | lst l' =>
    cases e
    cases i with
    | @lst a xs _ e1 il => exact ⟨a, rfl, ⟨xs, SqL.of (rs.le _ _ e1)⟩, fixed (xs := xs) fun w1 st rs1 _ => ⟨xs, SqL.of (rs1.le _ _ (st.gr.pF _ _ e1)), il.mono st.gr⟩⟩
  | rol l' =>
    cases e
    cases i with
    | @rol a xs _ e1 il => exact ⟨a, rfl, ⟨xs, sqL_mono rs.le e1⟩, fixed (xs := xs) fun w1 st rs1 _ => ⟨xs, sqL_mono rs1.le (sqL_mono st.gr.pF e1), il.mono st.gr⟩⟩
  | tup l' => cases e
  | cel n =>
    cases i with
    | @cel a _ e1 =>
      unfold itemsOf at e
      dsimp only at e
      cases q : w.μ[n]? with
      | none =>
        rw [q] at e
        cases e
      | some c =>
        rw [q] at e
        cases c with
        | lst l' =>
          cases e
          obtain ⟨_, xs, h1, h2⟩ := rs.cel n _ _ ⟨q, e1, trivial⟩
          refine ⟨a, rfl, ⟨xs, SqL.of h1⟩, fixed (xs := xs) fun w1 st rs1 c => ?_⟩
          obtain ⟨_, ys, h3, h4⟩ := rs1.cel n a _ ⟨c, st.gr.pm _ _ e1, trivial⟩
          exact ⟨ys, SqL.of h3, h4⟩
        | _ => cases e
  | _ => cases e
theorem src_tup {κ : Kx} {w : W3} {v : V} {d : D} {l : List D} {ck : Mu → Prop} (rs : RS κ w) (i : IsR κ w v d) (e : itemsOf w.μ d = some (false, l, ck)) : ∃ a, v = .ref a ∧ (∃ xs, SqT κ.K w.H a xs) ∧ Src κ w l ck (Itt κ.K a) := by
  cases d with
  | tup l' =>
    cases e
    cases i with
    | @tup a xs _ e1 il =>
      refine ⟨a, rfl, ⟨xs, SqT.of (rs.le _ _ e1)⟩, fun w1 j rs1 st c hj => ?_, fun w1 j rs1 st c hj => ?_, fun w1 j x H' d' rs1 st c hj y => ?_⟩
      · have hl := il.length
        exact ⟨xs, xs[j], SqT.of (rs1.le _ _ (st.gr.pF _ _ e1)), List.getElem?_eq_getElem (by omega)⟩
      · exact ⟨xs, SqT.of (rs1.le _ _ (st.gr.pF _ _ e1)), by rw [il.length]; exact hj⟩
      · obtain ⟨rfl, y2⟩ := y
        obtain ⟨v', e1', e2⟩ := il.get hj
        have e3 := (y2 xs (SqT.of (rs1.le _ _ (st.gr.pF _ _ e1)))).symm.trans e1'
        cases e3
        exact ⟨w1, rfl, rfl, rfl, rfl, rs1, .refl _, e2.mono st.gr⟩
  | cel n =>
    unfold itemsOf at e
    dsimp only at e
    split at e <;> cases e
  | _ => cases e
def iLst (Me : EM) : IM := fun env μ => (Me env μ).toI fun d env μ => match itemsOf μ d with
  | some (true, l, ck) => .ok l ck env μ
  | _ => .stk
def iTup (Me : EM) : IM := fun env μ => (Me env μ).toI fun d env μ => match itemsOf μ d with
  | some (false, l, ck) => .ok l ck env μ
  | _ => .stk
theorem i_lst {tg e : Expr} {Me : EM} (he : EOk hx X e Me) : IOk hx X tg e (iLst Me) := by
  refine fun W tk => impPI (pi_list (he W tk)) fun σ H R q => ?_
  obtain ⟨w, rfl, rfl, rs, p⟩ := q
  refine ⟨w, rfl, rfl, rs, (PostI.bindE p).imp fun v H1 ⟨w1, d, e1, e2, rs1, st1, i1, p1⟩ => ?_⟩
  subst e1
  cases e3 : itemsOf w1.μ d with
  | none =>
    rw [e3] at p1
    exact p1.elim
  | some t =>
    obtain ⟨b, l, ck⟩ := t
    rw [e3] at p1
    cases b with
    | false => exact p1.elim
    | true =>
      obtain ⟨a, rfl, hq, src⟩ := src_lst rs1 i1 e3
      exact ⟨a, rfl, hq, p1 w1 _ rfl rfl rfl rs1 (.refl _) src⟩
theorem i_tup {tg e : Expr} {Me : EM} (he : EOk hx X e Me) : IOk hx X tg e (iTup Me) := by
  refine fun W tk => impPI (pi_tup (he W tk)) fun σ H R q => ?_
  obtain ⟨w, rfl, rfl, rs, p⟩ := q
  refine ⟨w, rfl, rfl, rs, (PostI.bindE p).imp fun v H1 ⟨w1, d, e1, e2, rs1, st1, i1, p1⟩ => ?_⟩
  subst e1
  cases e3 : itemsOf w1.μ d with
  | none =>
    rw [e3] at p1
    exact p1.elim
  | some t =>
    obtain ⟨b, l, ck⟩ := t
    rw [e3] at p1
    cases b with
    | true => exact p1.elim
    | false =>
      obtain ⟨a, rfl, hq, src⟩ := src_tup rs1 i1 e3
      exact ⟨a, rfl, hq, p1 w1 _ rfl rfl rfl rs1 (.refl _) src⟩
/-- a list or a tuple, whichever comes: both walks have their rules, the walk is chosen by the value -/
def iSeq (Me : EM) : IM := fun env μ => (Me env μ).toI fun d env μ => match itemsOf μ d with
  | some (_, l, ck) => .ok l ck env μ
  | _ => .stk
theorem i_seq {tg e : Expr} {Me : EM} (he : EOk hx X e Me) : IOk hx X tg e (iSeq Me) := by
  refine fun W tk => ⟨fun pins s σ H R I q => ?_⟩
  have h1 : rdI (kx X hx) W (iLst Me) σ H R ∨ rdI (kx X hx) W (DL.iTup Me) σ H R := by
    obtain ⟨w, rfl, rfl, rs, p⟩ := q
    unfold iSeq at p
    cases e1 : Me w.env w.μ with
    | stk =>
      rw [e1] at p
      exact p.elim
    | exc x env' μ' =>
      rw [e1] at p
      refine .inl ⟨w, rfl, rfl, rs, ?_⟩
      unfold iLst
      rw [e1]
      exact p
    | ok d env' μ' =>
      have p' : PostI (kx X hx) W w (match itemsOf μ' d with
        | some (_, l, ck) => .ok l ck env' μ'
        | _ => .stk) R := by
        rw [e1] at p
        exact p
      cases e2 : itemsOf μ' d with
      | none =>
        rw [e2] at p'
        exact p'.elim
      | some t =>
        obtain ⟨b, l, ck⟩ := t
        rw [e2] at p'
        cases b with
        | true =>
          refine .inl ⟨w, rfl, rfl, rs, ?_⟩
          unfold iLst
          rw [e1]
          show PostI (kx X hx) W w (match itemsOf μ' d with
            | some (true, l, ck) => .ok l ck env' μ'
            | _ => .stk) R
          rw [e2]
          exact p'
        | false =>
          refine .inr ⟨w, rfl, rfl, rs, ?_⟩
          unfold DL.iTup
          rw [e1]
          show PostI (kx X hx) W w (match itemsOf μ' d with
            | some (false, l, ck) => .ok l ck env' μ'
            | _ => .stk) R
          rw [e2]
          exact p'
  rcases h1 with h | h
  · exact (i_lst he W tk).run pins s σ H R I h
  · exact (i_tup he W tk).run pins s σ H R I h
end
end DL
set_option Elab.async false
set_option linter.all false
set_option maxRecDepth 100000
set_option maxHeartbeats 2000000
namespace DL
open PySem PySem.Spec PyProof.Rows L2
/-! ### for -/
noncomputable section
open Classical in
def forL (ck : Mu → Prop) (T : GM) (body : SM) : List D → SM
  | [], env, μ => if ck μ then .nx env μ else .stk
  | d :: l, env, μ => if ck μ then match T d env μ with
    | .no => .stk
    | .ok env1 μ1 => match body env1 μ1 with
      | .nx env2 μ2 => forL ck T body l env2 μ2
      | .ct env2 μ2 => forL ck T body l env2 μ2
      | .bk env2 μ2 => .nx env2 μ2
      | r => r
    else .stk
def mFor (S : IM) (T : GM) (body : SM) : SM := fun env μ => match S env μ with
  | .ok l ck env μ => forL ck T body l env μ
  | .exc x env μ => .exc x env μ
  | .stk => .stk
end
section
variable {hx : HX} {X : Cx}
theorem s_for {tg iter : Expr} {body : List Stmt} {S : IM} {T : GM} {Mb : SM} {pos : Pos} (hp : PassesOwn (model X.prog X.w) X.A X.env X.xe) (hc : X.calm = true) (hi : IOk hx X tg iter S) (hg : GOk hx X tg T) (hb : BOk hx X body Mb)
    (hs : ∀ x, foldedSetIterable iter X.env x = pure x := by intro _; rfl) : SOk hx X (.For tg iter body [] pos) (mFor S T Mb) := by
  refine fun W tk => impPS (ps_for hp hc (hi W tk) hg (hb W tk) hs) fun E σ H q => ?_
  obtain ⟨w, rfl, rfl, rs, p⟩ := q
  refine ⟨w, rfl, rfl, rs, ?_⟩
  unfold mFor at p
  cases e : S w.env w.μ with
  | stk =>
    rw [e] at p
    exact p.elim
  | exc x env' μ' =>
    rw [e] at p
    exact fun w' cls dd _ e2 e3 rs' st i => p w' cls dd e2 e3 rs' st i
  | ok l ck env' μ' =>
    rw [e] at p
    have p : PostS (kx X hx) W w (forL ck T Mb l env' μ') E := p
    intro w' J e1 e2 e3 rs' st src
    subst e2 e3
    have p0 : PostS (kx X hx) W w' (forL ck T Mb l w'.env w'.μ) E := PostS.step st p
    refine ⟨fun i m σ H => ∃ w1 : W3, w1.σ = σ ∧ w1.H = H ∧ RS (kx X hx) w1 ∧ Stp w' w1 ∧ m = l.length - i ∧ i ≤ l.length ∧ PostS (kx X hx) W w1 (forL ck T Mb (l.drop i) w1.env w1.μ) E,
      ⟨l.length, w', e1, rfl, rs', .refl _, by omega, Nat.zero_le _, p0⟩, ?_⟩
    rintro i m σ H ⟨w1, rfl, rfl, rs1, st1, rfl, hi, p1⟩
    by_cases hlt : i < l.length
    · right
      rw [List.drop_eq_getElem_cons hlt] at p1
      unfold forL at p1
      by_cases hck : ck w1.μ
      · rw [if_pos hck] at p1
        refine ⟨src.go w1 i rs1 st1 hck hlt, fun σ' H' => ∃ w2 : W3, w2.σ = σ' ∧ w2.H = H' ∧ RS (kx X hx) w2 ∧ Stp w' w2 ∧ PostS (kx X hx) W w2 (forL ck T Mb (l.drop (i + 1)) w2.env w2.μ) E,
          fun σ' H' ⟨w2, a1, a2, a3, a4, a5⟩ => ⟨l.length - (i + 1), by omega, w2, a1, a2, a3, a4, rfl, hlt, a5⟩, fun x H' y => ?_⟩
        obtain ⟨w2, b1, b2, b3, b4, rs2, st2, ix⟩ := src.yld w1 i x H' l[i] rs1 st1 hck (List.getElem?_eq_getElem hlt) y
        refine ⟨w2, l[i], b2, b1, rs2, ix.toR, ?_⟩
        rw [b3, b4]
        cases eT : T l[i] w1.env w1.μ with
        | no =>
          rw [eT] at p1
          exact p1.elim
        | ok env1 μ1 =>
          rw [eT] at p1
          intro w3 c1 c2 rs3 st3
          refine ⟨w3, rfl, rfl, rs3, ?_⟩
          rw [c1, c2]
          have st13 : Stp w1 w3 := st2.trans st3
          have st03 : Stp w' w3 := st1.trans st13
          dsimp only at p1
          cases eb : Mb env1 μ1 with
          | stk =>
            rw [eb] at p1
            exact p1.elim
          | nx env2 μ2 =>
            rw [eb] at p1
            intro w4 d1 d2 rs4 st4
            subst d1 d2
            exact ⟨w4, rfl, rfl, rs4, st03.trans st4, PostS.step (st13.trans st4) p1⟩
          | ct env2 μ2 =>
            rw [eb] at p1
            intro w4 d1 d2 rs4 st4
            subst d1 d2
            exact ⟨w4, rfl, rfl, rs4, st03.trans st4, PostS.step (st13.trans st4) p1⟩
          | bk env2 μ2 =>
            rw [eb] at p1
            intro w4 d1 d2 rs4 st4
            exact p1 w4 d1 d2 rs4 (st13.trans st4)
          | ret d env2 μ2 =>
            rw [eb] at p1
            intro w4 v d1 d2 rs4 st4 i4
            exact p1 w4 v d1 d2 rs4 (st13.trans st4) i4
          | exc x env2 μ2 =>
            rw [eb] at p1
            intro w4 cls dd d1 d2 rs4 st4 i4
            exact p1 w4 cls dd d1 d2 rs4 (st13.trans st4) i4
      · rw [if_neg hck] at p1
        exact p1.elim
    · left
      have e4 : l.drop i = [] := List.drop_eq_nil_of_le (by omega)
      rw [e4] at p1
      unfold forL at p1
      by_cases hck : ck w1.μ
      · rw [if_pos hck] at p1
        exact ⟨src.stop w1 i rs1 st1 hck (by omega), postS_nx rs1 p1⟩
      · rw [if_neg hck] at p1
        exact p1.elim
/-! ### while -/
def whileL (c : TM) (b : SM) : Nat → SM
  | 0, _, _ => .stk
  | n + 1, env, μ => match c env μ with
    | .ok true env1 μ1 => match b env1 μ1 with
      | .nx env2 μ2 => whileL c b n env2 μ2
      | .ct env2 μ2 => whileL c b n env2 μ2
      | .bk env2 μ2 => .nx env2 μ2
      | r => r
    | .ok false env1 μ1 => .nx env1 μ1
    | .exc x env1 μ1 => .exc x env1 μ1
    | .stk => .stk
open Classical in
noncomputable def mWhile (c : TM) (b : SM) : SM := fun env μ => if h : ∃ n, whileL c b n env μ ≠ .stk then whileL c b (choose h) env μ else .stk
theorem whileL_mono {c : TM} {b : SM} : ∀ {n : Nat} {env : Env} {μ : Mu} {r : SR}, whileL c b n env μ = r → r ≠ .stk → ∀ k, whileL c b (n + k) env μ = r
  | 0, _, _, r, h, hr, _ => by
    unfold whileL at h
    exact (hr h.symm).elim
  | n + 1, env, μ, r, h, hr, k => by
    rw [show n + 1 + k = (n + k) + 1 by omega]
    unfold whileL at h ⊢
    cases e : c env μ with
    | stk =>
      rw [e] at h
      exact h
    | exc x _ _ =>
      rw [e] at h
      exact h
    | ok t env1 μ1 =>
      rw [e] at h
      cases t with
      | false => exact h
      | true =>
        dsimp only at h ⊢
        cases eb : b env1 μ1 with
        | nx env2 μ2 =>
          rw [eb] at h
          exact whileL_mono h hr k
        | ct env2 μ2 =>
          rw [eb] at h
          exact whileL_mono h hr k
        | bk _ _ =>
          rw [eb] at h
          exact h
        | ret _ _ _ =>
          rw [eb] at h
          exact h
        | exc _ _ _ =>
          rw [eb] at h
          exact h
        | stk =>
          rw [eb] at h
          exact h
theorem mWhile_eq {c : TM} {b : SM} {n : Nat} {env : Env} {μ : Mu} {r : SR} (h : whileL c b n env μ = r) (hr : r ≠ .stk) : mWhile c b env μ = r := by
  unfold mWhile
  have ex : ∃ n, whileL c b n env μ ≠ .stk := ⟨n, by rw [h]; exact hr⟩
  rw [dif_pos ex]
  have h1 := Classical.choose_spec ex
  generalize Classical.choose ex = m at h1
  have a := whileL_mono (rfl : whileL c b m env μ = _) h1 n
  have b' := whileL_mono h hr m
  rw [Nat.add_comm] at a
  rw [← a, b']
theorem s_while {c : Expr} {body : List Stmt} {Mc : TM} {Mb : SM} {pos : Pos} (hp : PassesOwn (model X.prog X.w) X.A X.env X.xe) (hc : TOk hx X c Mc) (hb : BOk hx X body Mb) : SOk hx X (.While c body [] pos) (mWhile Mc Mb) := by
  refine fun W tk => impPS (ps_while hp (hc W tk) (hb W tk)) fun E σ H q => ?_
  obtain ⟨w, rfl, rfl, rs, p⟩ := q
  have hn : ∃ n, whileL Mc Mb n w.env w.μ ≠ .stk := by
    by_cases h : ∃ n, whileL Mc Mb n w.env w.μ ≠ .stk
    · exact h
    · unfold mWhile at p
      rw [dif_neg h] at p
      exact p.elim
  obtain ⟨n, hn⟩ := hn
  rw [mWhile_eq rfl hn] at p
  refine ⟨fun m σ H => ∃ w1 : W3, w1.σ = σ ∧ w1.H = H ∧ RS (kx X hx) w1 ∧ Stp w w1 ∧ PostS (kx X hx) W w1 (whileL Mc Mb m w1.env w1.μ) E, ⟨n, w, rfl, rfl, rs, .refl _, p⟩, ?_⟩
  rintro m σ H ⟨w1, rfl, rfl, rs1, st1, p1⟩
  refine ⟨w1, rfl, rfl, rs1, ?_⟩
  cases m with
  | zero =>
    unfold whileL at p1
    exact p1.elim
  | succ m =>
    unfold whileL at p1
    cases e : Mc w1.env w1.μ with
    | stk =>
      rw [e] at p1
      exact p1.elim
    | exc x env' μ' =>
      rw [e] at p1
      exact fun w' cls dd _ e2 e3 rs' st i => p1 w' cls dd e2 e3 rs' st i
    | ok t env1 μ1 =>
      rw [e] at p1
      intro w2 d1 d2 d3 rs2 st2
      subst d2 d3
      cases t with
      | false =>
        rw [if_neg Bool.false_ne_true]
        rw [← d1]
        exact p1 w2 rfl rfl rs2 st2
      | true =>
        rw [if_pos rfl]
        dsimp only at p1
        refine ⟨fun σ' H' => ∃ w3 : W3, w3.σ = σ' ∧ w3.H = H' ∧ RS (kx X hx) w3 ∧ Stp w w3 ∧ PostS (kx X hx) W w3 (whileL Mc Mb m w3.env w3.μ) E, fun σ' H' h => ⟨m, Nat.lt_succ_self m, h⟩, ?_⟩
        refine ⟨w2, d1, rfl, rs2, ?_⟩
        have st02 : Stp w w2 := st1.trans st2
        cases eb : Mb w2.env w2.μ with
        | stk =>
          rw [eb] at p1
          exact p1.elim
        | nx env2 μ2 =>
          rw [eb] at p1
          intro w4 d1 d2 rs4 st4
          subst d1 d2
          exact ⟨w4, rfl, rfl, rs4, st02.trans st4, PostS.step (st2.trans st4) p1⟩
        | ct env2 μ2 =>
          rw [eb] at p1
          intro w4 d1 d2 rs4 st4
          subst d1 d2
          exact ⟨w4, rfl, rfl, rs4, st02.trans st4, PostS.step (st2.trans st4) p1⟩
        | bk env2 μ2 =>
          rw [eb] at p1
          intro w4 d1 d2 rs4 st4
          exact p1 w4 d1 d2 rs4 (st2.trans st4)
        | ret d env2 μ2 =>
          rw [eb] at p1
          intro w4 v d1 d2 rs4 st4 i4
          exact p1 w4 v d1 d2 rs4 (st2.trans st4) i4
        | exc x env2 μ2 =>
          rw [eb] at p1
          intro w4 cls dd d1 d2 rs4 st4 i4
          exact p1 w4 cls dd d1 d2 rs4 (st2.trans st4) i4
/-! ### name += int -/
def mAugI (i : Nat) (f : Int → Int → Int) (Me : EM) : SM := fun env μ => match env[i]? with
  | some (.d (.int a)) => (Me env μ).toS fun d env μ => match d with
    | .int b => .nx (env.set i (.d (.int (f a b)))) μ
    | _ => .stk
  | _ => .stk
theorem s_augI (i : Nat) {x : Str} {e : Expr} {Me : EM} {op : Operator} {f : Int → Int → Int} {pos pos' : Pos} (ho : PIp X op (ipI f)) (hN : X.N.Nodup) (hi : X.N[i]? = some x) (hl : Loc X.env.scope x) (he : EOk hx X e Me)
    (hf : X.fn x = true ∨ X.env.scope.names.lookup x = some .local := by first | exact .inl rfl | exact .inr rfl | assumption) : SOk hx X (.AugAssign (.Name x pos') op e pos) (mAugI i f Me) := by
  refine fun W tk => impPS (ps_aug hN hi hl (he W tk) ho hf) fun E σ H q => ?_
  obtain ⟨w, rfl, rfl, rs, p⟩ := q
  unfold mAugI at p
  cases ei : w.env[i]? with
  | none =>
    rw [ei] at p
    exact p.elim
  | some s =>
    rw [ei] at p
    cases s with
    | non => exact p.elim
    | own c => exact p.elim
    | d x =>
      cases x with
      | int a =>
        dsimp only at p
        obtain ⟨v, e1, i1⟩ := rs.slot i _ ei
        cases i1
        refine ⟨_, e1, w, rfl, rfl, rs, (PostS.bindE p).imp fun v H1 ⟨w1, d, e1, e2, rs1, st1, i1, p1⟩ => ?_⟩
        subst e1
        cases d with
        | int b =>
          cases i1
          refine ⟨a, b, rfl, rfl, ?_⟩
          rw [← e2]
          exact p1 (w1.setD i _ _) rfl rfl (rs1.setD (.int _)) (.setD (.refl _))
        | _ => exact p1.elim
      | _ => exact p.elim
/-! ### range -/
def rngD (lo : Int) (n : Nat) : List D := (List.range n).map fun k => D.int (lo + (k : Nat))
theorem rngD_length (lo : Int) (n : Nat) : (rngD lo n).length = n := by
  unfold rngD
  rw [List.length_map, List.length_range]
theorem rngD_get {lo : Int} {n i : Nat} {d : D} (h : (rngD lo n)[i]? = some d) : i < n ∧ d = .int (lo + (i : Nat)) := by
  unfold rngD at h
  rw [List.getElem?_map] at h
  by_cases hi : i < n
  · rw [List.getElem?_range hi] at h
    cases h
    exact ⟨hi, rfl⟩
  · rw [List.getElem?_eq_none (by rw [List.length_range]; omega)] at h
    cases h
theorem src_rng {κ : Kx} {w : W3} {lo : Int} {n : Nat} : Src κ w (rngD lo n) (fun _ => True) (Itr lo n) := by
  refine ⟨fun w1 i _ _ _ h => by rw [rngD_length] at h; exact h, fun w1 i _ _ _ h => by rw [rngD_length] at h; exact h, fun w1 i x H' d rs1 st _ hd y => ?_⟩
  obtain ⟨rfl, rfl⟩ := y
  obtain ⟨_, rfl⟩ := rngD_get hd
  exact ⟨w1, rfl, rfl, rfl, rfl, rs1, .refl _, .int _⟩
def iRange1 (Ma : AM) : IM := fun env μ => (Ma env μ).toI fun ds env μ => match ds with
  | [.int j] => if -(2 ^ 62) ≤ j ∧ j < 2 ^ 62 then .ok (rngD 0 j.toNat) (fun _ => True) env μ else .stk
  | _ => .stk
theorem i_range1 {tg a : Expr} {Ma : AM} {p pos : Pos} (hg : Gl X "range") (hm : X.mg "range" = none) (ha : AOk hx X [a] Ma) (hs : starEach [a] X.env = [(false, eval a X.env)] := by rfl) : IOk hx X tg (.Call (.Name "range" p) [a] [] pos) (iRange1 Ma) := by
  refine fun W tk => impPI (pi_range1 hg hm (ha W tk) hs) fun σ H R q => ?_
  obtain ⟨w, rfl, rfl, rs, p⟩ := q
  refine ⟨w, rfl, rfl, rs, (PostI.bindA p).imp fun v H1 ⟨w1, d, e1, e2, rs1, st1, i1, p1⟩ => ?_⟩
  subst e1
  split at p1
  · rename_i j
    obtain ⟨u, rfl, iu⟩ := isRL1 i1
    by_cases hb : -(2 ^ 62) ≤ j ∧ j < 2 ^ 62
    · rw [if_pos hb] at p1
      cases iu
      exact ⟨j, rfl, hb.1, hb.2, p1 w1 _ rfl rfl rfl rs1 (.refl _) src_rng⟩
    · rw [if_neg hb] at p1
      exact p1.elim
  · exact p1.elim
def iRange2 (Ma : AM) : IM := fun env μ => (Ma env μ).toI fun ds env μ => match ds with
  | [.int i, .int j] => if -(2 ^ 62) ≤ i ∧ i < 2 ^ 62 ∧ -(2 ^ 62) ≤ j ∧ j < 2 ^ 62 then .ok (rngD i (j - i).toNat) (fun _ => True) env μ else .stk
  | _ => .stk
theorem i_range2 {tg a b : Expr} {Ma : AM} {p pos : Pos} (hg : Gl X "range") (hm : X.mg "range" = none) (ha : AOk hx X [a, b] Ma) (hs : starEach [a, b] X.env = [(false, eval a X.env), (false, eval b X.env)] := by rfl) (hs2 : starEach [b] X.env = [(false, eval b X.env)] := by rfl) : IOk hx X tg (.Call (.Name "range" p) [a, b] [] pos) (iRange2 Ma) := by
  refine fun W tk => impPI (pi_range2 hg hm (ha W tk) hs hs2) fun σ H R q => ?_
  obtain ⟨w, rfl, rfl, rs, p⟩ := q
  refine ⟨w, rfl, rfl, rs, (PostI.bindA p).imp fun v H1 ⟨w1, d, e1, e2, rs1, st1, i1, p1⟩ => ?_⟩
  subst e1
  split at p1
  · rename_i i j
    obtain ⟨u, u', rfl, iu, iu'⟩ := isRL2 i1
    by_cases hb : -(2 ^ 62) ≤ i ∧ i < 2 ^ 62 ∧ -(2 ^ 62) ≤ j ∧ j < 2 ^ 62
    · rw [if_pos hb] at p1
      cases iu
      cases iu'
      exact ⟨i, j, rfl, hb, p1 w1 _ rfl rfl rfl rs1 (.refl _) src_rng⟩
    · rw [if_neg hb] at p1
      exact p1.elim
  · exact p1.elim
end
end DL
set_option Elab.async false
set_option linter.all false
set_option maxRecDepth 100000
set_option maxHeartbeats 2000000
namespace DL
open PySem PySem.Spec PyProof.Rows L2
/-! ### enumerate(a tuple) -/
theorem meets_enum_tup (l : Addr) (items : Array Value) :
    Meets (Builtin.«enumerate.__new__» ⟨[.type "enumerate", .ref l], []⟩) (fun _ R s => s.heap.IsTuple l items ∧
      R (.ok (.ret (.ref (s.heap.push { cls := .type "tuple_iterator", data := .fields #[.ref l, .int 0 0] }).objs.size)))
        { s with heap := (s.heap.push { cls := .type "tuple_iterator", data := .fields #[.ref l, .int 0 0] }).push { cls := .type "enumerate", data := .fields #[.none, .bool false, .ref s.heap.objs.size, rawInt 0, .none, .none] } }) :=
  .of_wp fun prog w A R s h => by
    obtain ⟨hp, g, d, tk, os⟩ := s; obtain ⟨hl, h⟩ := h
    have hsub := sub_enumerate
    have hL : Heap.IsTuple (Shared.heap ⟨hp, g, d, tk, os⟩) l items := hl
    have q1 : ∀ {A' : Around} {E : Value → Shared → Prop} {Q : Value → Shared → Prop}, Q (.ref hp.objs.size) ⟨hp.push { cls := .type "tuple_iterator", data := .fields #[.ref l, .int 0 0] }, g, d, tk, os⟩ → wpAny (model prog w) A' (pyIter (.ref l)) Q E ⟨hp, g, d, tk, os⟩ :=
      fun q => wpAny_pyIter_tuple hL q
    wp_walk using q1
    refine wpAny_stack_any fun st => wpAny_pure ?_
    split
    · rename_i c _ _ _ _ _
      cases (c == Value.type "enumerate")
      · wp_walk using q1
        exact ⟨_, rfl, h⟩
      · wp_walk using q1
        exact ⟨_, rfl, h⟩
    · wp_walk using q1
      exact ⟨_, rfl, h⟩
theorem call_enum_tup {prog : Program} {w : World} {A : Around} {E : Value → Shared → Prop} {s : Shared} {l : Addr} {items : Array Value} {Q : Value → Shared → Prop} (hL : s.heap.IsTuple l items)
    (h : ∀ h', IsEnum h' (s.heap.objs.size + 1) s.heap.objs.size 0 .none → h'.IsTupleIter s.heap.objs.size l 0 → h'.objs.size = s.heap.objs.size + 2 →
      (∀ b o, s.heap.get? b = some o → h'.get? b = some o) → Q (.ref (s.heap.objs.size + 1)) { s with heap := h' }) :
    wpAny (model prog w) A (call (.type "enumerate") [.ref l]) Q E s := by
  refine callType_new F.called_enumerate (by decide) (F.typeCall_enumerate_1 _) (F.newCall_enumerate_1 _) (fun obj => F.args_object_init_2 obj _) F.entry_enumerate_new
    (meets_enum_tup l items) ⟨hL, ?_⟩
  have hz : (s.heap.push { cls := .type "tuple_iterator", data := .fields #[.ref l, .int 0 0] }).objs.size = s.heap.objs.size + 1 := Heap.size_push ..
  show _ ∧ _
  rw [hz]
  have he : IsEnum ((s.heap.push { cls := .type "tuple_iterator", data := .fields #[.ref l, .int 0 0] }).push
      { cls := .type "enumerate", data := .fields #[.none, .bool false, .ref s.heap.objs.size, rawInt 0, .none, .none] }) (s.heap.objs.size + 1) s.heap.objs.size 0 .none := by
    have := Heap.get?_push_size (s.heap.push { cls := .type "tuple_iterator", data := .fields #[.ref l, .int 0 0] })
      (o := { cls := .type "enumerate", data := .fields #[.none, .bool false, .ref s.heap.objs.size, rawInt 0, .none, .none] }) rfl
    rw [hz] at this; exact this
  refine ⟨⟨_, he, rfl⟩, h _ he ⟨_, Heap.get?_push_of_some _ (Heap.get?_push_size _ rfl), rfl, rfl⟩ (by rw [Heap.size_push, hz]) fun b o x => Heap.get?_push_of_some _ (Heap.get?_push_of_some _ x)⟩
/-- the tuple at a, each item in a new pair -/
def IteT (K : PySem.W.Frag) (a : Addr) : It :=
  ⟨fun i H => ∃ (xs : List V) (x : V), SqT K H a xs ∧ xs[i]? = some x, fun i H v H' => ∃ T x, v = .ref T ∧ H T = none ∧ H' = upd H T (.tup [.int (i : Nat), x]) ∧ ∀ xs, SqT K H a xs → xs[i]? = some x, fun i H => ∃ xs : List V, SqT K H a xs ∧ xs.length ≤ i⟩
theorem turn_enumT {P : Program} {w : World} {K : PySem.W.Frag} {elts : List Expr} {kk : Nat} {tpos : Pos} (a e it : Addr) (hae : a ≠ e) (hai : a ≠ it) :
    Turn P w K (.Tuple elts kk tpos) (IteT K a) [e, it] e (fun i h => (∃ old, IsEnum h e it ((i : Nat) : Int) old) ∧ h.IsTupleIter it a i ∧ e ≠ it) where
  mem := by simp
  obj := fun i h st b hb => by
    obtain ⟨⟨old, he⟩, ⟨o, ho, hc, hd⟩, _⟩ := st
    have e' : b = e ∨ b = it := by simpa using hb
    rcases e' with z | z
    · rw [z]; exact ⟨_, he, fun v q => nomatch q⟩
    · rw [z]; exact ⟨o, ho, fun v q => by rw [hd] at q; cases q⟩
  keep := fun i h h' st k => let ⟨⟨old, he⟩, hi, hne⟩ := st; ⟨⟨old, k e (by simp) _ he⟩, hi.at fun o q => k it (by simp) o q, hne⟩
  item := by
    intro X hP hw hK hc i pins s σ H E I hf st hg
    subst hP hw hK
    obtain ⟨⟨old, he⟩, hit, hne⟩ := st
    obtain ⟨xs, x, hq, hx⟩ := hg
    obtain ⟨its, rv, p, hz⟩ := I.tuple hq
    obtain ⟨u, hu, ru⟩ := rv.get hx
    have hlt : i < its.length := (List.getElem?_eq_some_iff.mp hu).1
    have hel : e < s.heap.objs.size := Heap.lt_size he
    have hil : it < s.heap.objs.size := by obtain ⟨_, q, _⟩ := hit; exact Heap.lt_size q
    have D := Draws.tuple (prog := X.prog) (w := X.w) (A := X.A.in1) (I.ok.hd hc) it a hai its.toArray
    have pt : s.heap.IsTuple a its.toArray := p
    refine wpAny_pyNext_enum_itemD D he ⟨hit, pt⟩ (by simpa using hlt) hne (fun q => by
      rcases List.mem_cons.mp q with z | z
      · exact hne z
      · exact hae (List.mem_singleton.mp z).symm) fun x' h' tk hPx ho hit' hT hsz hk => ?_
    have hPx' : its.toArray[i]? = some x' := hPx
    have ex : x' = u := by
      rw [List.getElem?_toArray] at hPx'
      exact Option.some.inj (hPx'.symm.trans hu)
    subst ex
    refine ⟨_, rfl, wpAny_letOwnedTupleGo_enum (s := { s with heap := h', toks := tk + 1 }) ho fun h'' he' sb => ?_⟩
    have hT2 : h''.get? s.heap.objs.size = some { cls := .type "tuple", data := .seq #[.int i tk, x'] } := (sb.2 _ (Nat.ne_of_gt hel)).trans hT
    have new : ObjOk X.prog X.w (upd H s.heap.objs.size (.tup [.int (i : Nat), x])) h'' s.heap.objs.size (.tup [.int (i : Nat), x]) :=
      ⟨by show 2 ≤ sizeLine; decide, [.int i tk, x'], .cons ⟨_, rfl⟩ (.cons ru .nil), ⟨_, hT2, rfl, _, rfl⟩⟩
    have I1 : Inv X pins σ (upd H s.heap.objs.size (.tup [.int (i : Nat), x])) { s with heap := h'', toks := tk + 1 } :=
      I.turnedNew (ch := [e, it]) (fun b ob hb q => (sb.2 b (fun z => hb (by simp [z]))).trans (hk b ob (fun z => hb (by simp [z])) (fun z => hb (by simp [z])) q)) hf (Nat.le_refl _) new
    refine ⟨.ref s.heap.objs.size, _, I1, rfl, ⟨_, x, rfl, I.hok.fresh (Nat.le_refl _), rfl, fun ys hy => by rw [I.tuple_inj hy hq]; exact hx⟩, ⟨⟨x', ?_⟩, hit'.1.at fun o q => (sb.2 it (Ne.symm hne)).trans q, hne⟩, fun b hb => ?_⟩
    · have e1 : ((i + 1 : Nat) : Int) = (i : Int) + 1 := by omega
      rw [e1]; exact he'
    · have hb' : b < s.heap.objs.size := by
        have e' : b = e ∨ b = it := by simpa using hb
        rcases e' with z | z
        · rw [z]; exact hel
        · rw [z]; exact hil
      rw [upd_ne (Nat.ne_of_lt hb')]
      exact (hf b hb).1
  done := by
    intro X hP hw hK hc i pins s σ H E I hf st hg
    subst hP hw hK
    obtain ⟨⟨old, he⟩, hit, hne⟩ := st
    obtain ⟨xs, hq, hx⟩ := hg
    obtain ⟨its, rv, p, hz⟩ := I.tuple hq
    obtain ⟨f0, f1, f2, f3, f4, f5⟩ := hf it (by simp)
    have hl := rv.length
    have pt : s.heap.IsTuple a its.toArray := p
    have hT : s.TypeIs (.ref e) "enumerate" := ⟨_, he, rfl⟩
    unfold pyNext
    refine wpAny_bind (wpAny_attempt (wpAny_callSpecial?_slot (name := Str.ofString "__next__") hT F.slot_enumerate_next
      (wpAny_call_entry F.slot_enumerate_next hT F.entry_enumerate_next ?_ (F.args_enumerate_next_1 _))))
    show wpAny _ _ (field (.ref e) 2 >>= _) _ _ _
    refine wpAny_bind (wpAny_field he rfl (x := .ref it) rfl ?_)
    refine wpAny_bind (wpAny_nextOf_tuple_end (A := X.A.in1) (I.ok.hd hc) hit pt (by simp; omega) fun h' x he' hx' => ?_)
    obtain ⟨o, ho, hc⟩ := hx'
    refine wpAny_bind (wpAny_isInstance (T := "StopIteration") (b := true) ⟨o, ho, hc⟩ isSubtype_stop ?_)
    exact wpAny_pure ⟨rfl, I.turned (t' := s.toks) (fun b o hb q => he' b o hb q) f0 f1 f3 f4 f5⟩
  self := fun A i s Q E st h => let ⟨⟨_, he⟩, _⟩ := st; wpAny_pyIter_enum he h
def iEnumA (K : PySem.W.Frag) (ta : TA) : TI := fun σ H R => ta σ H fun vs H1 => ∃ a xs, vs = [.ref a] ∧ ((SqL K H1 a xs ∧ R (Ite K a) H1) ∨ (SqT K H1 a xs ∧ R (IteT K a) H1))
theorem pi_enumA {X : Cx} {e : Expr} {ta : TA} {p pos tpos : Pos} {elts : List Expr} {kk : Nat} (hg : Gl X "enumerate") (hm : X.mg "enumerate" = none) (ha : PA X [e] ta) (hs : starEach [e] X.env = [(false, eval e X.env)] := by rfl) :
    PI X (.Tuple elts kk tpos) (.Call (.Name "enumerate" p) [e] [] pos) (iEnumA X.K ta) := by
  refine ⟨fun pins s σ H R I h => ?_⟩
  refine Call_ (ld_blt I hg hm boot_enumerate (PyProof.Rows.callWith_type1 (thn (ha.run pos pins s σ H _ I h) fun us s1 ⟨vs, H1, I1, r1, q1⟩ => ?_) hs rfl))
  obtain ⟨a, xs, ex, q1⟩ := q1
  subst ex
  cases r1 with
  | cons r rr =>
    cases rr
    cases r
    have fp2 : ∀ b ∈ [s1.heap.objs.size + 1, s1.heap.objs.size], FpOk X pins H1 b := fun b hb => by
      have e' : b = s1.heap.objs.size + 1 ∨ b = s1.heap.objs.size := by simpa using hb
      have hle : s1.heap.objs.size ≤ b := by
        rcases e' with z | z
        · rw [z]; exact Nat.le_add_right _ _
        · rw [z]; exact Nat.le_refl _
      exact I1.fpOk hle (I1.hok.fresh hle)
    rcases q1 with ⟨hq, q⟩ | ⟨hq, q⟩
    · obtain ⟨its, rv, p', hz⟩ := I1.list hq
      refine call_enumerate_list p'.isList fun h' he hit hsz hk => wpAny_pyIter_enum he ?_
      have I2 : Inv X pins σ H1 { s1 with heap := h' } := I1.kept (t' := s1.toks) hk
      exact ⟨s1.heap.objs.size + 1, [s1.heap.objs.size + 1, s1.heap.objs.size], _, _, H1, rfl, I2, turn_enum a (s1.heap.objs.size + 1) s1.heap.objs.size, ⟨⟨.none, he⟩, hit, Nat.succ_ne_self _⟩, fp2, q⟩
    · obtain ⟨its, rv, p', hz⟩ := I1.tuple hq
      obtain ⟨o1, ho1, _⟩ := id p'
      have hal : a < s1.heap.objs.size := Heap.lt_size ho1
      refine call_enum_tup (show s1.heap.IsTuple a its.toArray from p') fun h' he hit hsz hk => wpAny_pyIter_enum he ?_
      have I2 : Inv X pins σ H1 { s1 with heap := h' } := I1.kept (t' := s1.toks) hk
      exact ⟨s1.heap.objs.size + 1, [s1.heap.objs.size + 1, s1.heap.objs.size], _, _, H1, rfl, I2, turn_enumT a (s1.heap.objs.size + 1) s1.heap.objs.size (Nat.ne_of_lt (Nat.lt_succ_of_lt hal)) (Nat.ne_of_lt hal), ⟨⟨.none, he⟩, hit, Nat.succ_ne_self _⟩, fp2, q⟩
/-! ### the sequences as they stand -/
theorem items_now {μ : Mu} {d : D} {b : Bool} {l : List D} {ck : Mu → Prop} (e : itemsOf μ d = some (b, l, ck)) : ck μ := by
  cases d with
  | lst l' =>
    cases e
    trivial
  | rol l' =>
    cases e
    trivial
  | tup l' =>
    cases e
    trivial
  | cel n =>
    unfold itemsOf at e
    dsimp only at e
    cases q : μ[n]? with
    | none =>
      rw [q] at e
      cases e
    | some c =>
      rw [q] at e
      cases c with
      | lst l' =>
        cases e
        exact q
      | _ => cases e
  | _ => cases e
theorem lst_at {κ : Kx} {w : W3} {v : V} {d : D} {l : List D} {ck : Mu → Prop} (i : IsR κ w v d) (e : itemsOf w.μ d = some (true, l, ck)) : ∃ a, v = .ref a ∧ ∀ w1 : W3, Stp w w1 → RS κ w1 → ck w1.μ → ∃ ys, SqL κ.K w1.H a ys ∧ IsL κ w1.m w1.F ys l := by
  cases d with
  | lst l' =>
    cases e
    cases i with
    | @lst a xs _ e1 il => exact ⟨a, rfl, fun w1 st rs1 _ => ⟨xs, SqL.of (rs1.le _ _ (st.gr.pF _ _ e1)), il.mono st.gr⟩⟩
  | rol l' =>
    cases e
    cases i with
    | @rol a xs _ e1 il => exact ⟨a, rfl, fun w1 st rs1 _ => ⟨xs, sqL_mono rs1.le (sqL_mono st.gr.pF e1), il.mono st.gr⟩⟩
  | tup l' => cases e
  | cel n =>
    cases i with
    | @cel a _ e1 =>
      unfold itemsOf at e
      dsimp only at e
      cases q : w.μ[n]? with
      | none =>
        rw [q] at e
        cases e
      | some c =>
        rw [q] at e
        cases c with
        | lst l' =>
          cases e
          refine ⟨a, rfl, fun w1 st rs1 c => ?_⟩
          obtain ⟨_, ys, h3, h4⟩ := rs1.cel n a _ ⟨c, st.gr.pm _ _ e1, trivial⟩
          exact ⟨ys, SqL.of h3, h4⟩
        | _ => cases e
  | _ => cases e
theorem tup_at {κ : Kx} {w : W3} {v : V} {d : D} {l : List D} {ck : Mu → Prop} (i : IsR κ w v d) (e : itemsOf w.μ d = some (false, l, ck)) : ∃ a, v = .ref a ∧ ∀ w1 : W3, Stp w w1 → RS κ w1 → ck w1.μ → ∃ ys, SqT κ.K w1.H a ys ∧ IsL κ w1.m w1.F ys l := by
  cases d with
  | tup l' =>
    cases e
    cases i with
    | @tup a xs _ e1 il => exact ⟨a, rfl, fun w1 st rs1 _ => ⟨xs, SqT.of (rs1.le _ _ (st.gr.pF _ _ e1)), il.mono st.gr⟩⟩
  | cel n =>
    unfold itemsOf at e
    dsimp only at e
    split at e <;> cases e
  | _ => cases e
/-- a new pair -/
theorem new_pair {κ : Kx} {w1 : W3} {T : Addr} {x y : V} {a b : D} (rs1 : RS κ w1) (hT : w1.H T = none) (ia : Is κ w1.m w1.F x a) (ib : Is κ w1.m w1.F y b) :
    ∃ w2 : W3, w2.H = upd w1.H T (.tup [x, y]) ∧ w2.σ = w1.σ ∧ w2.env = w1.env ∧ w2.μ = w1.μ ∧ RS κ w2 ∧ Stp w1 w2 ∧ Is κ w2.m w2.F (.ref T) (.tup [a, b]) := by
  have g : Gr w1.m w1.F (w1.al T (.tup [x, y])).m (w1.al T (.tup [x, y])).F := Gr.al w1 (rs1.fnone hT)
  exact ⟨w1.al T (.tup [x, y]), rfl, rfl, rfl, rfl, rs1.al hT, Stp.al rs1 hT, .tup (show upd w1.F T _ T = _ from upd_same) (.cons (ia.mono g) (.cons (ib.mono g) .nil))⟩
def enumD (l : List D) : List D := l.mapIdx fun i d => .tup [.int (i : Nat), d]
theorem enumD_length (l : List D) : (enumD l).length = l.length := List.length_mapIdx
theorem enumD_get {l : List D} {i : Nat} {d : D} (h : (enumD l)[i]? = some d) : ∃ x, l[i]? = some x ∧ d = .tup [.int (i : Nat), x] := by
  unfold enumD at h
  rw [List.getElem?_mapIdx] at h
  cases e : l[i]? with
  | none =>
    rw [e] at h
    cases h
  | some x =>
    rw [e] at h
    cases h
    exact ⟨x, rfl, rfl⟩
def iEnum (Ma : AM) : IM := fun env μ => (Ma env μ).toI fun ds env μ => match ds with
  | [d] => match itemsOf μ d with
    | some (_, l, ck) => .ok (enumD l) ck env μ
    | none => .stk
  | _ => .stk
section
variable {hx : HX} {X : Cx}
theorem i_enum {e : Expr} {Ma : AM} {p pos tpos : Pos} {elts : List Expr} {kk : Nat} (hg : Gl X "enumerate") (hm : X.mg "enumerate" = none) (ha : AOk hx X [e] Ma) (hs : starEach [e] X.env = [(false, eval e X.env)] := by rfl) :
    IOk hx X (.Tuple elts kk tpos) (.Call (.Name "enumerate" p) [e] [] pos) (iEnum Ma) := by
  refine fun W tk => impPI (pi_enumA hg hm (ha W tk) hs) fun σ H R q => ?_
  obtain ⟨w, rfl, rfl, rs, p⟩ := q
  refine ⟨w, rfl, rfl, rs, (PostI.bindA p).imp fun vs H1 ⟨w1, ds, e1, e2, rs1, st1, i1, p1⟩ => ?_⟩
  subst e1
  match ds, i1, p1 with
  | [d], i1, p1 =>
    obtain ⟨v, rfl, iv⟩ := isRL1 i1
    dsimp only at p1
    cases e3 : itemsOf w1.μ d with
    | none =>
      rw [e3] at p1
      exact p1.elim
    | some t =>
      obtain ⟨b, l, ck⟩ := t
      rw [e3] at p1
      cases b with
      | true =>
        obtain ⟨a, rfl, h⟩ := lst_at iv e3
        obtain ⟨ys, h1, h2⟩ := h w1 (.refl _) rs1 (items_now e3)
        refine ⟨a, ys, rfl, .inl ⟨h1, p1 w1 _ rfl rfl rfl rs1 (.refl _) ⟨fun w2 j rs2 st c hj => ?_, fun w2 j rs2 st c hj => ?_, fun w2 j x H' d' rs2 st c hj y => ?_⟩⟩⟩
        · obtain ⟨zs, z1, z2⟩ := h w2 st rs2 c
          have hl := z2.length
          rw [enumD_length] at hj
          exact ⟨zs, zs[j], z1, List.getElem?_eq_getElem (by omega)⟩
        · obtain ⟨zs, z1, z2⟩ := h w2 st rs2 c
          rw [enumD_length] at hj
          exact ⟨zs, z1, by rw [z2.length]; exact hj⟩
        · obtain ⟨zs, z1, z2⟩ := h w2 st rs2 c
          obtain ⟨x', hx', rfl⟩ := enumD_get hj
          obtain ⟨T, u, rfl, hT, rfl, y2⟩ := y
          obtain ⟨v', g1, g2⟩ := z2.get hx'
          have g3 := (y2 zs z1).symm.trans g1
          cases g3
          exact new_pair rs2 hT (.int _) g2
      | false =>
        obtain ⟨a, rfl, h⟩ := tup_at iv e3
        obtain ⟨ys, h1, h2⟩ := h w1 (.refl _) rs1 (items_now e3)
        refine ⟨a, ys, rfl, .inr ⟨h1, p1 w1 _ rfl rfl rfl rs1 (.refl _) ⟨fun w2 j rs2 st c hj => ?_, fun w2 j rs2 st c hj => ?_, fun w2 j x H' d' rs2 st c hj y => ?_⟩⟩⟩
        · obtain ⟨zs, z1, z2⟩ := h w2 st rs2 c
          have hl := z2.length
          rw [enumD_length] at hj
          exact ⟨zs, zs[j], z1, List.getElem?_eq_getElem (by omega)⟩
        · obtain ⟨zs, z1, z2⟩ := h w2 st rs2 c
          rw [enumD_length] at hj
          exact ⟨zs, z1, by rw [z2.length]; exact hj⟩
        · obtain ⟨zs, z1, z2⟩ := h w2 st rs2 c
          obtain ⟨x', hx', rfl⟩ := enumD_get hj
          obtain ⟨T, u, rfl, hT, rfl, y2⟩ := y
          obtain ⟨v', g1, g2⟩ := z2.get hx'
          have g3 := (y2 zs z1).symm.trans g1
          cases g3
          exact new_pair rs2 hT (.int _) g2
def zipD : List D → List D → List D
  | a :: l, b :: r => .tup [a, b] :: zipD l r
  | _, _ => []
theorem zipD_length : ∀ (l r : List D), (zipD l r).length = min l.length r.length
  | [], _ => by unfold zipD; simp
  | _ :: _, [] => by unfold zipD; simp
  | a :: l, b :: r => by
    unfold zipD
    rw [List.length_cons, zipD_length l r, List.length_cons, List.length_cons]
    omega
theorem zipD_get : ∀ {l r : List D} {i : Nat} {d : D}, (zipD l r)[i]? = some d → ∃ a b, l[i]? = some a ∧ r[i]? = some b ∧ d = .tup [a, b]
  | [], _, i, d, h => by unfold zipD at h; simp at h
  | _ :: _, [], i, d, h => by unfold zipD at h; simp at h
  | a :: l, b :: r, 0, d, h => by
    unfold zipD at h
    cases h
    exact ⟨a, b, rfl, rfl, rfl⟩
  | a :: l, b :: r, i + 1, d, h => by
    unfold zipD at h
    have h' : (zipD l r)[i]? = some d := by simpa using h
    obtain ⟨x, y, h1, h2, h3⟩ := zipD_get h'
    exact ⟨x, y, by simpa using h1, by simpa using h2, h3⟩
def iZip (Ma : AM) : IM := fun env μ => (Ma env μ).toI fun ds env μ => match ds with
  | [d, e] => match itemsOf μ d, itemsOf μ e with
    | some (true, l, ck), some (true, l', ck') => .ok (zipD l l') (fun μ => ck μ ∧ ck' μ) env μ
    | some (false, l, ck), some (false, l', ck') => .ok (zipD l l') (fun μ => ck μ ∧ ck' μ) env μ
    | _, _ => .stk
  | _ => .stk
theorem i_zip {e e' : Expr} {Ma : AM} {p pos tpos : Pos} {elts : List Expr} {kk : Nat} (hg : Gl X "zip") (hm : X.mg "zip" = none) (ha : AOk hx X [e, e'] Ma)
    (hs : starEach [e, e'] X.env = (false, eval e X.env) :: starEach [e'] X.env := by rfl) (hpl : (backTo pos (starEach [e'] X.env)).any (·.1) = false := by rfl) :
    IOk hx X (.Tuple elts kk tpos) (.Call (.Name "zip" p) [e, e'] [] pos) (iZip Ma) := by
  refine fun W tk => impPI (RZ.pi_zipA hg hm (ha W tk) hs hpl) fun σ H R q => ?_
  obtain ⟨w, rfl, rfl, rs, p⟩ := q
  refine ⟨w, rfl, rfl, rs, (PostI.bindA p).imp fun vs H1 ⟨w1, ds, e1, e2, rs1, st1, i1, p1⟩ => ?_⟩
  subst e1
  match ds, i1, p1 with
  | [d, d'], i1, p1 =>
    obtain ⟨v, v', rfl, iv, iv'⟩ := isRL2 i1
    dsimp only at p1
    split at p1
    · rename_i l ck l' ck' e3 e4
      obtain ⟨a, rfl, h⟩ := lst_at iv e3
      obtain ⟨a', rfl, h'⟩ := lst_at iv' e4
      obtain ⟨ys, h1, h2⟩ := h w1 (.refl _) rs1 (items_now e3)
      obtain ⟨ys', h1', h2'⟩ := h' w1 (.refl _) rs1 (items_now e4)
      refine ⟨a, a', ys, ys', rfl, .inl ⟨h1, h1', p1 w1 _ rfl rfl rfl rs1 (.refl _) ⟨fun w2 j rs2 st c hj => ?_, fun w2 j rs2 st c hj => ?_, fun w2 j x H' d' rs2 st c hj y => ?_⟩⟩⟩
      · obtain ⟨zs, z1, z2⟩ := h w2 st rs2 c.1
        obtain ⟨zs', z1', z2'⟩ := h' w2 st rs2 c.2
        have hl := z2.length
        have hl' := z2'.length
        rw [zipD_length] at hj
        exact ⟨zs, zs', zs[j], zs'[j], z1, z1', List.getElem?_eq_getElem (by omega), List.getElem?_eq_getElem (by omega)⟩
      · obtain ⟨zs, z1, z2⟩ := h w2 st rs2 c.1
        obtain ⟨zs', z1', z2'⟩ := h' w2 st rs2 c.2
        have hl := z2.length
        have hl' := z2'.length
        rw [zipD_length] at hj
        exact ⟨zs, zs', z1, z1', by omega⟩
      · obtain ⟨zs, z1, z2⟩ := h w2 st rs2 c.1
        obtain ⟨zs', z1', z2'⟩ := h' w2 st rs2 c.2
        obtain ⟨x1, x2, hx1, hx2, rfl⟩ := zipD_get hj
        obtain ⟨T, u, u', rfl, hT, rfl, y2, y3⟩ := y
        obtain ⟨v', g1, g2⟩ := z2.get hx1
        obtain ⟨v'', g1', g2'⟩ := z2'.get hx2
        have g3 := (y2 zs z1).symm.trans g1
        have g4 := (y3 zs' z1').symm.trans g1'
        cases g3
        cases g4
        exact new_pair rs2 hT g2 g2'
    · rename_i l ck l' ck' e3 e4
      obtain ⟨a, rfl, h⟩ := tup_at iv e3
      obtain ⟨a', rfl, h'⟩ := tup_at iv' e4
      obtain ⟨ys, h1, h2⟩ := h w1 (.refl _) rs1 (items_now e3)
      obtain ⟨ys', h1', h2'⟩ := h' w1 (.refl _) rs1 (items_now e4)
      refine ⟨a, a', ys, ys', rfl, .inr ⟨h1, h1', p1 w1 _ rfl rfl rfl rs1 (.refl _) ⟨fun w2 j rs2 st c hj => ?_, fun w2 j rs2 st c hj => ?_, fun w2 j x H' d' rs2 st c hj y => ?_⟩⟩⟩
      · obtain ⟨zs, z1, z2⟩ := h w2 st rs2 c.1
        obtain ⟨zs', z1', z2'⟩ := h' w2 st rs2 c.2
        have hl := z2.length
        have hl' := z2'.length
        rw [zipD_length] at hj
        exact ⟨zs, zs', zs[j], zs'[j], z1, z1', List.getElem?_eq_getElem (by omega), List.getElem?_eq_getElem (by omega)⟩
      · obtain ⟨zs, z1, z2⟩ := h w2 st rs2 c.1
        obtain ⟨zs', z1', z2'⟩ := h' w2 st rs2 c.2
        have hl := z2.length
        have hl' := z2'.length
        rw [zipD_length] at hj
        exact ⟨zs, zs', z1, z1', by omega⟩
      · obtain ⟨zs, z1, z2⟩ := h w2 st rs2 c.1
        obtain ⟨zs', z1', z2'⟩ := h' w2 st rs2 c.2
        obtain ⟨x1, x2, hx1, hx2, rfl⟩ := zipD_get hj
        obtain ⟨T, u, u', rfl, hT, rfl, y2, y3⟩ := y
        obtain ⟨v', g1, g2⟩ := z2.get hx1
        obtain ⟨v'', g1', g2'⟩ := z2'.get hx2
        have g3 := (y2 zs z1).symm.trans g1
        have g4 := (y3 zs' z1').symm.trans g1'
        cases g3
        cases g4
        exact new_pair rs2 hT g2 g2'
    · exact p1.elim
end
end DL
set_option Elab.async false
set_option linter.all false
set_option maxRecDepth 100000
set_option maxHeartbeats 4000000
namespace DL
open PySem PySem.Spec PyProof.Rows L2
/-! ### tuple * int, every case -/
theorem tuple_mulS (l : Addr) (items : Array Value) (n : Nat) (dd : Option Addr) (sl : Array (Option Value)) (x : Int) (u : Tok) (c0 : (decide (x < -(2 ^ 63)) || decide (x ≥ 2 ^ 63)) = false) (c1 : (items.isEmpty || x == 1) = true) :
    Meets (Builtin.«tuple.__mul__» ⟨[.ref l, .int x u], []⟩) (fun _ R s => s.heap.get? l = some { cls := .type "tuple", dict := dd, data := .seq items n, slots := sl } ∧ R (.ok (.ret (Value.ref l))) s) :=
  .of_wp fun prog w A R s h => by
    obtain ⟨hp, g, d, tk, os⟩ := s
    obtain ⟨hl, h⟩ := h
    have f1 := AutoSeq1.idx_int
    wp_walk using wpAny_loadPart' hl
    repeat (first
      | (refine wpAny_ite_false (decide_eq_false (by rw [c0]; exact Bool.false_ne_true)) ?_; wp_walk using wpAny_loadPart' hl)
      | (refine wpAny_ite_true (decide_eq_true (by rw [c1])) ?_; wp_walk using wpAny_loadPart' hl))
    exact ⟨_, rfl, h⟩
theorem tuple_mulZ (l : Addr) (items : Array Value) (n : Nat) (dd : Option Addr) (sl : Array (Option Value)) (x : Int) (u : Tok) (c0 : (decide (x < -(2 ^ 63)) || decide (x ≥ 2 ^ 63)) = false) (c1 : (items.isEmpty || x == 1) = false) (c2 : (decide (x ≤ 0) || items.isEmpty) = true) :
    Meets (Builtin.«tuple.__mul__» ⟨[.ref l, .int x u], []⟩) (fun _ R s => s.heap.get? l = some { cls := .type "tuple", dict := dd, data := .seq items n, slots := sl } ∧
      R (.ok (.ret (Value.ref s.heap.objs.size))) { s with heap := s.heap.push { cls := Value.type "tuple", data := Data.seq #[] }, toks := s.toks }) :=
  .of_wp fun prog w A R s h => by
    obtain ⟨hp, g, d, tk, os⟩ := s
    obtain ⟨hl, h⟩ := h
    have f1 := AutoSeq1.idx_int
    wp_walk using wpAny_loadPart' hl
    repeat (first
      | (refine wpAny_ite_false (decide_eq_false (by rw [c0]; exact Bool.false_ne_true)) ?_; wp_walk using wpAny_loadPart' hl)
      | (refine wpAny_ite_false (decide_eq_false (by rw [c1]; exact Bool.false_ne_true)) ?_; wp_walk using wpAny_loadPart' hl)
      | (refine wpAny_ite_true (decide_eq_true (by rw [c2])) ?_; wp_walk using wpAny_loadPart' hl))
    exact ⟨_, rfl, h⟩
def rRepA (K : PySem.W.Frag) : R2 := fun x y H Q => ∃ l k xs, x = .ref l ∧ y = .int k ∧ SqT K H l xs ∧ k ≤ 1000 ∧ -1000 ≤ k ∧ xs.length ≤ 1000 ∧
  ((xs = [] ∨ k = 1) → Q (.ref l) H) ∧ (xs ≠ [] → k ≤ 0 → ∀ p, H p = none → Q (.ref p) (upd H p (.tup []))) ∧ (xs ≠ [] → 2 ≤ k → ∀ p, H p = none → Q (.ref p) (upd H p (.tup (List.replicate k.toNat xs).flatten)))
theorem op_repA {X : Cx} : OpR X (binaryOp .Mult) (rRepA X.K) := by
  intro pins s σ H x y v u Q I rx ry h
  obtain ⟨l, k, xs, rfl, rfl, hT, h1, h2, hz, q1, q2, q3⟩ := h
  by_cases c : xs ≠ [] ∧ 2 ≤ k
  · exact op_repT pins s σ H _ _ v u Q I rx ry ⟨l, k, xs, rfl, rfl, hT, c.1, c.2, h1, hz, q3 c.1 c.2⟩
  · cases rx
    obtain ⟨t, rfl⟩ := ry
    obtain ⟨its, r, ⟨⟨cls, dd, data, sl⟩, ho, hc, n, hd⟩, hs⟩ := I.tuple hT
    simp only at hc hd
    subst hc hd
    have hle : its.length = xs.length := r.length.symm
    have c0 : (decide (k < -(2 ^ 63)) || decide (k ≥ 2 ^ 63)) = false := by
      rw [decide_eq_false (by omega), decide_eq_false (by omega)] <;> rfl
    have emp : its.toArray.isEmpty = true ↔ xs = [] := by
      constructor
      · intro e
        have : its = [] := by simpa using e
        rw [this] at hle
        exact List.eq_nil_of_length_eq_zero hle.symm
      · intro e
        rw [e] at hle
        have : its = [] := List.eq_nil_of_length_eq_zero hle
        rw [this]
        rfl
    by_cases e1 : xs = [] ∨ k = 1
    · have c1 : (its.toArray.isEmpty || k == 1) = true := by
        rcases e1 with e | e
        · rw [emp.mpr e]
          rfl
        · rw [e]
          simp
      refine wpAny_binaryOp_repeat_ref (T := "tuple") (U := "int") (by decide) ⟨_, ho, rfl⟩ (fun s' => typeIs_int s' k t) noFill_tuple_mul F.fills_int_mul F.slot_int_rmul repeat_tuple F.slot_int_index.lookup
        (call_meets F.slot_int_rmul (typeIs_int s k t) F.entry_int_rmul (F.args_int_rmul_2 _ _) (int_rmul_tuple k t l its.toArray n dd sl)
          ⟨ho, rfl, ⟨_, ho, rfl⟩, call_meets F.slot_tuple_mul ⟨_, ho, rfl⟩ F.entry_tuple_mul (F.args_tuple_mul_2 _ _) (tuple_mulS l its.toArray n dd sl k t c0 c1) ⟨ho, ?_⟩⟩)
      exact ⟨.ref l, H, I, rfl, q1 e1⟩
    · have hx : xs ≠ [] := fun e => e1 (.inl e)
      have hk : k ≤ 0 := by
        have : ¬ k = 1 := fun e => e1 (.inr e)
        have : ¬ 2 ≤ k := fun e => c ⟨hx, e⟩
        omega
      have ne : its.toArray.isEmpty = false := by
        cases e : its.toArray.isEmpty with
        | false => rfl
        | true => exact (hx (emp.mp e)).elim
      have c1 : (its.toArray.isEmpty || k == 1) = false := by
        rw [ne, Bool.false_or]
        exact beq_eq_false_iff_ne.mpr (by omega)
      have c2 : (decide (k ≤ 0) || its.toArray.isEmpty) = true := by
        rw [decide_eq_true hk]
        rfl
      refine wpAny_binaryOp_repeat_ref (T := "tuple") (U := "int") (by decide) ⟨_, ho, rfl⟩ (fun s' => typeIs_int s' k t) noFill_tuple_mul F.fills_int_mul F.slot_int_rmul repeat_tuple F.slot_int_index.lookup
        (call_meets F.slot_int_rmul (typeIs_int s k t) F.entry_int_rmul (F.args_int_rmul_2 _ _) (int_rmul_tuple k t l its.toArray n dd sl)
          ⟨ho, rfl, ⟨_, ho, rfl⟩, call_meets F.slot_tuple_mul ⟨_, ho, rfl⟩ F.entry_tuple_mul (F.args_tuple_mul_2 _ _) (tuple_mulZ l its.toArray n dd sl k t c0 c1 c2) ⟨ho, ?_⟩⟩)
      refine ⟨.ref s.heap.objs.size, _, I.laid (t' := s.toks) (o := .tup []) (fun b ob q => Heap.get?_push_of_some _ q) (Nat.le_refl _) ?_, rfl, q2 hx hk _ (I.hok.fresh (Nat.le_refl _))⟩
      exact ⟨Nat.zero_le _, [], .nil, IsTup.new _ _⟩
/-! ### str * int -/
def strRep (x : Str) (n : Nat) : Str := ⟨(List.replicate n x.cps).foldl (· ++ ·) #[]⟩
def rRepS : R2 := fun x y H Q => ∃ z k, x = .str z ∧ y = .int k ∧ k ≤ 1000 ∧ -1000 ≤ k ∧ z.length ≤ 1000 ∧ Q (.str (strRep z k.toNat)) H
theorem op_repS {X : Cx} : OpR X (binaryOp .Mult) rRepS := by
  intro pins s σ H x y v u Q I rx ry h
  obtain ⟨z, k, rfl, rfl, h1, h2, hz, q⟩ := h
  obtain ⟨t, rfl⟩ := rx
  obtain ⟨t', rfl⟩ := ry
  refine P.mul_str (by rw [decide_eq_false (by omega), decide_eq_false (by omega)] <;> rfl) (fun a b => ?_) (fun a b => ?_) ?_
  · have hk : 0 < k := by omega
    have e1 : ((z.length : Nat) : Int) * k ≤ 1000 * 1000 := Int.mul_le_mul (by omega) h1 (by omega) (by omega)
    have e2 : ((z.length : Nat) : Int) ≤ (2 ^ 63 - 1) / k := (Int.le_ediv_iff_mul_le hk).mpr (by omega)
    omega
  · unfold Builtin.Str.tooLong
    have a1 : z.length * k.toNat ≤ 1000 * 1000 := Nat.mul_le_mul hz (by omega)
    have a2 : (1000000 : Nat) ≤ sizeLine := by decide
    exact decide_eq_false (by omega)
  · by_cases a : k < 1
    · rw [if_pos a]
      have e : k.toNat = 0 := by omega
      rw [e] at q
      exact ⟨by decide, .str Str.empty, H, I.tok _, ⟨_, rfl⟩, q⟩
    · rw [if_neg a]
      by_cases b : (k == 1 || z.length == 0) = true
      · rw [if_pos b]
        rw [Bool.or_eq_true] at b
        have e : strRep z k.toNat = z := by
          rcases b with b | b
          · have e : k = 1 := eq_of_beq b
            rw [e]
            unfold strRep
            simp
          · have e : z.length = 0 := eq_of_beq b
            have e2 : z.cps = #[] := by
              have : z.cps.size = 0 := e
              exact Array.eq_empty_of_size_eq_zero this
            unfold strRep
            rw [e2]
            have : ∀ n, (List.replicate n (#[] : Array Nat)).foldl (· ++ ·) #[] = #[] := fun n => by
              induction n with
              | zero => rfl
              | succ n ih =>
                rw [List.replicate_succ, List.foldl_cons]
                exact ih
            rw [this]
            cases z
            simp only at e2
            rw [e2]
        rw [e] at q
        exact ⟨.str z, H, I, ⟨_, rfl⟩, q⟩
      · rw [if_neg b]
        have hsz : (strRep z k.toNat).length ≤ sizeLine := by
          unfold strRep Str.length
          have : ∀ (n : Nat) (acc : Array Nat), ((List.replicate n z.cps).foldl (· ++ ·) acc).size = acc.size + n * z.cps.size := fun n => by
            induction n with
            | zero => intro acc; simp
            | succ n ih =>
              intro acc
              rw [List.replicate_succ, List.foldl_cons, ih, Array.size_append, Nat.succ_mul]
              omega
          show ((List.replicate k.toNat z.cps).foldl (· ++ ·) #[]).size ≤ sizeLine
          rw [this]
          have a1 : k.toNat * z.cps.size ≤ 1000 * 1000 := Nat.mul_le_mul (by omega) hz
          have a2 : (1000000 : Nat) ≤ sizeLine := by decide
          show 0 + _ ≤ _
          omega
        exact ⟨hsz, .str (strRep z k.toNat), H, I.tok _, ⟨_, rfl⟩, q⟩
/-! ### * -/
def mulD (env : Env) (μ : Mu) (a b : D) : Option D :=
  match b with
  | .int j => match a with
    | .int i => if CMul i j then some (.int (i * j)) else none
    | .str z => if j ≤ 1000 ∧ -1000 ≤ j ∧ z.length ≤ 1000 then some (.str (strRep z j.toNat)) else none
    | a => match seqOf env μ a with
      | some (.tup, l) => if j ≤ 1000 ∧ -1000 ≤ j ∧ l.length ≤ 1000 then some (.tup (List.replicate j.toNat l).flatten) else none
      | some (.lst, l) => if -(2 ^ 63) ≤ j ∧ j < 2 ^ 63 ∧ l.length * j.toNat ≤ sizeLine then some (.lst (List.replicate j.toNat l).flatten) else none
      | _ => none
  | _ => none
def rMulA (X : Cx) : R2 := fun x y H Q => rI CMul (fun i j => .int (i * j)) x y H Q ∨ (rRepS x y H Q ∨ (rRepA X.K x y H Q ∨ rRep x y H Q))
section
variable {hx : HX} {X : Cx}
theorem op_mulA : OpR X (binaryOp .Mult) (rMulA X) := op_mul.or (op_repS.or (op_repA.or op_rep))
theorem seq_tup_eq {env : Env} {μ : Mu} {d : D} {l : List D} (e : seqOf env μ d = some (.tup, l)) : d = .tup l := by
  cases d with
  | tup l' =>
    cases e
    rfl
  | loc j =>
    unfold seqOf at e
    dsimp only at e
    split at e <;> cases e
  | cel j =>
    unfold seqOf at e
    dsimp only at e
    split at e <;> cases e
  | _ => cases e
theorem isL_rep {κ : Kx} {m : List Addr} {F : Hp} {xs : List V} {l : List D} (i : IsL κ m F xs l) : ∀ n : Nat, IsL κ m F (List.replicate n xs).flatten (List.replicate n l).flatten
  | 0 => .nil
  | n + 1 => by
    rw [List.replicate_succ, List.replicate_succ, List.flatten_cons, List.flatten_cons]
    exact i.append (isL_rep i n)
theorem b2_mul : Bin2 hx X (rMulA X) mulD := by
  intro W w v u a b d Q rs ia ib h p
  unfold mulD at h
  cases b with
  | int j =>
    have eu := isR_int ib
    subst eu
    have seq : (match seqOf w.env w.μ a with
      | some (.tup, l) => if j ≤ 1000 ∧ -1000 ≤ j ∧ l.length ≤ 1000 then some (D.tup (List.replicate j.toNat l).flatten) else none
      | some (.lst, l) => if -(2 ^ 63) ≤ j ∧ j < 2 ^ 63 ∧ l.length * j.toNat ≤ sizeLine then some (.lst (List.replicate j.toNat l).flatten) else none
      | _ => none) = some d → rMulA X v (.int j) w.H Q := fun h => by
      cases e : seqOf w.env w.μ a with
      | none =>
        rw [e] at h
        cases h
      | some t =>
        obtain ⟨k, l⟩ := t
        rw [e] at h
        obtain ⟨p1, xs, rfl, il, s1⟩ := seq_heap rs ia e
        have hl := il.length
        cases k with
        | rol => cases h
        | tup =>
          obtain ⟨hz, rfl⟩ := some_if h
          refine .inr (.inr (.inl ⟨p1, j, xs, rfl, rfl, SqT.of s1, hz.1, hz.2.1, by omega, fun c => ?_, fun c1 c2 q hq => ?_, fun c1 c2 q hq => post_tup rs hq (isL_rep il _) p⟩))
          · have ea := seq_tup_eq e
            subst ea
            have e2 : (List.replicate j.toNat l).flatten = l := by
              rcases c with c | c
              · subst c
                cases il
                have : ∀ n, (List.replicate n ([] : List D)).flatten = [] := fun n => by simp
                rw [this]
              · rw [c]
                simp
            rw [e2] at p
            exact post_now rs ia p
          · have e0 : j.toNat = 0 := by omega
            rw [e0] at p
            exact post_tup rs hq .nil p
        | lst =>
          obtain ⟨hz, rfl⟩ := some_if h
          exact .inr (.inr (.inr ⟨p1, j, xs, rfl, rfl, s1, hz.1, hz.2.1, by rw [hl]; exact hz.2.2, fun q hq => post_lst rs hq (isL_rep il _) p⟩))
    cases a with
    | int i =>
      obtain ⟨hz, rfl⟩ := some_if h
      exact .inl ⟨i, j, isR_int ia, rfl, hz, post_now rs (Is.int _).toR p⟩
    | str z =>
      obtain ⟨hz, rfl⟩ := some_if h
      exact .inr (.inl ⟨z, j, isR_str ia, rfl, hz.1, hz.2.1, hz.2.2, post_now rs (Is.str _).toR p⟩)
    | _ => exact seq h
  | _ => cases h
theorem e_mul {Ma Mb : EM} {a b : Expr} {pos : Pos} (ha : EOk hx X a Ma) (hb : EOk hx X b Mb) : EOk hx X (.BinOp a .Mult b pos) (mBin mulD Ma Mb) := e_op op_mulA b2_mul ha hb
end
end DL
set_option Elab.async false
set_option linter.all false
set_option maxRecDepth 100000
set_option maxHeartbeats 4000000
namespace DL
open PySem PySem.Spec PyProof.Rows L2
/-! ### a[b] -/
def dgetD (env : Env) (μ : Mu) (a b : D) : Option D := match dctOf env μ a, kkOf b with
  | some (t, l), some k => if kindOk t k = true then gval l k else none
  | _, _ => none
def ixD (env : Env) (μ : Mu) (a b : D) : Option D :=
  match seqOf env μ a with
  | some (_, l) => match b with
    | .int i => atI l i
    | _ => none
  | none => match a, b with
    | .str z, .int i => if z.length ≤ sizeLine then (atI z.cps.toList i).map fun c => .str ⟨#[c]⟩ else none
    | a, b => dgetD env μ a b
def rIxDct : R2 := fun x y H Q => ∃ p v, x = .ref p ∧ DGet H p y (some v) ∧ Q v H
theorem ix_dct {X : Cx} (hu : X.A.units + 1 < cLine) : IxR X rIxDct := by
  intro value slice pins s σ H x y v u Q I rx ry h hs
  obtain ⟨p, r, rfl, g, q⟩ := h
  obtain rfl : v = Value.ref p := rx
  exact tail_any (dict_typeIs I g) PySem.F.slot_dict_getitem.lookup (d_getItem hu I g ry fun w' s3 I3 rw' => ⟨r, H, I3, rw', q⟩) hs
def rIxA (K : Fg) : R2 := fun x y H Q => rIx K x y H Q ∨ rIxDct x y H Q
theorem ix_all {X : Cx} (hu : X.A.units + 1 < cLine) : IxR X (rIxA X.K) := ix_seq.or (ix_dct hu)
theorem atI_is {κ : Kx} {m : List Addr} {F : Hp} {xs : List V} {l : List D} {i : Int} {d : D} (il : IsL κ m F xs l) (h : atI l i = some d) : ∃ v, atI xs i = some v ∧ Is κ m F v d := by
  unfold atI at h ⊢
  rw [il.length]
  cases e : ixN l.length i with
  | none =>
    rw [e] at h
    cases h
  | some j =>
    rw [e] at h
    obtain ⟨v, h1, h2⟩ := il.get (i := j) h
    exact ⟨v, h1, h2⟩
section
variable {hx : HX} {X : Cx}
theorem b2_ix : Bin2 hx X (rIxA X.K) ixD := by
  intro W w v u a b d Q rs ia ib h p
  unfold ixD at h
  cases e : seqOf w.env w.μ a with
  | some t =>
    obtain ⟨k, l⟩ := t
    rw [e] at h
    obtain ⟨p1, xs, rfl, il, s1⟩ := seq_heap rs ia e
    cases b with
    | int i =>
      have eu := isR_int ib
      subst eu
      obtain ⟨v, h1, h2⟩ := atI_is il h
      have q := post_now rs h2.toR p
      cases k with
      | lst => exact .inl (.inl ⟨p1, xs, i, v, rfl, rfl, SqL.of s1, h1, q⟩)
      | rol => exact .inl (.inl ⟨p1, xs, i, v, rfl, rfl, s1, h1, q⟩)
      | tup => exact .inl (.inr (.inl ⟨p1, xs, i, v, rfl, rfl, SqT.of s1, h1, q⟩))
    | _ => cases h
  | none =>
    rw [e] at h
    have dct : dgetD w.env w.μ a b = some d → rIxA X.K v u w.H Q := fun h => by
      unfold dgetD at h
      cases e1 : dctOf w.env w.μ a with
      | none =>
        rw [e1] at h
        cases h
      | some t =>
        obtain ⟨t, l⟩ := t
        cases e2 : kkOf b with
        | none =>
          rw [e1, e2] at h
          cases h
        | some k =>
          rw [e1, e2] at h
          by_cases hk : kindOk t k = true
          · have h : gval l k = some d := by
              have h' : (if kindOk t k = true then gval l k else none) = some d := h
              rw [if_pos hk] at h'
              exact h'
            obtain ⟨p1, rfl, ck⟩ := dct_heap rs ia e1
            obtain ⟨o, g, f1, f2⟩ := dk_get rs ck e2 hk ib
            obtain ⟨v, rfl, iv⟩ := f1 d h
            exact .inr ⟨p1, v, rfl, g, post_now rs iv.toR p⟩
          · have h' : (if kindOk t k = true then gval l k else none) = some d := h
            rw [if_neg hk] at h'
            cases h'
    cases a with
    | str z =>
      cases b with
      | int i =>
        have h' : (if z.length ≤ sizeLine then (atI z.cps.toList i).map fun c => D.str ⟨#[c]⟩ else none) = some d := h
        by_cases hz : z.length ≤ sizeLine
        · rw [if_pos hz] at h'
          obtain ⟨c, hc, rfl⟩ := Option.map_eq_some_iff.mp h'
          exact .inl (.inr (.inr ⟨z, i, c, isR_str ia, isR_int ib, hz, hc, post_now rs (Is.str _).toR p⟩))
        · rw [if_neg hz] at h'
          cases h'
      | _ => exact dct h
    | _ => exact dct h
theorem e_ix {Ma Mb : EM} {a b : Expr} {pos : Pos} (hu : X.A.units + 1 < cLine) (ha : EOk hx X a Ma) (hb : EOk hx X b Mb) (hs : PlainIx b) : EOk hx X (.Subscript a b pos) (mBin ixD Ma Mb) :=
  fun W tk => impPE (pe_ix (ix_all hu) (ha W tk) (hb W tk) hs) fun _ _ _ h => bin_tOp b2_ix h
end
/-! ### things changed in their place -/
def mutOf (env : Env) (μ : Mu) : D → Option Cell
  | .cel n => μ[n]?
  | .loc i => match env[i]? with
    | some (.own c) => some c
    | _ => none
  | _ => none
def putE (env : Env) : D → Cell → Env
  | .loc i, c => env.set i (.own c)
  | _, _ => env
def putM (μ : Mu) : D → Cell → Mu
  | .cel n, c => μ.set n c
  | _, _ => μ
theorem mut_at {κ : Kx} {w : W3} {v : V} {d : D} {c : Cell} (rs : RS κ w) (i : IsR κ w v d) (e : mutOf w.env w.μ d = some c) (l : c.liveC) :
    ∃ a, v = .ref a ∧ CellOk κ w.m w.F w.H a c ∧ ∀ (c' : Cell) (o : HO), c'.liveC → CellOk κ w.m w.F (upd w.H a o) a c' →
      ∃ w' : W3, w'.H = upd w.H a o ∧ w'.σ = w.σ ∧ w'.env = putE w.env d c' ∧ w'.μ = putM w.μ d c' ∧ w'.m = w.m ∧ w'.F = w.F ∧ RS κ w' ∧ Stp w w' := by
  cases d with
  | cel n =>
    cases i with
    | @cel a _ e1 =>
      have hc : w.isC n a c := ⟨e, e1, l⟩
      exact ⟨a, rfl, (rs.cel n a c hc).2, fun c' o l' ck => ⟨w.modC n a c' o, rfl, rfl, rfl, rfl, rfl, rfl, rs.modC hc l'.live ck, Stp.modC hc⟩⟩
  | loc j =>
    unfold mutOf at e
    dsimp only at e
    cases q : w.env[j]? with
    | none =>
      rw [q] at e
      cases e
    | some s =>
      rw [q] at e
      cases s with
      | own c0 =>
        cases e
        obtain ⟨_, a, e1, e2, h1⟩ := rs.own j _ q
        have e3 : w.σ[j]? = some (some v) := i
        rw [e1] at e3
        cases e3
        exact ⟨a, rfl, h1, fun c' o l' ck => ⟨w.modO j a c' o, rfl, rfl, rfl, rfl, rfl, rfl, rs.modO ⟨q, e1⟩ l'.live ck, Stp.modO ⟨q, e1⟩⟩⟩
      | _ => cases e
  | _ => cases e
/-! ### a[b] = x -/
def setCell (c : Cell) (i x : D) : Option Cell := match c with
  | .lst l => match i with
    | .int k => (ixN l.length k).map fun j => .lst (l.set j x)
    | _ => none
  | .dct t l => match kkOf i with
    | some k => if kindOk t k = true ∧ l.length < sizeLine then some (.dct t (gput l k x)) else none
    | none => none
  | _ => none
def rSetA : TSet := fun o i v H Q => rSetL o i v H Q ∨ rSetD o i v H Q
theorem set_all {X : Cx} (hu : X.A.units + 1 < cLine) : PSet X rSetA := by
  intro pins s σ H o i v ov iv u Q I ro ri rv h
  rcases h with h | h
  · exact set_list pins s σ H o i v ov iv u Q I ro ri rv h
  · exact set_dict hu pins s σ H o i v ov iv u Q I ro ri rv h
section
variable {κ : Kx} {m : List Addr} {F : Hp}
theorem IsK.any : ∀ {kvs : List (Key × V)} {l : List (KK × D)} (k : Key), IsK κ m F kvs l → (kvs.any fun kv => decide (kv.1 = k)) = l.any fun p => decide (p.1 = KK.k k)
  | _, _, k, .nil => rfl
  | _, _, k, .cons (k := k') h t => by
    rw [List.any_cons, List.any_cons, IsK.any k t]
    have : decide (k' = k) = decide (KK.k k' = KK.k k) := by simp
    exact congrArg (· || _) this
theorem IsT.any : ∀ {kvs : List (List Key × V)} {l : List (KK × D)} (k : List Key), IsT κ m F kvs l → (kvs.any fun kv => decide (kv.1 = k)) = l.any fun p => decide (p.1 = KK.t k)
  | _, _, k, .nil => rfl
  | _, _, k, .cons (k := k') h t => by
    rw [List.any_cons, List.any_cons, IsT.any k t]
    have : decide (k' = k) = decide (KK.t k' = KK.t k) := by simp
    exact congrArg (· || _) this
theorem IsK.snoc : ∀ {kvs : List (Key × V)} {l : List (KK × D)} {k : Key} {v : V} {d : D}, IsK κ m F kvs l → Is κ m F v d → IsK κ m F (kvs ++ [(k, v)]) (l ++ [(.k k, d)])
  | _, _, _, _, _, .nil, i => .cons i .nil
  | _, _, _, _, _, .cons h t, i => .cons h (IsK.snoc t i)
theorem IsT.snoc : ∀ {kvs : List (List Key × V)} {l : List (KK × D)} {k : List Key} {v : V} {d : D}, IsT κ m F kvs l → Is κ m F v d → IsT κ m F (kvs ++ [(k, v)]) (l ++ [(.t k, d)])
  | _, _, _, _, _, .nil, i => .cons i .nil
  | _, _, _, _, _, .cons h t, i => .cons h (IsT.snoc t i)
theorem IsK.upd : ∀ {kvs : List (Key × V)} {l : List (KK × D)} {k : Key} {v : V} {d : D}, IsK κ m F kvs l → Is κ m F v d → IsK κ m F (kvs.map fun kv => if kv.1 = k then (kv.1, v) else kv) (l.map fun p => if p.1 = KK.k k then (p.1, d) else p)
  | _, _, _, _, _, .nil, i => .nil
  | _, _, k, _, _, .cons (k := k') h t, i => by
    rw [List.map_cons, List.map_cons]
    by_cases e : k' = k
    · rw [if_pos e, if_pos (by rw [e])]
      exact .cons i (IsK.upd t i)
    · rw [if_neg e, if_neg (fun z => e (by injection z))]
      exact .cons h (IsK.upd t i)
theorem IsT.upd : ∀ {kvs : List (List Key × V)} {l : List (KK × D)} {k : List Key} {v : V} {d : D}, IsT κ m F kvs l → Is κ m F v d → IsT κ m F (kvs.map fun kv => if kv.1 = k then (kv.1, v) else kv) (l.map fun p => if p.1 = KK.t k then (p.1, d) else p)
  | _, _, _, _, _, .nil, i => .nil
  | _, _, k, _, _, .cons (k := k') h t, i => by
    rw [List.map_cons, List.map_cons]
    by_cases e : k' = k
    · rw [if_pos e, if_pos (by rw [e])]
      exact .cons i (IsT.upd t i)
    · rw [if_neg e, if_neg (fun z => e (by injection z))]
      exact .cons h (IsT.upd t i)
theorem IsK.put {kvs : List (Key × V)} {l : List (KK × D)} {k : Key} {v : V} {d : D} (h : IsK κ m F kvs l) (i : Is κ m F v d) : IsK κ m F (putK kvs k v) (gput l (.k k) d) := by
  unfold putK gput
  rw [h.any k]
  split
  · exact h.upd i
  · exact h.snoc i
theorem IsT.put {kvs : List (List Key × V)} {l : List (KK × D)} {k : List Key} {v : V} {d : D} (h : IsT κ m F kvs l) (i : Is κ m F v d) : IsT κ m F (putK kvs k v) (gput l (.t k) d) := by
  unfold putK gput
  rw [h.any k]
  split
  · exact h.upd i
  · exact h.snoc i
theorem IsK.length : ∀ {kvs : List (Key × V)} {l : List (KK × D)}, IsK κ m F kvs l → kvs.length = l.length
  | _, _, .nil => rfl
  | _, _, .cons _ t => congrArg Nat.succ (IsK.length t)
theorem IsT.length : ∀ {kvs : List (List Key × V)} {l : List (KK × D)}, IsT κ m F kvs l → kvs.length = l.length
  | _, _, .nil => rfl
  | _, _, .cons _ t => congrArg Nat.succ (IsT.length t)
end
/-- a key by data is the key by value -/
theorem kk_k {κ : Kx} {w : W3} {d : D} {k : Key} {y : V} (ek : kkOf d = some (.k k)) (i : IsR κ w y d) : y = kV k := by
  cases d with
  | tup l' =>
    unfold kkOf at ek
    dsimp only at ek
    cases q : keysOf l' <;> rw [q] at ek <;> cases ek
  | int j =>
    cases ek
    exact isR_int i
  | str j =>
    cases ek
    exact isR_str i
  | _ => cases ek
theorem kk_t {κ : Kx} {w : W3} {d : D} {k : List Key} {y : V} (rs : RS κ w) (ek : kkOf d = some (.t k)) (i : IsR κ w y d) : ∃ b, y = .ref b ∧ w.H b = some (.tup (k.map kV)) := by
  cases d with
  | tup l' =>
    unfold kkOf at ek
    dsimp only at ek
    cases q : keysOf l' with
    | none =>
      rw [q] at ek
      cases ek
    | some ks =>
      rw [q] at ek
      cases ek
      have i' : Is κ w.m w.F y (.tup l') := i
      cases i' with
      | @tup a' xs _ hq il =>
        have ex := keysOf_v q il
        subst ex
        exact ⟨a', rfl, rs.le _ _ hq⟩
  | int j => cases ek
  | str j => cases ek
  | _ => cases ek
/-- the store at d's place -/
def setAt (o i x : D) (env : Env) (μ : Mu) : GR := match mutOf env μ o with
  | some c => if noLoc x = true then match setCell c i x with
    | some c' => .ok (putE env o c') (putM μ o c')
    | none => .no
    else .no
  | none => .no
theorem set_run {κ : Kx} {w : W3} {vo vi vx : V} {o i x : D} {Q : L2.St → Hp → Prop} (rs : RS κ w) (io : IsR κ w vo o) (ii : IsR κ w vi i) (ix : IsR κ w vx x) (p : PostG κ w (setAt o i x w.env w.μ) Q) : rSetA vo vi vx w.H (Q w.σ) := by
  unfold setAt at p
  cases e : mutOf w.env w.μ o with
  | none =>
    rw [e] at p
    exact p.elim
  | some c =>
    rw [e] at p
    dsimp only at p
    by_cases nx : noLoc x = true
    · rw [if_pos nx] at p
      have hx' := ix.is nx
      cases e2 : setCell c i x with
      | none =>
        rw [e2] at p
        exact p.elim
      | some c' =>
        rw [e2] at p
        have p : PostG κ w (.ok (putE w.env o c') (putM w.μ o c')) Q := p
        cases c with
        | lst l =>
          obtain ⟨a, rfl, ⟨xs, h1, h2⟩, wr⟩ := mut_at rs io e trivial
          unfold setCell at e2
          cases i with
          | int k =>
            obtain ⟨j, hj, rfl⟩ := Option.map_eq_some_iff.mp e2
            have eu := isR_int ii
            subst eu
            obtain ⟨w', g1, g2, g3, g4, g5, g6, g7, g8⟩ := wr (.lst (l.set j x)) (.lst (xs.set j vx)) trivial ⟨_, upd_same, h2.set hx' j⟩
            refine .inl ⟨a, xs, k, j, rfl, rfl, h1, by rw [h2.length]; exact hj, ?_⟩
            rw [← g1, ← g2]
            exact p w' g3 g4 g7 g8
          | _ => cases e2
        | dct t l =>
          obtain ⟨a, rfl, ck, wr⟩ := mut_at rs io e trivial
          unfold setCell at e2
          cases e3 : kkOf i with
          | none =>
            rw [e3] at e2
            cases e2
          | some k =>
            rw [e3] at e2
            have e2 : (if kindOk t k = true ∧ l.length < sizeLine then some (Cell.dct t (gput l k x)) else none) = some c' := e2
            obtain ⟨⟨hk, hl⟩, rfl⟩ := some_if e2
            cases t with
            | false =>
              obtain ⟨kvs, h1, h2⟩ := ck
              cases k with
              | t k => cases hk
              | k k =>
                obtain ⟨w', g1, g2, g3, g4, g5, g6, g7, g8⟩ := wr (.dct false (gput l (.k k) x)) (.dK (putK kvs k vx)) trivial ⟨_, upd_same, h2.put hx'⟩
                have ey := kk_k e3 ii
                subst ey
                refine .inr ⟨a, _, rfl, DPut.k h1 (by rw [h2.length]; exact hl), ?_⟩
                rw [← g1, ← g2]
                exact p w' g3 g4 g7 g8
            | true =>
              obtain ⟨kvs, h1, h2⟩ := ck
              cases k with
              | k k => cases hk
              | t k =>
                obtain ⟨w', g1, g2, g3, g4, g5, g6, g7, g8⟩ := wr (.dct true (gput l (.t k) x)) (.dT (putK kvs k vx)) trivial ⟨_, upd_same, h2.put hx'⟩
                obtain ⟨b, rfl, hb⟩ := kk_t rs e3 ii
                refine .inr ⟨a, _, rfl, DPut.t h1 hb (by rw [h2.length]; exact hl), ?_⟩
                rw [← g1, ← g2]
                exact p w' g3 g4 g7 g8
        | ins c gs => cases e2
        | slf c gs => cases e2
        | dead => cases e2
    · rw [if_neg nx] at p
      exact p.elim
def ER.toG (r : ER) (k : D → Env → Mu → GR) : GR := match r with
  | .ok d env μ => k d env μ
  | _ => .no
theorem PostG.bindE {κ : Kx} {W : WX} {w : W3} {r : ER} {k : D → Env → Mu → GR} {Q : L2.St → Hp → Prop} (h : PostG κ w (r.toG k) Q) :
    PostE κ W w r fun v H => ∃ (w1 : W3) (d : D), w1.H = H ∧ w1.σ = w.σ ∧ RS κ w1 ∧ Stp w w1 ∧ IsR κ w1 v d ∧ PostG κ w1 (k d w1.env w1.μ) Q := by
  cases r with
  | ok d env' μ' =>
    intro w' v e1 e2 e3 rs st i
    subst e2 e3
    exact ⟨w', d, rfl, e1, rs, st, i, PostG.step st h⟩
  | exc x env' μ' => exact h.elim
  | stk => exact h.elim
def gSubD (Mo Mi : EM) : GM := fun x env μ => (Mo env μ).toG fun o env μ => (Mi env μ).toG fun i env μ => setAt o i x env μ
section
variable {hx : HX} {X : Cx}
theorem g_sub {o i : Expr} {Mo Mi : EM} {pos : Pos} (hu : X.A.units + 1 < cLine) (ho : EOk hx X o Mo) (hi : EOk hx X i Mi) (tk : ∃ W, Takes X W)
    (ha : ∀ v, assign (.Subscript o i pos) X.env v = (do
      let ov ← holding [v] (eval o X.env)
      let iv ← holding [v, ov] (eval i X.env)
      standAt pos
      holding [v, ov, iv] (setItem ov iv v)
      release [v, ov, iv] []) := by intro _; rfl) : GOk hx X (.Subscript o i pos) (gSubD Mo Mi) := by
  obtain ⟨W, tk⟩ := tk
  refine impPG (pg_sub (ho W tk) (hi W tk) (set_all hu) ha) fun v σ H Q q => ?_
  obtain ⟨w, x, rfl, rfl, rs, iv, p⟩ := q
  refine ⟨w, rfl, rfl, rs, (PostG.bindE p).imp fun vo H1 ⟨w1, od, e1, e2, rs1, st1, i1, p1⟩ => ?_⟩
  subst e1
  refine ⟨w1, e2, rfl, rs1, (PostG.bindE p1).imp fun vi H2 ⟨w2, id, e3, e4, rs2, st2, i2, p2⟩ => ?_⟩
  subst e3
  have r := set_run rs2 (i1.mono e4 st2.gr) i2 ((iv.mono e2 st1.gr).mono e4 st2.gr) p2
  rw [e4, e2] at r
  exact r
/-! ### methods of lists -/
/-- what a method of a list does: the answer, the list behind it -/
abbrev LM := List D → List D → Option (D × List D)
def LMet (X : Cx) (hx : HX) (r : V → List V → Hp → VK → Prop) (f : LM) : Prop :=
  ∀ (w : W3) (a : Addr) (xs : List V) (l : List D) (vs : List V) (ds : List D) (d : D) (l' : List D) (Q : VK), RS (kx X hx) w → w.H a = some (.lst xs) → IsL (kx X hx) w.m w.F xs l → IsL (kx X hx) w.m w.F vs ds → f l ds = some (d, l') →
    (∀ v ys, Is (kx X hx) w.m w.F v d → IsL (kx X hx) w.m w.F ys l' → Q v (upd w.H a (.lst ys))) → r (.ref a) vs w.H Q
def lmRun (f : LM) (o : D) (ds : List D) : EM := fun env μ => match mutOf env μ o with
  | some (.lst l) => if ds.all noLoc = true then match f l ds with
    | some (d, l') => .ok d (putE env o (.lst l')) (putM μ o (.lst l'))
    | none => .stk
    else .stk
  | _ => .stk
def mMet (f : LM) (Mo : EM) (Ma : AM) : EM := fun env μ => (Mo env μ).bind fun o env μ => match mutOf env μ o with
  | some (.lst _) => (Ma env μ).toE fun ds env μ => lmRun f o ds env μ
  | _ => .stk
theorem lm_run {W : WX} {w : W3} {r : V → List V → Hp → VK → Prop} {f : LM} {o : D} {ds : List D} {v : V} {vs : List V} {Q : VK} (hf : LMet X hx r f) (rs : RS (kx X hx) w) (io : IsR (kx X hx) w v o) (il : IsRL (kx X hx) w vs ds) (p : PostE (kx X hx) W w (lmRun f o ds w.env w.μ) Q) : r v vs w.H Q := by
  unfold lmRun at p
  cases e : mutOf w.env w.μ o with
  | none =>
    rw [e] at p
    exact p.elim
  | some c =>
    rw [e] at p
    cases c with
    | lst l =>
      dsimp only at p
      by_cases hn : ds.all noLoc = true
      · rw [if_pos hn] at p
        cases e2 : f l ds with
        | none =>
          rw [e2] at p
          exact p.elim
        | some t =>
          obtain ⟨d, l'⟩ := t
          rw [e2] at p
          have p : PostE (kx X hx) W w (.ok d (putE w.env o (.lst l')) (putM w.μ o (.lst l'))) Q := p
          obtain ⟨a, rfl, ⟨xs, h1, h2⟩, wr⟩ := mut_at rs io e trivial
          refine hf w a xs l vs ds d l' Q rs h1 h2 (il.is hn) e2 fun v ys iv iy => ?_
          obtain ⟨w', g1, g2, g3, g4, g5, g6, g7, g8⟩ := wr (.lst l') (.lst ys) trivial ⟨_, upd_same, iy⟩
          rw [← g1]
          exact p w' v g2 g3 g4 g7 g8 (Is.toR (by rw [g5, g6]; exact iv))
      · rw [if_neg hn] at p
        exact p.elim
    | _ => exact p.elim
theorem tyV_lst {w : W3} {v : V} {o : D} {l : List D} (rs : RS (kx X hx) w) (io : IsR (kx X hx) w v o) (e : mutOf w.env w.μ o = some (.lst l)) : tyV X.K "list" v w.H := by
  obtain ⟨a, rfl, ⟨xs, h1, h2⟩, wr⟩ := mut_at rs io e trivial
  exact .inl ⟨rfl, xs, SqL.of h1⟩
theorem e_met {o e : Expr} {es : List Expr} {Mo : EM} {Ma : AM} {name : Str} {id : String} {apos cpos : Pos} {r : V → List V → Hp → VK → Prop} {f : LM} (slot : PySem.Slot "list" name id) (hty : typeOf (.builtin id) = pure (.type "method_descriptor")) (hm : MtR X id r) (hf : LMet X hx r f) (ho : EOk hx X o Mo) (ha : AOk hx X (e :: es) Ma)
    (hbase : attributeBase o name X.env (eval o X.env) = eval o X.env := by rfl)
    (hfew : ((backTo cpos (starEach (e :: es) X.env)).all (fun x => !x.1) && (backToKw cpos (keywordEach [] X.env)).all (fun x => x.1.isSome)
      && decide ((e :: es).length + ([] : List Keyword).length + (if ([] : List Keyword).isEmpty then 0 else 1) < 30)) = true := by rfl)
    (hline : (apos.endLine == cpos.line) = true := by rfl) (hs : starEach (e :: es) X.env = (false, eval e X.env) :: starEach es X.env := by rfl) (hplain : (backTo cpos (starEach es X.env)).any (·.1) = false := by rfl) :
    EOk hx X (.Call (.Attribute o name apos) (e :: es) [] cpos) (mMet f Mo Ma) := by
  refine fun W tk => impPE (pe_bm PySem.F.plainAttrs_list slot hty hm (ho W tk) (ha W tk) hbase hfew hline hs hplain) fun σ H Q q => ?_
  obtain ⟨w, rfl, rfl, rs, p⟩ := q
  refine ⟨w, rfl, rfl, rs, (PostE.bind p).imp fun x H1 a1 => ?_⟩
  obtain ⟨w1, d1, rfl, e1, rs1, st1, i1, p1⟩ := a1.ex
  cases em : mutOf w1.env w1.μ d1 with
  | none =>
    rw [em] at p1
    exact p1.elim
  | some c =>
    rw [em] at p1
    cases c with
    | lst l =>
      refine ⟨tyV_lst rs1 i1 em, w1, e1, rfl, rs1, (PostE.bindA p1).imp fun vs H2 ⟨w2, ds, e2, e3, rs2, st2, i2, p2⟩ => ?_⟩
      subst e2
      exact lm_run hf rs2 (i1.mono e3 st2.gr) i2 p2
    | _ => exact p1.elim
def mMet0 (f : LM) (Mo : EM) : EM := fun env μ => (Mo env μ).bind fun o env μ => lmRun f o [] env μ
theorem e_met0 {o : Expr} {Mo : EM} {name : Str} {id : String} {apos cpos : Pos} {r : V → List V → Hp → VK → Prop} {f : LM} (slot : PySem.Slot "list" name id) (hty : typeOf (.builtin id) = pure (.type "method_descriptor")) (hm : MtR X id r) (hf : LMet X hx r f) (ho : EOk hx X o Mo)
    (hbase : attributeBase o name X.env (eval o X.env) = eval o X.env := by rfl) (hline : (apos.endLine == cpos.line) = true := by rfl) :
    EOk hx X (.Call (.Attribute o name apos) [] [] cpos) (mMet0 f Mo) := by
  refine fun W tk => impPE (pe_bm0 PySem.F.plainAttrs_list slot hty hm (ho W tk) hbase hline) fun σ H Q q => ?_
  obtain ⟨w, rfl, rfl, rs, p⟩ := q
  refine ⟨w, rfl, rfl, rs, (PostE.bind p).imp fun x H1 a1 => ?_⟩
  obtain ⟨w1, d1, rfl, e1, rs1, st1, i1, p1⟩ := a1.ex
  have ty : ∃ l, mutOf w1.env w1.μ d1 = some (.lst l) := by
    unfold lmRun at p1
    cases em : mutOf w1.env w1.μ d1 with
    | none =>
      rw [em] at p1
      exact p1.elim
    | some c =>
      rw [em] at p1
      cases c with
      | lst l => exact ⟨l, rfl⟩
      | _ => exact p1.elim
  obtain ⟨l, em⟩ := ty
  exact ⟨tyV_lst rs1 i1 em, lm_run hf rs1 i1 .nil p1⟩
def lmAppend : LM := fun l ds => match ds with
  | [d] => if l.length < sizeLine then some (.non, l ++ [d]) else none
  | _ => none
theorem m_append : LMet X hx rAppend lmAppend := by
  intro w a xs l vs ds d l' Q rs h1 h2 h3 e q
  unfold lmAppend at e
  match ds, h3, e with
  | [d0], .cons iv .nil, e =>
    obtain ⟨hl, e⟩ := some_if e
    cases e
    exact ⟨a, xs, _, rfl, rfl, h1, by rw [h2.length]; exact hl, q .non _ .non (h2.append (.cons iv .nil))⟩
theorem e_append {o e : Expr} {Mo : EM} {Ma : AM} {apos cpos : Pos} (ho : EOk hx X o Mo) (ha : AOk hx X [e] Ma)
    (hbase : attributeBase o "append" X.env (eval o X.env) = eval o X.env := by rfl)
    (hfew : ((backTo cpos (starEach [e] X.env)).all (fun x => !x.1) && (backToKw cpos (keywordEach [] X.env)).all (fun x => x.1.isSome)
      && decide (([e] : List Expr).length + ([] : List Keyword).length + (if ([] : List Keyword).isEmpty then 0 else 1) < 30)) = true := by rfl)
    (hline : (apos.endLine == cpos.line) = true := by rfl) (hs : starEach [e] X.env = (false, eval e X.env) :: starEach [] X.env := by rfl) (hplain : (backTo cpos (starEach [] X.env)).any (·.1) = false := by rfl) :
    EOk hx X (.Call (.Attribute o "append" apos) [e] [] cpos) (mMet lmAppend Mo Ma) := e_met PySem.F.slot_list_append PySem.F.type_list_append mt_append m_append ho ha hbase hfew hline hs hplain
def lmPop : LM := fun l ds => match ds with
  | [] => (l[l.length - 1]?).map fun d => (d, l.dropLast)
  | _ => none
theorem IsL.dropLast {κ : Kx} {m : List Addr} {F : Hp} {xs : List V} {l : List D} (i : IsL κ m F xs l) : IsL κ m F xs.dropLast l.dropLast := by
  rw [List.dropLast_eq_take, List.dropLast_eq_take, i.length]
  exact i.take _
theorem m_pop : LMet X hx rPop lmPop := by
  intro w a xs l vs ds d l' Q rs h1 h2 h3 e q
  unfold lmPop at e
  match ds, h3, e with
  | [], .nil, e =>
    obtain ⟨x, hx', e⟩ := Option.map_eq_some_iff.mp e
    cases e
    obtain ⟨v, hv, iv⟩ := h2.get hx'
    exact ⟨a, xs, v, rfl, rfl, h1, by rw [h2.length]; exact hv, q v _ iv h2.dropLast⟩
theorem e_pop {o : Expr} {Mo : EM} {apos cpos : Pos} (ho : EOk hx X o Mo) (hbase : attributeBase o "pop" X.env (eval o X.env) = eval o X.env := by rfl) (hline : (apos.endLine == cpos.line) = true := by rfl) :
    EOk hx X (.Call (.Attribute o "pop" apos) [] [] cpos) (mMet0 lmPop Mo) := e_met0 PySem.F.slot_list_pop PySem.F.type_list_pop mt_pop m_pop ho hbase hline
end
end DL
set_option Elab.async false
set_option linter.all false
set_option maxRecDepth 100000
set_option maxHeartbeats 4000000
namespace DL
open PySem PySem.Spec PyProof.Rows L2
/-! ### instances -/
def insOf (env : Env) (μ : Mu) : D → Option (Nat × List (Nat × D))
  | .ins c gs => some (c, gs)
  | .cel n => match μ[n]? with
    | some (.ins c gs) => some (c, gs)
    | _ => none
  | .loc i => match env[i]? with
    | some (.own (.ins c gs)) => some (c, gs)
    | some (.own (.slf c gs)) => some (c, gs)
    | _ => none
  | _ => none
theorem ins_heap {κ : Kx} {w : W3} (rs : RS κ w) {v : V} {d : D} (i : IsR κ w v d) {c : Nat} {gs : List (Nat × D)} (h : insOf w.env w.μ d = some (c, gs)) :
    ∃ a dx fs, v = .ref a ∧ c ∈ κ.cs ∧ w.H a = some (.ins (He.ga κ.K (cname c)) dx fs) ∧ IsF κ w.m w.F fs gs := by
  cases d with
  | ins c' gs' =>
    cases h
    cases i with
    | ins hc e il => exact ⟨_, _, _, rfl, hc, rs.le _ _ e, il⟩
  | cel n =>
    cases i with
    | cel e =>
      unfold insOf at h
      dsimp only at h
      cases q : w.μ[n]? with
      | none =>
        rw [q] at h
        cases h
      | some c' =>
        rw [q] at h
        cases c' with
        | ins c' gs' =>
          cases h
          obtain ⟨_, hc, dx, fs, h1, h2⟩ := rs.cel n _ _ ⟨q, e, trivial⟩
          exact ⟨_, dx, fs, rfl, hc, h1, h2⟩
        | _ => cases h
  | loc j =>
    unfold insOf at h
    dsimp only at h
    cases q : w.env[j]? with
    | none =>
      rw [q] at h
      cases h
    | some s =>
      rw [q] at h
      cases s with
      | own c' =>
        obtain ⟨_, a, e1, e2, ck⟩ := rs.own j _ q
        have e3 : w.σ[j]? = some (some v) := i
        rw [e1] at e3
        cases e3
        cases c' with
        | ins c' gs' =>
          cases h
          obtain ⟨hc, dx, fs, h1, h2⟩ := ck
          exact ⟨_, dx, fs, rfl, hc, h1, h2⟩
        | slf c' gs' =>
          cases h
          obtain ⟨_, hc, dx, fs, h1, h2⟩ := ck
          exact ⟨_, dx, fs, rfl, hc, h1, h2⟩
        | _ => cases h
      | _ => cases h
  | _ => cases h
/-! ### fields -/
theorem fname_ne {f g : Nat} (hf : f < fnames.length) : fname g = fname f ↔ g = f := by
  constructor
  · intro e
    have nd : fnames.Nodup := by decide +kernel
    have nq : ("?" : Str) ∉ fnames := by decide +kernel
    have ef : fnames[f]? = some (fname f) := by
      unfold fname
      rw [List.getD_eq_getElem?_getD, List.getElem?_eq_getElem hf]
      rfl
    by_cases hg : g < fnames.length
    · have eg : fnames[g]? = some (fname g) := by
        unfold fname
        rw [List.getD_eq_getElem?_getD, List.getElem?_eq_getElem hg]
        rfl
      rw [e] at eg
      exact (List.getElem?_inj hg nd).mp (eg.trans ef.symm)
    · have eg : fname g = "?" := by
        unfold fname
        rw [List.getD_eq_getElem?_getD, List.getElem?_eq_none (by omega)]
        rfl
      rw [eg] at e
      rw [← e] at ef
      exact (nq (List.mem_of_getElem? ef)).elim
  · intro e
    rw [e]
def gputF (f : Nat) (v : D) : List (Nat × D) → List (Nat × D)
  | [] => [(f, v)]
  | (g, x) :: r => if g = f then (g, v) :: r else (g, x) :: gputF f v r
def gfld (f : Nat) : List (Nat × D) → Option D
  | [] => none
  | (g, x) :: r => if g = f then some x else gfld f r
section
variable {κ : Kx} {m : List Addr} {F : Hp}
theorem IsF.fld {f : Nat} (hf : f < fnames.length) : ∀ {fs : List (Str × V)} {gs : List (Nat × D)}, IsF κ m F fs gs → (∀ d, gfld f gs = some d → ∃ v, fs.lookup (fname f) = some v ∧ Is κ m F v d) ∧ (gfld f gs = none → fs.lookup (fname f) = none)
  | _, _, .nil => ⟨(fun d h => nomatch h), fun _ => rfl⟩
  | _, _, .cons (f := g) (v := v) (d := d) h t => by
    have ih := IsF.fld hf t
    by_cases e : g = f
    · have e1 : (fname f == fname g) = true := beq_iff_eq.mpr (by rw [e])
      simp only [List.lookup, e1, gfld, if_pos e]
      refine ⟨fun d' hd => ?_, fun z => nomatch z⟩
      cases hd
      exact ⟨v, rfl, h⟩
    · have e1 : (fname f == fname g) = false := beq_eq_false_iff_ne.mpr fun z => e ((fname_ne hf).mp z.symm)
      simp only [List.lookup, e1, gfld, if_neg e]
      exact ih
theorem IsF.put {f : Nat} (hf : f < fnames.length) {v : V} {d : D} (i : Is κ m F v d) : ∀ {fs : List (Str × V)} {gs : List (Nat × D)}, IsF κ m F fs gs → IsF κ m F (putF (fname f) v fs) (gputF f d gs)
  | _, _, .nil => .cons i .nil
  | _, _, .cons (f := g) h t => by
    by_cases e : g = f
    · have e1 : fname g = fname f := by rw [e]
      simp only [putF, gputF, if_pos e, if_pos e1]
      exact .cons i t
    · have e1 : ¬ fname g = fname f := fun z => e ((fname_ne hf).mp z)
      simp only [putF, gputF, if_neg e, if_neg e1]
      exact .cons h (IsF.put hf i t)
theorem IsF.length : ∀ {fs : List (Str × V)} {gs : List (Nat × D)}, IsF κ m F fs gs → fs.length = gs.length
  | _, _, .nil => rfl
  | _, _, .cons _ t => congrArg Nat.succ (IsF.length t)
end
/-- the classes fc have plain attributes, and none of them the attribute f by itself -/
def FldOk (K : Fg) (fc : List Nat) (f : Nat) : Prop := ∀ c ∈ fc, Cls K (He.ga K (cname c)) ∧ NoAttr K (He.ga K (cname c)) (fname f)
def fldD (fc : List Nat) (f : Nat) (env : Env) (μ : Mu) (d : D) : Option D := match insOf env μ d with
  | some (c, gs) => if c ∈ fc then gfld f gs else none
  | none => none
def mFld (fc : List Nat) (f : Nat) (Me : EM) : EM := mUn (fldD fc f) Me
section
variable {hx : HX} {X : Cx}
theorem e_fld {e : Expr} {Me : EM} {x : Str} {pos : Pos} (fc : List Nat) (f : Nat) (ex : x = fname f) (hf : f < fnames.length) (ok : FldOk X.K fc f) (he : EOk hx X e Me) (hb : attributeBase e x X.env (eval e X.env) = eval e X.env := by rfl) : EOk hx X (.Attribute e x pos) (mFld fc f Me) := by
  subst ex
  refine fun W tk => impPE (pe_fld (he W tk) hb) fun σ H Q q => ?_
  obtain ⟨w, rfl, rfl, rs, p⟩ := q
  refine ⟨w, rfl, rfl, rs, (PostE.bind p).imp fun x H1 a1 => ?_⟩
  obtain ⟨w1, d1, rfl, e1, rs1, st1, i1, p1⟩ := a1.ex
  obtain ⟨d, e, p3⟩ := PostE.lift p1
  unfold fldD at e
  cases e2 : insOf w1.env w1.μ d1 with
  | none =>
    rw [e2] at e
    cases e
  | some t =>
    obtain ⟨c, gs⟩ := t
    rw [e2] at e
    have e : (if c ∈ fc then gfld f gs else none) = some d := e
    by_cases hc : c ∈ fc
    · rw [if_pos hc] at e
      obtain ⟨a, dx, fs, rfl, _, h1, h2⟩ := ins_heap rs1 i1 e2
      obtain ⟨v, h3, h4⟩ := (IsF.fld hf h2).1 d e
      exact ⟨a, _, dx, fs, v, rfl, h1, (ok c hc).1, (ok c hc).2, h3, post_now rs1 h4.toR p3⟩
    · rw [if_neg hc] at e
      cases e
/-- self.f = e, self the object that is being made: slot i -/
def mSetSelf (i : Nat) (fc : List Nat) (f : Nat) (Me : EM) : SM := fun env μ => (Me env μ).toS fun d env μ => match env[i]? with
  | some (.own (.slf c gs)) => if c ∈ fc ∧ gs.length < 1000 ∧ noLoc d = true then .nx (env.set i (.own (.slf c (gputF f d gs)))) μ else .stk
  | _ => .stk
theorem s_setSelf (i : Nat) {y : Str} {e : Expr} {Me : EM} {x : Str} {pos pos' py : Pos} (fc : List Nat) (f : Nat) (ex : x = fname f) (hf : f < fnames.length) (ok : FldOk X.K fc f) (hN : X.N[i]? = some y) (hv : Vis X.env.scope y) (he : EOk hx X e Me)
    (hs : swapsWith e (some (.Attribute (.Name y py) x pos')) pos.line X.env = pure false := by rfl) (hd : (y == ("__debug__" : Str)) = false := by decide) (hcd : (y == ("__classdict__" : Str)) = false := by decide) :
    SOk hx X (.Assign [.Attribute (.Name y py) x pos'] e pos) (mSetSelf i fc f Me) := by
  subst ex
  refine fun W tk => impPS (ps_fld (pe_var hN hv hd hcd) (he W tk) hs) fun E σ H q => ?_
  obtain ⟨w, rfl, rfl, rs, p⟩ := q
  refine ⟨w, rfl, rfl, rs, (PostS.bindE p).imp fun v H1 ⟨w1, d, e1, e2, rs1, st1, i1, p1⟩ => ?_⟩
  subst e1
  cases q : w1.env[i]? with
  | none =>
    rw [q] at p1
    exact p1.elim
  | some s =>
    rw [q] at p1
    cases s with
    | own c0 =>
      cases c0 with
      | slf c gs =>
        dsimp only at p1
        by_cases h : c ∈ fc ∧ gs.length < 1000 ∧ noLoc d = true
        · rw [if_pos h] at p1
          obtain ⟨l, a, h1, h2, hself, hcs, dx, fs, h3, h4⟩ := rs1.own i _ q
          refine ⟨.ref a, by rw [← e2]; exact h1, a, _, dx, fs, rfl, h3, (ok c h.1).1, (ok c h.1).2, by rw [h4.length]; exact h.2.1, ?_⟩
          have ck : CellOk (kx X hx) w1.m w1.F (upd w1.H a (.ins (He.ga X.K (cname c)) dx (putF (fname f) v fs))) a (.slf c (gputF f d gs)) := ⟨hself, hcs, dx, _, upd_same, h4.put hf (i1.is h.2.2)⟩
          rw [← e2]
          exact p1 (w1.modO i a (.slf c (gputF f d gs)) (.ins (He.ga X.K (cname c)) dx (putF (fname f) v fs))) rfl rfl (rs1.modO ⟨q, h1⟩ trivial ck) (Stp.modO ⟨q, h1⟩)
        · rw [if_neg h] at p1
          exact p1.elim
      | _ => exact p1.elim
    | _ => exact p1.elim
/-- o.f = e, o a cell of the store or an owned object -/
def mSetF (fc : List Nat) (f : Nat) (Mo Me : EM) : SM := fun env μ => (Me env μ).toS fun d env μ => (Mo env μ).toS fun o env μ => match mutOf env μ o with
  | some (.ins c gs) => if c ∈ fc ∧ gs.length < 1000 ∧ noLoc d = true then .nx (putE env o (.ins c (gputF f d gs))) (putM μ o (.ins c (gputF f d gs))) else .stk
  | _ => .stk
theorem s_setF {o e : Expr} {Mo Me : EM} {x : Str} {pos pos' : Pos} (fc : List Nat) (f : Nat) (ex : x = fname f) (hf : f < fnames.length) (ok : FldOk X.K fc f) (ho : EOk hx X o Mo) (he : EOk hx X e Me)
    (hs : swapsWith e (some (.Attribute o x pos')) pos.line X.env = pure false := by rfl) : SOk hx X (.Assign [.Attribute o x pos'] e pos) (mSetF fc f Mo Me) := by
  subst ex
  refine fun W tk => impPS (ps_fld (ho W tk) (he W tk) hs) fun E σ H q => ?_
  obtain ⟨w, rfl, rfl, rs, p⟩ := q
  refine ⟨w, rfl, rfl, rs, (PostS.bindE p).imp fun v H1 ⟨w1, d, e1, e2, rs1, st1, i1, p1⟩ => ?_⟩
  subst e1
  refine ⟨w1, e2, rfl, rs1, (PostS.bindE p1).imp fun vo H2 ⟨w2, od, e3, e4, rs2, st2, i2, p2⟩ => ?_⟩
  subst e3
  cases q : mutOf w2.env w2.μ od with
  | none =>
    rw [q] at p2
    exact p2.elim
  | some c0 =>
    rw [q] at p2
    cases c0 with
    | ins c gs =>
      dsimp only at p2
      by_cases h : c ∈ fc ∧ gs.length < 1000 ∧ noLoc d = true
      · rw [if_pos h] at p2
        obtain ⟨a, rfl, ⟨hcs, dx, fs, h3, h4⟩, wr⟩ := mut_at rs2 i2 q trivial
        obtain ⟨w', g1, g2, g3, g4, g5, g6, g7, g8⟩ := wr (.ins c (gputF f d gs)) (.ins (He.ga X.K (cname c)) dx (putF (fname f) v fs)) trivial ⟨hcs, dx, _, upd_same, h4.put hf ((i1.mono e4 st2.gr).is h.2.2)⟩
        refine ⟨a, _, dx, fs, rfl, h3, (ok c h.1).1, (ok c h.1).2, by rw [h4.length]; exact h.2.1, ?_⟩
        rw [← e2, ← e4, ← g2]
        have e5 : upd w2.H a (.ins (He.ga X.K (cname c)) dx (putF (fname f) v fs)) = w'.H := g1.symm
        show E.nx w'.σ (upd w2.H a (.ins (He.ga X.K (cname c)) dx (putF (fname f) v fs)))
        rw [e5]
        exact p2 w' g3 g4 g7 g8
      · rw [if_neg h] at p2
        exact p2.elim
    | _ => exact p2.elim
end
/-! ### __init__ -/
/-- the promise of an __init__: the object at hand is new -/
def spI (K : Fg) (cs : List Nat) (np c : Nat) (M : List D → Mu → NR) : Sp := fun vs H Q E => ∃ (a dx : Addr) (vs' : List V) (m : List Addr) (F : Hp) (μ : Mu) (Hc : Hp) (ds : List D), vs = .ref a :: vs' ∧ vs.length = np ∧ c ∈ cs ∧ Hc a = none ∧ Hc dx = none ∧ dx ≠ a ∧
  H = upd (upd Hc dx (.own a)) a (.ins (He.ga K (cname c)) dx []) ∧ RS ⟨K, none, cs⟩ (w0 m F μ Hc) ∧ IsL ⟨K, none, cs⟩ m F vs' ds ∧
  match M ds μ with
  | .ok ce _ μ' => ∀ (m' : List Addr) (F' H' : Hp), RS ⟨K, none, cs⟩ (w0 m' F' μ' H') → Stp (w0 m F μ Hc) (w0 m' F' μ' H') → F' a = none → ¬ (w0 m' F' μ' H').Mut a → ce.liveC → CellOk ⟨K, none, cs⟩ m' F' H' a ce → Q .non H'
  | .exc x _ μ' => ∀ (m' : List Addr) (F' H' : Hp) (cls : Value) (dd : Option Addr), RS ⟨K, none, cs⟩ (w0 m' F' μ' H') → Stp (w0 m F μ Hc) (w0 m' F' μ' H') → ExIs ⟨K, none, cs⟩ (w0 m' F' μ' H') x cls dd → E cls dd H'
  | .stk => False
def startI (c nl : Nat) (ds : List D) : Env := .own (.slf c []) :: startD (nl - 1) ds
def endI (c : Nat) (env : DL.Env) (μ : Mu) : NR := match env[0]? with
  | some (DL.Slot.own (Cell.slf c' gs)) => if c' = c then .ok (.ins c gs) [] μ else .stk
  | _ => .stk
def runInit (np nl c : Nat) (body : SM) : List D → Mu → NR := fun ds μ =>
  if ds.length + 1 = np then match body (startI c nl ds) μ with
    | .nx env μ' => endI c env μ'
    | .ret .non env μ' => endI c env μ'
    | .exc x _ μ' => .exc x [] μ'
    | _ => .stk
  else .stk
section
variable {P : Program} {w : World} {K : Fg} {mg : Str → Option Value} {base : Heap} {x qual : Str} {params : Arguments} {body : List Stmt} {scope : Scope} {dvs : List V} {kws : List (Str × V)} {f : Addr} {fd : FuncData} {N ps : List Str} {k : Nat} {cs : List Nat}
theorem start_get {N : List Str} {vs : List V} {i : Nat} (h : vs.length ≤ N.length) : (start N vs)[i]? = if i < vs.length then (vs[i]?).map some else if i < N.length then some none else none := by
  unfold L2.start
  by_cases hi : i < vs.length
  · rw [List.getElem?_append_left (by rw [List.length_map]; exact hi), List.getElem?_map, if_pos hi]
  · rw [List.getElem?_append_right (by rw [List.length_map]; omega), List.getElem?_replicate, List.length_map, if_neg hi]
    by_cases h2 : i < N.length
    · rw [if_pos (by omega), if_pos h2]
    · rw [if_neg (by omega), if_neg h2]
/-- the slots at an __init__'s entry -/
theorem startI_rs {a dx : Addr} {c : Nat} {vs : List V} {ds : List D} {m : List Addr} {F : Hp} {μ : Mu} {Hc : Hp} (hc : c ∈ cs) (ha : Hc a = none) (hd : Hc dx = none) (hne : dx ≠ a) (rs : RS ⟨K, none, cs⟩ (w0 m F μ Hc)) (il : IsL ⟨K, none, cs⟩ m F vs ds) (hl : vs.length + 1 ≤ N.length) :
    RS ⟨K, some (a, .none, none), cs⟩ ⟨m, F, startI c N.length ds, μ, start N (.ref a :: vs), upd (upd Hc dx (.own a)) a (.ins (He.ga K (cname c)) dx [])⟩ ∧
    (∀ i p c', (⟨m, F, startI c N.length ds, μ, start N (.ref a :: vs), upd (upd Hc dx (.own a)) a (.ins (He.ga K (cname c)) dx [])⟩ : W3).isO i p c' → i = 0 ∧ p = a) ∧
    Stp (w0 m F μ Hc) ⟨m, F, startI c N.length ds, μ, start N (.ref a :: vs), upd (upd Hc dx (.own a)) a (.ins (He.ga K (cname c)) dx [])⟩ := by
  have len := il.length
  have rs2 := RS.from0 (κ := ⟨K, some (a, .none, none), cs⟩) rs
  have rs3 : RS ⟨K, some (a, .none, none), cs⟩ ((w0 m F μ Hc).ah dx (.own a)) := rs2.ah hd
  have ha2 : ((w0 m F μ Hc).ah dx (.own a)).H a = none := by
    show upd Hc dx _ a = none
    rw [upd_ne (Ne.symm hne)]
    exact ha
  have rs4 : RS ⟨K, some (a, .none, none), cs⟩ (((w0 m F μ Hc).ah dx (.own a)).ah a (.ins (He.ga K (cname c)) dx [])) := rs3.ah ha2
  have Fa : F a = none := rs.fnone (p := a) ha
  have st : Stp (w0 m F μ Hc) (((w0 m F μ Hc).ah dx (.own a)).ah a (.ins (He.ga K (cname c)) dx [])) := (Stp.ah rs2 hd).trans (Stp.ah rs3 ha2)
  have slots : ∀ j (d : D), (startI c N.length ds)[j]? = some (.d d) → ∃ i, j = i + 1 ∧ ds[i]? = some d := fun j d e => by
    unfold startI at e
    cases j with
    | zero =>
      have e' : some (Slot.own (.slf c [])) = some (Slot.d d) := e
      cases e'
    | succ i =>
      refine ⟨i, rfl, ?_⟩
      have e' : (startD (N.length - 1) ds)[i]? = some (Slot.d d) := e
      unfold startD at e'
      by_cases hi : i < ds.length
      · rw [List.getElem?_append_left (by simpa using hi), List.getElem?_map] at e'
        cases q : ds[i]? with
        | none =>
          rw [q] at e'
          cases e'
        | some d' =>
          rw [q] at e'
          cases e'
          rfl
      · rw [List.getElem?_append_right (by simpa using hi), List.getElem?_replicate] at e'
        split at e' <;> cases e'
  have owns : ∀ j (c' : Cell), (startI c N.length ds)[j]? = some (.own c') → j = 0 ∧ c' = .slf c [] := fun j c' e => by
    unfold startI at e
    cases j with
    | zero =>
      have e' : some (Slot.own (.slf c [])) = some (Slot.own c') := e
      cases e'
      exact ⟨rfl, rfl⟩
    | succ i =>
      have e' : (startD (N.length - 1) ds)[i]? = some (Slot.own c') := e
      unfold startD at e'
      by_cases hi : i < ds.length
      · rw [List.getElem?_append_left (by simpa using hi), List.getElem?_map] at e'
        cases q : ds[i]? with
        | none =>
          rw [q] at e'
          cases e'
        | some d' =>
          rw [q] at e'
          cases e'
      · rw [List.getElem?_append_right (by simpa using hi), List.getElem?_replicate] at e'
        split at e' <;> cases e'
  have lenV : (V.ref a :: vs).length ≤ N.length := by
    rw [List.length_cons]
    exact hl
  have s0 : (start N (.ref a :: vs))[0]? = some (some (.ref a)) := by
    rw [start_get lenV, if_pos (by rw [List.length_cons]; omega)]
    rfl
  have iso : ∀ i p c', (⟨m, F, startI c N.length ds, μ, start N (.ref a :: vs), upd (upd Hc dx (.own a)) a (.ins (He.ga K (cname c)) dx [])⟩ : W3).isO i p c' → i = 0 ∧ p = a := fun i p c' ⟨e1, e2⟩ => by
    obtain ⟨rfl, _⟩ := owns i c' e1
    have e3 : (start N (.ref a :: vs))[0]? = some (some (.ref p)) := e2
    rw [s0] at e3
    cases e3
    exact ⟨rfl, rfl⟩
  have notC : ∀ n c', ¬ (w0 m F μ Hc).isC n a c' := fun n c' h => by
    obtain ⟨o, e⟩ := rs.mutThere (.inl ⟨n, c', h⟩)
    have e' : Hc a = some o := e
    rw [ha] at e'
    cases e'
  refine ⟨⟨rs4.le, rs.lm, ?_, fun j d e => ?_, fun j c' e => ?_, rs4.cel, rs.cc, fun i j p c1 c2 h h' => ?_, fun i n p c1 c2 h h' => ?_⟩, iso, ?_⟩
  · show (startI c N.length ds).length = (start N (.ref a :: vs)).length
    unfold startI startD L2.start
    rw [List.length_cons, List.length_append, List.length_append, List.length_map, List.length_map, List.length_replicate, List.length_replicate, List.length_cons, len]
    omega
  · obtain ⟨i, rfl, e2⟩ := slots j d e
    obtain ⟨v, h1, h2⟩ := il.get e2
    refine ⟨v, ?_, (Is.from0 (κ := ⟨K, some (a, .none, none), cs⟩) h2).slot⟩
    show (start N (.ref a :: vs))[i + 1]? = some (some v)
    have hi : i < vs.length := (List.getElem?_eq_some_iff.mp h1).1
    rw [start_get lenV, if_pos (by rw [List.length_cons]; omega)]
    show (vs[i]?).map some = _
    rw [h1]
    rfl
  · obtain ⟨rfl, rfl⟩ := owns j c' e
    exact ⟨trivial, a, s0, Fa, rfl, hc, dx, [], upd_same, .nil⟩
  · exact (iso _ _ _ h).1.trans (iso _ _ _ h').1.symm
  · obtain ⟨_, rfl⟩ := iso _ _ _ h
    exact notC n c2 h'
  · refine ⟨st.gr, st.kp, fun b h => ?_, st.ff⟩
    rcases h with ⟨n, c', h⟩ | ⟨i, c', h⟩
    · exact .inl (.inl ⟨n, c', h⟩)
    · obtain ⟨_, rfl⟩ := iso _ _ _ h
      exact .inr ha
theorem d_init {Mb : SM} (c : Nat) (F : FunD K x qual params body scope dvs kws f fd) (S : FnScope N ps scope)
    (hb : ∀ (self : Addr) (cdv : Value) (A : Around) (outer : List PySem.Env) (s : Shared) (H : Hp) (E : XK), RoomG k (A.deeper (envOfC qual scope s.heap.objs.size f cdv)) → BOk ⟨some (self, .none, none), cs⟩ (cxOf (L2.CX P w) P w K mg base N qual scope f cdv A outer s H E) body Mb) :
    FnG P w K mg base (L2.CX P w) (k + 1) f fd ps (spI K cs ps.length c (runInit ps.length N.length c Mb)) := by
  refine fn_G F S (fun vs H Q E h => ?_) (fun cdv A outer s H vs Q E hr h => ?_)
  · obtain ⟨a, dx, vs', m, F0, μ, Hc, ds, _, hl, _⟩ := h
    exact hl
  · obtain ⟨a, dx, vs', m, F0, μ, Hc, ds, rfl, hl, hc, ha, hd, hne, rfl, rs, il, post⟩ := h
    have tk : Takes (cxOf (L2.CX P w) P w K mg base N qual scope f cdv A outer s (upd (upd Hc dx (.own a)) a (.ins (He.ga K (cname c)) dx [])) E) (fun cls d _ H => E cls d H) := takes_of rfl rfl rfl rfl
    refine ⟨_, hb a cdv A outer s _ E hr _ tk, ?_⟩
    have hpl : ps.length ≤ N.length := by
      have := congrArg List.length S.pre
      rw [List.length_take] at this
      omega
    have hl1 : vs'.length + 1 = ps.length := by
      rw [List.length_cons] at hl
      exact hl
    obtain ⟨rs1, iso, st1⟩ := startI_rs (N := N) hc ha hd hne rs il (by omega)
    refine ⟨_, rfl, rfl, rs1, ?_⟩
    unfold runInit at post
    rw [if_pos (show ds.length + 1 = ps.length from by rw [← il.length]; exact hl1)] at post
    show PostS _ _ _ (Mb (startI c N.length ds) μ) _
    have fin : ∀ {env' : Env} {μ' : Mu}, (match endI c env' μ' with
        | .ok ce _ μ' => ∀ (m' : List Addr) (F' H' : Hp), RS ⟨K, none, cs⟩ (w0 m' F' μ' H') → Stp (w0 m F0 μ Hc) (w0 m' F' μ' H') → F' a = none → ¬ (w0 m' F' μ' H').Mut a → ce.liveC → CellOk ⟨K, none, cs⟩ m' F' H' a ce → Q .non H'
        | .exc x _ μ' => ∀ (m' : List Addr) (F' H' : Hp) (cls : Value) (dd : Option Addr), RS ⟨K, none, cs⟩ (w0 m' F' μ' H') → Stp (w0 m F0 μ Hc) (w0 m' F' μ' H') → ExIs ⟨K, none, cs⟩ (w0 m' F' μ' H') x cls dd → E cls dd H'
        | .stk => False) → ∀ w' : W3, w'.env = env' → w'.μ = μ' → RS ⟨K, some (a, .none, none), cs⟩ w' → Stp ⟨m, F0, startI c N.length ds, μ, start N (.ref a :: vs'), upd (upd Hc dx (.own a)) a (.ins (He.ga K (cname c)) dx [])⟩ w' → Q .non w'.H := by
      intro env' μ' post w' e1 e2 rs' st
      subst e1 e2
      unfold endI at post
      cases q : w'.env[0]? with
      | none =>
        rw [q] at post
        exact post.elim
      | some sl =>
        rw [q] at post
        cases sl with
        | own c0 =>
          cases c0 with
          | slf c' gs =>
            dsimp only at post
            by_cases hcc : c' = c
            · rw [if_pos hcc] at post
              subst hcc
              obtain ⟨_, a', e3, e4, hself, hcs, dx', fs, h3, h4⟩ := rs'.own 0 _ q
              have ea : a' = a := by
                have z : some (a, Value.none, (none : Option Addr)) = some (a', Value.none, none) := hself
                cases z
                rfl
              subst ea
              have rs0 : RS ⟨K, none, cs⟩ (w0 w'.m w'.F w'.μ w'.H) := (rs'.drop).to0 noX_self
              have nm : ¬ (w0 w'.m w'.F w'.μ w'.H).Mut a' := fun z => by
                obtain ⟨n, c2, z⟩ := mut0 z
                exact rs'.oc 0 n a' _ c2 ⟨q, e3⟩ z
              have stt : Stp (w0 m F0 μ Hc) w' := st1.trans st
              have st0 : Stp (w0 m F0 μ Hc) (w0 w'.m w'.F w'.μ w'.H) := ⟨stt.gr, stt.kp, fun b h => stt.fr b (mut_drop h), stt.ff⟩
              exact post w'.m w'.F w'.H rs0 st0 e4 nm trivial ⟨hcs, dx', fs, h3, h4.to0 noX_self⟩
            · rw [if_neg hcc] at post
              exact post.elim
          | _ => exact post.elim
        | _ => exact post.elim
    cases e : Mb (startI c N.length ds) μ with
    | nx env' μ' =>
      rw [e] at post
      exact fun w' e1 e2 rs' st => fin post w' e1 e2 rs' st
    | ret d env' μ' =>
      rw [e] at post
      cases d with
      | non =>
        intro w' v e1 e2 rs' st i
        cases i
        exact fin post w' e1 e2 rs' st
      | _ => exact post.elim
    | exc d env' μ' =>
      rw [e] at post
      intro w' cls dd e1 e2 rs' st i
      subst e2
      have stt : Stp (w0 m F0 μ Hc) w' := st1.trans st
      have st0 : Stp (w0 m F0 μ Hc) (w0 w'.m w'.F w'.μ w'.H) := ⟨stt.gr, stt.kp, fun b h => stt.fr b (mut_drop h), stt.ff⟩
      obtain ⟨i1, d1, fs, i2, i3, i4⟩ := i
      exact post w'.m w'.F w'.H cls dd ((rs'.drop).to0 noX_self) st0 ⟨i1, d1, fs, i2, i3, i4.to0 noX_self⟩
    | bk _ _ =>
      rw [e] at post
      exact post.elim
    | ct _ _ =>
      rw [e] at post
      exact post.elim
    | stk =>
      rw [e] at post
      exact post.elim
end
end DL
set_option Elab.async false
set_option linter.all false
set_option maxRecDepth 100000
set_option maxHeartbeats 4000000
namespace DL
open PySem PySem.Spec PyProof.Rows L2
/-! ### a class is called -/
section
variable {X : Cx} {n k : Nat} {ks : List Str}
theorem run_makeG {CX : CXT} {f C : Addr} {fd : FuncData} {ps : List Str} {sp : Sp} {E : L2.St → XK} {sel : List Sel} {dvs : List V} (M : Mk X.K C f) (F : FnG X.prog X.w X.K X.mg X.base CX k f fd ps sp) (hr : RoomG (k + 1) X.A) (hb : KB X.K fd ps (n + 1) ks sel dvs) (hx : ∀ σ, PassesAt CX X σ (E σ)) :
    RunU X (.ref C) [] n ks (fun vs zs σ H Q => ∀ a dx, H a = none → H dx = none → dx ≠ a → sp (selG .non sel (.ref a :: vs) zs dvs) (upd (upd H dx (.own a)) a (.ins C dx [])) (fun v H2 => v = .non ∧ Q (.ref a) H2) (E σ)) := by
  obtain ⟨its, hb⟩ := hb
  intro pins s σ H us ws vs zs Q I r rz l1 l2 h
  have hq := h (s.heap.objs.size + 1) s.heap.objs.size (I.hok.fresh (Nat.le_succ _)) (I.hok.fresh (Nat.le_refl _)) (Nat.ne_of_lt (Nat.lt_succ_self _))
  have I2 := Inv.made (C := C) I
  have r1 : Vals (V.ref (s.heap.objs.size + 1) :: vs) (Value.ref (s.heap.objs.size + 1) :: us) := .cons rfl r
  have n1 : (Value.ref (s.heap.objs.size + 1) :: us).length = n + 1 := by rw [List.length_cons, ← r.length, l1]
  refine wpAny_call (make_map (f := f) I.kIn M.makes M.init (beq_iff_eq.mp M.fn) (codeAny_mono (F.run _ X.stack _ _ ⟨Value.ref (s.heap.objs.size + 1) :: us, ks.zip ws⟩ _ _ _ (E σ) (hr.make C us (ks.zip ws)) (I2.env0.make C us (ks.zip ws)) (hb.to _ _ ws I2.kIn n1 (rz.length.symm.trans l2)) (hb.rel r1 rz) hq) fun r s' hq' => ?_))
  cases r with
  | error e => exact hx σ pins _ _ e s' I2 hq'
  | ok fl =>
    cases fl with
    | ret u =>
      obtain ⟨v, H', I3, rv, ev, q3⟩ := I2.after hq'
      subst ev
      exact ⟨rv, ⟨V.ref (s.heap.objs.size + 1), H', I3, rfl, q3⟩⟩
    | next => exact hq'.elim
    | brk => exact hq'.elim
    | cont => exact hq'.elim
end
def selNo0 : List Sel → Bool
  | [] => true
  | .p 0 :: _ => false
  | _ :: r => selNo0 r
theorem sel_no0 {α : Type} (z a b : α) (us ws its : List α) : ∀ {sel : List Sel}, selNo0 sel = true → selG z sel (a :: us) ws its = selG z sel (b :: us) ws its
  | [], _ => rfl
  | .p 0 :: r, h => by cases h
  | .p (i + 1) :: r, h => by
    have ih := sel_no0 z a b us ws its (sel := r) h
    unfold selG at ih ⊢
    rw [List.map_cons, List.map_cons, ih]
    rfl
  | .k i :: r, h => by
    have ih := sel_no0 z a b us ws its (sel := r) h
    unfold selG at ih ⊢
    rw [List.map_cons, List.map_cons, ih]
  | .d i :: r, h => by
    have ih := sel_no0 z a b us ws its (sel := r) h
    unfold selG at ih ⊢
    rw [List.map_cons, List.map_cons, ih]
def runI (M : List D → Mu → NR) (ds : List D) : NM := fun env μ =>
  if ds.all noLoc = true then match M ds μ with
    | .ok ce _ μ' => if ce matches .slf _ _ then .stk else if ce matches .dead then .stk else .ok ce env μ'
    | .exc x _ μ' => .exc x env μ'
    | .stk => .stk
  else .stk
def mMakeU (M : List D → Mu → NR) (sel : List Sel) (dd : List D) (Ma Mk : AM) : NM := fun env μ => (Ma env μ).toN fun ds env μ => (Mk env μ).toN fun es env μ => runI M (selG .non sel (.non :: ds) es dd) env μ
section
variable {X : Cx} {hx : HX}
theorem runI_sp {W : WX} {w : W3} {M : List D → Mu → NR} {np c : Nat} {vs : List V} {ds : List D} {Q : VK} (nx : NoX (kx X hx)) (hc : c ∈ hx.cs) (rs : RS (kx X hx) w) (il : IsRL (kx X hx) w vs ds) (hl : vs.length + 1 = np) (p : PostN (kx X hx) W w (runI M ds w.env w.μ) Q)
    (a dx : Addr) (ha : w.H a = none) (hd : w.H dx = none) (hne : dx ≠ a) :
    spI X.K hx.cs np c M (.ref a :: vs) (upd (upd w.H dx (.own a)) a (.ins (He.ga X.K (cname c)) dx [])) (fun v H2 => v = .non ∧ Q (.ref a) H2) (WE W w.σ) := by
  unfold runI at p
  by_cases hn : ds.all noLoc = true
  · rw [if_pos hn] at p
    refine ⟨a, dx, vs, w.m, w.F, w.μ, w.H, ds, rfl, by rw [List.length_cons]; exact hl, hc, ha, hd, hne, rfl, (rs.drop).to0 nx, (il.is hn).to0 nx, ?_⟩
    cases e : M ds w.μ with
    | stk =>
      rw [e] at p
      exact p.elim
    | ok ce env' μ' =>
      rw [e] at p
      dsimp only at p
      intro m' F' H' rs' st fa nm lc ck
      obtain ⟨r1, s1⟩ := rs.back (RS.from0 (κ := kx X hx) rs') st
      refine ⟨rfl, ?_⟩
      have fin : PostN (kx X hx) W w (.ok ce w.env μ') Q → Q (.ref a) H' := fun p => p ⟨m', F', w.env, μ', w.σ, H'⟩ a rfl rfl rfl r1 s1 (.inr ha) fa (fun z => by
        rcases z with ⟨n, c', z⟩ | ⟨i, c', z⟩
        · exact nm (.inl ⟨n, c', z⟩)
        · obtain ⟨o, eo⟩ := rs.mutThere (a := a) (.inr ⟨i, c', z.1, z.2⟩)
          rw [ha] at eo
          cases eo) lc.live (CellOk.from0 (κ := kx X hx) lc ck)
      cases ce with
      | slf _ _ => exact lc.elim
      | dead => exact lc.elim
      | lst _ => exact fin p
      | dct _ _ => exact fin p
      | ins _ _ => exact fin p
    | exc x env' μ' =>
      rw [e] at p
      intro m' F' H' cls dd rs' st i
      obtain ⟨r1, s1⟩ := rs.back (RS.from0 (κ := kx X hx) rs') st
      exact p ⟨m', F', w.env, μ', w.σ, H'⟩ cls dd rfl rfl rfl r1 s1 (ExIs.from0 (κ := kx X hx) (w := ⟨m', F', w.env, μ', w.σ, H'⟩) i)
  · rw [if_neg hn] at p
    exact p.elim
theorem makeU_of {W : WX} {M : List D → Mu → NR} {np n m c : Nat} {sel : List Sel} {dvs : List V} {Ma Mk : AM} (nx : NoX (kx X hx)) (hc : c ∈ hx.cs) (hv : dvs.all isLit = true) (hnp : sel.length + 1 = np) (h0 : selNo0 sel = true)
    (hla : ∀ env μ ds env' μ', Ma env μ = .ok ds env' μ' → ds.length = n) (hlk : ∀ env μ ds env' μ', Mk env μ = .ok ds env' μ' → ds.length = m) {σ : L2.St} {H : Hp} {Q : VK} (h : rdN (kx X hx) W (mMakeU M sel (dvs.map litV) Ma Mk) σ H Q) :
    tU n m (fun vs zs σ H Q => ∀ a dx, H a = none → H dx = none → dx ≠ a → spI X.K hx.cs np c M (selG .non (.p 0 :: sel) (.ref a :: vs) zs dvs) (upd (upd H dx (.own a)) a (.ins (He.ga X.K (cname c)) dx [])) (fun v H2 => v = .non ∧ Q (.ref a) H2) (WE W σ)) (rdA (kx X hx) W Ma) (rdA (kx X hx) W Mk) σ H Q := by
  obtain ⟨w, rfl, rfl, rs, p⟩ := h
  unfold mMakeU at p
  refine ⟨w, rfl, rfl, rs, ?_⟩
  cases em : Ma w.env w.μ with
  | stk =>
    rw [em] at p
    exact p.elim
  | exc x env' μ' =>
    rw [em] at p
    exact p
  | ok ds' env' μ' =>
    have p' : PostN (kx X hx) W w ((Mk env' μ').toN fun es env μ => runI M (selG .non sel (.non :: ds') es (dvs.map litV)) env μ) Q := by
      rw [em] at p
      exact p
    intro w1 vs e1 e2 e3 rs1 st1 i1
    subst e2 e3
    refine ⟨w1, e1, rfl, rs1, ?_⟩
    cases ek : Mk w1.env w1.μ with
    | stk =>
      rw [ek] at p'
      exact p'.elim
    | exc x env' μ' =>
      rw [ek] at p'
      exact fun w' cls dd a1 a2 a3 rs' st i => p' w' cls dd (a1.trans e1) a2 a3 rs' (st1.trans st) i
    | ok es' env2 μ2 =>
      rw [ek] at p'
      intro w2 zs a1 a2 a3 rs2 st2 i2
      subst a2 a3
      have h1 := hla _ _ _ _ _ em
      have h2 := hlk _ _ _ _ _ ek
      refine ⟨i1.length.trans h1, i2.length.trans h2, fun a dx ha hd hne => ?_⟩
      have inon : IsR (kx X hx) w2 .non .non := (Is.non : Is (kx X hx) w2.m w2.F .non .non)
      have il := isRL_sel (.cons inon (i1.mono a1 st2.gr)) i2 (lits_is (κ := kx X hx) (w := w2) hv) sel
      rw [sel_no0 .non .non (.ref a) vs zs dvs h0] at il
      have r := runI_sp (c := c) (np := np) (Q := Q) nx hc rs2 il (by unfold selG; rw [List.length_map]; exact hnp) (PostN.step (a1.trans e1) (st1.trans st2) p') a dx ha hd hne
      rw [a1, e1] at r
      exact r
section
variable {x : Str} {p pos : Pos} {e : Expr} {es : List Expr} {kws : List Keyword} {Ma Mk : AM} {M : List D → Mu → NR} {n k c : Nat} {f : Addr} {fd : FuncData} {ps : List Str} {dvs : List V} {ks : List Str} {sel : List Sel}
theorem n_make (nx : NoX (kx X hx)) (hc : c ∈ hx.cs) (mk : L2.Mk X.K (He.ga X.K (cname c)) f) (F : FnG X.prog X.w X.K X.mg X.base (L2.CX X.prog X.w) k f fd ps (spI X.K hx.cs ps.length c M)) (hr : RoomG (k + 1) X.A) (hg : Gl X x) (hm : X.mg x = some (.ref (He.ga X.K (cname c)))) (hb : KB X.K fd ps (n + 1) [] (.p 0 :: sel) dvs)
    (hv : dvs.all isLit = true) (hnp : sel.length + 1 = ps.length) (h0 : selNo0 sel = true) (ha : AOk hx X (e :: es) Ma) (hla : ∀ env μ ds env' μ', Ma env μ = .ok ds env' μ' → ds.length = n)
    (hdb : (x == ("__debug__" : Str)) = false := by decide) (he : starEach (e :: es) X.env = (false, eval e X.env) :: starEach es X.env := by rfl) (hpl : (backTo pos (starEach es X.env)).any (·.1) = false := by rfl) :
    NOk hx X (.Call (.Name x p) (e :: es) [] pos) (mMakeU M sel (dvs.map litV) Ma aNil) := by
  refine fun W tk => impPE (pu_pos (run_makeG (n := n) mk F hr hb (fun σ => passAt tk σ)) hg hm mk.kp (ha W tk) hdb he hpl) fun σ H Q q => ?_
  have q2 := makeU_of (m := 0) nx hc hv hnp h0 hla (fun _ _ _ _ _ z => by cases z; rfl) q
  obtain ⟨w0, e1, e2, rs0, q2⟩ := q2
  refine ⟨w0, e1, e2, rs0, PostA.imp q2 fun vs H1 q3 => ?_⟩
  obtain ⟨w1, e3, e4, rs1, q4⟩ := q3
  obtain ⟨l1, l2, q5⟩ := q4 w1 [] rfl rfl rfl rs1 (.refl _) .nil
  rw [e4] at q5
  exact ⟨l1, l2, q5⟩
theorem n_makeK (nx : NoX (kx X hx)) (hc : c ∈ hx.cs) (mk : L2.Mk X.K (He.ga X.K (cname c)) f) (F : FnG X.prog X.w X.K X.mg X.base (L2.CX X.prog X.w) k f fd ps (spI X.K hx.cs ps.length c M)) (hr : RoomG (k + 1) X.A) (hg : Gl X x) (hm : X.mg x = some (.ref (He.ga X.K (cname c)))) (hb : KB X.K fd ps (n + 1) ks (.p 0 :: sel) dvs)
    (hv : dvs.all isLit = true) (hnp : sel.length + 1 = ps.length) (h0 : selNo0 sel = true) (ha : AOk hx X (e :: es) Ma) (hkw : KOk hx X kws Mk) (hla : ∀ env μ ds env' μ', Ma env μ = .ok ds env' μ' → ds.length = n) (hlk : ∀ env μ ds env' μ', Mk env μ = .ok ds env' μ' → ds.length = ks.length)
    (hall : (backToKw pos (keywordEach kws X.env)).all (·.1.isSome) = true := by rfl) (hks : (backToKw pos (keywordEach kws X.env)).filterMap (·.1) = ks := by rfl) (hdb : (x == ("__debug__" : Str)) = false := by decide)
    (he : starEach (e :: es) X.env = (false, eval e X.env) :: starEach es X.env := by rfl) (hpl : ((backTo pos (starEach (e :: es) X.env)).any (·.1) || (backToKw pos (keywordEach kws X.env)).any (·.1.isNone)) = false := by rfl) :
    NOk hx X (.Call (.Name x p) (e :: es) kws pos) (mMakeU M sel (dvs.map litV) Ma Mk) :=
  fun W tk => impPE (pu_kw (run_makeG (n := n) mk F hr hb (fun σ => passAt tk σ)) hg hm mk.kp (ha W tk) (hkw W tk) hall hks hdb he hpl) fun σ H Q q => makeU_of nx hc hv hnp h0 hla hlk q
theorem n_makeK0 (nx : NoX (kx X hx)) (hc : c ∈ hx.cs) (mk : L2.Mk X.K (He.ga X.K (cname c)) f) (F : FnG X.prog X.w X.K X.mg X.base (L2.CX X.prog X.w) k f fd ps (spI X.K hx.cs ps.length c M)) (hr : RoomG (k + 1) X.A) (hg : Gl X x) (hm : X.mg x = some (.ref (He.ga X.K (cname c)))) (hb : KB X.K fd ps 1 ks (.p 0 :: sel) dvs)
    (hv : dvs.all isLit = true) (hnp : sel.length + 1 = ps.length) (h0 : selNo0 sel = true) (hkw : KOk hx X kws Mk) (hlk : ∀ env μ ds env' μ', Mk env μ = .ok ds env' μ' → ds.length = ks.length)
    (hall : (backToKw pos (keywordEach kws X.env)).all (·.1.isSome) = true := by rfl) (hks : (backToKw pos (keywordEach kws X.env)).filterMap (·.1) = ks := by rfl) (hdb : (x == ("__debug__" : Str)) = false := by decide)
    (hpl : ((backTo pos (starEach [] X.env)).any (·.1) || (backToKw pos (keywordEach kws X.env)).any (·.1.isNone)) = false := by rfl) :
    NOk hx X (.Call (.Name x p) [] kws pos) (mMakeU M sel (dvs.map litV) aNil Mk) := by
  refine fun W tk => impPE (pu_kw0 (run_makeG (n := 0) mk F hr hb (fun σ => passAt tk σ)) hg hm mk.kp (hkw W tk) hall hks hdb hpl) fun σ H Q q => ?_
  have q2 := makeU_of (n := 0) nx hc hv hnp h0 (fun _ _ _ _ _ z => by cases z; rfl) hlk q
  obtain ⟨w, rfl, rfl, rs, q3⟩ := q2
  exact q3 w [] rfl rfl rfl rs (.refl _) .nil
end
/-! ### keyword arguments -/
theorem k_nil : KOk hx X [] aNil := by
  refine fun W tk => impPK pk_nil fun σ H Q q => ?_
  obtain ⟨w, rfl, rfl, rs, p⟩ := q
  exact p w [] rfl rfl rfl rs (.refl _) .nil
theorem k_cons {nm : Option Str} {e : Expr} {kpos : Pos} {kws : List Keyword} {Me : EM} {Ma : AM} (he : EOk hx X e Me) (ha : KOk hx X kws Ma) : KOk hx X (⟨nm, e, kpos⟩ :: kws) (aCons Me Ma) :=
  fun W tk => impPK (pk_cons (he W tk) (ha W tk)) fun _ _ _ h => a_of (fun _ _ _ h => h) (fun _ _ _ h => h) h
/-! ### methods -/
section
variable {o e : Expr} {es : List Expr} {kws : List Keyword} {to : TE} {ta tk : TA} {C f : Addr} {m : Str} {apos pos : Pos} {n : Nat} {ks : List Str} {t : Addr → List V → List V → L2.St → Hp → VK → Prop} {pl : Sem Bool}
def tM (C : Addr) (m : Str) (to : TE) (t : Addr → TE) : TE := fun σ H Q => to σ H fun x H1 => ∃ a dx fs, x = .ref a ∧ H1 a = some (.ins C dx fs) ∧ fs.lookup m = none ∧ t a σ H1 Q
theorem pm_pos (ho : PE X o to) (c : Cls X.K C) (hm : Meth X.K C m f) (U : ∀ a, RunU X (.ref f) [(.ref a, .ref a)] n [] (t a)) (ha : PA X (e :: es) ta)
    (hst : starEach (e :: es) X.env = (false, eval e X.env) :: starEach es X.env := by rfl) (hpl : (backTo pos (starEach es X.env)).any (·.1) = false := by rfl)
    (ht : eval (.Call (.Attribute o m apos) (e :: es) [] pos) X.env = (do
      let ov ← eval o X.env
      standAt apos.atName
      let (f, first) ← holding [ov] (getMethod ov m pl)
      callWith pos f first (backTo pos (starEach (e :: es) X.env)) (backToKw pos (keywordEach [] X.env))) := by rfl) :
    PE X (.Call (.Attribute o m apos) (e :: es) [] pos) (tM C m to fun a => tU n 0 (t a) ta tNil) := by
  refine ⟨fun pins s σ H Q I h => ?_⟩
  refine PySem.W.methodCall_KW (pl := pl) (thn (ho.run pins s σ H _ I h) fun u s1 ⟨x, H1, I1, rx, a, dx, fs, ex, ea, l, q⟩ => ?_) ht
  subst ex
  obtain rfl : u = Value.ref a := rx
  refine getmeth_ok I1 ea c hm l ?_
  refine PySem.W.callWith_K (first := [.ref a]) (h₀ := X.base) I.ok.mod.kin hm.kp (thn (ha.run pos pins s1 σ H1 _ I1 q) fun us s2 ⟨vs, H2, I2, r, l1, l2, q2⟩ => ⟨I2.kIn, ?_⟩) hst hpl
  exact U a pins s2 σ H2 us [] vs [] Q I2 r .nil l1 rfl q2
theorem pm_kw0 (ho : PE X o to) (c : Cls X.K C) (hm : Meth X.K C m f) (U : ∀ a, RunU X (.ref f) [(.ref a, .ref a)] 0 ks (t a)) (hkw : PK X kws tk)
    (hall : (backToKw pos (keywordEach kws X.env)).all (·.1.isSome) = true := by rfl) (hks : (backToKw pos (keywordEach kws X.env)).filterMap (·.1) = ks := by rfl)
    (hpl : ((backTo pos (starEach [] X.env)).any (·.1) || (backToKw pos (keywordEach kws X.env)).any (·.1.isNone)) = false := by rfl)
    (ht : eval (.Call (.Attribute o m apos) [] kws pos) X.env = (do
      let ov ← eval o X.env
      standAt apos.atName
      let (f, first) ← holding [ov] (getMethod ov m pl)
      callWith pos f first (backTo pos (starEach [] X.env)) (backToKw pos (keywordEach kws X.env))) := by rfl) :
    PE X (.Call (.Attribute o m apos) [] kws pos) (tM C m to fun a => tU 0 ks.length (t a) tNil tk) := by
  refine ⟨fun pins s σ H Q I h => ?_⟩
  refine PySem.W.methodCall_KW (pl := pl) (thn (ho.run pins s σ H _ I h) fun u s1 ⟨x, H1, I1, rx, a, dx, fs, ex, ea, l, q⟩ => ?_) ht
  subst ex
  obtain rfl : u = Value.ref a := rx
  refine getmeth_ok I1 ea c hm l ?_
  refine PySem.W.callWith_KW0 (first := [.ref a]) (h₀ := X.base) I.ok.mod.kin hm.kp hall ?_ hpl
  refine thn (hkw.run pos pins s1 σ H1 _ I1 q) fun ws s2 ⟨zs, H2, I2, rz, l1, l2, q2⟩ => ⟨I2.kIn, ?_⟩
  rw [hks]
  exact U a pins s2 σ H2 [] ws [] zs Q I2 .nil rz rfl l2 q2
theorem pm_none (ho : PE X o to) (c : Cls X.K C) (hm : Meth X.K C m f) (U : ∀ a, RunU X (.ref f) [(.ref a, .ref a)] 0 [] (t a))
    (ht : eval (.Call (.Attribute o m apos) [] [] pos) X.env = (do
      let ov ← eval o X.env
      standAt apos.atName
      let (f, first) ← holding [ov] (getMethod ov m pl)
      callWith pos f first (backTo pos (starEach [] X.env)) (backToKw pos (keywordEach [] X.env))) := by rfl) :
    PE X (.Call (.Attribute o m apos) [] [] pos) (tM C m to fun a => tU 0 0 (t a) tNil tNil) := by
  refine ⟨fun pins s σ H Q I h => ?_⟩
  refine PySem.W.methodCall_KW (pl := pl) (thn (ho.run pins s σ H _ I h) fun u s1 ⟨x, H1, I1, rx, a, dx, fs, ex, ea, l, q⟩ => ?_) ht
  subst ex
  obtain rfl : u = Value.ref a := rx
  refine getmeth_ok I1 ea c hm l ?_
  exact PySem.W.callWith_K0 (first := [.ref a]) I1.kIn hm.kp (U a pins s1 σ H1 [] [] [] [] Q I1 .nil .nil rfl rfl q.2.2)
end
/-- no field has the method's name -/
def notFld (m : Str) : Bool := !(fnames.contains m) && !(m == "?")
theorem IsF.noMeth {κ : Kx} {mm : List Addr} {F : Hp} {m : Str} (h : notFld m = true) : ∀ {fs : List (Str × V)} {gs : List (Nat × D)}, IsF κ mm F fs gs → fs.lookup m = none
  | _, _, .nil => rfl
  | _, _, .cons (f := g) _ t => by
    have ih := IsF.noMeth h t
    have e : (m == fname g) = false := by
      refine beq_eq_false_iff_ne.mpr fun z => ?_
      unfold notFld at h
      rw [Bool.and_eq_true] at h
      obtain ⟨h1, h2⟩ := h
      by_cases hg : g < fnames.length
      · have eg : fnames[g]? = some (fname g) := by
          unfold fname
          rw [List.getD_eq_getElem?_getD, List.getElem?_eq_getElem hg]
          rfl
        rw [← z] at eg
        have := List.contains_iff_mem.mpr (List.mem_of_getElem? eg)
        rw [this] at h1
        cases h1
      · have eg : fname g = "?" := by
          unfold fname
          rw [List.getD_eq_getElem?_getD, List.getElem?_eq_none (by omega)]
          rfl
        rw [eg] at z
        rw [z] at h2
        simp at h2
    simp only [List.lookup, e]
    exact ih
def mMethU (c : Nat) (M : FM) (sel : List Sel) (dd : List D) (Mo : EM) (Ma Mk : AM) : EM := fun env μ => (Mo env μ).bind fun o env μ => match insOf env μ o with
  | some (c', _) => if c' = c then (Ma env μ).toE fun ds env μ => (Mk env μ).toE fun es env μ => runF M (selG .non sel (o :: ds) es dd) env μ else .stk
  | none => .stk
theorem methU_of {W : WX} {M : FM} {np n m : Nat} {sel : List Sel} {dvs : List V} {Ma Mk : AM} (nx : NoX (kx X hx)) (hv : dvs.all isLit = true) (hnp : sel.length = np)
    (hla : ∀ env μ ds env' μ', Ma env μ = .ok ds env' μ' → ds.length = n) (hlk : ∀ env μ ds env' μ', Mk env μ = .ok ds env' μ' → ds.length = m) {w : W3} {a : Addr} {o : D} {Q : VK} (rs : RS (kx X hx) w) (io : IsR (kx X hx) w (.ref a) o)
    (p : PostE (kx X hx) W w ((Ma w.env w.μ).toE fun ds env μ => (Mk env μ).toE fun es env μ => runF M (selG .non sel (o :: ds) es (dvs.map litV)) env μ) Q) :
    tU n m (fun vs zs σ H Q => spF ⟨X.K, none, hx.cs⟩ np M (selG .non sel ([(V.ref a, Value.ref a)].map (·.1) ++ vs) zs dvs) H Q (WE W σ)) (rdA (kx X hx) W Ma) (rdA (kx X hx) W Mk) w.σ w.H Q := by
  refine ⟨w, rfl, rfl, rs, ?_⟩
  cases em : Ma w.env w.μ with
  | stk =>
    rw [em] at p
    exact p.elim
  | exc x env' μ' =>
    rw [em] at p
    exact p
  | ok ds' env' μ' =>
    have p' : PostE (kx X hx) W w ((Mk env' μ').toE fun es env μ => runF M (selG .non sel (o :: ds') es (dvs.map litV)) env μ) Q := by
      rw [em] at p
      exact p
    intro w1 vs e1 e2 e3 rs1 st1 i1
    subst e2 e3
    refine ⟨w1, e1, rfl, rs1, ?_⟩
    cases ek : Mk w1.env w1.μ with
    | stk =>
      rw [ek] at p'
      exact p'.elim
    | exc x env' μ' =>
      rw [ek] at p'
      exact fun w' cls dd a1 a2 a3 rs' st i => p' w' cls dd (a1.trans e1) a2 a3 rs' (st1.trans st) i
    | ok es' env2 μ2 =>
      rw [ek] at p'
      intro w2 zs a1 a2 a3 rs2 st2 i2
      subst a2 a3
      have h1 := hla _ _ _ _ _ em
      have h2 := hlk _ _ _ _ _ ek
      refine ⟨i1.length.trans h1, i2.length.trans h2, ?_⟩
      have il := isRL_sel (.cons ((io.mono e1 st1.gr).mono a1 st2.gr) (i1.mono a1 st2.gr)) i2 (lits_is (κ := kx X hx) (w := w2) hv) sel
      have r := runF_sp (h0 := hx) (np := np) (Q := Q) nx rs2 il (by unfold selG; rw [List.length_map]; exact hnp) (PostE.step (a1.trans e1) (st1.trans st2) p')
      rw [a1, e1] at r
      exact r
section
variable {o e : Expr} {es : List Expr} {kws : List Keyword} {Mo : EM} {Ma Mk : AM} {M : FM} {n k c : Nat} {f : Addr} {fd : FuncData} {ps : List Str} {dvs : List V} {ks : List Str} {sel : List Sel} {m : Str} {apos pos : Pos} {pl : Sem Bool}
theorem meth_pre {W : WX} {t : Addr → TE} (hm : notFld m = true) {M2 : D → EM} (h : ∀ (w : W3) (a : Addr) (o : D) (Q : VK), RS (kx X hx) w → IsR (kx X hx) w (.ref a) o → PostE (kx X hx) W w (M2 o w.env w.μ) Q → t a w.σ w.H Q) {σ : L2.St} {H : Hp} {Q : VK}
    (q : rdE (kx X hx) W (Mo.bind fun o env μ => match insOf env μ o with
      | some (c', _) => if c' = c then M2 o env μ else .stk
      | none => .stk) σ H Q) : tM (He.ga X.K (cname c)) m (rdE (kx X hx) W Mo) t σ H Q := by
  obtain ⟨w, rfl, rfl, rs, p⟩ := q
  refine ⟨w, rfl, rfl, rs, (PostE.bind p).imp fun x H1 a1 => ?_⟩
  obtain ⟨w1, d1, rfl, e1, rs1, st1, i1, p1⟩ := a1.ex
  cases e2 : insOf w1.env w1.μ d1 with
  | none =>
    rw [e2] at p1
    exact p1.elim
  | some t' =>
    obtain ⟨c', gs⟩ := t'
    rw [e2] at p1
    dsimp only at p1
    by_cases hc : c' = c
    · rw [if_pos hc] at p1
      subst hc
      obtain ⟨a, dx, fs, rfl, _, h1, h2⟩ := ins_heap rs1 i1 e2
      refine ⟨a, dx, fs, rfl, h1, h2.noMeth hm, ?_⟩
      have r := h w1 a d1 Q rs1 i1 p1
      rw [e1] at r
      exact r
    · rw [if_neg hc] at p1
      exact p1.elim
theorem e_meth (nx : NoX (kx X hx)) (hmf : notFld m = true) (cl : Cls X.K (He.ga X.K (cname c))) (hm : Meth X.K (He.ga X.K (cname c)) m f) (F : FnG X.prog X.w X.K X.mg X.base (L2.CX X.prog X.w) k f fd ps (spF ⟨X.K, none, hx.cs⟩ ps.length M)) (hr : RoomG k X.A) (hb : KB X.K fd ps (1 + n) [] sel dvs)
    (hv : dvs.all isLit = true) (hnp : sel.length = ps.length) (ho : EOk hx X o Mo) (ha : AOk hx X (e :: es) Ma) (hla : ∀ env μ ds env' μ', Ma env μ = .ok ds env' μ' → ds.length = n)
    (hst : starEach (e :: es) X.env = (false, eval e X.env) :: starEach es X.env := by rfl) (hpl : (backTo pos (starEach es X.env)).any (·.1) = false := by rfl)
    (ht : eval (.Call (.Attribute o m apos) (e :: es) [] pos) X.env = (do
      let ov ← eval o X.env
      standAt apos.atName
      let (f, first) ← holding [ov] (getMethod ov m pl)
      callWith pos f first (backTo pos (starEach (e :: es) X.env)) (backToKw pos (keywordEach [] X.env))) := by rfl) :
    EOk hx X (.Call (.Attribute o m apos) (e :: es) [] pos) (mMethU c M sel (dvs.map litV) Mo Ma aNil) := by
  refine fun W tk => impPE (pm_pos (ho W tk) cl hm (fun a => run_G (first := [(.ref a, .ref a)]) (n := n) F hr hb (.cons rfl .nil) (fun σ => passAt tk σ)) (ha W tk) hst hpl ht) fun σ H Q q => ?_
  refine meth_pre (t := fun a => tU n 0 (fun vs zs σ H Q => spF ⟨X.K, none, hx.cs⟩ ps.length M (selG .non sel ([(V.ref a, Value.ref a)].map (·.1) ++ vs) zs dvs) H Q (WE W σ)) (rdA (kx X hx) W Ma) tNil) hmf (fun w a o Q rs io p => ?_) q
  have q2 := methU_of (m := 0) nx hv hnp hla (fun _ _ _ _ _ z => by cases z; rfl) rs io p
  obtain ⟨w0, e1, e2, rs0, q2⟩ := q2
  refine ⟨w0, e1, e2, rs0, PostA.imp q2 fun vs H1 q3 => ?_⟩
  obtain ⟨w1, e3, e4, rs1, q4⟩ := q3
  obtain ⟨l1, l2, q5⟩ := q4 w1 [] rfl rfl rfl rs1 (.refl _) .nil
  rw [e4] at q5
  exact ⟨l1, l2, q5⟩
theorem e_methK0 (nx : NoX (kx X hx)) (hmf : notFld m = true) (cl : Cls X.K (He.ga X.K (cname c))) (hm : Meth X.K (He.ga X.K (cname c)) m f) (F : FnG X.prog X.w X.K X.mg X.base (L2.CX X.prog X.w) k f fd ps (spF ⟨X.K, none, hx.cs⟩ ps.length M)) (hr : RoomG k X.A) (hb : KB X.K fd ps (1 + 0) ks sel dvs)
    (hv : dvs.all isLit = true) (hnp : sel.length = ps.length) (ho : EOk hx X o Mo) (hkw : KOk hx X kws Mk) (hlk : ∀ env μ ds env' μ', Mk env μ = .ok ds env' μ' → ds.length = ks.length)
    (hall : (backToKw pos (keywordEach kws X.env)).all (·.1.isSome) = true := by rfl) (hks : (backToKw pos (keywordEach kws X.env)).filterMap (·.1) = ks := by rfl)
    (hpl : ((backTo pos (starEach [] X.env)).any (·.1) || (backToKw pos (keywordEach kws X.env)).any (·.1.isNone)) = false := by rfl)
    (ht : eval (.Call (.Attribute o m apos) [] kws pos) X.env = (do
      let ov ← eval o X.env
      standAt apos.atName
      let (f, first) ← holding [ov] (getMethod ov m pl)
      callWith pos f first (backTo pos (starEach [] X.env)) (backToKw pos (keywordEach kws X.env))) := by rfl) :
    EOk hx X (.Call (.Attribute o m apos) [] kws pos) (mMethU c M sel (dvs.map litV) Mo aNil Mk) := by
  refine fun W tk => impPE (pm_kw0 (ho W tk) cl hm (fun a => run_G (first := [(.ref a, .ref a)]) (n := 0) F hr hb (.cons rfl .nil) (fun σ => passAt tk σ)) (hkw W tk) hall hks hpl ht) fun σ H Q q => ?_
  refine meth_pre (t := fun a => tU 0 ks.length (fun vs zs σ H Q => spF ⟨X.K, none, hx.cs⟩ ps.length M (selG .non sel ([(V.ref a, Value.ref a)].map (·.1) ++ vs) zs dvs) H Q (WE W σ)) tNil (rdA (kx X hx) W Mk)) hmf (fun w a o Q rs io p => ?_) q
  have q2 := methU_of (n := 0) nx hv hnp (fun _ _ _ _ _ z => by cases z; rfl) hlk rs io p
  obtain ⟨w1, a1, a2, rs1, q3⟩ := q2
  have q4 := q3 w1 [] rfl rfl rfl rs1 (.refl _) .nil
  show rdA (kx X hx) W Mk w.σ w.H _
  rw [← a2]
  exact q4
theorem e_meth0 (nx : NoX (kx X hx)) (hmf : notFld m = true) (cl : Cls X.K (He.ga X.K (cname c))) (hm : Meth X.K (He.ga X.K (cname c)) m f) (F : FnG X.prog X.w X.K X.mg X.base (L2.CX X.prog X.w) k f fd ps (spF ⟨X.K, none, hx.cs⟩ ps.length M)) (hr : RoomG k X.A) (hb : KB X.K fd ps (1 + 0) [] sel dvs)
    (hv : dvs.all isLit = true) (hnp : sel.length = ps.length) (ho : EOk hx X o Mo)
    (ht : eval (.Call (.Attribute o m apos) [] [] pos) X.env = (do
      let ov ← eval o X.env
      standAt apos.atName
      let (f, first) ← holding [ov] (getMethod ov m pl)
      callWith pos f first (backTo pos (starEach [] X.env)) (backToKw pos (keywordEach [] X.env))) := by rfl) :
    EOk hx X (.Call (.Attribute o m apos) [] [] pos) (mMethU c M sel (dvs.map litV) Mo aNil aNil) := by
  refine fun W tk => impPE (pm_none (ho W tk) cl hm (fun a => run_G (first := [(.ref a, .ref a)]) (n := 0) F hr hb (.cons rfl .nil) (fun σ => passAt tk σ)) ht) fun σ H Q q => ?_
  refine meth_pre (t := fun a => tU 0 0 (fun vs zs σ H Q => spF ⟨X.K, none, hx.cs⟩ ps.length M (selG .non sel ([(V.ref a, Value.ref a)].map (·.1) ++ vs) zs dvs) H Q (WE W σ)) tNil tNil) hmf (fun w a o Q rs io p => ?_) q
  have q2 := methU_of (n := 0) (m := 0) nx hv hnp (fun _ _ _ _ _ z => by cases z; rfl) (fun _ _ _ _ _ z => by cases z; rfl) rs io p
  obtain ⟨w1, a1, a2, rs1, q3⟩ := q2
  obtain ⟨w2, b1, b2, rs2, q4⟩ := q3 w1 [] rfl rfl rfl rs1 (.refl _) .nil
  have q5 := q4 w2 [] rfl rfl rfl rs2 (.refl _) .nil
  rw [b2, a2] at q5
  exact q5
end
end
end DL
set_option Elab.async false
set_option linter.all false
set_option maxRecDepth 100000
set_option maxHeartbeats 4000000
namespace DL
open PySem PySem.Spec PyProof.Rows L2
/-! ### slots forgotten, slots put back -/
def wipeE (env : DL.Env) : List Nat → DL.Env
  | [] => env
  | v :: vs => (wipeE env vs).set v .non
def backS (env : DL.Env) (v : Nat) : Slot := match env[v]? with
  | some (.d d) => .d d
  | _ => .non
def restE (env0 env1 : DL.Env) : List Nat → DL.Env
  | [] => env1
  | v :: vs => (restE env0 env1 vs).set v (backS env0 v)
theorem wipeE_length (env : DL.Env) : ∀ vs : List Nat, (wipeE env vs).length = env.length
  | [] => rfl
  | v :: vs => by unfold wipeE; rw [List.length_set, wipeE_length env vs]
theorem restE_length (env0 env1 : DL.Env) : ∀ vs : List Nat, (restE env0 env1 vs).length = env1.length
  | [] => rfl
  | v :: vs => by unfold restE; rw [List.length_set, restE_length env0 env1 vs]
theorem restE_out {env0 env1 : DL.Env} {i : Nat} : ∀ {vs : List Nat}, i ∉ vs → (restE env0 env1 vs)[i]? = env1[i]?
  | [], _ => rfl
  | v :: vs, h => by
    rw [List.mem_cons, not_or] at h
    unfold restE
    rw [List.getElem?_set_ne (Ne.symm h.1)]
    exact restE_out h.2
theorem restE_in {env0 env1 : DL.Env} {i : Nat} {s : Slot} : ∀ {vs : List Nat}, i ∈ vs → (restE env0 env1 vs)[i]? = some s → s = backS env0 i
  | v :: vs, h, e => by
    unfold restE at e
    rcases getSet e with ⟨rfl, _, q⟩ | ⟨ne, e⟩
    · exact q.symm
    · rcases List.mem_cons.mp h with z | z
      · exact (ne z).elim
      · exact restE_in z e
section
variable {κ : Kx} {w w1 : W3} {i : Nat} {p : Addr} {o : HO}
def W3.wipe1 (w : W3) (i : Nat) : W3 := { w with env := w.env.set i .non, σ := w.σ.set i none }
theorem wipe1_isO {j : Nat} {a : Addr} {c : Cell} (h : (w.wipe1 i).isO j a c) : w.isO j a c := by
  obtain ⟨h1, h2⟩ := h
  have h1' : (w.env.set i Slot.non)[j]? = some (Slot.own c) := h1
  have h2' : (w.σ.set i none)[j]? = some (some (.ref a)) := h2
  rcases getSet h1' with ⟨_, _, e⟩ | ⟨e, h1'⟩
  · cases e
  · rcases getSet h2' with ⟨e2, _, _⟩ | ⟨_, h2'⟩
    · exact (e e2).elim
    · exact ⟨h1', h2'⟩
theorem RS.wipe1 (rs : RS κ w) : RS κ (w.wipe1 i) := by
  refine ⟨rs.le, rs.lm, ?_, fun j x e => ?_, fun j c e => ?_, rs.cel, rs.cc, fun j k a c c' h h' => rs.oo j k a c c' (wipe1_isO h) (wipe1_isO h'), fun j n a c c' h h' => rs.oc j n a c c' (wipe1_isO h) h'⟩
  · show (w.env.set i _).length = (w.σ.set i _).length
    rw [List.length_set, List.length_set]
    exact rs.ls
  · have e' : (w.env.set i Slot.non)[j]? = some (Slot.d x) := e
    rcases getSet e' with ⟨_, _, q⟩ | ⟨ne, e'⟩
    · cases q
    · obtain ⟨v, h1, h2⟩ := rs.slot j x e'
      exact ⟨v, (List.getElem?_set_ne (Ne.symm ne)).trans h1, h2⟩
  · have e' : (w.env.set i Slot.non)[j]? = some (Slot.own c) := e
    rcases getSet e' with ⟨_, _, q⟩ | ⟨ne, e'⟩
    · cases q
    · obtain ⟨l, a, h1, h2⟩ := rs.own j c e'
      exact ⟨l, a, (List.getElem?_set_ne (Ne.symm ne)).trans h1, h2⟩
theorem mut_wipe1 {a : Addr} (h : (w.wipe1 i).Mut a) : w.Mut a := by
  rcases h with h | ⟨j, c, h⟩
  · exact .inl h
  · exact .inr ⟨j, c, wipe1_isO h⟩
def W3.wipe (w : W3) (vs : List Nat) : W3 := { w with env := wipeE w.env vs, σ := L2.wipe w.σ vs }
theorem RS.wipe (rs : RS κ w) : ∀ vs : List Nat, RS κ (w.wipe vs) ∧ ∀ a, (w.wipe vs).Mut a → w.Mut a
  | [] => ⟨rs, fun _ h => h⟩
  | v :: vs => by
    obtain ⟨h1, h2⟩ := RS.wipe rs vs
    exact ⟨(h1.wipe1 (i := v) : RS κ ((w.wipe vs).wipe1 v)), fun a h => h2 a (mut_wipe1 (w := w.wipe vs) (i := v) h)⟩
theorem Stp.wipe (rs : RS κ w1) (st : Stp w w1) (vs : List Nat) : Stp w (w1.wipe vs) := ⟨st.gr, st.kp, fun a h => st.fr a ((rs.wipe vs).2 a h), st.ff⟩
/-- an object that nobody else holds is changed -/
theorem RS.poke (rs : RS κ w) (hf : w.F p = none) (nm : ¬ w.Mut p) : RS κ (w.ah p o) := by
  have ne : ∀ b, w.Mut b → b ≠ p := fun b z e => nm (e ▸ z)
  refine ⟨fun b u e => ?_, rs.lm, rs.ls, rs.slot, fun i c e => ?_, fun n b c e => ?_, rs.cc, rs.oo, rs.oc⟩
  · show upd w.H p o b = some u
    rw [upd_ne (ne_of_none e hf)]
    exact rs.le b u e
  · obtain ⟨l, b, e1, e2, e3⟩ := rs.own i c e
    exact ⟨l, b, e1, e2, e3.mono (.refl _ _) (upd_ne (ne b (.inr ⟨i, c, e, e1⟩)))⟩
  · obtain ⟨e2, e3⟩ := rs.cel n b c e
    exact ⟨e2, e3.mono (.refl _ _) (upd_ne (ne b (.inl ⟨n, c, e⟩)))⟩
theorem Stp.poke (st : Stp w w1) (h : w.H p = none) : Stp w (w1.ah p o) :=
  ⟨st.gr, fun a u e n => by
    show upd w1.H p o a = some u
    rw [upd_ne (ne_of_none e h)]
    exact st.kp a u e n, st.fr, st.ff⟩
/-- the caller's slots behind a block -/
def W3.rest (w1 w : W3) (vs : List Nat) : W3 := { w1 with env := restE w.env w1.env vs, σ := w.σ }
theorem RS.rest (rs : RS κ w) (rs1 : RS κ w1) (g : Gr w.m w.F w1.m w1.F) {vs : List Nat} (e : w1.σ = L2.wipe w.σ vs) : RS κ (w1.rest w vs) ∧ ∀ a, (w1.rest w vs).Mut a → w1.Mut a := by
  have iso : ∀ {j : Nat} {a : Addr} {c : Cell}, (w1.rest w vs).isO j a c → w1.isO j a c := fun {j a c} ⟨h1, h2⟩ => by
    have h1' : (restE w.env w1.env vs)[j]? = some (Slot.own c) := h1
    by_cases hj : j ∈ vs
    · have q := restE_in hj h1'
      unfold backS at q
      split at q <;> cases q
    · rw [restE_out hj] at h1'
      refine ⟨h1', ?_⟩
      rw [e, wipe_out hj]
      exact h2
  refine ⟨⟨rs1.le, rs1.lm, ?_, fun j d h => ?_, fun j c h => ?_, rs1.cel, rs1.cc, fun j k a c c' h h' => rs1.oo j k a c c' (iso h) (iso h'), fun j n a c c' h h' => rs1.oc j n a c c' (iso h) h'⟩, fun a h => ?_⟩
  · show (restE w.env w1.env vs).length = w.σ.length
    rw [restE_length, rs1.ls, e, wipe_length]
  · have h' : (restE w.env w1.env vs)[j]? = some (Slot.d d) := h
    by_cases hj : j ∈ vs
    · have q := restE_in hj h'
      unfold backS at q
      cases q2 : w.env[j]? with
      | none =>
        rw [q2] at q
        cases q
      | some s =>
        rw [q2] at q
        cases s with
        | d d' =>
          cases q
          obtain ⟨v, h1, h2⟩ := rs.slot j d q2
          exact ⟨v, h1, h2.mono g⟩
        | _ => cases q
    · rw [restE_out hj] at h'
      obtain ⟨v, h1, h2⟩ := rs1.slot j d h'
      rw [e, wipe_out hj] at h1
      exact ⟨v, h1, h2⟩
  · have h' : (restE w.env w1.env vs)[j]? = some (Slot.own c) := h
    by_cases hj : j ∈ vs
    · have q := restE_in hj h'
      unfold backS at q
      split at q <;> cases q
    · rw [restE_out hj] at h'
      obtain ⟨l, a, h1, h2⟩ := rs1.own j c h'
      rw [e, wipe_out hj] at h1
      exact ⟨l, a, h1, h2⟩
  · rcases h with h | ⟨j, c, h⟩
    · exact .inl h
    · exact .inr ⟨j, c, iso h⟩
end
/-! ### targets of a block -/
theorem wipe_set {σ : L2.St} {i : Nat} {x : Option V} : ∀ {vs : List Nat}, i ∈ vs → L2.wipe (σ.set i x) vs = L2.wipe σ vs
  | v :: vs, h => by
    unfold L2.wipe
    by_cases e : i ∈ vs
    · rw [wipe_set e]
    · have hv : i = v := by
        rcases List.mem_cons.mp h with z | z
        · exact z
        · exact (e z).elim
      subst hv
      have go : ∀ {us : List Nat}, i ∉ us → L2.wipe (σ.set i x) us = (L2.wipe σ us).set i x := by
        intro us hu
        induction us with
        | nil => rfl
        | cons u us ih =>
          rw [List.mem_cons, not_or] at hu
          unfold L2.wipe
          rw [ih hu.2, List.set_comm _ _ hu.1]
      rw [go e, List.set_set]
def PostGL (κ : Kx) (vs : List Nat) (w : W3) (r : GR) (Q : L2.St → Hp → Prop) : Prop :=
  match r with
  | .ok env' μ' => ∀ w' : W3, w'.env = env' → w'.μ = μ' → RS κ w' → Stp w w' → L2.wipe w'.σ vs = L2.wipe w.σ vs → Q w'.σ w'.H
  | .no => False
theorem PostGL.step {κ : Kx} {vs : List Nat} {w w1 : W3} {r : GR} {Q : L2.St → Hp → Prop} (s : Stp w w1) (e : L2.wipe w1.σ vs = L2.wipe w.σ vs) (h : PostGL κ vs w r Q) : PostGL κ vs w1 r Q := by
  cases r with
  | no => exact h
  | ok env' μ' => exact fun w' e1 e2 rs st e3 => h w' e1 e2 rs (s.trans st) (e3.trans e)
def rdGL (κ : Kx) (vs : List Nat) (T : GM) : TG := fun v σ H Q => ∃ (w : W3) (d : D), w.σ = σ ∧ w.H = H ∧ RS κ w ∧ IsR κ w v d ∧ PostGL κ vs w (T d w.env w.μ) Q
def rdGLs (κ : Kx) (vs : List Nat) (T : GMs) : TGs := fun us σ H Q => ∃ (w : W3) (ds : List D), w.σ = σ ∧ w.H = H ∧ RS κ w ∧ IsL κ w.m w.F us ds ∧ PostGL κ vs w (T ds w.env w.μ) Q
def GLk (hx : HX) (X : Cx) (vs : List Nat) (t : Expr) (T : GM) : Prop := PG X t (rdGL (kx X hx) vs T)
def GLsk (hx : HX) (X : Cx) (vs : List Nat) (t : List Expr) (T : GMs) : Prop := PGs X t (rdGLs (kx X hx) vs T)
section
variable {hx : HX} {X : Cx} {vs : List Nat}
theorem gl_name (i : Nat) {x : Str} {pos : Pos} (hv : i ∈ vs) (hN : X.N.Nodup) (hi : X.N[i]? = some x) (hl : Loc X.env.scope x) (hf : X.fn x = true ∨ X.env.scope.names.lookup x = some .local := by first | exact .inl rfl | exact .inr rfl | assumption) : GLk hx X vs (.Name x pos) (gN i) := by
  refine impPG (pg_name hN hi hl hf) fun v σ H Q q => ?_
  obtain ⟨w, d, rfl, rfl, rs, iv, p⟩ := q
  unfold gN at p
  by_cases h : noLoc d = true
  · rw [if_pos h] at p
    exact p (w.setD i v d) rfl rfl (rs.setD (iv.is h)) (.setD (.refl _)) (wipe_set hv)
  · rw [if_neg h] at p
    exact p.elim
theorem gls_nil : GLsk hx X vs [] gsNil := by
  refine impPGs pgs_nil fun us σ H Q q => ?_
  obtain ⟨w, ds, rfl, rfl, rs, il, p⟩ := q
  cases il with
  | nil => exact ⟨rfl, p w rfl rfl rs (.refl _) rfl⟩
  | cons _ _ => exact p.elim
theorem gls_cons {e : Expr} {es : List Expr} {T : GM} {Ts : GMs} (h1 : GLk hx X vs e T) (h2 : GLsk hx X vs es Ts) (hs : (assignEach (e :: es) X.env).map (·.2) = assign e X.env :: (assignEach es X.env).map (·.2) := by rfl) : GLsk hx X vs (e :: es) (gsCons T Ts) := by
  refine impPGs (pgs_cons h1 h2 hs) fun us σ H Q q => ?_
  obtain ⟨w, ds, rfl, rfl, rs, il, p⟩ := q
  cases il with
  | nil => exact p.elim
  | @cons v d us ds h t =>
    refine ⟨v, us, rfl, w, d, rfl, rfl, rs, h.toR, ?_⟩
    have p' : PostGL (kx X hx) vs w ((T d w.env w.μ).bind fun env' μ' => Ts ds env' μ') Q := p
    cases e1 : T d w.env w.μ with
    | no =>
      rw [e1] at p'
      exact p'.elim
    | ok env' μ' =>
      rw [e1] at p'
      intro w' e2 e3 rs' st ew
      subst e2 e3
      exact ⟨w', ds, rfl, rfl, rs', t.mono st.gr, PostGL.step st ew p'⟩
theorem gl_tup {es : List Expr} {k : Nat} {Ts : GMs} {n : Nat} {pos : Pos} (hc : X.calm = true) (h : GLsk hx X vs es Ts) (hn : (assignEach es X.env).length = n := by rfl) (hst : (assignEach es X.env).findIdx? (·.1) = none := by rfl) : GLk hx X vs (.Tuple es k pos) (gT n Ts) := by
  refine impPG (pg_tup hc h hn hst) fun v σ H Q q => ?_
  obtain ⟨w, d, rfl, rfl, rs, iv, p⟩ := q
  unfold gT at p
  cases d with
  | tup l =>
    dsimp only at p
    by_cases hl : l.length = n
    · rw [if_pos hl] at p
      cases iv with
      | @tup a xs _ e il => exact ⟨a, xs, rfl, SqT.of (rs.le _ _ e), by rw [il.length]; exact hl, w, l, rfl, rfl, rs, il, p⟩
    · rw [if_neg hl] at p
      exact p.elim
  | _ => exact p.elim
end
/-! ### the tests of a clause -/
def TsOk (hx : HX) (X : Cx) (ifs : List Expr) (M : TM) : Prop := ∀ W, Takes X W → PTs X ifs (rdT (kx X hx) W M)
def mYes : TM := fun env μ => .ok true env μ
theorem ts_nil {hx : HX} {X : Cx} : TsOk hx X [] mYes := fun W tk => ⟨fun pins s σ H Q I h => by
  obtain ⟨w, rfl, rfl, rs, p⟩ := h
  exact pts_nil.run pins s w.σ w.H Q I (p w rfl rfl rfl rs (.refl _))⟩
theorem ts_one {hx : HX} {X : Cx} {c : Expr} {M : TM} (h : TOk hx X c M) : TsOk hx X [c] M := fun W tk => pts_one (h W tk)
/-! ### list comprehensions -/
noncomputable section
open Classical in
def lcL (ck : Mu → Prop) (T : GM) (tt : TM) (elt : EM) (vs : List Nat) : List D → List D → DL.Env → Mu → NR
  | [], acc, env, μ => if ck μ then .ok (.lst acc) env μ else .stk
  | d :: l, acc, env, μ => if ck μ then match T d env μ with
    | .no => .stk
    | .ok env1 μ1 => match tt env1 μ1 with
      | .ok true env2 μ2 => match elt env2 μ2 with
        | .ok x env3 μ3 => if noLoc x = true ∧ acc.length < sizeLine then lcL ck T tt elt vs l (acc ++ [x]) (wipeE env3 vs) μ3 else .stk
        | _ => .stk
      | .ok false env2 μ2 => lcL ck T tt elt vs l acc (wipeE env2 vs) μ2
      | _ => .stk
    else .stk
def mLc (S : IM) (T : GM) (tt : TM) (elt : EM) (vs : List Nat) : NM := fun env μ => match S env μ with
  | .ok l ck env0 μ0 => match lcL ck T tt elt vs l [] (wipeE env0 vs) μ0 with
    | .ok c env1 μ1 => .ok c (restE env0 env1 vs) μ1
    | _ => .stk
  | .exc x env μ => .exc x env μ
  | .stk => .stk
end
abbrev noW : WX := fun _ _ _ _ => False
section
variable {hx : HX} {X : Cx} {vs : List Nat}
theorem lc_of {W : WX} {S : IM} {T : GM} {tt : TM} {elt : EM} {σ : L2.St} {H : Hp} {Q : VK} (h : rdN (kx X hx) W (mLc S T tt elt vs) σ H Q) :
    tLc (rdI (kx X hx) W S) (rdGL (kx X hx) vs T) (rdT (kx X hx) noW tt) (rdE (kx X hx) noW elt) vs σ H Q := by
  obtain ⟨w, rfl, rfl, rs, p⟩ := h
  refine ⟨w, rfl, rfl, rs, ?_⟩
  unfold mLc at p
  cases e : S w.env w.μ with
  | stk =>
    rw [e] at p
    exact p.elim
  | exc x env' μ' =>
    rw [e] at p
    exact p
  | ok l ck env' μ' =>
    rw [e] at p
    intro w' J e1 e2 e3 rs' st src D hD
    subst e2 e3
    have hF : w'.F D = none := rs'.fnone hD
    have p : PostN (kx X hx) W w (match lcL ck T tt elt vs l [] (wipeE w'.env vs) w'.μ with
      | .ok c env1 μ1 => .ok c (restE w'.env env1 vs) μ1
      | _ => .stk) Q := p
    have hn : ∃ c env1 μ1, lcL ck T tt elt vs l [] (wipeE w'.env vs) w'.μ = .ok c env1 μ1 ∧ PostN (kx X hx) W w (.ok c (restE w'.env env1 vs) μ1) Q := by
      cases q : lcL ck T tt elt vs l [] (wipeE w'.env vs) w'.μ with
      | ok c env1 μ1 =>
        rw [q] at p
        exact ⟨c, env1, μ1, rfl, p⟩
      | exc _ _ _ =>
        rw [q] at p
        exact p.elim
      | stk =>
        rw [q] at p
        exact p.elim
    obtain ⟨c, envZ, μZ, hrun, pz⟩ := hn
    obtain ⟨rsW, muW⟩ := rs'.wipe vs
    have hDW : (w'.wipe vs).H D = none := hD
    have rsB : RS (kx X hx) ((w'.wipe vs).ah D (.lst [])) := rsW.ah hDW
    have stB : Stp w' ((w'.wipe vs).ah D (.lst [])) := Stp.poke (Stp.wipe rs' (.refl w') vs) hD
    have nmB : ¬ ((w'.wipe vs).ah D (.lst [])).Mut D := rsW.notMut hDW
    rw [← e1]
    refine ⟨fun i m H => ∃ (w1 : W3) (xs : List V) (acc : List DL.D), w1.σ = L2.wipe w'.σ vs ∧ w1.H = H ∧ RS (kx X hx) w1 ∧ Stp w' w1 ∧ w1.H D = some (.lst xs) ∧ IsL (kx X hx) w1.m w1.F xs acc ∧ w1.F D = none ∧ ¬ w1.Mut D ∧
      m = l.length - i ∧ i ≤ l.length ∧ lcL ck T tt elt vs (l.drop i) acc w1.env w1.μ = .ok c envZ μZ,
      ⟨l.length, _, [], [], rfl, rfl, rsB, stB, upd_same, .nil, hF, nmB, by omega, Nat.zero_le _, hrun⟩, ?_⟩
    rintro i m H ⟨w1, xs, acc, s1, rfl, rs1, st1, hD1, il1, hF1, nm1, rfl, hi, run1⟩
    by_cases hlt : i < l.length
    · right
      rw [List.drop_eq_getElem_cons hlt] at run1
      unfold lcL at run1
      by_cases hck : ck w1.μ
      · rw [if_pos hck] at run1
        refine ⟨src.go w1 i rs1 st1 hck hlt, fun H' => ∃ (w1 : W3) (xs : List V) (acc : List DL.D), w1.σ = L2.wipe w'.σ vs ∧ w1.H = H' ∧ RS (kx X hx) w1 ∧ Stp w' w1 ∧ w1.H D = some (.lst xs) ∧ IsL (kx X hx) w1.m w1.F xs acc ∧ w1.F D = none ∧ ¬ w1.Mut D ∧
          lcL ck T tt elt vs (l.drop (i + 1)) acc w1.env w1.μ = .ok c envZ μZ, fun H' ⟨w2, xs2, acc2, a1, a2, a3, a4, a5, a6, a7, a8, a9⟩ => ⟨l.length - (i + 1), by omega, w2, xs2, acc2, a1, a2, a3, a4, a5, a6, a7, a8, rfl, hlt, a9⟩, fun x H' y => ?_⟩
        obtain ⟨w2, b1, b2, b3, b4, rs2, st2, ix⟩ := src.yld w1 i x H' l[i] rs1 st1 hck (List.getElem?_eq_getElem hlt) y
        -- D's list stays while the turn runs
        have keep : ∀ {w3 : W3}, RS (kx X hx) w3 → Stp w1 w3 → w3.H D = some (.lst xs) ∧ w3.F D = none ∧ ¬ w3.Mut D := fun {w3} rs3 st3 => by
          refine ⟨st3.kp D _ hD1 nm1, ?_, fun z => ?_⟩
          · cases q : w3.F D with
            | none => rfl
            | some o =>
              rcases st3.ff D o q with z | z | z
              · rw [hF1] at z
                cases z
              · exact (nm1 z).elim
              · rw [hD1] at z
                cases z
          · rcases st3.fr D z with z | z
            · exact nm1 z
            · rw [hD1] at z
              cases z
        cases eT : T l[i] w1.env w1.μ with
        | no =>
          rw [eT] at run1
          cases run1
        | ok env1 μ1 =>
          rw [eT] at run1
          dsimp only at run1
          refine ⟨w2, l[i], by rw [b2, s1], b1, rs2, ix.toR, ?_⟩
          rw [b3, b4, eT]
          intro w3 c1 c2 rs3 st3 ew
          refine ⟨by rw [ew, b2, s1]; exact wipe_idem vs, w3, rfl, rfl, rs3, ?_⟩
          rw [c1, c2]
          have st13 : Stp w1 w3 := st2.trans st3
          have wσ : L2.wipe w3.σ vs = L2.wipe w'.σ vs := by rw [ew, b2, s1]; exact wipe_idem vs
          cases et : tt env1 μ1 with
          | stk =>
            rw [et] at run1
            cases run1
          | exc _ _ _ =>
            rw [et] at run1
            cases run1
          | ok b env2 μ2 =>
            rw [et] at run1
            intro w4 d1 d2 d3 rs4 st4
            have st14 : Stp w1 w4 := st13.trans st4
            cases b with
            | false =>
              rw [if_neg Bool.false_ne_true]
              dsimp only at run1
              obtain ⟨k1, k2, k3⟩ := keep rs4 st14
              refine ⟨w4.wipe vs, xs, acc, by show L2.wipe w4.σ vs = _; rw [d1]; exact wσ, rfl, (rs4.wipe vs).1, Stp.wipe rs4 (st1.trans st14) vs, k1, il1.mono st14.gr, k2, fun z => k3 ((rs4.wipe vs).2 D z), ?_⟩
              show lcL ck T tt elt vs (l.drop (i + 1)) acc (wipeE w4.env vs) w4.μ = _
              rw [d2, d3]
              exact run1
            | true =>
              rw [if_pos rfl]
              dsimp only at run1
              refine ⟨w4, d1, rfl, rs4, ?_⟩
              rw [d2, d3]
              cases ee : elt env2 μ2 with
              | stk =>
                rw [ee] at run1
                cases run1
              | exc _ _ _ =>
                rw [ee] at run1
                cases run1
              | ok x env3 μ3 =>
                rw [ee] at run1
                intro w5 v f1 f2 f3 rs5 st5 i5
                dsimp only at run1
                by_cases hx' : noLoc x = true ∧ acc.length < sizeLine
                · rw [if_pos hx'] at run1
                  have st15 : Stp w1 w5 := st14.trans st5
                  obtain ⟨k1, k2, k3⟩ := keep rs5 st15
                  have il5 := il1.mono st15.gr
                  refine ⟨xs, k1, by rw [il1.length]; exact hx'.2, (w5.wipe vs).ah D (.lst (xs ++ [v])), xs ++ [v], acc ++ [x], by show L2.wipe w5.σ vs = _; rw [f1, d1]; exact wσ, rfl,
                    (rs5.wipe vs).1.poke k2 (fun z => k3 ((rs5.wipe vs).2 D z)), Stp.poke (Stp.wipe rs5 (st1.trans st15) vs) hD, upd_same, il5.append (.cons (i5.is hx'.1) .nil), k2, fun z => k3 ((rs5.wipe vs).2 D z), ?_⟩
                  show lcL ck T tt elt vs (l.drop (i + 1)) (acc ++ [x]) (wipeE w5.env vs) w5.μ = _
                  rw [f2, f3]
                  exact run1
                · rw [if_neg hx'] at run1
                  cases run1
      · rw [if_neg hck] at run1
        cases run1
    · left
      have e4 : l.drop i = [] := List.drop_eq_nil_of_le (by omega)
      rw [e4] at run1
      unfold lcL at run1
      by_cases hck : ck w1.μ
      · rw [if_pos hck] at run1
        cases run1
        refine ⟨src.stop w1 i rs1 st1 hck (by omega), ?_⟩
        obtain ⟨rsR, muR⟩ := RS.rest rs' rs1 st1.gr s1
        have stR : Stp w' (w1.rest w' vs) := ⟨st1.gr, st1.kp, fun a h => st1.fr a (muR a h), st1.ff⟩
        exact pz (w1.rest w' vs) D e1 rfl rfl rsR (st.trans stR) (st.gone (.inr hD)) hF1 (fun z => nm1 (muR D z)) trivial ⟨xs, hD1, il1⟩
      · rw [if_neg hck] at run1
        cases run1
where
  wipe_idem {σ : L2.St} (vs : List Nat) : L2.wipe (L2.wipe σ vs) vs = L2.wipe σ vs := by
    have key : ∀ us : List Nat, (∀ u ∈ us, u ∈ vs) → L2.wipe (L2.wipe σ us) vs = L2.wipe σ vs := by
      intro us h
      induction us with
      | nil => rfl
      | cons u us ih =>
        show L2.wipe ((L2.wipe σ us).set u none) vs = _
        rw [wipe_set (h u List.mem_cons_self)]
        exact ih fun z hz => h z (List.mem_cons_of_mem _ hz)
    exact key vs fun _ h => h
theorem takes_blk {s : Shared} {H : Hp} {scope : Scope} {cenv : PySem.Env} {fp : List Addr} : Takes (X.blk s H scope cenv fp) noW := takes_none5
theorem n_lc {tg iter elt : Expr} {ifs : List Expr} {scope : Scope} {own : List (Str × Nat)} {pos : Pos} {S : IM} {T : GM} {Mt : TM} {Me : EM} (hc : X.calm = true) (hN : X.N.Nodup) (hi : IOk hx X tg iter S) (ok : BlkOk X.N X.env.scope scope own)
    (hg : ∀ (s : Shared) (H : Hp) (C : Addr) (cl : List (Str × Addr)) (fp : List Addr), GLk hx (X.blk s H scope (compEnvC scope cl C X.env) fp) (own.map (·.2)) tg T)
    (ht : ∀ (s : Shared) (H : Hp) (C : Addr) (cl : List (Str × Addr)) (fp : List Addr), TsOk hx (X.blk s H scope (compEnvC scope cl C X.env) fp) ifs Mt)
    (he : ∀ (s : Shared) (H : Hp) (C : Addr) (cl : List (Str × Addr)) (fp : List Addr), EOk hx (X.blk s H scope (compEnvC scope cl C X.env) fp) elt Me) (hs : ∀ x, foldedSetIterable iter X.env x = pure x := by intro _; rfl) :
    NOk hx X (.ListComp elt [⟨tg, iter, ifs, 0⟩] scope pos) (mLc S T Mt Me (own.map (·.2))) :=
  fun W tk => impPE (pe_lc (g := rdGL (kx X hx) (own.map fun x : Str × Nat => x.2) T) (tt := rdT (kx X hx) noW Mt) (te := rdE (kx X hx) noW Me) hc hN (hi W tk) ok hg (fun s H C cl fp => ht s H C cl fp noW takes_blk) (fun s H C cl fp => he s H C cl fp noW takes_blk) hs) fun _ _ _ h => lc_of h
/-- the same stored to a name on one line -/
def StN (hx : HX) (X : Cx) (i : Nat) (st : Stmt) (M : NM) : Prop := ∀ W, Takes X W → PS X st (fun D σ H => rdN (kx X hx) W M σ H fun v H1 => D.nx (σ.set i (some v)) H1)
theorem st_lc {i : Nat} {y : Str} {py : Pos} {tg iter elt : Expr} {ifs : List Expr} {scope : Scope} {own : List (Str × Nat)} {pos spos : Pos} {S : IM} {T : GM} {Mt : TM} {Me : EM} (hc : X.calm = true) (hN : X.N.Nodup) (hy : X.N[i]? = some y) (hyl : X.env.scope.names.lookup y = some .local)
    (hsw : swapsWith (.ListComp elt [⟨tg, iter, ifs, 0⟩] scope pos) (some (.Name y py)) spos.line X.env = pure true) (hi : IOk hx X tg iter S) (ok : BlkOk X.N X.env.scope scope own)
    (hg : ∀ (s : Shared) (H : Hp) (C : Addr) (cl : List (Str × Addr)) (fp : List Addr), GLk hx (X.blk s H scope (compEnvC scope cl C X.env) fp) (own.map (·.2)) tg T)
    (ht : ∀ (s : Shared) (H : Hp) (C : Addr) (cl : List (Str × Addr)) (fp : List Addr), TsOk hx (X.blk s H scope (compEnvC scope cl C X.env) fp) ifs Mt)
    (he : ∀ (s : Shared) (H : Hp) (C : Addr) (cl : List (Str × Addr)) (fp : List Addr), EOk hx (X.blk s H scope (compEnvC scope cl C X.env) fp) elt Me) (hs : ∀ x, foldedSetIterable iter X.env x = pure x := by intro _; rfl) :
    StN hx X i (.Assign [.Name y py] (.ListComp elt [⟨tg, iter, ifs, 0⟩] scope pos) spos) (mLc S T Mt Me (own.map (·.2))) :=
  fun W tk => impPS (ps_setLc (g := rdGL (kx X hx) (own.map fun x : Str × Nat => x.2) T) (tt := rdT (kx X hx) noW Mt) (te := rdE (kx X hx) noW Me) hc hN hy hyl hsw (hi W tk) ok hg (fun s H C cl fp => ht s H C cl fp noW takes_blk) (fun s H C cl fp => he s H C cl fp noW takes_blk) hs) fun _ _ _ h => lc_of h
theorem s_stN (i : Nat) {st : Stmt} {Mn : NM} (h : StN hx X i st Mn) : SOk hx X st (mSetN i Mn) := by
  refine fun W tk => impPS (h W tk) fun E σ H q => ?_
  obtain ⟨w, rfl, rfl, rs, p⟩ := q
  refine ⟨w, rfl, rfl, rs, (PostS.bindN p).imp fun v H1 ⟨w1, c, a, ev, e1, e2, rs1, st1, hn, hf, nm, l, ck, p1⟩ => ?_⟩
  subst e1 ev
  rw [← e2]
  exact p1 (w1.setO i a c) rfl rfl (rs1.setO hf nm l ck) (st1.setO hn)
theorem s_stC (i : Nat) {st : Stmt} {Mn : NM} (h : StN hx X i st Mn) : SOk hx X st (mSetC i Mn) := by
  refine fun W tk => impPS (h W tk) fun E σ H q => ?_
  obtain ⟨w, rfl, rfl, rs, p⟩ := q
  refine ⟨w, rfl, rfl, rs, (PostS.bindN p).imp fun v H1 ⟨w1, c, a, ev, e1, e2, rs1, st1, hn, hf, nm, l, ck, p1⟩ => ?_⟩
  subst e1 ev
  rw [← e2]
  have r2 := rs1.newC hf nm ck
  have ic : Is (kx X hx) (w1.newC a c).m (w1.newC a c).F (.ref a) (.cel w1.μ.length) := .cel (by
    show (w1.m ++ [a])[w1.μ.length]? = some a
    rw [← rs1.lm, List.getElem?_append_right (Nat.le_refl _), Nat.sub_self]
    rfl)
  exact p1 ((w1.newC a c).setD i (.ref a) (.cel w1.μ.length)) rfl rfl (r2.setD ic) (.setD (Stp.newC rs1 st1 hn))
/-- .. shared at once -/
theorem s_stF (i : Nat) {st : Stmt} {Mn : NM} (h : StN hx X i st Mn) : SOk hx X st (mSet i (mN Mn)) := by
  refine fun W tk => impPS (h W tk) fun E σ H q => ?_
  obtain ⟨w, rfl, rfl, rs, p⟩ := q
  refine ⟨w, rfl, rfl, rs, ?_⟩
  unfold mSet mN at p
  cases e1 : Mn w.env w.μ with
  | stk =>
    rw [e1] at p
    exact p.elim
  | exc x env' μ' =>
    rw [e1] at p
    exact fun w' cls dd _ e2 e3 rs' st' i' => p w' cls dd e2 e3 rs' st' i'
  | ok c env' μ' =>
    have p' : PostS (kx X hx) W w (if noLoc c.toD = true then .nx (env'.set i (.d c.toD)) μ' else .stk) E := by
      rw [e1] at p
      exact p
    intro w' a e2 e3 e4 rs' st' hp hf nm l ck
    subst e3 e4
    obtain ⟨o, ho, hi⟩ := cell_obj ck l
    have g2 : Gr w'.m w'.F (w'.fz a o).m (w'.fz a o).F := Gr.fz hf
    by_cases hnl : noLoc c.toD = true
    · rw [if_pos hnl] at p'
      rw [← e2]
      exact p' ((w'.fz a o).setD i (.ref a) c.toD) rfl rfl ((rs'.fz ho hf nm).setD (hi _ _ g2 upd_same)) (.setD (st'.fz hf hp))
    · rw [if_neg hnl] at p'
      exact p'.elim
end
end DL
set_option Elab.async false
set_option linter.all false
set_option maxRecDepth 100000
set_option maxHeartbeats 4000000
namespace DL
open PySem PySem.Spec PyProof.Rows L2
/-! ### slices -/
inductive PR where
  | ok (o : Option Int) (env : DL.Env) (μ : Mu)
  | exc (x : Exn) (env : DL.Env) (μ : Mu)
  | stk
abbrev PM := DL.Env → Mu → PR
def PostP (κ : Kx) (W : WX) (w : W3) (r : PR) (Q : Option Int → Hp → Prop) : Prop :=
  match r with
  | .ok o env' μ' => ∀ w' : W3, w'.σ = w.σ → w'.env = env' → w'.μ = μ' → RS κ w' → Stp w w' → Q o w'.H
  | .exc x env' μ' => ∀ (w' : W3) (cls : Value) (dd : Option Addr), w'.σ = w.σ → w'.env = env' → w'.μ = μ' → RS κ w' → Stp w w' → ExIs κ w' x cls dd → W cls dd w'.σ w'.H
  | .stk => False
def rdP (κ : Kx) (W : WX) (M : PM) : TO := fun σ H Q => ∃ w : W3, w.σ = σ ∧ w.H = H ∧ RS κ w ∧ PostP κ W w (M w.env w.μ) Q
def OOk (hx : HX) (X : Cx) (e : Option Expr) (M : PM) : Prop := ∀ W, Takes X W → PO X e (rdP (kx X hx) W M)
def oNone : PM := fun env μ => .ok none env μ
def oSome (Me : EM) : PM := fun env μ => match Me env μ with
  | .ok (.int i) env μ => .ok (some i) env μ
  | .exc x env μ => .exc x env μ
  | _ => .stk
def cutL {α : Type} (xs : List α) (lo hi : Option Int) : List α := (xs.drop (HT.sIx xs.length 0 lo)).take (HT.sIx xs.length xs.length hi - HT.sIx xs.length 0 lo)
def sliceD (env : DL.Env) (μ : Mu) (d : D) (lo hi : Option Int) : Option D := match seqOf env μ d with
  | some (.tup, l) => some (.tup (cutL l lo hi))
  | some (_, l) => some (.lst (cutL l lo hi))
  | none => match d with
    | .str z => if z.length ≤ sizeLine then some (.str (L2.cutS z lo hi)) else none
    | _ => none
def mSlice (Me : EM) (lo hi : PM) : EM := fun env μ => (Me env μ).bind fun d env μ => match lo env μ with
  | .ok l env μ => match hi env μ with
    | .ok h env μ => lift (sliceD env μ d l h) env μ
    | .exc x env μ => .exc x env μ
    | .stk => .stk
  | .exc x env μ => .exc x env μ
  | .stk => .stk
theorem cut_is {κ : Kx} {m : List Addr} {F : Hp} {xs : List V} {l : List D} (i : IsL κ m F xs l) (lo hi : Option Int) : IsL κ m F (cutV xs lo hi) (cutL l lo hi) := by
  unfold cutV cutL
  rw [i.length]
  exact (i.drop _).take _
theorem cut_whole {α : Type} {xs : List α} {lo hi : Option Int} (h : HT.sIx xs.length 0 lo = 0 ∧ HT.sIx xs.length xs.length hi = xs.length) : cutL xs lo hi = xs := by
  unfold cutL
  rw [h.1, h.2]
  simp
section
variable {hx : HX} {X : Cx}
theorem o_none : OOk hx X none oNone := fun W tk => ⟨fun pins s σ H Q I h => by
  obtain ⟨w, rfl, rfl, rs, p⟩ := h
  exact po_none.run pins s w.σ w.H Q I (p w rfl rfl rfl rs (.refl _))⟩
theorem o_some {e : Expr} {Me : EM} (he : EOk hx X e Me) : OOk hx X (some e) (oSome Me) := fun W tk => ⟨fun pins s σ H Q I h => by
  obtain ⟨w, rfl, rfl, rs, p⟩ := h
  refine (po_some (he W tk)).run pins s w.σ w.H Q I ⟨w, rfl, rfl, rs, ?_⟩
  unfold oSome at p
  cases e1 : Me w.env w.μ with
  | stk =>
    rw [e1] at p
    exact p.elim
  | exc x env' μ' =>
    rw [e1] at p
    exact p
  | ok d env' μ' =>
    rw [e1] at p
    cases d with
    | int i =>
      intro w' v a1 a2 a3 rs' st i'
      exact ⟨i, isR_int i', p w' a1 a2 a3 rs' st⟩
    | _ => exact p.elim⟩
def rSlD (K : Fg) : V → Option Int → Option Int → Hp → VK → Prop := fun x lo hi H Q => rSlL K x lo hi H Q ∨ (rSlA K x lo hi H Q ∨ L2.rSlS x lo hi H Q)
theorem PostP.step {κ : Kx} {W : WX} {w w1 : W3} {r : PR} {Q : Option Int → Hp → Prop} (e : w1.σ = w.σ) (s : Stp w w1) (h : PostP κ W w r Q) : PostP κ W w1 r Q := by
  cases r with
  | ok d env' μ' => exact fun w' e1 e2 e3 rs st => h w' (e1.trans e) e2 e3 rs (s.trans st)
  | exc x env' μ' => exact fun w' cls dd e1 e2 e3 rs st i => h w' cls dd (e1.trans e) e2 e3 rs (s.trans st) i
  | stk => exact h
theorem slice_run {W : WX} {w : W3} {v : V} {d d' : D} {lo hi : Option Int} {Q : VK} (rs : RS (kx X hx) w) (i : IsR (kx X hx) w v d) (e : sliceD w.env w.μ d lo hi = some d') (p : PostE (kx X hx) W w (.ok d' w.env w.μ) Q) : rSlD X.K v lo hi w.H Q := by
  unfold sliceD at e
  cases e1 : seqOf w.env w.μ d with
  | some t =>
    obtain ⟨k, l⟩ := t
    rw [e1] at e
    obtain ⟨a, xs, rfl, il, s⟩ := seq_heap rs i e1
    cases k with
    | tup =>
      cases e
      refine .inr (.inl ⟨a, xs, rfl, SqT.of s, fun h => ?_, fun _ q hq => post_tup rs hq (cut_is il lo hi) p⟩)
      rw [cut_whole (by rw [← il.length]; exact h)] at p
      have ed := seq_tup_eq e1
      subst ed
      exact post_now rs i p
    | lst =>
      cases e
      exact .inl ⟨a, xs, rfl, SqL.of s, fun q hq => post_lst rs hq (cut_is il lo hi) p⟩
    | rol =>
      cases e
      exact .inl ⟨a, xs, rfl, s, fun q hq => post_lst rs hq (cut_is il lo hi) p⟩
  | none =>
    rw [e1] at e
    cases d with
    | str z =>
      obtain ⟨hz, rfl⟩ := some_if e
      exact .inr (.inr ⟨z, isR_str i, hz, post_now rs (Is.str _).toR p⟩)
    | _ => cases e
theorem e_slice {e : Expr} {lo hi : Option Expr} {Me : EM} {Ml Mh : PM} {pos p2 : Pos} (he : EOk hx X e Me) (hl : OOk hx X lo Ml) (hh : OOk hx X hi Mh) : EOk hx X (.Subscript e (.Slice lo hi none p2) pos) (mSlice Me Ml Mh) := by
  refine fun W tk => impPE (pe_slice (sl_list.or (sl_tupA.or L2.sl_str)) (he W tk) (hl W tk) (hh W tk)) fun σ H Q q => ?_
  obtain ⟨w, rfl, rfl, rs, p⟩ := q
  refine ⟨w, rfl, rfl, rs, (PostE.bind p).imp fun x H1 a1 => ?_⟩
  obtain ⟨w1, d1, rfl, e1, rs1, st1, i1, p1⟩ := a1.ex
  refine ⟨w1, e1, rfl, rs1, ?_⟩
  cases el : Ml w1.env w1.μ with
  | stk =>
    rw [el] at p1
    exact p1.elim
  | exc x env' μ' =>
    rw [el] at p1
    exact p1
  | ok l env' μ' =>
    rw [el] at p1
    intro w2 a1 a2 a3 rs2 st2
    subst a2 a3
    refine ⟨w2, a1.trans e1, rfl, rs2, ?_⟩
    dsimp only at p1
    cases eh : Mh w2.env w2.μ with
    | stk =>
      rw [eh] at p1
      exact p1.elim
    | exc x env' μ' =>
      rw [eh] at p1
      exact fun w' cls dd b1 b2 b3 rs' st i => p1 w' cls dd (b1.trans a1) b2 b3 rs' (st2.trans st) i
    | ok h env' μ' =>
      rw [eh] at p1
      intro w3 b1 b2 b3 rs3 st3
      subst b2 b3
      obtain ⟨d', e3, p3⟩ := PostE.lift (PostE.step (b1.trans a1) (st2.trans st3) p1)
      exact slice_run rs3 ((i1.mono a1 st2.gr).mono b1 st3.gr) e3 p3
end
/-! ### isinstance -/
inductive Tag where
  | ty (s : String)
  | own (c : Nat)
  deriving DecidableEq
def tagC : Cell → Option Tag
  | .lst _ => some (.ty "list")
  | .dct _ _ => some (.ty "dict")
  | .ins c _ => some (.own c)
  | _ => none
def tagOf (env : DL.Env) (μ : Mu) : D → Option Tag
  | .non => some (.ty "NoneType")
  | .bl _ => some (.ty "bool")
  | .int _ => some (.ty "int")
  | .str _ => some (.ty "str")
  | .tup _ => some (.ty "tuple")
  | .lst _ => some (.ty "list")
  | .rol _ => some (.ty "list")
  | .dct _ _ => some (.ty "dict")
  | .ins c _ => some (.own c)
  | .cel n => match μ[n]? with
    | some c => tagC c
    | none => none
  | .loc i => match env[i]? with
    | some (.own c) => tagC c
    | _ => none
  | .exn _ _ => none
def Tag.v (K : Fg) : Tag → Value
  | .ty s => .type s
  | .own c => .ref (He.ga K (cname c))
def isiAns (t : Tag) (cks : List Tag) : Bool := cks.any fun c => decide (t = c) || (decide (t = .ty "bool") && decide (c = .ty "int"))
def isiB (K : Fg) (cs : List Nat) (cks : List Tag) : Bool := (["NoneType", "bool", "int", "str", "tuple", "list", "dict"].map Tag.ty ++ cs.map Tag.own).all fun t => decide (PySem.W.kitAny K (t.v K) (cks.map (Tag.v K)) = some (isiAns t cks))
/-- what isinstance needs to see of an own class -/
structure InsK (K : Fg) (c : Nat) : Prop where
  cl : Cls K (He.ga K (cname c))
  ha : PySem.W.findIn K (.ref (He.ga K (cname c))) "__class__" = some (some (.builtin "object.__class__"))
  hn : PySem.W.specialIn K (.builtin "object.__class__") "__get__" = some (some (.builtin "getset_descriptor.__get__"))
  htk : PySem.W.takesIn K (.builtin "object.__class__") = some true
  hm : PySem.W.mroIn K (He.ga K (cname c)) (.type "object") = some true
section
variable {κ : Kx} {w : W3}
theorem tagC_is {m : List Addr} {F H : Hp} {a : Addr} {c : Cell} {t : Tag} (hk : ∀ c ∈ κ.cs, InsK κ.K c) (h : CellOk κ m F H a c) (e : tagC c = some t) : TyX κ.K H (.ref a) (t.v κ.K) := by
  cases c with
  | lst l =>
    cases e
    obtain ⟨xs, h1, _⟩ := h
    exact .base (.lst h1)
  | dct b l =>
    cases e
    cases b with
    | false =>
      obtain ⟨xs, h1, _⟩ := h
      exact .base (.dK h1)
    | true =>
      obtain ⟨xs, h1, _⟩ := h
      exact .base (.dT h1)
  | ins c gs =>
    cases e
    obtain ⟨hc, dx, fs, h1, _⟩ := h
    have k := hk c hc
    exact .base (.ins h1 k.cl k.ha k.hn k.htk k.hm)
  | slf c gs => cases e
  | dead => cases e
theorem tagC_mem {m : List Addr} {F H : Hp} {a : Addr} {c : Cell} {n : Nat} (h : CellOk κ m F H a c) (e : tagC c = some (.own n)) : n ∈ κ.cs := by
  cases c with
  | ins c gs =>
    cases e
    exact h.1
  | _ => cases e
theorem tag_is (hk : ∀ c ∈ κ.cs, InsK κ.K c) (rs : RS κ w) {v : V} {d : D} {t : Tag} (i : IsR κ w v d) (e : tagOf w.env w.μ d = some t) : TyX κ.K w.H v (t.v κ.K) ∧ ∀ c, t = .own c → c ∈ κ.cs := by
  cases d with
  | non =>
    cases e
    cases i
    exact ⟨.base .non, fun c h => nomatch h⟩
  | bl b =>
    cases e
    cases i
    exact ⟨.base (.bl b), fun c h => nomatch h⟩
  | int b =>
    cases e
    cases i
    exact ⟨.base (.int b), fun c h => nomatch h⟩
  | str b =>
    cases e
    cases i
    exact ⟨.base (.str b), fun c h => nomatch h⟩
  | tup l =>
    cases e
    cases i with
    | tup e1 il => exact ⟨.base (.tup (rs.le _ _ e1)), fun c h => nomatch h⟩
  | lst l =>
    cases e
    cases i with
    | lst e1 il => exact ⟨.base (.lst (rs.le _ _ e1)), fun c h => nomatch h⟩
  | rol l =>
    cases e
    cases i with
    | rol e1 il =>
      refine ⟨?_, fun c h => nomatch h⟩
      rcases sqL_mono rs.le e1 with (h | ⟨o, h⟩) | h
      · exact .base (.lst h)
      · exact .base (.frz h)
      · obtain ⟨o, its, n, h1, h2, _⟩ := h
        exact .kList h1 h2
  | dct b l =>
    cases e
    cases i with
    | dct e1 il => exact ⟨.base (.dK (rs.le _ _ e1)), fun c h => nomatch h⟩
    | dctT e1 il => exact ⟨.base (.dT (rs.le _ _ e1)), fun c h => nomatch h⟩
  | ins c gs =>
    cases e
    cases i with
    | ins hc e1 il =>
      have k := hk c hc
      exact ⟨.base (.ins (rs.le _ _ e1) k.cl k.ha k.hn k.htk k.hm), fun c' h => by cases h; exact hc⟩
  | cel n =>
    cases i with
    | cel e1 =>
      unfold tagOf at e
      dsimp only at e
      cases q : w.μ[n]? with
      | none =>
        rw [q] at e
        cases e
      | some c =>
        rw [q] at e
        have e : tagC c = some t := e
        have lc : c.liveC := by
          cases c with
          | slf _ _ => cases e
          | dead => cases e
          | _ => trivial
        have ck := (rs.cel n _ c ⟨q, e1, lc⟩).2
        exact ⟨tagC_is hk ck e, fun c' h => by subst h; exact tagC_mem ck e⟩
  | loc j =>
    unfold tagOf at e
    dsimp only at e
    cases q : w.env[j]? with
    | none =>
      rw [q] at e
      cases e
    | some s =>
      rw [q] at e
      cases s with
      | own c =>
        have e : tagC c = some t := e
        obtain ⟨_, a, e1, e2, ck⟩ := rs.own j _ q
        have e3 : w.σ[j]? = some (some v) := i
        rw [e1] at e3
        cases e3
        exact ⟨tagC_is hk ck e, fun c' h => by subst h; exact tagC_mem ck e⟩
      | _ => cases e
  | exn _ _ => cases e
theorem isi_ok {K : Fg} {cs : List Nat} {cks : List Tag} (h : isiB K cs cks = true) {t : Tag} (ht : (∃ s ∈ ["NoneType", "bool", "int", "str", "tuple", "list", "dict"], t = .ty s) ∨ ∃ c ∈ cs, t = .own c) : PySem.W.kitAny K (t.v K) (cks.map (Tag.v K)) = some (isiAns t cks) := by
  have h1 := List.all_eq_true.mp h t (by
    rw [List.mem_append]
    rcases ht with ⟨s, h2, rfl⟩ | ⟨c, h2, rfl⟩
    · exact .inl (List.mem_map.mpr ⟨s, h2, rfl⟩)
    · exact .inr (List.mem_map.mpr ⟨c, h2, rfl⟩))
  exact of_decide_eq_true h1
theorem tag_in {env : DL.Env} {μ : Mu} {d : D} {t : Tag} {cs : List Nat} (e : tagOf env μ d = some t) (hm : ∀ c, t = .own c → c ∈ cs) : (∃ s ∈ ["NoneType", "bool", "int", "str", "tuple", "list", "dict"], t = .ty s) ∨ ∃ c ∈ cs, t = .own c := by
  cases t with
  | own c => exact .inr ⟨c, hm c rfl, rfl⟩
  | ty s =>
    refine .inl ⟨s, ?_, rfl⟩
    have cell : ∀ c : Cell, tagC c = some (.ty s) → s ∈ ["NoneType", "bool", "int", "str", "tuple", "list", "dict"] := fun c h => by
      cases c <;> cases h <;> simp
    cases d with
    | cel n =>
      unfold tagOf at e
      dsimp only at e
      split at e
      · exact cell _ e
      · cases e
    | loc n =>
      unfold tagOf at e
      dsimp only at e
      split at e
      · exact cell _ e
      · cases e
    | _ => cases e <;> simp
end
/-- the classes as values -/
def Tag.w (K : Fg) : Tag → V
  | .ty s => .ty s
  | .own c => .ref (He.ga K (cname c))
theorem tag_cls (K : Fg) (t : Tag) : ClsV (t.w K) (t.v K) := by
  cases t with
  | ty s => exact .ty s
  | own c => exact .own _
theorem tags_cls (K : Fg) : ∀ cks : List Tag, Paired ClsV (cks.map (Tag.w K)) (cks.map (Tag.v K))
  | [] => .nil
  | t :: r => .cons (tag_cls K t) (tags_cls K r)
def mIsi (cks : List Tag) (Me : EM) : EM := fun env μ => (Me env μ).bind fun d env μ => match tagOf env μ d with
  | some t => .ok (.bl (isiAns t cks)) env μ
  | none => .stk
section
variable {hx : HX} {X : Cx}
theorem kitAny_one {K : Fg} {t c : Value} {b : Bool} (h : PySem.W.kitAny K t [c] = some b) : PySem.W.kitOne K t c = some b := by
  unfold PySem.W.kitAny at h
  cases e : PySem.W.kitOne K t c with
  | none =>
    rw [e] at h
    cases h
  | some r =>
    rw [e] at h
    cases r with
    | true => exact h
    | false => exact h
/-- isinstance(e, C) -/
theorem e_isi {e c : Expr} {Me : EM} {p pos : Pos} (t : Tag) (hk : ∀ c ∈ hx.cs, InsK X.K c) (hB : isiB X.K hx.cs [t] = true) (hg : Gl X "isinstance") (hm : X.mg "isinstance" = none) (he : EOk hx X e Me) (hc : PE X c (tC (t.w X.K)))
    (hs : starEach [e, c] X.env = (false, eval e X.env) :: starEach [c] X.env := by rfl) (hs2 : starEach [c] X.env = (false, eval c X.env) :: starEach [] X.env := by rfl) (hpl : (backTo pos (starEach [c] X.env)).any (·.1) = false := by rfl) :
    EOk hx X (.Call (.Name "isinstance" p) [e, c] [] pos) (mIsi [t] Me) := by
  refine fun W tk => impPE (pe_callB call_isi hg hm (by kernel_rfl) (pa_cons (he W tk) (pa_cons hc pa_nil hs2) hs) (by decide) (by decide) hs hpl) fun σ H Q q => ?_
  obtain ⟨w, rfl, rfl, rs, p⟩ := q
  refine ⟨w, rfl, rfl, rs, (PostE.bind p).imp fun x H1 a1 => ?_⟩
  obtain ⟨w1, d1, rfl, e1, rs1, st1, i1, p1⟩ := a1.ex
  cases et : tagOf w1.env w1.μ d1 with
  | none =>
    rw [et] at p1
    exact p1.elim
  | some t' =>
    rw [et] at p1
    obtain ⟨ty, mm⟩ := tag_is (κ := kx X hx) hk rs1 i1 et
    exact ⟨x, t.w X.K, _, _, isiAns t' [t], rfl, tag_cls X.K t, ty, kitAny_one (isi_ok hB (tag_in et mm)), post_now rs1 (Is.bl _).toR p1⟩
/-- isinstance(e, (C, ..)) -/
def tCs (vs : List V) : TA := fun _ H Q => Q vs H
theorem pac_nil : PA X [] (tCs []) := ⟨fun pos pins s σ H Q I h => pa_nil.run pos pins s σ H Q I h⟩
theorem pac_cons {e : Expr} {es : List Expr} {v : V} {vs : List V} (he : PE X e (tC v)) (hr : PA X es (tCs vs)) (hs : starEach (e :: es) X.env = (false, eval e X.env) :: starEach es X.env := by rfl) : PA X (e :: es) (tCs (v :: vs)) :=
  impPA (pa_cons he hr hs) fun σ H Q q => q
theorem e_isiT {e : Expr} {cl : List Expr} {Me : EM} {x1 : Nat} {p pos tpos : Pos} (cks : List Tag) (hl : cks.length ≤ sizeLine) (hk : ∀ c ∈ hx.cs, InsK X.K c) (hB : isiB X.K hx.cs cks = true) (hg : Gl X "isinstance") (hm : X.mg "isinstance" = none) (he : EOk hx X e Me) (hc : PA X cl (tCs (cks.map (Tag.w X.K))))
    (hs : starEach [e, .Tuple cl x1 tpos] X.env = (false, eval e X.env) :: starEach [.Tuple cl x1 tpos] X.env := by rfl) (hs2 : starEach [.Tuple cl x1 tpos] X.env = (false, eval (.Tuple cl x1 tpos) X.env) :: starEach [] X.env := by rfl) (hpl : (backTo pos (starEach [.Tuple cl x1 tpos] X.env)).any (·.1) = false := by rfl) :
    EOk hx X (.Call (.Name "isinstance" p) [e, .Tuple cl x1 tpos] [] pos) (mIsi cks Me) := by
  refine fun W tk => impPE (pe_callB call_isiT hg hm (by kernel_rfl) (pa_cons (he W tk) (pa_cons (pe_tup hc) pa_nil hs2) hs) (by decide) (by decide) hs hpl) fun σ H Q q => ?_
  obtain ⟨w, rfl, rfl, rs, p⟩ := q
  refine ⟨w, rfl, rfl, rs, (PostE.bind p).imp fun x H1 a1 => ?_⟩
  obtain ⟨w1, d1, rfl, e1, rs1, st1, i1, p1⟩ := a1.ex
  refine ⟨by rw [List.length_map]; exact hl, fun a ha => ?_⟩
  cases et : tagOf w1.env w1.μ d1 with
  | none =>
    rw [et] at p1
    exact p1.elim
  | some t' =>
    rw [et] at p1
    have rs2 : RS (kx X hx) (w1.al a (.tup (cks.map (Tag.w X.K)))) := rs1.al ha
    have st2 : Stp w1 (w1.al a (.tup (cks.map (Tag.w X.K)))) := .al rs1 ha
    obtain ⟨ty, mm⟩ := tag_is (κ := kx X hx) (w := w1.al a (.tup (cks.map (Tag.w X.K)))) hk rs2 (IsR.mono (w := w1) rfl st2.gr i1) et
    refine ⟨x, a, cks.map (Tag.w X.K), _, cks.map (Tag.v X.K), isiAns t' cks, rfl, upd_same, tags_cls X.K cks, ty, isi_ok hB (tag_in et mm), ?_⟩
    exact p1 (w1.al a (.tup (cks.map (Tag.w X.K)))) (.bl _) rfl rfl rfl rs2 st2 (Is.bl _).toR
/-! ### repr -/
mutual
theorem dp_noDict {K : Fg} {H : Hp} : ∀ {v : V} {p : PyData}, Dp K H v p → p.hasDict = false
  | _, _, .non => by simp only [PyData.hasDict]
  | _, _, .bl b => by simp only [PyData.hasDict]
  | _, _, .int b => by simp only [PyData.hasDict]
  | _, _, .str b => by simp only [PyData.hasDict]
  | _, _, .lst h t => by
    simp only [PyData.hasDict]
    exact dpl_noDict t
  | _, _, .tup h t => by
    simp only [PyData.hasDict]
    exact dpl_noDict t
theorem dpl_noDict {K : Fg} {H : Hp} : ∀ {v : List V} {p : List PyData}, DpAll K H v p → PyData.hasDictAll p = false
  | _, _, .nil => by simp only [PyData.hasDictAll]
  | _, _, .cons h t => by
    simp only [PyData.hasDictAll]
    rw [dp_noDict h, dpl_noDict t]
    rfl
end
def rReprD (K : Fg) : List V → Hp → VK → Prop := fun xs H Q => ∃ x p, xs = [x] ∧ Dp K H x p ∧ p.showable = true ∧ p.depth ≤ 50 ∧ p.shown.length ≤ sizeLine ∧ Q (.str p.shown) H
theorem call_reprQ {k : Nat} (hu : X.A.units + 16 * k + 200 < cLine) (hgd : X.A.guards = some []) : CallR X (.builtin "repr") (rReprD X.K) := by
  intro pins s σ H xs us Q I r h
  obtain ⟨x, p, rfl, dp, h1, h2, h3, q⟩ := h
  obtain ⟨u, rfl, rx⟩ := vals1 r
  cases dp with
  | non =>
    cases rx
    exact PySem.P.repr_of_none ⟨.str _, H, I.tok _, ⟨_, rfl⟩, by simpa only [PyData.shown] using q⟩
  | bl b =>
    cases rx
    exact PySem.P.repr_of_bool ⟨.str _, H, I.tok _, ⟨_, rfl⟩, by simpa only [PyData.shown] using q⟩
  | int i =>
    obtain ⟨t, rfl⟩ := rx
    refine PySem.P.repr_of_int (by simpa only [PyData.showable, decide_eq_true_eq] using h1) ⟨.str _, H, I.tok _, ⟨_, rfl⟩, by simpa only [PyData.shown] using q⟩
  | str z =>
    obtain ⟨t, rfl⟩ := rx
    exact PySem.P.repr_of_str ⟨.str _, H, I.tok _, ⟨_, rfl⟩, by simpa only [PyData.shown] using q⟩ (by simpa only [PyData.shown] using h3)
  | lst h t =>
    have dp' : Dp X.K H _ _ := .lst h t
    cases rx
    obtain ⟨as, rd⟩ := Dp.reads I _ _ _ dp' rfl
    exact repr_of_reads' rd h1 (PyData.noDict_hsm (dp_noDict dp')) hgd (by omega) (fun _ _ z => z) (fun h' u tk hk => ⟨.str _, H, I.kept (t' := tk) hk, ⟨u, rfl⟩, q⟩) h3
  | tup h t =>
    have dp' : Dp X.K H _ _ := .tup h t
    cases rx
    obtain ⟨as, rd⟩ := Dp.reads I _ _ _ dp' rfl
    exact repr_of_reads' rd h1 (PyData.noDict_hsm (dp_noDict dp')) hgd (by omega) (fun _ _ z => z) (fun h' u tk hk => ⟨.str _, H, I.kept (t' := tk) hk, ⟨u, rfl⟩, q⟩) h3
theorem call_reprD {k : Nat} (hr : RoomG k X.A) : CallR X (.builtin "repr") (rReprD X.K) := call_reprQ hr.r.un hr.g
def reprD (env : DL.Env) (μ : Mu) : List D → Option D
  | [d] => match toPR env μ d with
    | some p => if p.showable = true ∧ p.depth ≤ 50 ∧ p.shown.length ≤ sizeLine then some (.str p.shown) else none
    | none => none
  | _ => none
theorem call1_repr : Call1 hx X (rReprD X.K) reprD := by
  intro W w vs ds d Q rs i h p
  match ds, i, h with
  | [e], i, h =>
    obtain ⟨v, rfl, i1⟩ := isRL1 i
    unfold reprD at h
    dsimp only at h
    cases e1 : toPR w.env w.μ e with
    | none =>
      rw [e1] at h
      cases h
    | some q =>
      rw [e1] at h
      obtain ⟨hz, rfl⟩ := some_if h
      exact ⟨v, q, rfl, i1.dp rs e1, hz.1, hz.2.1, hz.2.2, post_now rs (Is.str _).toR p⟩
end
end DL
set_option Elab.async false
set_option linter.all false
set_option maxRecDepth 100000
set_option maxHeartbeats 4000000
namespace DL
open PySem PySem.Spec PyProof.Rows L2
/-! ### sorted(ints) -/
def intsOf : List D → Option (List Int)
  | [] => some []
  | .int i :: r => match intsOf r with
    | some is => some (i :: is)
    | none => none
  | _ :: _ => none
theorem intsOf_is {κ : Kx} {m : List Addr} {F : Hp} : ∀ {ds : List D} {ns : List Int} {vs : List V}, intsOf ds = some ns → IsL κ m F vs ds → vs = ns.map V.int
  | [], _, _, e, .nil => by
    cases e
    rfl
  | .int i :: r, _, _, e, .cons h t => by
    unfold intsOf at e
    cases q : intsOf r with
    | none =>
      rw [q] at e
      cases e
    | some is =>
      rw [q] at e
      cases e
      cases h
      rw [intsOf_is q t]
      rfl
  | .non :: r, _, _, e, _ => by cases e
  | .bl _ :: r, _, _, e, _ => by cases e
  | .str _ :: r, _, _, e, _ => by cases e
  | .tup _ :: r, _, _, e, _ => by cases e
  | .lst _ :: r, _, _, e, _ => by cases e
  | .rol _ :: r, _, _, e, _ => by cases e
  | .dct _ _ :: r, _, _, e, _ => by cases e
  | .ins _ _ :: r, _, _, e, _ => by cases e
  | .cel _ :: r, _, _, e, _ => by cases e
  | .loc _ :: r, _, _, e, _ => by cases e
  | .exn _ _ :: r, _, _, e, _ => by cases e
def isort (ns : List Int) : List Int := ns.mergeSort fun a b => decide (a ≤ b)
theorem isort_perm (ns : List Int) : (isort ns).Perm ns := List.mergeSort_perm ..
theorem isort_pair (ns : List Int) : (isort ns).Pairwise (· ≤ ·) := by
  have h := List.pairwise_mergeSort (le := fun a b : Int => decide (a ≤ b)) (fun a b c h1 h2 => by
    have h1 := of_decide_eq_true h1
    have h2 := of_decide_eq_true h2
    exact decide_eq_true (by omega)) (fun a b => by
    by_cases h : a ≤ b
    · rw [decide_eq_true h]
      rfl
    · rw [decide_eq_false h, decide_eq_true (by omega)]
      rfl) ns
  exact h.imp fun h => of_decide_eq_true h
theorem isort_unique {ns ms : List Int} (h : ms.Perm ns) (p : ms.Pairwise (· ≤ ·)) : ms = isort ns :=
  (h.trans (isort_perm ns).symm).eq_of_pairwise (fun a b _ _ h1 h2 => Int.le_antisymm h1 h2) p (isort_pair ns)
theorem ints_isL {κ : Kx} {m : List Addr} {F : Hp} : ∀ ns : List Int, IsL κ m F (ns.map V.int) (ns.map D.int)
  | [] => .nil
  | n :: r => .cons (.int n) (ints_isL r)
def sortedC (env : DL.Env) (μ : Mu) : List D → Option Cell
  | [d] => match seqOf env μ d with
    | some (.tup, _) => none
    | some (_, l) => (intsOf l).map fun ns => .lst ((isort ns).map D.int)
    | none => none
  | _ => none
section
variable {hx : HX} {X : Cx}
theorem call2_sorted : Call2 hx X (rSortedI X.K) sortedC := by
  intro W w vs ds c Q rs i h p
  match ds, i, h with
  | [e], i, h =>
    obtain ⟨v, rfl, i1⟩ := isRL1 i
    have h' : (match seqOf w.env w.μ e with
      | some (.tup, _) => none
      | some (_, l) => (intsOf l).map fun ns => Cell.lst ((isort ns).map D.int)
      | none => none) = some c := h
    cases e1 : seqOf w.env w.μ e with
    | none =>
      rw [e1] at h'
      cases h'
    | some kl =>
      obtain ⟨k, l⟩ := kl
      rw [e1] at h'
      obtain ⟨a, xs, rfl, il, s⟩ := seq_heap rs i1 e1
      have hk : k ≠ .tup := fun z => by
        subst z
        cases h'
      have h2 : (intsOf l).map (fun ns => Cell.lst ((isort ns).map D.int)) = some c := by
        cases k with
        | tup => exact absurd rfl hk
        | _ => exact h'
      cases e2 : intsOf l with
      | none =>
        rw [e2] at h2
        cases h2
      | some ns =>
        rw [e2] at h2
        cases h2
        have ex := intsOf_is e2 il
        subst ex
        refine ⟨a, ns, rfl, seqL_of s hk, fun ns' q hp hs hq => ?_⟩
        rw [isort_unique hp hs]
        exact postN_lst rs hq (ints_isL _) p
/-! ### list(x), x a list, a tuple, a dict -/
def rListD (K : Fg) : List V → Hp → VK → Prop := fun xs H Q => ∃ (a : Addr) (kvs : List (Key × V)), xs = [.ref a] ∧ Rd H a (.dK kvs) ∧ ∀ p, H p = none → Q (.ref p) (upd H p (.lst (kvs.map fun kv => kV kv.1)))
def kkKeys : List (KK × D) → List D
  | [] => []
  | (k, _) :: r => kkD k :: kkKeys r
theorem keys_isL {κ : Kx} {m : List Addr} {F : Hp} : ∀ {kvs : List (Key × V)} {l : List (KK × D)}, IsK κ m F kvs l → IsL κ m F (kvs.map fun kv => kV kv.1) (kkKeys l)
  | _, _, .nil => .nil
  | _, _, .cons (k := k) h t => by
    refine .cons ?_ (keys_isL t)
    cases k with
    | inl i => exact .int i
    | inr x => exact .str x
def dkeysC (env : DL.Env) (μ : Mu) : List D → Option Cell
  | [d] => match dctOf env μ d with
    | some (false, l) => some (.lst (kkKeys l))
    | _ => none
  | _ => none
theorem call2_dkeys : Call2 hx X (rListD X.K) dkeysC := by
  intro W w vs ds c Q rs i h p
  match ds, i, h with
  | [e], i, h =>
    obtain ⟨v, rfl, i1⟩ := isRL1 i
    have h' : (match dctOf w.env w.μ e with
      | some (false, l) => some (Cell.lst (kkKeys l))
      | _ => none) = some c := h
    cases e1 : dctOf w.env w.μ e with
    | none =>
      rw [e1] at h'
      cases h'
    | some kl =>
      obtain ⟨k, l⟩ := kl
      rw [e1] at h'
      cases k with
      | true => cases h'
      | false =>
        cases h'
        obtain ⟨a, rfl, kvs, h1, h2⟩ := dct_heap rs i1 e1
        exact ⟨a, kvs, rfl, .inl h1, fun q hq => postN_lst rs hq (keys_isL h2) p⟩
/-! ### -x -/
def negD (_ : DL.Env) (_ : Mu) : D → Option D
  | .int i => some (.int (-i))
  | _ => none
theorem e_neg {a : Expr} {Ma : EM} {pos : Pos} (ha : EOk hx X a Ma) : EOk hx X (.UnaryOp .USub a pos) (mUn negD Ma) := by
  refine fun W tk => impPE (pe_un un_neg (ha W tk)) fun σ H Q q => ?_
  obtain ⟨w, rfl, rfl, rs, p⟩ := q
  refine ⟨w, rfl, rfl, rs, (PostE.bind p).imp fun x H1 a1 => ?_⟩
  obtain ⟨w1, d1, rfl, e1, rs1, st1, i1, p1⟩ := a1.ex
  obtain ⟨d, e, p3⟩ := PostE.lift p1
  cases d1 with
  | int i =>
    cases e
    exact ⟨i, isR_int i1, post_now rs1 (Is.int _).toR p3⟩
  | _ => cases e
/-! ### {k: v, ..} -/
/-- the pairs of a display -/
inductive KR where
  | ok (l : List (D × D)) (env : DL.Env) (μ : Mu)
  | exc (x : Exn) (env : DL.Env) (μ : Mu)
  | stk
def mPairs : List (EM × EM) → DL.Env → Mu → KR
  | [], env, μ => .ok [] env μ
  | (mk, mv) :: r, env, μ => match mk env μ with
    | .ok k env μ => match mv env μ with
      | .ok v env μ => match mPairs r env μ with
        | .ok l env μ => .ok ((k, v) :: l) env μ
        | .exc x env μ => .exc x env μ
        | .stk => .stk
      | .exc x env μ => .exc x env μ
      | .stk => .stk
    | .exc x env μ => .exc x env μ
    | .stk => .stk
def putAll : List (KK × D) → List (D × D) → Option (List (KK × D))
  | acc, [] => some acc
  | acc, (k, v) :: r => match keyOf k with
    | some k' => if noLoc v = true then putAll (gput acc (.k k') v) r else none
    | none => none
def mDisp (ps : List (EM × EM)) : NM := fun env μ => match mPairs ps env μ with
  | .ok l env μ => match putAll [] l with
    | some kvs => if l.length ≤ 15 then .ok (.dct false kvs) env μ else .stk
    | none => .stk
  | .exc x env μ => .exc x env μ
  | .stk => .stk
inductive PsOk (hx : HX) (X : Cx) : List (Option Expr) → List Expr → List (EM × EM) → Prop where
  | nil : PsOk hx X [] [] []
  | cons {k v : Expr} {ks : List (Option Expr)} {vs : List Expr} {mk mv : EM} {ms : List (EM × EM)} : EOk hx X k mk → EOk hx X v mv → PsOk hx X ks vs ms → PsOk hx X (some k :: ks) (v :: vs) ((mk, mv) :: ms)
def PostK (κ : Kx) (W : WX) (w : W3) (r : KR) (Q : List (V × V) → Hp → Prop) : Prop :=
  match r with
  | .ok l env' μ' => ∀ (w' : W3) (ps : List (V × V)), w'.σ = w.σ → w'.env = env' → w'.μ = μ' → RS κ w' → Stp w w' → IsRL κ w' (ps.map (·.1)) (l.map (·.1)) → IsRL κ w' (ps.map (·.2)) (l.map (·.2)) → Q ps w'.H
  | .exc x env' μ' => ∀ (w' : W3) (cls : Value) (dd : Option Addr), w'.σ = w.σ → w'.env = env' → w'.μ = μ' → RS κ w' → Stp w w' → ExIs κ w' x cls dd → W cls dd w'.σ w'.H
  | .stk => False
theorem pairs_of {W : WX} : ∀ (ms : List (EM × EM)) {w : W3} {Q : List (V × V) → Hp → Prop}, RS (kx X hx) w → PostK (kx X hx) W w (mPairs ms w.env w.μ) Q →
    tPairs (ms.map fun m => (rdE (kx X hx) W m.1, rdE (kx X hx) W m.2)) w.σ w.H Q
  | [], w, Q, rs, p => p w [] rfl rfl rfl rs (.refl _) .nil .nil
  | (mk, mv) :: r, w, Q, rs, p => by
    refine ⟨w, rfl, rfl, rs, ?_⟩
    show PostE (kx X hx) W w (mk w.env w.μ) _
    unfold mPairs at p
    cases e1 : mk w.env w.μ with
    | stk =>
      rw [e1] at p
      exact p.elim
    | exc x env' μ' =>
      rw [e1] at p
      exact p
    | ok k env' μ' =>
      rw [e1] at p
      intro w1 x a1 a2 a3 rs1 st1 i1
      subst a2 a3
      dsimp only at p
      rw [← a1]
      refine ⟨w1, rfl, rfl, rs1, ?_⟩
      show PostE (kx X hx) W w1 (mv w1.env w1.μ) _
      cases e2 : mv w1.env w1.μ with
      | stk =>
        rw [e2] at p
        exact p.elim
      | exc x env' μ' =>
        rw [e2] at p
        exact fun w' cls dd b1 b2 b3 rs' st i => p w' cls dd (b1.trans a1) b2 b3 rs' (st1.trans st) i
      | ok v env' μ' =>
        rw [e2] at p
        intro w2 y b1 b2 b3 rs2 st2 i2
        subst b2 b3
        dsimp only at p
        rw [← b1]
        refine pairs_of r rs2 ?_
        cases e3 : mPairs r w2.env w2.μ with
        | stk =>
          rw [e3] at p
          exact p.elim
        | exc x env' μ' =>
          rw [e3] at p
          exact fun w' cls dd c1 c2 c3 rs' st i => p w' cls dd ((c1.trans b1).trans a1) c2 c3 rs' ((st1.trans st2).trans st) i
        | ok l env' μ' =>
          rw [e3] at p
          intro w3 ps c1 c2 c3 rs3 st3 i3 i4
          exact p w3 ((x, y) :: ps) ((c1.trans b1).trans a1) c2 c3 rs3 ((st1.trans st2).trans st3) (.cons ((i1.mono b1 st2.gr).mono c1 st3.gr) i3) (.cons (i2.mono c1 st3.gr) i4)
theorem pps_of {W : WX} {pos : Pos} {keys : List (Option Expr)} {values : List Expr} {ms : List (EM × EM)} (h : PsOk hx X keys values ms) (tk : Takes X W) : PPs X pos keys values (ms.map fun m => (rdE (kx X hx) W m.1, rdE (kx X hx) W m.2)) := by
  induction h with
  | nil => exact pps_nil
  | cons hk hv _ ih => exact pps_cons (hk W tk) (hv W tk) ih
theorem putAll_is {κ : Kx} {w : W3} : ∀ {l : List (D × D)} {ps : List (V × V)} {acc : List (KK × D)} {kacc : List (Key × V)} {kvs : List (KK × D)}, putAll acc l = some kvs → IsK κ w.m w.F kacc acc → IsRL κ w (ps.map (·.1)) (l.map (·.1)) → IsRL κ w (ps.map (·.2)) (l.map (·.2)) →
    ∃ more : List (Key × V), ps = more.map (fun kv => (kV kv.1, kv.2)) ∧ more.length = l.length ∧ IsK κ w.m w.F (mergeK kacc more) kvs
  | [], ps, acc, kacc, kvs, e, ik, i1, i2 => by
    cases e
    cases ps with
    | nil => exact ⟨[], rfl, rfl, ik⟩
    | cons _ _ => cases i1
  | (k, v) :: r, ps, acc, kacc, kvs, e, ik, i1, i2 => by
    unfold putAll at e
    cases q : keyOf k with
    | none =>
      rw [q] at e
      cases e
    | some k' =>
      rw [q] at e
      dsimp only at e
      by_cases hn : noLoc v = true
      · rw [if_pos hn] at e
        cases ps with
        | nil => cases i1
        | cons p ps =>
          cases i1 with
          | cons h1 t1 =>
            cases i2 with
            | cons h2 t2 =>
              have ek : p.1 = kV k' := by
                cases k with
                | int j =>
                  cases q
                  exact isR_int h1
                | str j =>
                  cases q
                  exact isR_str h1
                | _ => cases q
              obtain ⟨more, e1, e2, e3⟩ := putAll_is e (ik.put (k := k') (h2.is hn)) t1 t2
              refine ⟨(k', p.2) :: more, ?_, by rw [List.length_cons, List.length_cons, e2], e3⟩
              rw [List.map_cons, ← e1, ← ek]
      · rw [if_neg hn] at e
        cases e
theorem n_disp {pos : Pos} {keys : List (Option Expr)} {values : List Expr} {ms : List (EM × EM)} (h : PsOk hx X keys values ms) (hall : keys.all (·.isSome) = true) (hl : keys.length = values.length) (h0 : keys ≠ []) (h15 : keys.length ≤ 15) : NOk hx X (.Dict keys values pos) (mDisp ms) := by
  refine fun W tk => impPE (pe_disp (pps_of h tk) hall hl h0 h15) fun σ H Q q => ?_
  obtain ⟨w, rfl, rfl, rs, p⟩ := q
  intro p0 hp
  -- the new dict stands empty, nobody else holds it
  have rs1 : RS (kx X hx) (w.ah p0 (.dK [])) := rs.ah hp
  have st1 : Stp w (w.ah p0 (.dK [])) := .ah rs hp
  have f1 : w.F p0 = none := rs.fnone hp
  have n1 : ¬ (w.ah p0 (.dK [])).Mut p0 := rs.notMut hp
  refine pairs_of (w := w.ah p0 (.dK [])) ms rs1 ?_
  show PostK (kx X hx) W (w.ah p0 (.dK [])) (mPairs ms w.env w.μ) _
  unfold mDisp at p
  cases e : mPairs ms w.env w.μ with
  | stk =>
    rw [e] at p
    exact p.elim
  | exc x env' μ' =>
    rw [e] at p
    exact fun w' cls dd a1 a2 a3 rs' st i => p w' cls dd a1 a2 a3 rs' (st1.trans st) i
  | ok l env' μ' =>
    rw [e] at p
    intro w2 ps a1 a2 a3 rs2 st2 i1 i2
    subst a2 a3
    dsimp only at p
    cases e2 : putAll [] l with
    | none =>
      rw [e2] at p
      exact p.elim
    | some kvs =>
      rw [e2] at p
      dsimp only at p
      by_cases h15' : l.length ≤ 15
      · rw [if_pos h15'] at p
        have kH : w2.H p0 = some (.dK []) := st2.kp p0 _ upd_same n1
        obtain ⟨more, em, el, im⟩ := putAll_is (kacc := []) e2 .nil i1 i2
        have f2 : w2.F p0 = none := by
          cases q : w2.F p0 with
          | none => rfl
          | some o =>
            rcases st2.ff p0 o q with z | z | z
            · have z' : w.F p0 = some o := z
              rw [f1] at z'
              cases z'
            · exact (n1 z).elim
            · have z' : upd w.H p0 (HO.dK []) p0 = none := z
              rw [upd_same] at z'
              cases z'
        have n2 : ¬ w2.Mut p0 := fun z => by
          rcases st2.fr p0 z with z | z
          · exact n1 z
          · have z' : upd w.H p0 (HO.dK []) p0 = none := z
            rw [upd_same] at z'
            cases z'
        refine ⟨kH, more, em, by rw [el]; exact h15', ?_⟩
        exact p (w2.ah p0 (.dK (mergeK [] more))) p0 a1 rfl rfl (rs2.poke f2 n2) (Stp.poke (st1.trans st2) hp) (.inr hp) f2 n2 trivial ⟨_, upd_same, im⟩
      · rw [if_neg h15'] at p
        exact p.elim
theorem n_newK {pos : Pos} : NOk hx X (.Dict [] [] pos) (fun env μ => .ok (.dct false []) env μ) := by
  refine fun W tk => impPE pe_dnewK fun σ H Q q => ?_
  obtain ⟨w, rfl, rfl, rs, p⟩ := q
  exact fun a ha => p (w.ah a (.dK [])) a rfl rfl rfl (rs.ah ha) (.ah rs ha) (.inr ha) (rs.fnone ha) (rs.notMut ha) trivial ⟨[], upd_same, .nil⟩
theorem n_newT {pos : Pos} : NOk hx X (.Dict [] [] pos) (fun env μ => .ok (.dct true []) env μ) := by
  refine fun W tk => impPE pe_dnewT fun σ H Q q => ?_
  obtain ⟨w, rfl, rfl, rs, p⟩ := q
  exact fun a ha => p (w.ah a (.dT [])) a rfl rfl rfl (rs.ah ha) (.ah rs ha) (.inr ha) (rs.fnone ha) (rs.notMut ha) trivial ⟨[], upd_same, .nil⟩
end
end DL
set_option Elab.async false
set_option linter.all false
set_option maxRecDepth 100000
set_option maxHeartbeats 4000000
namespace DL
open PySem PySem.Spec PyProof.Rows L2
/-! ### words, with few arguments left -/
theorem RoomG.u64 {k : Nat} {A : Around} (h : RoomG k A) : A.units + 64 < cLine := by
  have := h.r.un
  omega
theorem RoomG.u1 {k : Nat} {A : Around} (h : RoomG k A) : A.units + 1 < cLine := by
  have := h.r.un
  omega
section
variable {hx : HX} {X : Cx} {e e2 : Expr} {Ma : AM} {p pos : Pos}
theorem call_lenA : CallR X (.builtin "len") (rLenD X.K) := call_len.or call_lenD
theorem e_len (hm : X.mg "len" = none) (hg : Gl X "len") (ha : AOk hx X [e] Ma) (he : starEach [e] X.env = (false, eval e X.env) :: starEach [] X.env := by rfl) : EOk hx X (.Call (.Name "len" p) [e] [] pos) (mCall lenD Ma) := e_callB call_lenA call1_len hg hm boot_len ha (by decide) (by decide) he (by rfl)
theorem e_abs (hm : X.mg "abs" = none) (hg : Gl X "abs") (ha : AOk hx X [e] Ma) (he : starEach [e] X.env = (false, eval e X.env) :: starEach [] X.env := by rfl) : EOk hx X (.Call (.Name "abs" p) [e] [] pos) (mCall absD Ma) := e_callB call_abs call1_abs hg hm (by kernel_rfl) ha (by decide) (by decide) he (by rfl)
theorem e_intc (hm : X.mg "int" = none) (hg : Gl X "int") (ha : AOk hx X [e] Ma) (he : starEach [e] X.env = (false, eval e X.env) :: starEach [] X.env := by rfl) : EOk hx X (.Call (.Name "int" p) [e] [] pos) (mCall intD Ma) := e_callTy call_int1 call1_int hg hm (by kernel_rfl) ha (by decide) (by decide) he (by rfl)
theorem e_tupc (hm : X.mg "tuple" = none) (hg : Gl X "tuple") (ha : AOk hx X [e] Ma) (he : starEach [e] X.env = (false, eval e X.env) :: starEach [] X.env := by rfl) : EOk hx X (.Call (.Name "tuple" p) [e] [] pos) (mCall tupleD Ma) := e_callTy call_tuple_of call1_tuple hg hm (by kernel_rfl) ha (by decide) (by decide) he (by rfl)
theorem e_allc (hc : X.calm = true) (hm : X.mg "all" = none) (hg : Gl X "all") (ha : AOk hx X [e] Ma) (he : starEach [e] X.env = (false, eval e X.env) :: starEach [] X.env := by rfl) : EOk hx X (.Call (.Name "all" p) [e] [] pos) (mCall allD Ma) := e_callB (cr_all hc) call1_all hg hm (by kernel_rfl) ha (by decide) (by decide) he (by rfl)
theorem e_anyc (hc : X.calm = true) (hm : X.mg "any" = none) (hg : Gl X "any") (ha : AOk hx X [e] Ma) (he : starEach [e] X.env = (false, eval e X.env) :: starEach [] X.env := by rfl) : EOk hx X (.Call (.Name "any" p) [e] [] pos) (mCall anyD Ma) := e_callB (cr_any hc) call1_any hg hm (by kernel_rfl) ha (by decide) (by decide) he (by rfl)
theorem e_repr {k : Nat} (hr : RoomG k X.A) (hm : X.mg "repr" = none) (hg : Gl X "repr") (ha : AOk hx X [e] Ma) (he : starEach [e] X.env = (false, eval e X.env) :: starEach [] X.env := by rfl) : EOk hx X (.Call (.Name "repr" p) [e] [] pos) (mCall reprD Ma) := e_callB (call_reprD hr) call1_repr hg hm (by kernel_rfl) ha (by decide) (by decide) he (by rfl)
theorem e_max2 (hc : X.calm = true) (hm : X.mg "max" = none) (hg : Gl X "max") (ha : AOk hx X [e, e2] Ma) (he : starEach [e, e2] X.env = (false, eval e X.env) :: starEach [e2] X.env := by rfl) (hpl : (backTo pos (starEach [e2] X.env)).any (·.1) = false := by rfl) : EOk hx X (.Call (.Name "max" p) [e, e2] [] pos) (mCall max2D Ma) := e_callB (call_max2 hc) call1_max2 hg hm (by kernel_rfl) ha (by decide) (by decide) he hpl
theorem e_min2 (hc : X.calm = true) (hm : X.mg "min" = none) (hg : Gl X "min") (ha : AOk hx X [e, e2] Ma) (he : starEach [e, e2] X.env = (false, eval e X.env) :: starEach [e2] X.env := by rfl) (hpl : (backTo pos (starEach [e2] X.env)).any (·.1) = false := by rfl) : EOk hx X (.Call (.Name "min" p) [e, e2] [] pos) (mCall min2D Ma) := e_callB (call_min2 hc) call1_min2 hg hm (by kernel_rfl) ha (by decide) (by decide) he hpl
theorem n_listc (hm : X.mg "list" = none) (hg : Gl X "list") (ha : AOk hx X [e] Ma) (he : starEach [e] X.env = (false, eval e X.env) :: starEach [] X.env := by rfl) : NOk hx X (.Call (.Name "list" p) [e] [] pos) (mCallN listC Ma) := n_callTy call_list_of call2_list hg hm (by kernel_rfl) ha (by decide) (by decide) he (by rfl)
theorem n_listd (hc : X.calm = true) (hm : X.mg "list" = none) (hg : Gl X "list") (ha : AOk hx X [e] Ma) (he : starEach [e] X.env = (false, eval e X.env) :: starEach [] X.env := by rfl) : NOk hx X (.Call (.Name "list" p) [e] [] pos) (mCallN dkeysC Ma) := n_callTy (call_listD hc) call2_dkeys hg hm (by kernel_rfl) ha (by decide) (by decide) he (by rfl)
theorem n_sorted (hm : X.mg "sorted" = none) (hg : Gl X "sorted") (ha : AOk hx X [e] Ma) (he : starEach [e] X.env = (false, eval e X.env) :: starEach [] X.env := by rfl) : NOk hx X (.Call (.Name "sorted" p) [e] [] pos) (mCallN sortedC Ma) := n_callB cr_sortedI call2_sorted hg hm (by kernel_rfl) ha (by decide) (by decide) he (by rfl)
/-- a class's name as a value -/
theorem cls_ty {n : Str} {T : String} (hm : X.mg n = none) (hg : Gl X n) (hv : bootBuiltins n = some (.type T)) (hn : n ≠ "__name__" := by decide) (hd : (n == ("__debug__" : Str)) = false := by decide) : PE X (.Name n p) (tC ((Tag.ty T).w X.K)) := pe_bltn hg hm hv rfl hn hd
theorem cls_own {n : Str} {c : Nat} (hm : X.mg n = some (.ref (He.ga X.K (cname c)))) (hg : Gl X n) (hd : (n == ("__debug__" : Str)) = false := by decide) : PE X (.Name n p) (tC ((Tag.own c).w X.K)) := pe_glob hg hm rfl hd
end
theorem boot_int : bootBuiltins "int" = some (.type "int") := by kernel_rfl
theorem boot_bool : bootBuiltins "bool" = some (.type "bool") := by kernel_rfl
theorem boot_str : bootBuiltins "str" = some (.type "str") := by kernel_rfl
theorem boot_list' : bootBuiltins "list" = some (.type "list") := by kernel_rfl
theorem boot_tuple' : bootBuiltins "tuple" = some (.type "tuple") := by kernel_rfl
theorem boot_dict : bootBuiltins "dict" = some (.type "dict") := by kernel_rfl
end DL
set_option Elab.async false
set_option linter.all false
set_option maxRecDepth 100000
set_option maxHeartbeats 4000000
/-! ### errors of one's own that say super().__init__(text) -/
namespace DL
open PySem
abbrev bmVE : List Value := [.type "ValueError", .type "Exception", .type "BaseException", .type "object"]
/-- a built-in error class that own errors stand upon -/
structure ExB (B newId initId : String) (bmB : List Value) : Prop where
  F : ExcBaseFacts B newId initId bmB
  K : PySem.W.KxsFacts B initId
  S : StoreFacts B bmB "object.__setattr__" "object"
theorem exVE : ExB "ValueError" "ValueError.__new__" "ValueError.__init__" bmVE := ⟨PySem.F.excBase_ValueError, PySem.W.kxs_ValueError, PySem.F.store_ValueError⟩
end DL
namespace DL
open PySem PySem.Spec PyProof.Rows PySem.W PySem.Calls
open Builtin Builtin.ObjectAttr
section
variable {prog : Program} {w : World} {A : Around} {E : Value → Shared → Prop} {R : Result → Shared → Prop} {hp : Heap} {g : Array GenState} {d : Drawn} {t : Nat} {os : OsState}
/-- self.name = v, the first field -/
theorem osa_b {B : String} {bmB : List Value} {K : W.Frag} {name : Str} {tk : Tok} {v : Value} {x C : Addr} {fv : Array Value} (SF : StoreFacts B bmB "object.__setattr__" "object")
    (X : K.In hp) (hx : hp.get? x = some { cls := .ref C, data := .fields fv }) (ho : excOver K C bmB = true) (ht : takerIn K C name = some none) (hh : hasDictIn K C = true)
    (hq : ∀ h' tk' dx, (∀ b o, b ≠ x → hp.get? b = some o → h'.get? b = some o) → hp.objs.size ≤ dx → dx ≠ x → h'.get? x = some { cls := .ref C, dict := some dx, data := .fields fv } →
      h'.Ns1 dx (fun y => if y = name then some v else none) → R (.ok (.ret .none)) ⟨h', g, d, tk', os⟩) :
    codeAny (model prog w) A (.call (.builtin "object.__setattr__") ⟨[.ref x, .str name tk, v], []⟩) R ⟨hp, g, d, t, os⟩ := by
  have I : W.InstAt hp x { cls := .ref C, data := .fields fv } C none := ⟨hx, rfl, rfl, trivial⟩
  have hxs : x ≠ hp.objs.size := Nat.ne_of_lt (Heap.lt_size hx)
  refine osa_openX (od := none) SF X I ho ht fun b => ?_
  obtain ⟨cd, hcd, hd'⟩ := any_some hh
  have hcls : W.Looks (model prog w) hp (classData C) cd := W.looks_clsIn X hcd
  obtain ⟨nm, bs, mro, ns, qn, hd, sn, sb, ab, col, del⟩ := cd
  dsimp only at hd'
  subst hd'
  show wpAny _ _ (storeInOwnDict (.ref x) (.ref C) (.str name tk) name v b) _ _ _
  unfold storeInOwnDict ownDictForStores
  repeat (first | with_reducible refine HandSPX.store_in_new ?_ ?_ | with_reducible refine wpAny_loadPart_at hx ?_ | with_reducible refine hcls.at ?_ | wp_step)
  · exact ⟨_, #[], _, (Heap.get?_update_ne _ _ _ _ hxs.symm).trans (Heap.get?_push_at rfl rfl), rfl, fun e he => absurd he (by simp), fun _ => rfl⟩
  · intro h' tk' hn' hs
    have hx₁ : (hp.push { cls := .type "dict", data := .dict #[] }).get? x = some { cls := .ref C, data := .fields fv } := Heap.get?_push_of_some _ hx
    refine hq h' tk' hp.objs.size (fun b o hb ho => ?_) (Nat.le_refl _) hxs.symm ?_ hn'
    · exact (hs.2 b (Nat.ne_of_lt (Heap.lt_size ho))).trans ((Heap.get?_update_ne _ _ _ _ hb).trans (Heap.get?_push_of_some _ ho))
    · exact (hs.2 x hxs).trans (Heap.get?_update_self _ hx₁ rfl)
end
/-- the code of such an __init__ -/
abbrev iBody (slf p fld txt : Str) (j : Nat) (p0 p1 p2 p3 p4 p5 p6 p7 p8 p9 : Pos) : List Stmt :=
  [.Expr (.Call (.Attribute (.Call (.Name "super" p0) [] [] p1) "__init__" p2) [.Constant (.str txt) j p3] [] p4) p5, .Assign [.Attribute (.Name slf p6) fld p7] (.Name p p8) p9]
/-- super().__init__(text) is read so at these places -/
def SupEv (txt : Str) (j : Nat) (p0 p1 p2 p3 p4 : Pos) : Prop := ∀ env : PySem.Env, ∃ pl : Sem Bool, eval (.Call (.Attribute (.Call (.Name "super" p0) [] [] p1) "__init__" p2) [.Constant (.str txt) j p3] [] p4) env = (do
  let ov ← attributeBase (.Call (.Name "super" p0) [] [] p1) "__init__" env (eval (.Call (.Name "super" p0) [] [] p1) env)
  standAt p2.atName
  let (f, first) ← holding [ov] (getMethod ov "__init__" pl)
  callWith p4 f first (backTo p4 (starEach [.Constant (.str txt) j p3] env)) [])
/-- what the written part tells of an own error C(x): C's __init__ says super().__init__(text) and self.fld = x -/
structure SupC (P : Program) (K : Fg) (C : Addr) (fld : Str) : Prop where
  ex : ∃ (B newId initId : String) (bmB : List Value) (f cc cda : Addr) (oc ccl cl : Value) (od cdd cld : Option Addr) (osl ccs csl : Array (Option Value)) (fd : FuncData) (nm qual : Str) (params : Arguments) (scope : Scope) (dV kV doc pm ct : Value) (an : Option Addr)
      (slf p txt : Str) (j : Nat) (p0 p1 p2 p3 p4 p5 p6 p7 p8 p9 : Pos) (vs : Array Value) (file : Str) (tf : Tok) (ar : Arg) (cdD : ClassData),
    ExB B newId initId bmB ∧ excInitIn K C bmB newId = true ∧ excOver K C bmB = true ∧ findIn K (.ref C) "__init__" = some (some (.ref f)) ∧ typeIn K (.ref f) = some (.type "function") ∧
    fd = ksFn nm qual params (iBody slf p fld txt j p0 p1 p2 p3 p4 p5 p6 p7 p8 p9) scope dV kV doc pm an (.ref cda) ct cc ∧
    K.lookup f = some ⟨oc, od, .func fd, osl⟩ ∧ codeIn K (.ref cda) qual = true ∧
    K.lookup cda = some ⟨ccl, cdd, .fields vs, ccs⟩ ∧ vs[2]? = some (.str file tf) ∧ ((P.main.file : Str) == file) = true ∧ K.lookup cc = some ⟨cl, cld, .cell (some (.ref C)), csl⟩ ∧ clsIn K C = some cdD ∧
    mroIn K C (.ref C) = some true ∧ ks_superIn K C C "__init__" = some (some (.builtin initId)) ∧ subIn K (.ref C) (.type B) = some true ∧
    (params.posonlyargs ++ params.args).head? = some ar ∧ ar.arg = slf ∧ (slf == p) = false ∧ SupEv txt j p0 p1 p2 p3 p4 ∧
    (∀ a b : Value, bindArgs fd ⟨[a, b], []⟩ = pure [(slf, a), (p, b)]) ∧
    scope.names.lookup ("super" : Str) = some .globalImplicit ∧ scope.names.lookup ("__class__" : Str) = some .free ∧ scope.names.lookup slf = some .local ∧ scope.names.lookup p = some .local ∧
    (∀ x ∈ scope.names, x.2 ≠ .cell) ∧ scope.isCoroutine = false ∧ scope.isGenerator = false ∧ scope.kind = .function ∧ (slf == ("__debug__" : Str)) = false ∧ (p == ("__debug__" : Str)) = false
  top : (P.main.scope.names.lookup ("super" : Str)).isSome = false
  sa : findIn K (.ref C) "__setattr__" = some (some (.builtin "object.__setattr__"))
  tk : takerIn K C fld = some none
  hd : hasDictIn K C = true
  exC : subIn K (.ref C) (.type "BaseException") = some true
  tyC : typeIn K (.ref C) = some (.type "type")
  kC : keepIn K (.ref C) = true
  st : nsIn K cStatics "thirdparty.any" = some none
section
variable {prog : Program} {w : World} {A : Around} {R : Result → Shared → Prop} {s : Shared}
/-- super() -/
theorem sup_node {E : Value → Shared → Prop} {body : List Stmt} {q : Str} {scope : Scope} {p0 p1 : Pos} {attr : Str} {whole : Sem Value} {fd : FuncData} {ar : Arg} {vs : Array Value} {file : Str} {tf : Tok} {oc ccl cl : Value} {od cdd cld : Option Addr} {osl ccs csl : Array (Option Value)} {cdD : ClassData} {Q : Value → Shared → Prop}
    {h₀ : Heap} {L f cc cda x C D : Addr} {m mg : Str → Option Value} {news : List (Addr × Obj)} {K : Frag} {ox : Obj} {odx : Option Obj}
    (F : Fr h₀ L s.heap m) (X₀ : K.In h₀) (N : News h₀ L s.heap news) (Mg : s.heap.Ns mainGlobals mg) (Mb : ∃ mb, s.heap.Ns builtinsNs mb ∧ ∀ x : Str, x ≠ "__name__" → mb x = bootBuiltins x)
    (hf : K.lookup f = some ⟨oc, od, .func fd, osl⟩) (hp : (fd.params.posonlyargs ++ fd.params.args).head? = some ar) (hv : m ar.arg = some (.ref x)) (I : InstAt s.heap x ox C odx)
    (hcode : K.lookup cda = some ⟨ccl, cdd, .fields vs, ccs⟩) (hvs : vs[2]? = some (.str file tf)) (hfile : ((prog.main.file : Str) == file) = true)
    (hcell : K.lookup cc = some ⟨cl, cld, .cell (some (.ref D)), csl⟩) (hD : clsIn K D = some cdD) (hsub : mroIn K C (.ref D) = some true) (hsuper : mg "super" = none)
    (hat : (attr == ("__class__" : Str)) = false) (hks : scope.names.lookup ("super" : Str) = some .globalImplicit) (hkc : scope.names.lookup ("__class__" : Str) = some .free) (hka : scope.names.lookup ar.arg = some .local) (hk : scope.kind = .function)
    (htop : (prog.main.scope.names.lookup ("super" : Str)).isSome = false)
    (h : ∀ so h', Fr h₀ L h' m → News h₀ L h' ((so, ks_superObj D x C) :: news) → (∀ p ∈ news, p.1 < so) → Q (.ref so) { s with heap := h' }) :
    _root_.PySem.wpAt (model prog w) A (.func body (ksEnv q scope L f (.ref cda) cc)) (attributeBase (.Call (.Name "super" p0) [] [] p1) attr (ksEnv q scope L f (.ref cda) cc) whole) Q E s := by
  have X : K.In s.heap := X₀.keeps F.keep
  obtain ⟨hh, g, d, t, os⟩ := s
  obtain ⟨mb, hmb, hbt⟩ := Mb
  obtain ⟨oD, hD1, hD2⟩ : ∃ oD, hh.get? D = some oD ∧ oD.data = .cls cdD := by
    unfold clsIn at hD
    split at hD
    · rename_i c d cd' sl ho
      cases hD
      exact ⟨_, X _ _ ho, rfl⟩
    · cases hD
  refine ks_wpAt_super_base (env := ksEnv q scope L f (.ref cda) cc) hks hkc hat rfl (X _ _ hf) rfl hp rfl (X _ _ hcode) rfl hvs hfile htop ?_
  refine ks_loadName_global hk hks (loadGlobal_builtin (env := ksEnv q scope L f (.ref cda) cc) Mg hsuper hmb ((hbt "super" (by decide)).trans (show bootBuiltins "super" = some (.type "super") by kernel_rfl)) ⟨rfl, ?_⟩)
  refine wpAny_loadName_free hk hkc rfl ⟨_, X _ _ hcell, rfl⟩ ?_
  refine wpAny_loadName_local hk hka F.ns hv ?_
  refine ks_wpAny_isType_cls hD1 hD2 ⟨rfl, ?_⟩
  refine ks_wpAny_call_super hD1 hD2 I.at_ I.cls (fun c e => ?_) (looks_mroIn X hsub) (fun h' e k => ?_)
  · have := I.no
    unfold notCls at this
    rw [e] at this
    exact Bool.noConfusion this
  · obtain ⟨F', N', l'⟩ := ks_newsPush (s := ⟨hh, g, d, t, os⟩) F N rfl e k
    exact h _ _ F' N' l'
end
section
variable {prog : Program} {w : World} {A : Around} {R : Result → Shared → Prop} {h : Heap} {g : Array GenState} {d : Drawn} {t : Nat} {os : OsState} {K : Fg} {C : Addr} {fld : Str} {v : Value} {mg : Str → Option Value}
theorem sup_call (S : SupC prog K C fld) (X : K.In h) (nl : h.NoLimit) (Mg : h.Ns mainGlobals mg) (Mb : ∃ mb, h.Ns builtinsNs mb ∧ ∀ x : Str, x ≠ "__name__" → mb x = bootBuiltins x) (ms : mg "super" = none)
    (hr : (A.under (.builtin "type.__call__" ⟨.ref C :: [v], []⟩)).depth < recursionLimit)
    (hq : ∀ h' tk' e dx (t1 : Addr), (∀ b o, h.get? b = some o → h'.get? b = some o) → h.get? e = none → h.get? dx = none → dx ≠ e →
      h'.get? e = some { cls := .ref C, dict := some dx, data := .fields #[.ref t1, .none, .none, .none, .bool false, .none] } → h'.Ns1 dx (fun y => if y = fld then some v else none) → R (.ok (.ret (.ref e))) ⟨h', g, d, tk', os⟩) :
    codeAny (model prog w) A (.call (.ref C) ⟨[v], []⟩) R ⟨h, g, d, t, os⟩ := by
  obtain ⟨B, newId, initId, bmB, f, cc, cda, oc, ccl, cl, od, cdd, cld, osl, ccs, csl, fd, nm, qual, params, scope, dV, kV, doc, pm, ct, an, slf, p, txt, j, p0, p1, p2, p3, p4, p5, p6, p7, p8, p9, vs, file, tf, ar, cdD,
    XB, hin, hov, hi, hty, efd, lk, hcd, lcd, hvs, hfile, lcc, hcls, hmr, hsu, hsB, hhead, har, hne, hev, hbind, ksu, kcl, ksl, kp, hcell, hco, hgen, hk, dsl, dp⟩ := S.ex
  obtain ⟨nm', N', qn, bs, bm, hdct, sn, sub, ab, col, dd, k0, k1, k2, k3, k5, hC, hT⟩ := excInit_of X hin
  have hi' : W.Looks (model prog w) h (typeLookup (.ref C) "__init__") (some (.ref f)) := W.looks_findIn X hi
  refine PX.call_own XB.F hT hC hi' (fun self => W.bind_fn X self hty) (by rw [sizeLine_eq]; exact (by decide : 1 ≤ 16777216)) ?_
  have kk : ∀ b o, h.get? b = some o → ((h.push (W.kdv_tup [v])).push (HandSPX.excO C h.objs.size)).get? b = some o := fun b o e => Heap.get?_push_of_some _ (Heap.get?_push_of_some _ e)
  have he : ((h.push (W.kdv_tup [v])).push (HandSPX.excO C h.objs.size)).get? (h.objs.size + 1) = some (HandSPX.excO C h.objs.size) := by heap_get
  have ht : ((h.push (W.kdv_tup [v])).push (HandSPX.excO C h.objs.size)).get? h.objs.size = some (W.kdv_tup [v]) := by heap_get
  have hsz : ((h.push (W.kdv_tup [v])).push (HandSPX.excO C h.objs.size)).objs.size = h.objs.size + 2 := by rw [Heap.size_push, Heap.size_push]
  have fresh : ∀ {a : Addr}, h.objs.size ≤ a → h.get? a = none := fun {a} l => by
    cases q : h.get? a with
    | none => rfl
    | some o => exact absurd (Heap.lt_size q) (Nat.not_lt.mpr l)
  have X2 := X.keeps kk
  subst efd
  refine ks_codeAny_call_defAt (fd := ksFn nm qual params (iBody slf p fld txt j p0 p1 p2 p3 p4 p5 p6 p7 p8 p9) scope dV kV doc pm an (.ref cda) ct cc) (body := iBody slf p fld txt j p0 p1 p2 p3 p4 p5 p6 p7 p8 p9) (binds := [(slf, .ref (h.objs.size + 1)), (p, v)])
    hr (X2 _ _ lk) rfl (nl.keeps kk) (W.codeRec_of X2 hcd) rfl (.of_eq (hbind _ _)) hcell (fun x hx => ?_) (fun h₀ hns hk₀ => ?_) hco hgen hk
  · rcases List.mem_cons.mp hx with rfl | hx
    · exact ksl
    · rcases List.mem_cons.mp hx with rfl | hx
      · exact kp
      · cases hx
  have F0 : Fr h ((h.push (W.kdv_tup [v])).push (HandSPX.excO C h.objs.size)).objs.size h₀ (fun x => [(slf, Value.ref (h.objs.size + 1)), (p, v)].reverse.lookup x) :=
    ⟨hns, fun b o e => hk₀ b o (kk b o e), by rw [hsz]; exact Nat.le_add_right _ _⟩
  have N0 : News h ((h.push (W.kdv_tup [v])).push (HandSPX.excO C h.objs.size)).objs.size h₀ [(h.objs.size + 1, excObj C h.objs.size none .none), (h.objs.size, excTup [v])] := by
    intro q hq'
    rcases List.mem_cons.mp hq' with rfl | hq'
    · exact ⟨hk₀ _ _ he, by rw [hsz]; exact Nat.ne_of_lt (Nat.lt_succ_self _), fresh (Nat.le_succ _)⟩
    · rcases List.mem_cons.mp hq' with rfl | hq'
      · exact ⟨hk₀ _ _ ht, by rw [hsz]; exact Nat.ne_of_lt (by omega), fresh (Nat.le_refl _)⟩
      · cases hq'
  have hself : (fun x => [(slf, Value.ref (h.objs.size + 1)), (p, v)].reverse.lookup x) slf = some (.ref (h.objs.size + 1)) := by
    show List.lookup slf [(p, v), (slf, Value.ref (h.objs.size + 1))] = _
    simp [List.lookup, hne]
  have hpar : (fun x => [(slf, Value.ref (h.objs.size + 1)), (p, v)].reverse.lookup x) p = some v := by
    show List.lookup p [(p, v), (slf, Value.ref (h.objs.size + 1))] = _
    simp [List.lookup]
  generalize (fun x => [(slf, Value.ref (h.objs.size + 1)), (p, v)].reverse.lookup x) = mL at F0 hself hpar
  generalize ((h.push (W.kdv_tup [v])).push (HandSPX.excO C h.objs.size)).objs.size = L at F0 N0 hsz hns ⊢
  have Mg' : h₀.Ns mainGlobals mg := Mg.keeps F0.keep
  have Mb' : ∃ mb, h₀.Ns builtinsNs mb ∧ ∀ x : Str, x ≠ "__name__" → mb x = bootBuiltins x := by
    obtain ⟨mb, e1, e2⟩ := Mb
    exact ⟨mb, e1.keeps F0.keep, e2⟩
  obtain ⟨pl, hpl⟩ := hev (callEnv (ksFn nm qual params (iBody slf p fld txt j p0 p1 p2 p3 p4 p5 p6 p7 p8 p9) scope dV kV doc pm an (.ref cda) ct cc) L f)
  refine ks_wpAt_execs_cons (ks_wpAt_Expr_any (ks_wpAt_MethodCall ?_ hpl) (by unfold interactive; first | (rw [show (callEnv (ksFn nm qual params (iBody slf p fld txt j p0 p1 p2 p3 p4 p5 p6 p7 p8 p9) scope dV kV doc pm an (.ref cda) ct cc) L f).scope = scope from rfl, hk]; rfl) | simp [callEnv, hk]) rfl)
  have I0 : InstAt h₀ (h.objs.size + 1) (excObj C h.objs.size none .none) C none := ⟨(N0 (h.objs.size + 1, _) (by simp)).1, rfl, rfl, trivial⟩
  refine sup_node (s := ⟨h₀, g, d, _, os⟩) F0 X N0 Mg' Mb' lk hhead (by rw [har]; exact hself) I0 lcd hvs hfile lcc hcls hmr ms (by decide) ksu kcl (by rw [har]; exact ksl) hk S.top fun so h1 F1 N1 l1 => ?_
  have I1 : InstAt h1 (h.objs.size + 1) (excObj C h.objs.size none .none) C none := ⟨(N1 (h.objs.size + 1, _) (by simp)).1, rfl, rfl, trivial⟩
  refine kxs_method (s := ⟨h1, g, d, _, os⟩) XB.K F1 X N1 (by simp) I1 S.st hsu hsB (by decide) fun q h2 F2 N2 l2 => ?_
  refine kxs_callWith1 N2 (List.mem_cons_self ..) ?_
  refine spliced_cons (x := eval (.Constant (.str txt) j p3) (callEnv (ksFn nm qual params (iBody slf p fld txt j p0 p1 p2 p3 p4 p5 p6 p7 p8 p9) scope dV kV doc pm an (.ref cda) ct cc) L f)) (rest := []) (Constant_str (x := txt) (k := j) (pos := p3) (spliced_nil ⟨kxs_at N2 (List.mem_cons_self ..), ?_⟩))
  have UU : UpdF (h.objs.size + 1) (excObj C h.objs.size none .none) [(q, kxs_mw initId (h.objs.size + 1)), (so, ks_superObj C (h.objs.size + 1) C), (h.objs.size + 1, excObj C h.objs.size none .none), (h.objs.size, excTup [v])]
      (fun o' => (q, kxs_mw initId (h.objs.size + 1)) :: (so, ks_superObj C (h.objs.size + 1) C) :: (h.objs.size + 1, o') :: [(h.objs.size, excTup [v])]) := by
    refine .tail ?_ (.tail ?_ (.head ?_))
    · exact Nat.ne_of_gt (l2 (h.objs.size + 1, excObj C h.objs.size none .none) (by simp))
    · exact Nat.ne_of_gt (l1 (h.objs.size + 1, excObj C h.objs.size none .none) (by simp))
    · intro p hp
      rcases List.mem_cons.mp hp with rfl | hp
      · exact Nat.ne_of_lt (Nat.lt_succ_self _)
      · cases hp
  refine kxs_call F2 X N2 XB.F hin (List.mem_cons_self ..) UU (by rw [sizeLine_eq]; exact (by decide : 1 ≤ 16777216)) fun t1 h3 F3 N3 l3 => ?_
  show _root_.PySem.wpAt _ _ _ _ _ _ _
  refine ks_wpAt_execs_cons (ks_wpAt_Assign_Attr (wpAt_of_wpAny ?_) rfl)
  refine wpAny_Name (wpAny_loadName_local hk kp F3.ns hpar ?_) dp
  refine wpAny_Name (wpAny_loadName_local hk ksl F3.ns hself ?_) dsl
  have hx3 := (N3 (h.objs.size + 1, excObj C t1 none .none) (by simp)).1
  refine set_plain (od := none) (X.keeps F3.keep) ⟨hx3, rfl, rfl, trivial⟩ S.sa (osa_b XB.S (X.keeps F3.keep) hx3 hov S.tk S.hd fun h' tk' dx k dn dne hx hn => ?_)
  refine wpAt_of_wpAny (wpAny_execs_nil ?_)
  have dnew : h.get? dx = none := by
    cases q : h.get? dx with
    | none => rfl
    | some o => exact absurd (Heap.lt_size (F3.keep _ _ q)) (Nat.not_lt.mpr dn)
  exact ⟨rfl, hq h' tk' (h.objs.size + 1) dx t1 (fun b o q => k b o (Nat.ne_of_lt (Nat.lt_succ_of_lt (Heap.lt_size q))) (F3.keep b o q)) (fresh (Nat.le_succ _)) dnew dne hx hn⟩
end
end DL
set_option Elab.async false
set_option linter.all false
set_option maxRecDepth 100000
set_option maxHeartbeats 4000000
namespace DL
open PySem PySem.Spec PyProof.Rows L2
/-! ### raise C(e) -/
section
variable {X : Cx} {C : Addr} {fld x : Str} {e : Expr} {ta : TA} {p pos : Pos}
theorem pmk_sup (S : SupC X.prog X.K C fld) (hr : Room 1 X.A) (hms : X.mg "super" = none) (hg : Gl X x) (hm : X.mg x = some (.ref C)) (ha : PA X [e] ta) (hdb : (x == ("__debug__" : Str)) = false := by decide)
    (he : starEach [e] X.env = (false, eval e X.env) :: starEach [] X.env := by rfl) (hpl : (backTo pos (starEach [] X.env)).any (·.1) = false := by rfl) :
    PMk X (.Call (.Name x p) [e] [] pos) (fun σ H Q => ta σ H fun vs H1 => ∃ v, vs = [v] ∧ ∀ dx, H1 dx = none → Q (.ref C) (some dx) (upd H1 dx (.xd [(fld, v)]))) := by
  intro pins s σ H Q I h
  refine wpAny_Call_Name_kw (ld_glob I hg hm ?_ hdb)
  refine PySem.W.callWith_K (h₀ := X.base) I.ok.mod.kin S.kC (thn (ha.run pos pins s σ H _ I h) fun us s1 ⟨vs, H1, I1, r1, v, ev, q1⟩ => ⟨I1.kIn, ?_⟩) he hpl
  subst ev
  obtain ⟨u, rv, eus⟩ : ∃ u, RelV v u ∧ us = [u] := by
    cases r1 with
    | cons rv rn =>
      cases rn
      exact ⟨_, rv, rfl⟩
  subst eus
  show wpAny _ _ (call (.ref C) [u]) _ _ _
  obtain ⟨hp, g, dr, tk, os⟩ := s1
  have Mb : ∃ mb, hp.Ns builtinsNs mb ∧ ∀ x : Str, x ≠ "__name__" → mb x = bootBuiltins x := by
    obtain ⟨mb, h1, h2⟩ := I1.ok.mod.blt
    exact ⟨mb, h1.keeps I1.bk, h2⟩
  refine wpAny_call (sup_call S I1.kIn I1.nolimit (I1.ok.mod.glob.keeps I1.bk) Mb hms (hr.make C [u] []).depth fun h' tk' a dx t1 k na nd ne hx hn => ?_)
  obtain ⟨G, g1, g2⟩ := restrict h' fun b => decide (b ≠ a)
  have gk : ∀ b, b ≠ a → G.get? b = h'.get? b := fun b hb => g1 b (decide_eq_true hb)
  have ge : G.get? a = none := g2 a (by simp)
  have kG : ∀ b o, hp.get? b = some o → G.get? b = some o := fun b o q => by
    have hba : b ≠ a := fun z => by
      rw [z, na] at q
      cases q
    rw [gk b hba]
    exact k b o q
  have hd1 : H1 dx = none := I1.hok.gone nd
  have ha1 : H1 a = none := I1.hok.gone na
  have J := I1.laidN (t' := tk') (o := .xd [(fld, v)]) kG nd hd1 ⟨_, hn.at fun o y => (gk dx ne).trans y, relO_put (fs := []) rv fun g => True.intro⟩
  refine ⟨a, _, _, ⟨G, g, dr, tk', os⟩, _, .ref C, some dx, rfl, J, fun b o q => ?_, ge, hx, ⟨rfl, rfl⟩, rfl, rfl, ?_, rfl, I1.bare, raises_own S.exC S.tyC, q1 dx hd1⟩
  · by_cases hba : b = a
    · rw [hba, ge] at q
      cases q
    · exact (gk b hba).symm.trans q
  · rw [upd_ne (Ne.symm ne)]
    exact ha1
end
/-! ### the mirror of raise -/
def mRaise (c f : Nat) (Ma : AM) : SM := fun env μ => (Ma env μ).toS fun ds env μ => match ds with
  | [d] => if noLoc d = true then .exc ⟨c, [(f, d)]⟩ env μ else .stk
  | _ => .stk
/-- what the written part tells of C and its field -/
def SupK (P : Program) (K : Fg) (c f : Nat) : Prop := SupC P K (He.ga K (cname c)) (fname f)
section
variable {hx : HX} {X : Cx} {c f : Nat} {x : Str} {e : Expr} {Ma : AM} {p pos pos' : Pos}
theorem s_raise (S : SupK X.prog X.K c f) (hc : X.calm = true) (hr : Room 1 X.A) (hms : X.mg "super" = none) (hg : Gl X x) (hm : X.mg x = some (.ref (He.ga X.K (cname c)))) (ha : AOk hx X [e] Ma) (hdb : (x == ("__debug__" : Str)) = false := by decide)
    (he : starEach [e] X.env = (false, eval e X.env) :: starEach [] X.env := by rfl) (hpl : (backTo pos (starEach [] X.env)).any (·.1) = false := by rfl) :
    SOk hx X (.Raise (some (.Call (.Name x p) [e] [] pos)) none pos') (mRaise c f Ma) := by
  refine fun W tk => impPS (ps_raise hc tk (pmk_sup S hr hms hg hm (ha W tk) hdb he hpl)) fun E σ H q => ?_
  obtain ⟨w, rfl, rfl, rs, p⟩ := q
  refine ⟨w, rfl, rfl, rs, (PostS.bindA p).imp fun vs H1 ⟨w1, ds, e1, e2, rs1, st1, il, p1⟩ => ?_⟩
  subst e1
  cases il with
  | nil => exact p1.elim
  | @cons v d _ _ i0 t =>
    cases t with
    | cons _ _ => exact p1.elim
    | nil =>
      refine ⟨v, rfl, fun dx hn => ?_⟩
      dsimp only at p1
      by_cases h : noLoc d = true
      · rw [if_pos h] at p1
        have q := p1 (w1.al dx (.xd [(fname f, v)])) (.ref (He.ga X.K (cname c))) (some dx) rfl rfl (rs1.al hn) (Stp.al rs1 hn) ⟨rfl, dx, _, rfl, by show upd w1.F dx _ dx = _; rw [upd_same], .cons ((i0.is h).mono (Stp.al rs1 hn).gr) .nil⟩
        rw [← e2]
        exact q
      · rw [if_neg h] at p1
        exact p1.elim
end
end DL
set_option Elab.async false
set_option linter.all false
set_option maxRecDepth 100000
set_option maxHeartbeats 4000000
namespace L2
open PySem PySem.Spec PyProof.Rows
/-! ### try with several clauses, each with or without a name -/
abbrev HdL := List (Value × Option Nat × (Addr → Value → Option Addr → TS))
def goneEnds (i : Nat) (D : Ends) : Ends := { nx := fun σ' H' => D.nx (σ'.set i none) H', rt := D.rt, bk := fun σ' H' => D.bk (σ'.set i none) H', ct := fun σ' H' => D.ct (σ'.set i none) H' }
def wMix (K : PySem.W.Frag) (Wout : WX) (D : Ends) : HdL → WX
  | [] => Wout
  | (c, none, ts) :: r => fun cls d σ H => ∃ b, PySem.W.exmOne K cls c = some b ∧ (b = true → ∀ a, H a = none → ts a cls d D σ H) ∧ (b = false → wMix K Wout D r cls d σ H)
  | (c, some i, ts) :: r => fun cls d σ H => ∃ b, PySem.W.exmOne K cls c = some b ∧ (b = true → ∀ a, H a = none → ts a cls d (goneEnds i D) (σ.set i (some (.ref a))) H) ∧ (b = false → wMix K Wout D r cls d σ H)
inductive HdA (X : Cx) : List ExceptHandler → HdL → Prop
  | nil : HdA X [] []
  | only {x : Str} {c : Value} {ts : Addr → Value → Option Addr → TS} {b₀ : Stmt} {suite : List Stmt} {np pos' : Pos} {hds : List ExceptHandler} {l : HdL} (hc : Names X x c)
      (hsu : ∀ (a : Addr) (oe : Obj) (cls : Value) (d : Option Addr) (pn : List (Addr × Obj)), Zc cls d oe → (∃ vs, oe.data = .fields vs) → PSs (X.suite a ((a, oe) :: pn)) (b₀ :: suite) (ts a cls d)) (r : HdA X hds l) :
      HdA X (.ExceptHandler (some (.Name x np)) none (b₀ :: suite) pos' :: hds) ((c, none, ts) :: l)
  | as_ {x n : Str} {i : Nat} {c : Value} {ts : Addr → Value → Option Addr → TS} {b₀ : Stmt} {suite : List Stmt} {np pos' : Pos} {hds : List ExceptHandler} {l : HdL} (hc : Names X x c) (hi : X.N[i]? = some n) (hln : X.env.kindOf n = some .local)
      (hsu : ∀ (a : Addr) (oe : Obj) (cls : Value) (d : Option Addr) (pn : List (Addr × Obj)), Zc cls d oe → (∃ vs, oe.data = .fields vs) → PSs (X.suite a ((a, oe) :: pn)) (b₀ :: suite) (ts a cls d)) (r : HdA X hds l) :
      HdA X (.ExceptHandler (some (.Name x np)) (some n) (b₀ :: suite) pos' :: hds) ((c, some i, ts) :: l)
section
variable {X : Cx} {body : List Stmt} {h₀ : ExceptHandler} {hds : List ExceptHandler} {l : HdL} {pos : Pos} {tb : WX → TS} {Wout : WX}
theorem ps_try_mix (hs : X.stack = X.env :: X.outer) (hf : X.env.frame = some X.env.locals) (hN : X.N.Nodup) (tk : Takes X Wout)
    (hb : ∀ (W : WX) (pn : List (Addr × Obj)) (xe : Value → Shared → Prop), Takes (X.tr pn xe) W → PassesOwn (model X.prog X.w) X.A X.env xe → PSs (X.tr pn xe) body (tb W))
    (hh : HdA X (h₀ :: hds) l) : PS X (.Try body (h₀ :: hds) [] [] pos) (fun D σ H => tb (wMix X.K Wout D l) D σ H) := by
  refine ⟨fun pins s σ H D I h => ?_⟩
  have ok := I.ok
  have hfr : X.A.frames = some (X.env :: X.outer) := by rw [ok.frames, hs]
  refine wpAny_Try_except ?_
  refine wpAny_mono ((hb (wMix X.K Wout D l) (X.pn ++ pins) (fun e s₁ => wpAny (model X.prog X.w) X.A (noteFrame e X.env) (fun _ s₂ => wpAny (model X.prog X.w) X.A (setFlight e none) (fun _ s₃ =>
    wpAny (model X.prog X.w) X.A (handleBy e X.env (h₀ :: hds)) (SP X pins D) X.xe s₃) X.xe s₂) X.xe s₁) (fun u s' xx => ?_) PassesOwn.looking).run [] s σ H D (I.toTry _) h) (fun f s1 hsp => ?_) (fun e s1 he => he)
  · obtain ⟨a, B, sI, pins', σ', H', cls, d, rfl, J', nb, up, sky, na, os, ag, w⟩ := xx
    have J : Inv X pins σ' H' sI := J'.ofTry ok
    have sky' : Sky B (X.env :: X.outer) a (Zc cls d) X.env.locals s'.heap := by rw [← hs]; exact sky
    show wpAny (model X.prog X.w) X.A (noteFrame (.ref a) X.env) _ _ _
    refine Sky.land Zc.steady hfr hf sky' fun h3 fl3 up3 => ?_
    have J3 : Inv X pins σ' H' { s' with heap := h3 } := J.landed nb fl3.1 (up.trans up3) os ag
    obtain ⟨oe3, vs3, he3, hz3, hd3⟩ := fl3.there
    have notFr : ∀ {h : Heap} {o : Obj} {vs : Array Value}, h.FunFrames B (X.env :: X.outer) → h.get? a = some o → o.data = .fields vs → a ∉ frs (X.env :: X.outer) := fun {h o vs} ff e dd hm => by
      obtain ⟨_, o', e', hnf⟩ := ff.mem hm
      rw [e] at e'; cases e'
      exact hnf _ dd
    have nfr := notFr fl3.2.2.1 he3 hd3
    have nL : a ≠ X.env.locals := fun z => nfr (List.mem_filterMap.mpr ⟨X.env, List.mem_cons_self, by rw [hf, z]⟩)
    have nF : a ∉ X.fs := fun hm => by
      obtain ⟨e, he, q⟩ := List.mem_filterMap.mp hm
      exact nfr (List.mem_filterMap.mpr ⟨e, List.mem_cons_of_mem _ he, q⟩)
    have S3 := J3.suite he3 hd3 na nL nF
    have LT : PySem.W.Looks (model X.prog X.w) h3 (typeOf (.ref a)) cls := fun A Q E s k q => wpAny_typeOf_ref (k _ _ he3) (by rw [hz3.1]; exact q)
    have test : ∀ {x : Str} {c : Value} {np : Pos} {Q : Value → Shared → Prop} {E : Value → Shared → Prop}, Names X x c → Q c { s' with heap := h3 } → wpAny (model X.prog X.w) (X.A.mark (some (.ref a))) (eval (.Name x np) X.env) Q E { s' with heap := h3 } := fun {x c np Q E} hc q => by
      obtain ⟨hg, hdbg, hm | ⟨hm, hv, hnn⟩⟩ := hc
      · exact ld_glob (X := X.suite a ((a, oe3) :: (X.pn ++ pins))) S3 hg hm q hdbg
      · exact ld_blt (X := X.suite a ((a, oe3) :: (X.pn ++ pins))) S3 hg hm hv q hnn hdbg
    have go : ∀ {hds' : List ExceptHandler} {l' : HdL}, HdA X hds' l' → wMix X.K Wout D l' cls d σ' H' → wpAny (model X.prog X.w) X.A (handleBy (.ref a) X.env hds') (SP X pins D) X.xe { s' with heap := h3 } := by
      intro hds' l' hk
      induction hk with
      | nil =>
        intro w
        refine wpAny_handleBy_nil ?_
        obtain ⟨k1, k2, k3, oe, vs, T, oT, ts', he, hz, hd, h1, hr⟩ := id fl3
        unfold PySem.passOn
        refine wpAny_bind (wpAny_field he hd h1 ?_)
        rw [if_neg (show ¬ ((Value.ref T == Value.none) = true) from by simp)]
        have fin : wpAny (model X.prog X.w) X.A (setFlight (.ref a) X.env.frame) (fun _ s4 => wpAny (model X.prog X.w) X.A (throw (.ref a) : Sem Flow) (SP X pins D) X.xe s4) X.xe { s' with heap := h3 } := by
          rw [hf]
          refine HandSPX.setFlight_upZ fl3 fun h4 hh4 up4 => wpAny_throw (tk _ _ ?_)
          exact ⟨a, B, sI, pins, σ', H', cls, d, rfl, J, nb, (up.trans up3).trans up4, .inr (.inr (by rw [hs]; exact hh4)), na, os, ag, w⟩
        first
          | exact wpAny_bind (wpAny_pure (wpAny_bind fin))
          | exact wpAny_bind fin
      | @only x c ts b₀ suite np pos' hds2 l2 hc hsu r ih =>
        intro w
        obtain ⟨b, hb1, hyes, hno⟩ := w
        refine wpAny_handleBy_cons (codeAny_handlers_test ?_) (by intro q; cases q)
        have LM := PySem.W.exm_one (M := model X.prog X.w) (J3.kIn) LT hb1
        refine test hc (LM.here ?_)
        cases b with
        | true =>
          refine codeAny_handlers_suite ?_
          refine HandSPX.lands_againZ fl3 fun h4 fl4 up4 => ?_
          have J4 : Inv X pins σ' H' { s' with heap := h4 } := J.landed nb fl4.1 ((up.trans up3).trans up4) os ag
          obtain ⟨oe4, vs4, he4, hz4, hd4⟩ := fl4.there
          have S4 := J4.suite he4 hd4 na nL nF
          refine wpAny_mono ((hsu a oe4 cls d (X.pn ++ pins) hz4 ⟨_, hd4⟩).run [] _ _ H' _ S4 (hyes rfl a na)) (fun f s6 hsp => ?_) (fun _ _ z => False.elim z)
          cases f with
          | next =>
            obtain ⟨σ6, H6, S6, q6⟩ := hsp
            exact ⟨_, _, S6.unsuite ok, q6⟩
          | brk =>
            obtain ⟨σ6, H6, S6, q6⟩ := hsp
            exact ⟨_, _, S6.unsuite ok, q6⟩
          | cont =>
            obtain ⟨σ6, H6, S6, q6⟩ := hsp
            exact ⟨_, _, S6.unsuite ok, q6⟩
          | ret u =>
            obtain ⟨v6, σ6, H6, S6, r6, q6⟩ := hsp
            exact ⟨_, _, _, S6.unsuite ok, r6, q6⟩
        | false =>
          show wpAny _ X.A (handleBy (.ref a) X.env hds2) _ _ _
          exact ih (hno rfl)
      | @as_ x n i c ts b₀ suite np pos' hds2 l2 hc hi hln hsu r ih =>
        intro w
        have hloc : Loc X.env.scope n := .inl hln
        obtain ⟨b, hb1, hyes, hno⟩ := w
        refine wpAny_handleBy_cons (codeAny_handlers_test ?_) (by intro q; cases q)
        have LM := PySem.W.exm_one (M := model X.prog X.w) (J3.kIn) LT hb1
        refine test hc (LM.here ?_)
        cases b with
        | true =>
          refine codeAny_handlers_suite_as ?_
          refine HandSPX.lands_againZ fl3 fun h4 fl4 up4 => ?_
          have J4 : Inv X pins σ' H' { s' with heap := h4 } := J.landed nb fl4.1 ((up.trans up3).trans up4) os ag
          obtain ⟨oe4, vs4, he4, hz4, hd4⟩ := fl4.there
          have S4 := J4.suite he4 hd4 na nL nF
          refine store_ok (X := X.suite a ((a, oe4) :: (X.pn ++ pins))) (v := .ref a) S4 hN hi hloc rfl (fun s5 S5 => ?_) (.inr hln)
          refine wpAny_mono ((hsu a oe4 cls d (X.pn ++ pins) hz4 ⟨_, hd4⟩).run [] s5 _ H' _ S5 (hyes rfl a na)) (fun f s6 hsp => ?_) (fun _ _ z => False.elim z)
          have end_ : ∀ {σ6 : St} {H6 : Hp} {Q : Shared → Prop}, Inv (X.suite a ((a, oe4) :: (X.pn ++ pins))) [] σ6 H6 s6 → (∀ s7, Inv X pins (σ6.set i none) H6 s7 → Q s7) →
              wpAny (model X.prog X.w) X.A (do bindName X.env n .none; unbindBehindTheSuite X.env n pos') (fun _ s7 => Q s7) X.xe s6 := fun {σ6 H6 Q} S6 hq => gone_ok (S6.unsuite ok) hN hi hln hq
          cases f with
          | next =>
            obtain ⟨σ6, H6, S6, q6⟩ := hsp
            exact end_ S6 fun s7 J7 => ⟨_, _, J7, q6⟩
          | brk =>
            obtain ⟨σ6, H6, S6, q6⟩ := hsp
            exact end_ S6 fun s7 J7 => ⟨_, _, J7, q6⟩
          | cont =>
            obtain ⟨σ6, H6, S6, q6⟩ := hsp
            exact end_ S6 fun s7 J7 => ⟨_, _, J7, q6⟩
          | ret u =>
            obtain ⟨v6, σ6, H6, S6, r6, q6⟩ := hsp
            exact end_ S6 fun s7 J7 => ⟨_, _, _, J7, r6, q6⟩
        | false =>
          show wpAny _ X.A (handleBy (.ref a) X.env hds2) _ _ _
          exact ih (hno rfl)
    exact go hh w
  · cases f with
    | next =>
      obtain ⟨σ', H', J', q⟩ := hsp
      exact wpAny_execs_nil ⟨σ', H', J'.ofTry ok, q⟩
    | brk =>
      obtain ⟨σ', H', J', q⟩ := hsp
      exact ⟨σ', H', J'.ofTry ok, q⟩
    | cont =>
      obtain ⟨σ', H', J', q⟩ := hsp
      exact ⟨σ', H', J'.ofTry ok, q⟩
    | ret u =>
      obtain ⟨v, σ', H', J', r, q⟩ := hsp
      exact ⟨v, σ', H', J'.ofTry ok, r, q⟩
end
end L2
set_option Elab.async false
set_option linter.all false
set_option maxRecDepth 100000
set_option maxHeartbeats 4000000
namespace DL
open PySem PySem.Spec PyProof.Rows L2
/-! ### into a suite and out of it -/
abbrev kh (κ : Kx) (h : Option (Addr × Value × Option Addr)) : Kx := ⟨κ.K, h, κ.cs⟩
section
variable {κ : Kx} {m : List Addr} {F : Hp} {g : Option (Addr × Value × Option Addr)}
mutual
theorem Is.hx : ∀ {v : V} {d : D}, Is κ m F v d → Is (kh κ g) m F v d
  | _, _, .non => .non
  | _, _, .bl b => .bl b
  | _, _, .int i => .int i
  | _, _, .str s => .str s
  | _, _, .tup h l => .tup h (IsL.hx l)
  | _, _, .lst h l => .lst h (IsL.hx l)
  | _, _, .rol h l => .rol h (IsL.hx l)
  | _, _, .dct h l => .dct h (IsK.hx l)
  | _, _, .dctT h l => .dctT h (IsT.hx l)
  | _, _, .ins c h l => .ins c h (IsF.hx l)
  | _, _, .cel h => .cel h
theorem IsL.hx : ∀ {vs : List V} {ds : List D}, IsL κ m F vs ds → IsL (kh κ g) m F vs ds
  | _, _, .nil => .nil
  | _, _, .cons h t => .cons (Is.hx h) (IsL.hx t)
theorem IsK.hx : ∀ {vs : List (Key × V)} {ds : List (KK × D)}, IsK κ m F vs ds → IsK (kh κ g) m F vs ds
  | _, _, .nil => .nil
  | _, _, .cons h t => .cons (Is.hx h) (IsK.hx t)
theorem IsT.hx : ∀ {vs : List (List Key × V)} {ds : List (KK × D)}, IsT κ m F vs ds → IsT (kh κ g) m F vs ds
  | _, _, .nil => .nil
  | _, _, .cons h t => .cons (Is.hx h) (IsT.hx t)
theorem IsF.hx : ∀ {vs : List (Str × V)} {ds : List (Nat × D)}, IsF κ m F vs ds → IsF (kh κ g) m F vs ds
  | _, _, .nil => .nil
  | _, _, .cons h t => .cons (Is.hx h) (IsF.hx t)
end
/-- a change of the exception at hand that no cell minds -/
theorem CellOk.hx {H : Hp} {a : Addr} {c : Cell} (n : κ.hx ≠ some (a, .none, none)) (h : CellOk κ m F H a c) : CellOk (kh κ g) m F H a c := by
  cases c with
  | lst l' =>
    obtain ⟨xs, h1, h2⟩ := h
    exact ⟨xs, h1, h2.hx⟩
  | dct t l' =>
    cases t with
    | false =>
      obtain ⟨xs, h1, h2⟩ := h
      exact ⟨xs, h1, h2.hx⟩
    | true =>
      obtain ⟨xs, h1, h2⟩ := h
      exact ⟨xs, h1, h2.hx⟩
  | ins c gs =>
    obtain ⟨hc, dx, fs, h1, h2⟩ := h
    exact ⟨hc, dx, fs, h1, h2.hx⟩
  | slf c gs =>
    obtain ⟨hs, _⟩ := h
    exact (n hs).elim
  | dead => trivial
end
def noExS : Slot → Bool
  | .d (.exn _ _) => false
  | _ => true
section
variable {κ : Kx} {w : W3} {g : Option (Addr × Value × Option Addr)}
theorem RS.toX (n : κ.hx = none) (rs : RS κ w) : RS (kh κ g) w := by
  refine ⟨rs.le, rs.lm, rs.ls, fun i d e => ?_, fun i c e => ?_, fun n' a c h => ⟨(rs.cel n' a c h).1, (rs.cel n' a c h).2.hx (by rw [n]; intro z; cases z)⟩, rs.cc, rs.oo, rs.oc⟩
  · obtain ⟨v, h1, h2⟩ := rs.slot i d e
    refine ⟨v, h1, ?_⟩
    cases d with
    | exn c gs =>
      obtain ⟨_, _, _, _, q, _⟩ := h2
      rw [n] at q
      cases q
    | _ => exact Is.hx h2
  · obtain ⟨l, a, h1, h2, h3⟩ := rs.own i c e
    exact ⟨l, a, h1, h2, h3.hx (by rw [n]; intro z; cases z)⟩
theorem RS.ofX {κ' : Kx} (hn : ∀ a, κ'.hx ≠ some (a, .none, none)) (rs : RS κ' w) (e0 : w.env.all noExS = true) : RS (kh κ' g) w := by
  refine ⟨rs.le, rs.lm, rs.ls, fun i d e => ?_, fun i c e => ?_, fun n' a c h => ⟨(rs.cel n' a c h).1, (rs.cel n' a c h).2.hx (hn a)⟩, rs.cc, rs.oo, rs.oc⟩
  · obtain ⟨v, h1, h2⟩ := rs.slot i d e
    refine ⟨v, h1, ?_⟩
    have q : noExS (Slot.d d) = true := List.all_eq_true.mp e0 _ (List.mem_of_getElem? e)
    cases d with
    | exn c gs => cases q
    | _ => exact Is.hx h2
  · obtain ⟨l, a, h1, h2, h3⟩ := rs.own i c e
    exact ⟨l, a, h1, h2, h3.hx (hn a)⟩
end
/-! ### the mirror -/
def sealS (r : SR) : SR :=
  match r with
  | .nx env μ => if env.all noExS = true then .nx env μ else .stk
  | .ret d env μ => if env.all noExS = true then .ret d env μ else .stk
  | .bk env μ => if env.all noExS = true then .bk env μ else .stk
  | .ct env μ => if env.all noExS = true then .ct env μ else .stk
  | _ => .stk
/-- the clause's name goes -/
def unS (i : Nat) (r : SR) : SR :=
  match r with
  | .nx env μ => .nx (env.set i .non) μ
  | .ret d env μ => .ret d (env.set i .non) μ
  | .bk env μ => .bk (env.set i .non) μ
  | .ct env μ => .ct (env.set i .non) μ
  | r => r
abbrev HM := List ((Nat → Option Bool) × Option Nat × SM)
def mHs (x : Exn) : HM → SM
  | [], env, μ => .exc x env μ
  | (p, none, M) :: r, env, μ => match p x.c with
    | some true => sealS (M env μ)
    | some false => mHs x r env μ
    | none => .stk
  | (p, some i, M) :: r, env, μ => match p x.c with
    | some true => sealS (unS i (M (env.set i (.d (.exn x.c x.fs))) μ))
    | some false => mHs x r env μ
    | none => .stk
def mTry (Mb : SM) (hs : HM) : SM := fun env μ => match Mb env μ with
  | .exc x env' μ' => mHs x hs env' μ'
  | r => r
inductive HsOk (cs : List Nat) (X : Cx) : List ExceptHandler → HM → Prop
  | nil : HsOk cs X [] []
  | only {x : Str} {c : Value} {p : Nat → Option Bool} {M : SM} {b₀ : Stmt} {suite : List Stmt} {np pos' : Pos} {hds : List ExceptHandler} {l : HM} (hc : Names X x c) (hp : ∀ k b, p k = some b → PySem.W.exmOne X.K (.ref (He.ga X.K (cname k))) c = some b)
      (hsu : ∀ (a : Addr) (oe : Obj) (cls : Value) (d : Option Addr) (pn : List (Addr × Obj)), Zc cls d oe → (∃ vs, oe.data = .fields vs) → BOk ⟨some (a, cls, d), cs⟩ (X.suite a ((a, oe) :: pn)) (b₀ :: suite) M) (r : HsOk cs X hds l) :
      HsOk cs X (.ExceptHandler (some (.Name x np)) none (b₀ :: suite) pos' :: hds) ((p, none, M) :: l)
  | as_ {x n : Str} {i : Nat} {c : Value} {p : Nat → Option Bool} {M : SM} {b₀ : Stmt} {suite : List Stmt} {np pos' : Pos} {hds : List ExceptHandler} {l : HM} (hc : Names X x c) (hp : ∀ k b, p k = some b → PySem.W.exmOne X.K (.ref (He.ga X.K (cname k))) c = some b)
      (hi : X.N[i]? = some n) (hln : X.env.kindOf n = some .local)
      (hsu : ∀ (a : Addr) (oe : Obj) (cls : Value) (d : Option Addr) (pn : List (Addr × Obj)), Zc cls d oe → (∃ vs, oe.data = .fields vs) → BOk ⟨some (a, cls, d), cs⟩ (X.suite a ((a, oe) :: pn)) (b₀ :: suite) M) (r : HsOk cs X hds l) :
      HsOk cs X (.ExceptHandler (some (.Name x np)) (some n) (b₀ :: suite) pos' :: hds) ((p, some i, M) :: l)
def wNo : WX := fun _ _ _ _ => False
section
variable {cs : List Nat} {X : Cx}
theorem takes_no : Takes X wNo := fun _ _ ⟨_, _, _, _, _, _, _, _, _, _, _, _, _, _, _, _, w⟩ => w.elim
/-- a suite's end, seen from outside -/
theorem seal_post {W : WX} {w w1 : W3} {a : Addr} {t : Addr} {d : Option Addr} {E : Ends} {r : SR} (st : Stp w w1) (h : PostS (kx X ⟨none, cs⟩) W w (sealS r) E) : PostS (kx X ⟨some (a, .ref t, d), cs⟩) wNo w1 r E := by
  have hn : ∀ b, (kx X ⟨some (a, .ref t, d), cs⟩).hx ≠ some (b, .none, none) := fun b z => by cases z
  cases r with
  | nx env μ =>
    intro w' e1 e2 rs s
    unfold sealS at h
    dsimp only at h
    by_cases q : env.all noExS = true
    · rw [if_pos q] at h
      exact h w' e1 e2 (rs.ofX (g := none) hn (by rw [e1]; exact q)) (st.trans s)
    · rw [if_neg q] at h
      exact h.elim
  | ret v env μ =>
    intro w' u e1 e2 rs s i
    unfold sealS at h
    dsimp only at h
    by_cases q : env.all noExS = true
    · rw [if_pos q] at h
      exact h w' u e1 e2 (rs.ofX (g := none) hn (by rw [e1]; exact q)) (st.trans s) (i.hx (g := none))
    · rw [if_neg q] at h
      exact h.elim
  | bk env μ =>
    intro w' e1 e2 rs s
    unfold sealS at h
    dsimp only at h
    by_cases q : env.all noExS = true
    · rw [if_pos q] at h
      exact h w' e1 e2 (rs.ofX (g := none) hn (by rw [e1]; exact q)) (st.trans s)
    · rw [if_neg q] at h
      exact h.elim
  | ct env μ =>
    intro w' e1 e2 rs s
    unfold sealS at h
    dsimp only at h
    by_cases q : env.all noExS = true
    · rw [if_pos q] at h
      exact h w' e1 e2 (rs.ofX (g := none) hn (by rw [e1]; exact q)) (st.trans s)
    · rw [if_neg q] at h
      exact h.elim
  | exc x env μ => exact h.elim
  | stk => exact h.elim
theorem wipe_stp {κ : Kx} {w w1 : W3} {i : Nat} (st : Stp w w1) : Stp w (w1.wipe1 i) := ⟨st.gr, st.kp, fun a h => st.fr a (mut_wipe1 h), st.ff⟩
/-- .. its name gone -/
theorem un_post {κ : Kx} {W : WX} {w : W3} {E : Ends} {r : SR} {i : Nat} (h : PostS κ W w (unS i r) E) : PostS κ W w r (goneEnds i E) := by
  cases r with
  | nx env μ =>
    intro w' e1 e2 rs s
    exact h (w'.wipe1 i) (by rw [← e1]; rfl) e2 rs.wipe1 (wipe_stp (κ := κ) s)
  | ret v env μ =>
    intro w' u e1 e2 rs s j
    exact h (w'.wipe1 i) u (by rw [← e1]; rfl) e2 rs.wipe1 (wipe_stp (κ := κ) s) j
  | bk env μ =>
    intro w' e1 e2 rs s
    exact h (w'.wipe1 i) (by rw [← e1]; rfl) e2 rs.wipe1 (wipe_stp (κ := κ) s)
  | ct env μ =>
    intro w' e1 e2 rs s
    exact h (w'.wipe1 i) (by rw [← e1]; rfl) e2 rs.wipe1 (wipe_stp (κ := κ) s)
  | exc x env μ => exact h
  | stk => exact h
theorem HsOk.get {hds : List ExceptHandler} {hm : HM} (h : HsOk cs X hds hm) : ∃ l : HdL, HdA X hds l ∧ ∀ (W : WX) (E : Ends) (x : Exn) (w : W3) (cls : Value) (dd : Option Addr), RS (kx X ⟨none, cs⟩) w → ExIs (kx X ⟨none, cs⟩) w x cls dd →
    PostS (kx X ⟨none, cs⟩) W w (mHs x hm w.env w.μ) E → wMix X.K W E l cls dd w.σ w.H := by
  induction h with
  | nil =>
    refine ⟨[], .nil, fun W E x w cls dd rs ex p => ?_⟩
    exact p w cls dd rfl rfl rs (.refl _) ex
  | @only x c p M b₀ suite np pos' hds l hc hp hsu r ih =>
    obtain ⟨l', h1, h2⟩ := ih
    refine ⟨(c, none, fun a cls d => rdS ⟨X.K, some (a, cls, d), cs⟩ wNo M) :: l', .only hc (fun a oe cls d pn hz hv => hsu a oe cls d pn hz hv wNo takes_no) h1, fun W E x w cls dd rs ex p0 => ?_⟩
    obtain ⟨rfl, d, fs, rfl, hF, hfs⟩ := id ex
    unfold mHs at p0
    cases q : p x.c with
    | none =>
      rw [q] at p0
      exact p0.elim
    | some b =>
      rw [q] at p0
      refine ⟨b, hp _ _ q, fun eb a na => ?_, fun eb => ?_⟩
      · subst eb
        exact ⟨w, rfl, rfl, rs.toX rfl, seal_post (.refl _) p0⟩
      · subst eb
        exact h2 W E x w _ _ rs ex p0
  | @as_ x n i c p M b₀ suite np pos' hds l hc hp hi hln hsu r ih =>
    obtain ⟨l', h1, h2⟩ := ih
    refine ⟨(c, some i, fun a cls d => rdS ⟨X.K, some (a, cls, d), cs⟩ wNo M) :: l', .as_ hc hi hln (fun a oe cls d pn hz hv => hsu a oe cls d pn hz hv wNo takes_no) h1, fun W E x w cls dd rs ex p0 => ?_⟩
    obtain ⟨rfl, d, fs, rfl, hF, hfs⟩ := id ex
    unfold mHs at p0
    cases q : p x.c with
    | none =>
      rw [q] at p0
      exact p0.elim
    | some b =>
      rw [q] at p0
      refine ⟨b, hp _ _ q, fun eb a na => ?_, fun eb => ?_⟩
      · subst eb
        have rs2 : RS (kx X ⟨some (a, .ref (He.ga X.K (cname x.c)), some d), cs⟩) (w.setD i (.ref a) (.exn x.c x.fs)) := (RS.toX (g := some (a, .ref (He.ga X.K (cname x.c)), some d)) rfl rs).setS ⟨a, d, fs, rfl, rfl, hF, hfs.hx⟩
        exact ⟨w.setD i (.ref a) (.exn x.c x.fs), rfl, rfl, rs2, un_post (seal_post (.setD (.refl _)) p0)⟩
      · subst eb
        exact h2 W E x w _ _ rs ex p0
theorem s_try {body : List Stmt} {h₀ : ExceptHandler} {hds : List ExceptHandler} {Mb : SM} {hm : HM} {pos : Pos} (hs : X.stack = X.env :: X.outer) (hf : X.env.frame = some X.env.locals) (hN : X.N.Nodup)
    (hb : ∀ (pn : List (Addr × Obj)) (xe : Value → Shared → Prop), PassesOwn (model X.prog X.w) X.A X.env xe → (∃ W, Takes (X.tr pn xe) W) → BOk ⟨none, cs⟩ (X.tr pn xe) body Mb) (hh : HsOk cs X (h₀ :: hds) hm) :
    SOk ⟨none, cs⟩ X (.Try body (h₀ :: hds) [] [] pos) (mTry Mb hm) := by
  obtain ⟨l, h1, h2⟩ := hh.get
  refine fun W tk => impPS (ps_try_mix (tb := fun W => rdS (kx X ⟨none, cs⟩) W Mb) hs hf hN tk (fun W' pn xe tk' hpo => hb pn xe hpo ⟨W', tk'⟩ W' tk') h1) fun E σ H q => ?_
  obtain ⟨w, rfl, rfl, rs, p⟩ := q
  refine ⟨w, rfl, rfl, rs, ?_⟩
  unfold mTry at p
  cases e : Mb w.env w.μ with
  | exc x env' μ' =>
    rw [e] at p
    intro w' cls dd e1 e2 rs' st ex
    subst e1 e2
    exact h2 W E x w' cls dd rs' ex (PostS.step st p)
  | nx _ _ =>
    rw [e] at p
    exact p
  | ret _ _ _ =>
    rw [e] at p
    exact p
  | bk _ _ =>
    rw [e] at p
    exact p
  | ct _ _ =>
    rw [e] at p
    exact p
  | stk =>
    rw [e] at p
    exact p
end
end DL
set_option Elab.async false
set_option linter.all false
set_option maxRecDepth 100000
set_option maxHeartbeats 4000000
namespace PySem.W
open PySem PySem.Spec PySem.Calls PyProof.Rows
section
variable {prog : Program} {w : World} {A : Around} {E : Value → Shared → Prop} {s : Shared} {K : Frag} {x D : Addr} {ox : Obj} {od : Option Obj}
/-- the class of a caught error, asked by its attribute -/
theorem kin_classD {Q : Option Value → Shared → Prop} (hga : findIn K (.ref D) "__getattribute__" = some (some (.builtin "BaseException.__getattribute__"))) (hgt : findIn K (.ref D) "__getattr__" = some none) (hsub : subIn K (.ref D) (.type "BaseException") = some true)
    (hf : findObj K D od "__class__" = some (.bind (.builtin "getset_descriptor.__get__") (.builtin "object.__class__"))) (hm : mroIn K D (.type "object") = some true)
    (X : K.In s.heap) (I : InstAt s.heap x ox D od) (h : Q (some (.ref D)) { s with toks := s.toks + 1 }) : wpAny (model prog w) A (getAttr? (.ref x) "__class__") Q E s := by
  obtain ⟨hp, g, d, t, os⟩ := s
  have L0 := I.type (M := model prog w)
  have L1 := looks_findIn (M := model prog w) X hga
  have L2 := looks_findIn (M := model prog w) X hgt
  have L3 := looks_find (M := model prog w) X I hf
  have sub : Looks (model prog w) hp (isInstance (.ref x) (.type "BaseException")) true := L0.andThen (looks_subIn X hsub)
  have hx0 : (false && onTheHeap (Value.builtin "BaseException.__getattribute__")) = false := rfl
  have hx2 : (Value.builtin "BaseException.__getattribute__" == Value.builtin "object.__getattribute__") = false := by decide +kernel
  have hx1 : (onTheHeap (Value.ref D) && Value.builtin "BaseException.__getattribute__" == Value.builtin "object.__getattribute__") = false := by rw [hx2]; rfl
  unfold getAttr? getAttrBy? getAttrBy
  refine wpAny_bind (wpAny_mkText (wpAny_bind (wpAny_attempt (wpAny_holding (wpAny_bind (L0.at (wpAny_bind (L1.at ?_))))))))
  show wpAny _ _ (if (onTheHeap (Value.ref D) && Value.builtin "BaseException.__getattribute__" == Value.builtin "object.__getattribute__") = true then _ else _) _ _ _
  rw [hx1, if_neg Bool.false_ne_true]
  unfold getAttrByItsOwn hookBefore
  refine wpAny_bind ?_
  rw [if_pos (show onTheHeap (Value.ref D) = true from rfl)]
  refine L2.at ?_
  refine wpAny_bind (wpAny_attempt (wpAny_holding ?_))
  unfold callGetattribute
  rw [hx0, if_neg Bool.false_ne_true]
  unfold boundAndCalled
  rw [PySem.F.excAttr_ValueError.ga.bind (.ref x)]
  refine wpAny_bind (wpAny_pure ?_)
  show wpAny _ _ (call (.builtin "BaseException.__getattribute__") [.ref x, .str "__class__" t]) _ _ _
  refine wpAny_call (codeAny_call_builtin PySem.F.excAttr_ValueError.ga.plain PySem.F.entry_bexc_ga ?_)
  refine @check_slot (model prog w) _ _ ⟨hp, g, d, t + 1, os⟩ "BaseException.__getattribute__" "BaseException" "__getattribute__" (.ref x) [.str "__class__" t] [] _ (by decide +kernel) (by decide +kernel) sub (PySem.F.args_bexc_ga (.ref x) (.str "__class__" t)) ?_
  unfold Builtin.«object.__getattribute__»
  refine wpAny_bind (wpAny_of_eq (a := ((Value.ref x : Value), [Value.str "__class__" t])) (by first | rfl | (simp only [slotArgs]; rfl)) ?_)
  refine wpAny_bind (wpAny_pure (wpAny_bind (L0.at (wpAny_bind (L3.at ?_)))))
  show wpAny _ _ (holding [Value.builtin "object.__class__"] (call (.builtin "getset_descriptor.__get__") [.builtin "object.__class__", .ref x, .ref D]) >>= ret) _ _ _
  refine wpAny_bind (wpAny_holding (wpAny_call (class_get (s := ⟨hp, g, d, t + 1, os⟩) (ox := ox) (od := od) X I hm ?_)))
  refine wpAny_pure ?_
  show wpAny _ _ (handedOut (.ref D)) _ _ _
  rw [handedOut_of (v := .ref D) rfl]
  first
    | exact wpAny_pure (wpAny_pure h)
    | exact wpAny_pure h
    | exact wpAny_pure (wpAny_bind (wpAny_pure (wpAny_pure h)))
theorem kitx_excD (hga : findIn K (.ref D) "__getattribute__" = some (some (.builtin "BaseException.__getattribute__"))) (hgt : findIn K (.ref D) "__getattr__" = some none) (hsub : subIn K (.ref D) (.type "BaseException") = some true) (hdct : hasDictIn K D = true)
    (hf : findObj K D od "__class__" = some (.bind (.builtin "getset_descriptor.__get__") (.builtin "object.__class__"))) (hm : mroIn K D (.type "object") = some true) :
    KitX K (.ref x) (.ref D) (fun h => InstAt h x ox D od) where
  ty := fun _ _ _ I => I.type
  it := fun _ _ X _ => by
    obtain ⟨cdD, hcD, _⟩ := any_some hdct
    unfold clsIn at hcD
    split at hcD
    · rename_i c' d' cd' sl' ho
      intro A' Q' E' s' k q
      unfold isType loadHead
      exact wpAny_bind (wpAny_loadPart (k _ _ (X _ _ ho)) (wpAny_pure q))
    · cases hcD
  ne := fun h tp dd its n sl X htp => by
    obtain ⟨cdD, hcD, _⟩ := any_some hdct
    refine Bool.eq_false_iff.mpr fun q => ?_
    have e : D = tp := Value.ref.inj (beq_iff_eq.mp q)
    subst e
    unfold clsIn at hcD
    split at hcD
    · rename_i c' d' cd' sl' ho
      have z := (X _ _ ho).symm.trans htp
      cases z
    · cases hcD
  ca := fun X I k => kin_classD hga hgt hsub hf hm X I k
end
end PySem.W
namespace DL
open PySem PySem.Spec PyProof.Rows L2
/-! ### in a suite: isinstance(e, C), e.f, repr -/
section
variable {X : Cx} {a : Addr} {oe : Obj} {cls : Value} {d : Option Addr} {pn : List (Addr × Obj)}
/-- a caught error's dict stands -/
theorem xd_there {P : Program} {w : World} {H : Hp} {h : Heap} {dd : Addr} {fs : List (Str × V)} (hok : HOk P w H h) (e : H dd = some (.xd fs)) : ∃ (o : Obj) (mA : Str → Option Value), h.get? dd = some o ∧ h.Ns1 dd mA ∧ (∀ f, RelO (fs.lookup f) (mA f)) ∧ ∀ n, PySem.W.lookIn n o = some (mA n) := by
  obtain ⟨mA, hns, hr⟩ := (show ∃ mA, h.Ns1 dd mA ∧ ∀ f, RelO (fs.lookup f) (mA f) from hok dd _ e)
  obtain ⟨od, ho, hl⟩ := lookIn_ns hns
  exact ⟨od, mA, ho, hns, hr, fun n => hl n⟩
def rIsX (K : Fg) (a : Addr) (cls : Value) (d : Option Addr) : List V → Hp → VK → Prop := fun xs H Q => ∃ (c : V) (cv : Value) (b : Bool) (D dd : Addr) (fs : List (Str × V)), xs = [.ref a, c] ∧ cls = .ref D ∧ d = some dd ∧ H dd = some (.xd fs) ∧ ExcC K D ∧ (∀ u, RelV c u → u = cv) ∧ PySem.W.kitOne K (.ref D) cv = some b ∧ Q (.bl b) H
theorem call_isX (hz : Zc cls d oe) (hf : ∃ vs, oe.data = .fields vs) : CallR (X.suite a ((a, oe) :: pn)) (.builtin "isinstance") (rIsX X.K a cls d) := by
  intro pins s σ H xs us Q I r h
  obtain ⟨c, cv, b, D, dd, fs, rfl, rfl, rfl, hd, C, hcv, e, q⟩ := h
  cases r with
  | cons rx rr =>
    cases rr with
    | cons rt rr =>
      cases rr
      cases rx
      have ec := hcv _ rt
      subst ec
      obtain ⟨hget, _⟩ := I.pin (a, oe) (List.mem_append.mpr (.inl List.mem_cons_self))
      obtain ⟨vs, hv⟩ := hf
      obtain ⟨od, mA, ho, _⟩ := xd_there I.hok hd
      have J : PySem.W.InstAt s.heap a oe D (some od) := by
        obtain ⟨oc, od', oda, osl⟩ := oe
        obtain ⟨h1, h2⟩ := hz
        dsimp only at h1 h2 hv
        subst h1 h2 hv
        exact ⟨hget, rfl, rfl, ho⟩
      have hfo : PySem.W.findObj X.K D (some od) "__class__" = some (.bind (.builtin "getset_descriptor.__get__") (.builtin "object.__class__")) := PySem.W.findObj_data (by obtain ⟨cd, hc, _⟩ := PySem.W.any_some C.hd; rw [hc]; rfl) C.ha C.hn C.ht
      exact PySem.W.kia_one (PySem.W.kitx_excD C.hg C.hk C.hs C.hd hfo C.hm) I.kIn J e (fun z => nomatch z) fun tk => ⟨.bl b, H, I.kept (t' := tk) fun _ _ z => z, rfl, q⟩
/-- isinstance(e, C) -/
def mIsX (pf : Nat → Option Bool) (Me : EM) : EM := fun env μ => (Me env μ).bind fun x env μ => match x with
  | .exn c _ => (match pf c with
    | some b => .ok (.bl b) env μ
    | none => .stk)
  | _ => .stk
theorem e_isX {cs : List Nat} {e c : Expr} {Me : EM} {p pos : Pos} {cv : V} {cw : Value} {pf : Nat → Option Bool} (hz : Zc cls d oe) (hf : ∃ vs, oe.data = .fields vs) (hp : ∀ k b, pf k = some b → ExcC X.K (He.ga X.K (cname k)) ∧ PySem.W.kitOne X.K (.ref (He.ga X.K (cname k))) cw = some b)
    (hcv : ∀ u, RelV cv u → u = cw) (hg : Gl X "isinstance") (hm : X.mg "isinstance" = none) (he : EOk ⟨some (a, cls, d), cs⟩ (X.suite a ((a, oe) :: pn)) e Me) (hc : PE (X.suite a ((a, oe) :: pn)) c (tC cv))
    (hs : starEach [e, c] X.env = (false, eval e X.env) :: starEach [c] X.env := by rfl) (hs2 : starEach [c] X.env = (false, eval c X.env) :: starEach [] X.env := by rfl) (hpl : (backTo pos (starEach [c] X.env)).any (·.1) = false := by rfl) :
    EOk ⟨some (a, cls, d), cs⟩ (X.suite a ((a, oe) :: pn)) (.Call (.Name "isinstance" p) [e, c] [] pos) (mIsX pf Me) := by
  refine fun W tk => impPE (pe_callB (X := X.suite a ((a, oe) :: pn)) (call_isX hz hf) hg hm (by kernel_rfl) (pa_cons (he W tk) (pa_cons hc pa_nil hs2) hs) (by decide) (by decide) hs hpl) fun σ H Q q => ?_
  obtain ⟨w, rfl, rfl, rs, p⟩ := q
  refine ⟨w, rfl, rfl, rs, (PostE.bind p).imp fun x H1 a1 => ?_⟩
  obtain ⟨w1, d1, rfl, e1, rs1, st1, i1, p1⟩ := a1.ex
  cases d1 with
  | exn k gs =>
    obtain ⟨a', dd, fs, rfl, hx, hF, _⟩ := i1
    have hx' : some (a, cls, d) = some (a', Value.ref (He.ga X.K (cname k)), some dd) := hx
    cases hx'
    dsimp only at p1
    cases q : pf k with
    | none =>
      rw [q] at p1
      exact p1.elim
    | some b =>
      rw [q] at p1
      obtain ⟨h1, h2⟩ := hp k b q
      exact ⟨cv, cw, b, _, dd, fs, rfl, rfl, rfl, rs1.le _ _ hF, h1, hcv, h2, p1 w1 (.bl b) rfl rfl rfl rs1 (.refl _) (.bl b)⟩
  | _ => exact p1.elim
/-- e.f -/
def mXf (pf : Nat → Bool) (f : Nat) (Me : EM) : EM := fun env μ => (Me env μ).bind fun x env μ => match x with
  | .exn c gs => if pf c = true then (match gfld f gs with
    | some y => .ok y env μ
    | none => .stk) else .stk
  | _ => .stk
theorem e_xf {cs : List Nat} {e : Expr} {Me : EM} {x : Str} {pos : Pos} {pf : Nat → Bool} (f : Nat) (ex : x = fname f) (hfl : f < fnames.length) (hz : Zc cls d oe) (hf : ∃ vs, oe.data = .fields vs)
    (ok : ∀ k, pf k = true → XfC X.K (He.ga X.K (cname k)) ∧ PySem.W.findIn X.K (.ref (He.ga X.K (cname k))) (fname f) = some none) (he : EOk ⟨some (a, cls, d), cs⟩ (X.suite a ((a, oe) :: pn)) e Me)
    (hb : attributeBase e x X.env (eval e X.env) = eval e X.env := by rfl) : EOk ⟨some (a, cls, d), cs⟩ (X.suite a ((a, oe) :: pn)) (.Attribute e x pos) (mXf pf f Me) := by
  subst ex
  refine fun W tk => ⟨fun pins s σ H Q I h => ?_⟩
  obtain ⟨w, rfl, rfl, rs, p⟩ := h
  refine attr_of hb (thn ((he W tk).run pins s _ _ _ I ⟨w, rfl, rfl, rs, PostE.bind p⟩) fun u s1 hh => ?_)
  obtain ⟨y, H1, I1, ry, ay⟩ := hh
  obtain ⟨w1, d1, rfl, e1, rs1, st1, i1, p1⟩ := ay.ex
  cases d1 with
  | exn k gs =>
    obtain ⟨a', dd, fs, rfl, hx, hF, hfs⟩ := i1
    have hx' : some (a, cls, d) = some (a', Value.ref (He.ga X.K (cname k)), some dd) := hx
    cases hx'
    dsimp only at p1
    by_cases hk : pf k = true
    · rw [if_pos hk] at p1
      cases q : gfld f gs with
      | none =>
        rw [q] at p1
        exact p1.elim
      | some y =>
        rw [q] at p1
        obtain ⟨v, hv, iv⟩ := (hfs.fld hfl).1 y q
        obtain ⟨T, hno⟩ := ok k hk
        obtain rfl : u = Value.ref a := ry
        obtain ⟨ha, _⟩ := I1.pin (a, oe) (List.mem_append_left _ List.mem_cons_self)
        obtain ⟨vs, hd⟩ := hf
        obtain ⟨od, mA, ho, hns, hr, hl⟩ := xd_there I1.hok (rs1.le _ _ hF)
        obtain ⟨u, hu, ru⟩ := RelO.some_of (v := v) (o := mA (fname f)) (by rw [← hv]; exact hr (fname f))
        have J : PySem.W.InstAt s1.heap a oe (He.ga X.K (cname k)) (some od) := ⟨ha, hz.1, by unfold PySem.W.notCls; rw [hd] <;> rfl, by rw [hz.2]; exact ho⟩
        exact HandSPX.exc_get I1.kIn J T.ga T.gg T.exC (PySem.W.findObj_own T.hdC hno rfl (by rw [hl, hu])) (handed_of ru) ⟨v, _, I1.tok _, ru, p1 w1 v rfl rfl rfl rs1 (.refl _) iv.toR⟩
    · rw [if_neg hk] at p1
      exact p1.elim
  | _ => exact p1.elim
theorem e_reprX {k : Nat} {e : Expr} {Ma : AM} {p pos : Pos} {hx : HX} (hr : RoomG k X.A) (hm : X.mg "repr" = none) (hg : Gl X "repr") (ha : AOk hx (X.suite a ((a, oe) :: pn)) [e] Ma) (he : starEach [e] X.env = (false, eval e X.env) :: starEach [] X.env := by rfl) :
    EOk hx (X.suite a ((a, oe) :: pn)) (.Call (.Name "repr" p) [e] [] pos) (mCall reprD Ma) :=
  e_callB (X := X.suite a ((a, oe) :: pn)) (call_reprQ (k := k) hr.r.un hr.g) call1_repr hg hm (by kernel_rfl) ha (by decide) (by decide) he (by rfl)
end
end DL
set_option Elab.async false
set_option linter.all false
set_option maxRecDepth 100000
set_option maxHeartbeats 4000000
namespace PySem.W
open PySem PySem.Spec PySem.Calls PyProof.Rows Builtin
section
variable {prog : Program} {w : World} {A : Around} {E : Value → Shared → Prop} {s : Shared} {K : Frag} {x y C L f : Addr} {h₀ : Heap} {m : Str → Option Value} {ox : Obj} {od : Option Obj} {name : Str} {id : String}
theorem ifBoundB_K {M : Model} {args : List Value} {Q : Option Value → Shared → Prop} (X : K.In s.heap) (I : InstAt s.heap x ox C od) (hs : findIn K (.ref C) name = some (some (.builtin id))) (S : Slot "object" name id)
    (h : wpAny M A (call (.builtin id) (.ref x :: args)) (fun v => Q (some v)) E s) : wpAny M A (callSpecialIfBound? (.ref x) name args) Q E s := by
  simp only [callSpecialIfBound?, bindSpecialIfBound?]
  refine wpAny_holding (wpAny_bind (wpAny_bind (wpAny_bind (I.type.here ((looks_findIn X hs).here ?_)))))
  simp only [S.bind]
  refine wpAny_bind (wpAny_askSetting (wpAny_ite ?_))
  have fin : wpAny M A (call (.builtin id) ([.ref x] ++ args) >>= fun v => pure (some v)) Q E s := wpAny_bind (wpAny_mono h (fun v s' h' => wpAny_pure h') fun _ _ h' => h')
  split
  · exact wpAny_bind (wpAny_pure (wpAny_pure fin))
  · exact wpAny_tryCatch (wpAny_bind (wpAny_pure (wpAny_pure fin)))
/-- x != y by x's own ==, its class saying nothing of != -/
theorem ne_K {ty : Value} {Q : Value → Shared → Prop} (hu : A.units + 1 < cLine) (X : K.In s.heap) (I : InstAt s.heap x ox C od) (hy : Looks (model prog w) s.heap (typeOf (.ref y)) ty) (hn : (ty != .ref C) = false)
    (hne : findIn K (.ref C) "__ne__" = some (some (.builtin "object.__ne__"))) (heq : findIn K (.ref C) "__eq__" = some (some (.ref f))) (hf : isFn K (.ref f) = true) (hob : mroIn K C (.type "object") = some true)
    (hcall : wpAny (model prog w) A.in1 (call (.ref f) [.ref x, .ref y]) (fun v s' => ∃ b, v = .bool b ∧ Q (.bool (!b)) s') E s) : wpAny (model prog w) A (richCompare .NotEq (.ref x) (.ref y)) Q E s := by
  have body : wpAny (model prog w) A.in1 (Builtin.«object.__ne__» ⟨[.ref x, .ref y], []⟩) (fun fin s' => ∃ b, fin = .done (.ret (.bool (!b))) ∧ Q (.bool (!b)) s') E s := by
    unfold Builtin.«object.__ne__»
    repeat (first
      | with_reducible refine wpAny_cRoomFor hu ?_
      | (refine wpAny_bind (m := callSpecialIfBound? (.ref x) (Str.ofString "__eq__") [.ref y])
          (ifBound_K X I heq hf (wpAny_mono hcall (fun r s' hr => by
            obtain ⟨b, rfl, hq⟩ := hr
            repeat (first | exact ⟨_, rfl, hq⟩ | exact wpAny_pure ⟨_, rfl, hq⟩ | exact wpAny_truthy_bool ⟨_, rfl, hq⟩ | (refine wpAny_bind (m := truthy (.bool _)) (wpAny_truthy_bool ?_)) | wp_step)) fun _ _ e => e)))
      | wp_step)
  have one : wpAny (model prog w) A (tryCompare (.ref x) "__ne__" (.ref y)) (fun r s' => ∃ b, r = some (.bool (!b)) ∧ Q (.bool (!b)) s') E s := by
    unfold tryCompare
    have sub : Looks (model prog w) s.heap (isInstance (.ref x) (.type "object")) true := I.type.andThen (looks_mroIn X hob)
    refine wpAny_bind (ifBoundB_K X I hne F.cmp_object.ne (wpAny_call (codeAny_call_builtin F.cmp_object.ne.plain F.cmpEntry_ne (check_slot F.cmpKind_ne F.cmpSplit_ne sub (F.cmpArgs_ne _ _) (wpAny_mono body (fun fin s' hv => ?_) fun _ _ e => e)))))
    obtain ⟨b, rfl, hq⟩ := hv
    first | exact wpAny_pure ⟨b, rfl, hq⟩ | exact ⟨b, rfl, hq⟩
  unfold richCompare
  simp only [oneThing_ref]
  refine wpAny_holding (wpAny_bind (wpAny_cRoomFor (Nat.lt_of_succ_lt hu) ?_))
  rw [cmpInfo_NotEq]
  dsimp only
  refine wpAny_bind (I.type.here (wpAny_bind (hy.here ?_)))
  have e : ty = .ref C := by simpa using hn
  subst e
  rw [show (Value.ref C != Value.ref C) = false from by simp]
  simp only [Bool.false_eq_true, if_false]
  refine wpAny_bind (wpAny_pure ?_)
  simp only [Bool.false_eq_true, if_false]
  refine wpAny_bind (wpAny_mono one (fun r s' hv => ?_) fun _ _ e => e)
  obtain ⟨b, rfl, hq⟩ := hv
  exact wpAny_pure hq
end
end PySem.W
set_option Elab.async false
set_option linter.all false
set_option maxRecDepth 100000
set_option maxHeartbeats 4000000
namespace DL
open PySem PySem.Spec PyProof.Rows L2
/-! ### == and != of instances, by their class's own == -/
/-- what the written part tells of it -/
structure EqK (K : Fg) (C f : Addr) : Prop where
  eq : PySem.W.findIn K (.ref C) "__eq__" = some (some (.ref f))
  ne : PySem.W.findIn K (.ref C) "__ne__" = some (some (.builtin "object.__ne__"))
  fn : PySem.W.isFn K (.ref f) = true
  ob : PySem.W.mroIn K C (.type "object") = some true
section
variable {X : Cx} {k : Nat} {f C : Addr} {fd : FuncData} {ps : List Str} {sp : Sp} {pins : List (Addr × Obj)} {σ : L2.St} {H : Hp} {s : Shared}
theorem passes_no : Passes (L2.CX X.prog X.w) X (fun _ _ _ => False) := fun _ _ _ _ _ _ _ ⟨_, _, _, _, _, _, _, _, _, _, _, _, h⟩ => h.elim
theorem run2_at {A : Around} {Q : VK} {x y : V} {u v : Value} (F : FnG X.prog X.w X.K X.mg X.base (L2.CX X.prog X.w) k f fd ps sp) (hr : RoomG k A) (hA : A.frames = X.A.frames) (hb : KB X.K fd ps 2 [] [.p 0, .p 1] []) (I : Inv X pins σ H s) (rx : RelV x u) (ry : RelV y v)
    (h : sp [x, y] H Q (fun _ _ _ => False)) : wpAny (model X.prog X.w) A (call (.ref f) [u, v]) (EP X pins σ Q) X.xe s := by
  obtain ⟨its, hb⟩ := hb
  have e0 : Env0 X.prog X.w X.K X.mg X.base A X.stack s H := by
    have e := I.env0
    exact ⟨by rw [hA]; exact e.frames, e.mod, e.bs, e.bsz, e.funs, e.frf, e.hok, e.bare⟩
  refine wpAny_call (codeAny_mono (F.run A X.stack s H ⟨[u, v], []⟩ [u, v] [x, y] Q _ hr e0 (hb.to s [u, v] [] I.kIn rfl rfl) (.cons rx (.cons ry .nil)) h) fun r s' hq => ?_)
  cases r with
  | error e => exact passes_no pins σ H s e s' I hq
  | ok fl =>
    cases fl with
    | ret u => exact I.after hq
    | next => exact False.elim hq
    | brk => exact False.elim hq
    | cont => exact False.elim hq
/-- what both rules ask -/
def rInsI (C : Addr) (sp : Sp) (neg : Bool) : R2 := fun x y H Q => ∃ (a b dx dy : Addr) (fs gs : List (Str × V)), x = .ref a ∧ y = .ref b ∧ H a = some (.ins C dx fs) ∧ H b = some (.ins C dy gs) ∧ sp [x, y] H (fun v H' => ∃ k : Bool, v = .bl k ∧ Q (.bl (k != neg)) H') (fun _ _ _ => False)
theorem op_eqI (E : EqK X.K C f) (F : FnG X.prog X.w X.K X.mg X.base (L2.CX X.prog X.w) k f fd ps sp) (hr : RoomG k X.A) (hb : KB X.K fd ps 2 [] [.p 0, .p 1] []) : OpR X (compareOp .Eq) (rInsI C sp false) := by
  intro pins s σ H x y v u Q I rx ry h
  obtain ⟨a, b, dx, dy, fs, gs, rfl, rfl, ha, hb', q⟩ := h
  cases (show v = Value.ref a from rx)
  cases (show u = Value.ref b from ry)
  obtain ⟨mA, J, _⟩ := ins_get I.hok ha
  obtain ⟨mB, J', _⟩ := ins_get I.hok hb'
  obtain ⟨od, J, _⟩ := J.look
  obtain ⟨od', J', _⟩ := J'.look
  obtain ⟨m, hF⟩ := I.fr
  show wpAny _ _ (richCompare .Eq _ _) _ _ _
  refine PySem.W.cmp_K (op := .Eq) (tb := .ref C) hr.r.units0 hF I.ok.mod.kin J J'.type (by simp [PySem.W.notFirst]) E.eq E.fn ?_
  refine wpAny_mono (run2_at (x := .ref a) (y := .ref b) F hr rfl hb I rfl rfl q) (fun w s' z => ?_) fun _ _ x => x
  obtain ⟨z', H', I', rz, kk, ek, qz⟩ := z
  subst ek
  cases (show w = Value.bool kk from rz)
  rw [show (kk != false) = kk by cases kk <;> rfl] at qz
  exact ⟨.bl kk, H', I', rfl, qz⟩
theorem op_neI (E : EqK X.K C f) (F : FnG X.prog X.w X.K X.mg X.base (L2.CX X.prog X.w) k f fd ps sp) (hr : RoomG (k + 1) X.A) (hb : KB X.K fd ps 2 [] [.p 0, .p 1] []) : OpR X (compareOp .NotEq) (rInsI C sp true) := by
  intro pins s σ H x y v u Q I rx ry h
  obtain ⟨a, b, dx, dy, fs, gs, rfl, rfl, ha, hb', q⟩ := h
  cases (show v = Value.ref a from rx)
  cases (show u = Value.ref b from ry)
  obtain ⟨mA, J, _⟩ := ins_get I.hok ha
  obtain ⟨mB, J', _⟩ := ins_get I.hok hb'
  obtain ⟨od, J, _⟩ := J.look
  obtain ⟨od', J', _⟩ := J'.look
  show wpAny _ _ (richCompare .NotEq _ _) _ _ _
  refine PySem.W.ne_K hr.u1 I.kIn J J'.type (by simp) E.ne E.eq E.fn E.ob ?_
  refine wpAny_mono (run2_at (x := .ref a) (y := .ref b) F hr.in1 rfl hb I rfl rfl q) (fun w s' z => ?_) fun _ _ x => x
  obtain ⟨z', H', I', rz, kk, ek, qz⟩ := z
  subst ek
  cases (show w = Value.bool kk from rz)
  rw [show (kk != true) = !kk by cases kk <;> rfl] at qz
  exact ⟨kk, rfl, .bl (!kk), H', I', rfl, qz⟩
end
/-! ### their mirror -/
def noxE (r : ER) : ER :=
  match r with
  | .exc _ _ _ => .stk
  | r => r
def mCmpI (neg : Bool) (c : Nat) (M : FM) (Ma Mb : EM) : EM := Ma.bind fun a => Mb.bind fun b => fun env μ => match insOf env μ a, insOf env μ b with
  | some (c1, _), some (c2, _) => if c1 = c ∧ c2 = c then (noxE (runF M [a, b] env μ)).bind fun d env μ => (match d with
      | .bl k => .ok (.bl (k != neg)) env μ
      | _ => .stk) else .stk
  | _, _ => .stk
section
variable {hx : HX} {X : Cx} {c : Nat} {M : FM} {Ma Mb : EM}
theorem cmpI_of {W : WX} {neg : Bool} (nx : NoX (kx X hx)) {σ : L2.St} {H : Hp} {Q : VK} (h : rdE (kx X hx) W (mCmpI neg c M Ma Mb) σ H Q) :
    tOp (rInsI (He.ga X.K (cname c)) (spF ⟨X.K, none, hx.cs⟩ 2 M) neg) (rdE (kx X hx) W Ma) (rdE (kx X hx) W Mb) σ H Q := by
  obtain ⟨w, rfl, rfl, rs, p⟩ := h
  refine ⟨w, rfl, rfl, rs, (PostE.bind p).imp fun x H1 a1 => ?_⟩
  obtain ⟨w1, d1, rfl, e1, rs1, st1, i1, p1⟩ := a1.ex
  refine ⟨w1, e1, rfl, rs1, (PostE.bind p1).imp fun y H2 a2 => ?_⟩
  obtain ⟨w2, d2, rfl, e2, rs2, st2, i2, p2⟩ := a2.ex
  have i1' := i1.mono e2 st2.gr
  cases q1 : insOf w2.env w2.μ d1 with
  | none =>
    rw [q1] at p2
    exact p2.elim
  | some g1 =>
    cases q2 : insOf w2.env w2.μ d2 with
    | none =>
      rw [q1, q2] at p2
      exact p2.elim
    | some g2 =>
      obtain ⟨c1, gs1⟩ := g1
      obtain ⟨c2, gs2⟩ := g2
      rw [q1, q2] at p2
      dsimp only at p2
      by_cases hc : c1 = c ∧ c2 = c
      · rw [if_pos hc] at p2
        obtain ⟨rfl, rfl⟩ := hc
        obtain ⟨a, dx, fs, rfl, _, h1, _⟩ := ins_heap rs2 i1' q1
        obtain ⟨b, dy, gs, rfl, _, h2, _⟩ := ins_heap rs2 i2 q2
        refine ⟨a, b, dx, dy, fs, gs, rfl, rfl, h1, h2, ?_⟩
        refine runF_sp (W := wNo) nx rs2 (.cons i1' (.cons i2 .nil)) rfl ?_
        cases r : runF M [d1, d2] w2.env w2.μ with
        | stk =>
          rw [r] at p2
          exact p2.elim
        | exc _ _ _ =>
          rw [r] at p2
          exact p2.elim
        | ok d env' μ' =>
          rw [r] at p2
          intro w' v e1 e2 e3 rs' st i
          cases d with
          | bl k =>
            cases (show Is _ _ _ v (.bl k) from i)
            exact ⟨k, rfl, p2 w' (.bl (k != neg)) e1 e2 e3 rs' st (.bl _)⟩
          | _ => exact p2.elim
      · rw [if_neg hc] at p2
        exact p2.elim
variable {k : Nat} {f : Addr} {fd : FuncData} {ps : List Str} {a b : Expr} {pos : Pos}
theorem e_eqI (nx : NoX (kx X hx)) (E : EqK X.K (He.ga X.K (cname c)) f) (F : FnG X.prog X.w X.K X.mg X.base (L2.CX X.prog X.w) k f fd ps (spF ⟨X.K, none, hx.cs⟩ 2 M)) (hr : RoomG k X.A) (hb : KB X.K fd ps 2 [] [.p 0, .p 1] []) (h1 : EOk hx X a Ma) (h2 : EOk hx X b Mb)
    (hm : behindInMarks .Eq b = false := by rfl) : EOk hx X (.Compare a [.Eq] [b] pos) (mCmpI false c M Ma Mb) :=
  fun W tk => impPE (pe_cmpR (op_eqI E F hr hb) (h1 W tk) (h2 W tk) hm) fun _ _ _ h => cmpI_of nx h
theorem e_neI (nx : NoX (kx X hx)) (E : EqK X.K (He.ga X.K (cname c)) f) (F : FnG X.prog X.w X.K X.mg X.base (L2.CX X.prog X.w) k f fd ps (spF ⟨X.K, none, hx.cs⟩ 2 M)) (hr : RoomG (k + 1) X.A) (hb : KB X.K fd ps 2 [] [.p 0, .p 1] []) (h1 : EOk hx X a Ma) (h2 : EOk hx X b Mb)
    (hm : behindInMarks .NotEq b = false := by rfl) : EOk hx X (.Compare a [.NotEq] [b] pos) (mCmpI true c M Ma Mb) :=
  fun W tk => impPE (pe_cmpR (op_neI E F hr hb) (h1 W tk) (h2 W tk) hm) fun _ _ _ h => cmpI_of nx h
theorem t_eqI (nx : NoX (kx X hx)) (E : EqK X.K (He.ga X.K (cname c)) f) (F : FnG X.prog X.w X.K X.mg X.base (L2.CX X.prog X.w) k f fd ps (spF ⟨X.K, none, hx.cs⟩ 2 M)) (hr : RoomG k X.A) (hb : KB X.K fd ps 2 [] [.p 0, .p 1] []) (h1 : EOk hx X a Ma) (h2 : EOk hx X b Mb)
    (hm : behindInMarks .Eq b = false := by rfl) : TOk hx X (.Compare a [.Eq] [b] pos) (mTst (mCmpI false c M Ma Mb)) :=
  fun W tk => impPT (pt_cmpR (op_eqI E F hr hb) (h1 W tk) (h2 W tk) hm) fun _ _ _ h => tst_of (fun _ _ _ h => cmpI_of nx h) h
theorem t_neI (nx : NoX (kx X hx)) (E : EqK X.K (He.ga X.K (cname c)) f) (F : FnG X.prog X.w X.K X.mg X.base (L2.CX X.prog X.w) k f fd ps (spF ⟨X.K, none, hx.cs⟩ 2 M)) (hr : RoomG (k + 1) X.A) (hb : KB X.K fd ps 2 [] [.p 0, .p 1] []) (h1 : EOk hx X a Ma) (h2 : EOk hx X b Mb)
    (hm : behindInMarks .NotEq b = false := by rfl) : TOk hx X (.Compare a [.NotEq] [b] pos) (mTst (mCmpI true c M Ma Mb)) :=
  fun W tk => impPT (pt_cmpR (op_neI E F hr hb) (h1 W tk) (h2 W tk) hm) fun _ _ _ h => tst_of (fun _ _ _ h => cmpI_of nx h) h
end
end DL
set_option Elab.async false
set_option linter.all false
set_option maxRecDepth 100000
set_option maxHeartbeats 4000000
namespace DL
open PySem PySem.Spec PyProof.Rows L2
/-! ### the law's end, for a promise that asks for 'nothing is being shown' -/
theorem callerA_guards : callerA.guards = some [] := rfl
section
variable {P : Program} {w : World} {K : Fg} {mg mb : Str → Option Value} {k : Nat} {fa a : Addr} {fd : FuncData} {x : Str} {sp : Sp} {s₁ : Shared} {vs : List Value} {ns : List Int}
/-- from a tracked heap that holds at most the script -/
theorem law_core {H : Hp} (KX : K.In s₁.heap) (hns : s₁.heap.Ns mainGlobals mg) (hb : s₁.heap.Ns builtinsNs mb) (hbb : ∀ x : Str, x ≠ "__name__" → mb x = bootBuiltins x) (hlim : s₁.heap.NoLimit) (hg : s₁.gens = #[])
    (ha : s₁.heap.get? a = some { cls := .type "list", data := .seq vs.toArray }) (hr : Room k callerA)
    (F : ∀ base : Heap, K.In base → base.Ns mainGlobals mg → FnG P w K mg base (L2.CX P w) k fa fd [x] sp) (hbind : ∀ (s : Shared) (u : Value), BindsTo s fd ⟨[u], []⟩ [(x, u)])
    (hsp : sp [.ref a] H (fun v _ => v = .bl true) fun _ _ _ => False) (hO : Only H) (hok : HOk P w H s₁.heap) (hA : ∀ b, H b ≠ none → b = a) (hK : H a ≠ none → K.lookup a = none) :
    codeAny (model P w) callerA (.call (.ref fa) ⟨[.ref a], []⟩) (fun r s' => r = .ok (.ret (.bool true)) ∧ OldK s₁.heap s'.heap ∧ s'.os = s₁.os ∧ AllBare s'.gens) s₁ := by
  have there : ∀ {b : Addr} {u : HO}, H b = some u → b = a := fun {b u} q => hA b (by rw [q]; simp)
  have free_of : ∀ {b : Addr} {o : Obj}, s₁.heap.get? b = some o → (∀ ar n, o.data ≠ .seq ar n) → H b = none := fun {b o} e d => by
    cases q : H b with
    | none => rfl
    | some u =>
      have e' := there q
      subst e'
      rw [ha] at e
      cases e
      exact (d _ _ rfl).elim
  have kept : ∀ {b : Addr} {m : Str → Option Value}, s₁.heap.Ns b m → (hidT s₁.heap H).Ns b m := fun {b m} ⟨o, es, ep, e, d, r⟩ =>
    ⟨o, es, ep, hidT_get e (free_of e fun ar n z => by rw [d] at z; cases z), d, r⟩
  have hKb : K.In (hidT s₁.heap H) := fun b o e => hidT_get (KX b o e) (by
    cases q : H b with
    | none => rfl
    | some u =>
      have e' := there q
      subst e'
      rw [hK (by rw [q]; simp)] at e
      cases e)
  have hM : Mod K mg (hidT s₁.heap H) := ⟨hKb, kept hns, ⟨mb, kept hb, hbb⟩, let ⟨mc, h1, h2⟩ := hlim; ⟨mc, kept h1, h2⟩⟩
  have e0 : Env0 P w K mg (hidT s₁.heap H) callerA [] s₁ H := ⟨rfl, hM, fun b o e => of_hidT e, Nat.le_of_eq (hidT_size _ _), trivial, fun b hb => absurd (show b ∈ ([] : List Addr) from hb) (by simp), hok, .of_eq hg⟩
  refine codeAny_mono ((F _ hKb (kept hns)).run callerA [] s₁ H ⟨[.ref a], []⟩ [.ref a] [.ref a] _ _ ⟨hr, callerA_guards⟩ e0 (hbind s₁ (.ref a)) (.cons rfl .nil) hsp) fun r s' h => ?_
  cases r with
  | error e =>
    obtain ⟨_, _, _, _, _, _, _, _, _, _, _, _, z⟩ := h
    exact z.elim
  | ok fl =>
    cases fl with
    | next => exact False.elim h
    | brk => exact False.elim h
    | cont => exact False.elim h
    | ret u =>
      obtain ⟨v, H', os, bare, un, hok', r', q⟩ := h
      obtain rfl : v = .bl true := q
      obtain rfl : u = Value.bool true := r'
      refine ⟨rfl, OldK.of_keep fun b o e => ?_, os, bare⟩
      rcases hO b with q | ⟨ob, xs, q⟩
      · exact un.keep b o e q (by intro z; exact absurd (show b ∈ ([] : List Addr) from z) (by simp)) (by simp)
      · obtain ⟨e1, _⟩ := hok b _ q
        obtain ⟨e2, _⟩ := hok' b _ (un.frzs b ob _ q)
        rw [e] at e1
        cases e1
        exact e2
theorem law_callG (KX : K.In s₁.heap) (hns : s₁.heap.Ns mainGlobals mg) (hb : s₁.heap.Ns builtinsNs mb) (hbb : ∀ x : Str, x ≠ "__name__" → mb x = bootBuiltins x) (hlim : s₁.heap.NoLimit) (hg : s₁.gens = #[])
    (ha : s₁.heap.get? a = some { cls := .type "list", data := .seq vs.toArray }) (hi : IntsAre vs ns) (hl : ns.length ≤ sizeLine) (hr : Room k callerA)
    (F : ∀ base : Heap, K.In base → base.Ns mainGlobals mg → FnG P w K mg base (L2.CX P w) k fa fd [x] sp) (hbind : ∀ (s : Shared) (u : Value), BindsTo s fd ⟨[u], []⟩ [(x, u)])
    (hsp : ∀ H : Hp, Only H → SqL K H a (ns.map V.int) → sp [.ref a] H (fun v _ => v = .bl true) fun _ _ _ => False) :
    codeAny (model P w) callerA (.call (.ref fa) ⟨[.ref a], []⟩) (fun r s' => r = .ok (.ret (.bool true)) ∧ OldK s₁.heap s'.heap ∧ s'.os = s₁.os ∧ AllBare s'.gens) s₁ := by
  have rv := vals_ints hi
  have lenV := hi.length
  cases hk : K.lookup a with
  | some o =>
    have e := KX a o hk
    rw [ha] at e
    cases e
    have hO : Only (fun _ => none) := fun _ => .inl rfl
    exact law_core (H := fun _ => none) KX hns hb hbb hlim hg ha hr F hbind (hsp _ hO (.inr ⟨_, vs.toArray, _, hk, rfl, rfl, rfl, by rw [List.size_toArray, lenV]; exact hl, by simpa using rv⟩)) hO
      (fun b u z => by have z' : (none : Option HO) = some u := z; cases z') (fun b z => absurd rfl z) fun z => absurd rfl z
  | none =>
    have at_ : ∀ b, (fun b => if b = a then some (HO.frz { cls := .type "list", data := .seq vs.toArray } (.lst (ns.map V.int))) else none : Hp) b = if b = a then some (HO.frz { cls := .type "list", data := .seq vs.toArray } (.lst (ns.map V.int))) else none := fun _ => rfl
    generalize (fun b => if b = a then some (HO.frz { cls := .type "list", data := .seq vs.toArray } (.lst (ns.map V.int))) else none : Hp) = H at at_
    have ea := (at_ a).trans (if_pos rfl)
    have hO : Only H := fun b => by
      by_cases q : b = a
      · exact .inr ⟨_, _, (at_ b).trans (if_pos q)⟩
      · exact .inl ((at_ b).trans (if_neg q))
    refine law_core (H := H) KX hns hb hbb hlim hg ha hr F hbind (hsp H hO (.inl (.inr ⟨_, ea⟩))) hO (fun b u z => ?_) (fun b z => ?_) fun _ => hk
    · by_cases q : b = a
      · subst q
        rw [ea] at z
        cases z
        exact ⟨ha, by rw [List.length_map]; exact hl, vs, _, rv, ha⟩
      · rw [(at_ b).trans (if_neg q)] at z
        cases z
    · by_cases q : b = a
      · exact q
      · exact absurd ((at_ b).trans (if_neg q)) z
end
/-- the goal that the head leaves, from the law's promise -/
theorem walk_ofG {l : PySem.W.OpenLaw} {n k : Nat} {q : Program} {loose : List Str} {XP : (Str → Option Value) → Heap → Prop} {YP : World → Heap → Prop} {d : DefRec} {x : Str}
    (hn : l.most = some n) (hn2 : n ≤ sizeLine) (hdf : d.params.defaults = []) (hr : Room k callerA)
    (F : ∀ (w : World) (mg : Str → Option Value) (fa : Addr) (h : Heap), YP w h → h.Ns mainGlobals mg → mg d.name = some (.ref fa) →
      ∃ (K : Fg) (fd : FuncData) (sp : Sp), K.In h ∧ (∀ (s : Shared) (u : Value), BindsTo s fd ⟨[u], []⟩ [(x, u)]) ∧
        (∀ (H : Hp) (a : Addr) (ns : List Int), ns.length ≤ n → Only H → SqL K H a (ns.map V.int) → sp [.ref a] H (fun v _ => v = .bl true) fun _ _ _ => False) ∧
        ∀ base : Heap, K.In base → base.Ns mainGlobals mg → FnG l.prog w K mg base (L2.CX l.prog w) k fa fd [x] sp) :
    PySem.W.WalkO q loose XP YP l.row.toRowW d [] (fun f vs => PySem.call f vs) := by
  refine Att.attach_call hn hdf fun w s₀ s₁ mg mb fa o pm cd doc a vs ns G Y ho hd hcd hmg hobj hints hlen hg => ?_
  obtain ⟨K, fd, sp, KX, hb, hsp, hF⟩ := F w mg fa _ Y G.T.g hmg
  exact law_callG KX G.T.g G.T.b G.T.builtins G.T.nolimit hg hobj hints (Nat.le_trans hlen hn2) hr hF hb (fun H hO hS => hsp H a ns hlen hO hS)
end DL
set_option Elab.async false
set_option linter.all false
set_option maxRecDepth 100000
set_option maxHeartbeats 4000000
namespace DL
open PySem PySem.Spec PyProof.Rows L2
def asX (g : Addr → Option Obj) : Nat → List Addr
  | 0 => [mainGlobals, cStatics]
  | n + 1 => He.growD g (asX g n)
/-! ### what the head must show of the written part: the kit's facts, the errors' __init__, checks of our own -/
abbrev SuW : Type := Option (Str × Str × Arguments × FuncBody × Scope × Addr × List Str × Addr)
def suW (K : Fg) (x : Str) : SuW := match K.lookup (He.ma K (He.ga K x) "__init__") with
  | some ⟨_, _, .func fd, _⟩ => some (fd.name, fd.qualname, fd.params, fd.body, fd.scope, fd.globals, fd.closure.map (·.1), fd.builtins)
  | _ => none
/-- an error's __init__: the class's number, the field's, its def -/
structure SuD where
  c : Nat
  f : Nat
  qual : Str
  params : Arguments
  body : List Stmt
  scope : Scope
def SuD.val (d : SuD) : SuW := some ("__init__", d.qual, d.params, .stmts d.body, d.scope, mainGlobals, ["__class__"], builtinsNs)
abbrev AlX : Type := He.AlD × List SuW × Bool
def obsX (fa : List He.Fa) (fn : List He.DefD) (su : List SuD) (xb : Fg → Bool) (K : Fg) : AlX := (He.obsD fa fn K, su.map fun d => suW K (cname d.c), xb K)
def valX (fn : List He.DefD) (su : List SuD) : AlX := (He.valD fn, su.map SuD.val, true)
def obsXG (n : Nat) (fa : List He.Fa) (fn : List He.DefD) (su : List SuD) (xb : Fg → Bool) (g : Addr → Option Obj) : AlX := obsX fa fn su xb (He.frG g (asX g n))
def SaysX (fa : List He.Fa) (fn : List He.DefD) (su : List SuD) (xb : Fg → Bool) (K : Fg) : Prop := obsX fa fn su xb K = valX fn su
def hookX (n : Nat) (fa : List He.Fa) (fn : List He.DefD) (su : List SuD) (xb : Fg → Bool) : PySem.W.Hook where
  α := AlX
  obs := fun s => obsXG n fa fn su xb s.heap.get?
  val := fun _ => valX fn su
  says := fun _ h => ∃ K : Fg, K.In h ∧ SaysX fa fn su xb K
  of := fun _ _ e => ⟨_, He.frG_in, e⟩
  keeps := fun _ _ _ ⟨K, hK, c⟩ k => ⟨K, PySem.W.Frag.In.keeps hK k, c⟩
theorem obsXG_eq {n : Nat} {fa : List He.Fa} {fn : List He.DefD} {su : List SuD} {xb : Fg → Bool} {g : Addr → Option Obj} {s : Shared} (h : ∀ a, g a = s.heap.get? a) : obsXG n fa fn su xb g = (hookX n fa fn su xb).obs s := by
  have e : g = s.heap.get? := funext h
  rw [e] <;> rfl
section
variable {fa : List He.Fa} {fn : List He.DefD} {su : List SuD} {xb : Fg → Bool} {K : Fg}
theorem SaysX.d (c : SaysX fa fn su xb K) : He.SaysD fa fn K := congrArg (fun z : AlX => z.1) c
theorem SaysX.b (c : SaysX fa fn su xb K) : xb K = true := congrArg (fun z : AlX => z.2.2) c
theorem SaysX.suOf (c : SaysX fa fn su xb K) (i : Nat) {d : SuD} (h : su[i]? = some d := by rfl) : suW K (cname d.c) = d.val := by
  have e : su.map (fun d => suW K (cname d.c)) = su.map SuD.val := congrArg (fun z : AlX => z.2.1) c
  have e2 : (su.map fun d => suW K (cname d.c))[i]? = (su.map SuD.val)[i]? := by rw [e]
  rw [List.getElem?_map, List.getElem?_map, h] at e2
  exact Option.some.inj e2
end
end DL
set_option Elab.async false
set_option linter.all false
set_option maxRecDepth 100000
set_option maxHeartbeats 4000000
namespace DL
open PySem PySem.Spec PyProof.Rows PySem.W
/-! ### checks of the written part: the errors' classes -/
section
variable {P : Program} {K : Fg} {h : Heap} {mg : Str → Option Value}
def fileB (K : Fg) (file : Str) : Value → Bool
  | .ref a => (match K.lookup a with
    | some ⟨_, _, .fields vs, _⟩ => (match (vs[2]? : Option Value) with
      | some (Value.str f _) => decide (f = file)
      | _ => false)
    | _ => false)
  | _ => false
theorem fileB_ok {file : Str} {v : Value} (h : fileB K file v = true) : ∃ a cl cd vs sl tf, v = .ref a ∧ K.lookup a = some ⟨cl, cd, .fields vs, sl⟩ ∧ vs[2]? = some (.str file tf) := by
  cases v with
  | ref a =>
    have h1 : (match K.lookup a with
      | some ⟨_, _, .fields vs, _⟩ => (match (vs[2]? : Option Value) with
        | some (Value.str f _) => decide (f = file)
        | _ => false)
      | _ => false) = true := h
    cases q : K.lookup a with
    | none =>
      rw [q] at h1
      cases h1
    | some o =>
      obtain ⟨oc, od, dt, osl⟩ := o
      rw [q] at h1
      cases dt with
      | fields vs =>
        dsimp only at h1
        cases q2 : vs[2]? with
        | none =>
          rw [q2] at h1
          cases h1
        | some u =>
          rw [q2] at h1
          cases u with
          | str f tf =>
            have e : f = file := of_decide_eq_true h1
            exact ⟨a, oc, od, vs, osl, tf, rfl, q, by rw [q2, e]⟩
          | _ => cases h1
      | _ => cases h1
  | _ => cases h
def cellB (K : Fg) (C : Addr) : List (Str × Addr) → Bool
  | [(_, c)] => (match K.lookup c with
    | some ⟨_, _, .cell (some (.ref D)), _⟩ => decide (D = C)
    | _ => false)
  | _ => false
theorem cellB_ok {C : Addr} {l : List (Str × Addr)} (h : cellB K C l = true) : ∃ n c cl cd sl, l = [(n, c)] ∧ K.lookup c = some ⟨cl, cd, .cell (some (.ref C)), sl⟩ := by
  match l, h with
  | [(n, c)], h =>
    have h1 : (match K.lookup c with
      | some ⟨_, _, .cell (some (.ref D)), _⟩ => decide (D = C)
      | _ => false) = true := h
    cases q : K.lookup c with
    | none =>
      rw [q] at h1
      cases h1
    | some o =>
      obtain ⟨oc, od, dt, osl⟩ := o
      rw [q] at h1
      cases dt with
      | cell v =>
        cases v with
        | none => cases h1
        | some v =>
          cases v with
          | ref D =>
            have e : D = C := of_decide_eq_true h1
            rw [e] at q
            exact ⟨n, c, oc, od, osl, rfl, q⟩
          | _ => cases h1
      | _ => cases h1
  | [], h => cases h
  | _ :: _ :: _, h => cases h
/-- what is told of the text of such an __init__ -/
structure SuP (P : Program) (d : SuD) (file : Str) : Prop where
  ex : ∃ (slf p txt : Str) (j : Nat) (p0 p1 p2 p3 p4 p5 p6 p7 p8 p9 : Pos) (ar : Arg), d.body = iBody slf p (fname d.f) txt j p0 p1 p2 p3 p4 p5 p6 p7 p8 p9 ∧ (d.params.posonlyargs ++ d.params.args).head? = some ar ∧ ar.arg = slf ∧ (slf == p) = false ∧
    SupEv txt j p0 p1 p2 p3 p4 ∧ (∀ (kV doc pm cdv ct : Value) (an : Option Addr) (cc : Addr) (a b : Value), bindArgs (ksFn "__init__" d.qual d.params d.body d.scope .none kV doc pm an cdv ct cc) ⟨[a, b], []⟩ = pure [(slf, a), (p, b)]) ∧
    d.scope.names.lookup slf = some .local ∧ d.scope.names.lookup p = some .local ∧ (slf == ("__debug__" : Str)) = false ∧ (p == ("__debug__" : Str)) = false
  sSu : d.scope.names.lookup ("super" : Str) = some .globalImplicit
  sCl : d.scope.names.lookup ("__class__" : Str) = some .free
  sCe : ∀ x ∈ d.scope.names, x.2 ≠ .cell
  sCo : d.scope.isCoroutine = false
  sGe : d.scope.isGenerator = false
  sKi : d.scope.kind = .function
  file : ((P.main.file : Str) == file) = true
  top : (P.main.scope.names.lookup ("super" : Str)).isSome = false
def noneB : Value → Bool
  | .none => true
  | _ => false
theorem noneB_ok {v : Value} (h : noneB v = true) : v = .none := by
  cases v with
  | none => rfl
  | _ => cases h
def supFn (K : Fg) (C : Addr) (file qual : Str) (fd : FuncData) : Bool := codeIn K fd.code qual && (fileB K file fd.code && (cellB K C fd.closure && noneB fd.defaults))
def supL (K : Fg) (C f : Addr) (file qual : Str) : Bool := match K.lookup f with
  | some ⟨_, _, .func fd, _⟩ => supFn K C file qual fd
  | _ => false
def eqB (a b : Option (Option Value)) : Bool := decide (a = b)
def supB (d : SuD) (file : Str) (K : Fg) : Bool :=
  let C := He.ga K (cname d.c)
  let f := He.ma K C "__init__"
  excInitIn K C bmVE "ValueError.__new__" && (excOver K C bmVE && (eqB (findIn K (.ref C) "__init__") (some (some (.ref f))) && (decide (typeIn K (.ref f) = some (.type "function")) && (supL K C f file d.qual &&
  ((clsIn K C).isSome && (decide (mroIn K C (.ref C) = some true) && (eqB (ks_superIn K C C "__init__") (some (some (.builtin "ValueError.__init__"))) && (decide (subIn K (.ref C) (.type "ValueError") = some true) &&
  (eqB (findIn K (.ref C) "__setattr__") (some (some (.builtin "object.__setattr__"))) && (eqB (takerIn K C (fname d.f)) (some none) && (hasDictIn K C && (decide (subIn K (.ref C) (.type "BaseException") = some true) &&
  (decide (typeIn K (.ref C) = some (.type "type")) && (keepIn K (.ref C) && eqB (nsIn K cStatics "thirdparty.any") (some none)))))))))))))))
theorem sup_ok {d : SuD} {file : Str} (S : SuP P d file) (hd : suW K (cname d.c) = d.val) (hb : supB d file K = true) : SupK P K d.c d.f := by
  obtain ⟨b1, hb⟩ := He.ba hb
  obtain ⟨b2, hb⟩ := He.ba hb
  obtain ⟨b3, hb⟩ := He.ba hb
  obtain ⟨b4, hb⟩ := He.ba hb
  obtain ⟨b5, hb⟩ := He.ba hb
  obtain ⟨b6, hb⟩ := He.ba hb
  obtain ⟨b7, hb⟩ := He.ba hb
  obtain ⟨b8, hb⟩ := He.ba hb
  obtain ⟨b9, hb⟩ := He.ba hb
  obtain ⟨b10, hb⟩ := He.ba hb
  obtain ⟨b11, hb⟩ := He.ba hb
  obtain ⟨b12, hb⟩ := He.ba hb
  obtain ⟨b13, hb⟩ := He.ba hb
  obtain ⟨b14, hb⟩ := He.ba hb
  obtain ⟨b15, b16⟩ := He.ba hb
  refine ⟨?_, S.top, of_decide_eq_true b10, of_decide_eq_true b11, b12, of_decide_eq_true b13, of_decide_eq_true b14, b15, of_decide_eq_true b16⟩
  obtain ⟨slf, p, txt, j, p0, p1, p2, p3, p4, p5, p6, p7, p8, p9, ar, ebody, hhead, har, hne, hev, hbind, l1, l2, g1, g2⟩ := S.ex
  unfold suW at hd
  unfold supL at b5
  obtain ⟨cdD, hcd⟩ := Option.isSome_iff_exists.mp b6
  generalize hC : He.ga K (cname d.c) = C at *
  generalize hf : He.ma K C "__init__" = f at *
  cases q : K.lookup f with
  | none =>
    rw [q] at b5
    cases b5
  | some o =>
    obtain ⟨oc, od, dt, osl⟩ := o
    rw [q] at b5 hd
    cases dt with
    | func fd =>
      dsimp only at hd b5
      obtain ⟨n1, n2, n3, n4, n5, n6, n7, n8, n9, n10, n11, n12, n13, n14, n15⟩ := fd
      unfold SuD.val at hd
      simp only [Option.some.injEq, Prod.mk.injEq] at hd
      obtain ⟨e1, e2, e3, e4, e5, e6, e7, e8⟩ := hd
      unfold supFn at b5
      dsimp only at b5
      obtain ⟨c1, c2⟩ := He.ba b5
      obtain ⟨c2, c3⟩ := He.ba c2
      obtain ⟨c3, c4⟩ := He.ba c3
      have en8 := noneB_ok c4
      obtain ⟨cda, ccl, cdd, vs, ccs, tf, ec, lc, lv⟩ := fileB_ok c2
      obtain ⟨nn, cc, cl, cld, csl, el, lcc⟩ := cellB_ok c3
      subst e1 e2 e3 e4 e5 e6 e8 ec el en8
      have en : nn = "__class__" := by simpa using e7
      subst en
      have Q : K.lookup f = some ⟨oc, od, .func (ksFn "__init__" d.qual d.params (iBody slf p (fname d.f) txt j p0 p1 p2 p3 p4 p5 p6 p7 p8 p9) d.scope .none n9 n10 n11 n12 (.ref cda) n14 cc), osl⟩ := by
        rw [q, ebody]
      exact ⟨"ValueError", "ValueError.__new__", "ValueError.__init__", bmVE, f, cc, cda, oc, ccl, cl, od, cdd, cld, osl, ccs, csl, _, "__init__", d.qual, d.params, d.scope, .none, n9, n10, n11, n14, n12, slf, p, txt, j, p0, p1, p2, p3, p4, p5, p6, p7, p8, p9, vs, file, tf, ar, cdD,
        exVE, b1, b2, of_decide_eq_true b3, of_decide_eq_true b4, rfl, Q, c1, lc, lv, S.file, lcc, hcd, of_decide_eq_true b7, of_decide_eq_true b8, of_decide_eq_true b9, hhead, har, hne, hev,
        fun a b => by rw [← ebody]; exact hbind _ _ _ _ _ _ _ a b, S.sSu, S.sCl, l1, l2, S.sCe, S.sCo, S.sGe, S.sKi, g1, g2⟩
    | _ => cases b5
end
end DL
set_option Elab.async false
set_option linter.all false
set_option maxRecDepth 100000
set_option maxHeartbeats 4000000
namespace DL
open PySem PySem.Spec PyProof.Rows L2
/-! ### further checks of the written part -/
section
variable {K : Fg}
def excB (K : Fg) (C : Addr) : Bool := eqB (PySem.W.findIn K (.ref C) "__getattribute__") (some (some (.builtin "BaseException.__getattribute__"))) && (eqB (PySem.W.findIn K (.ref C) "__getattr__") (some none) && (decide (PySem.W.subIn K (.ref C) (.type "BaseException") = some true) && (PySem.W.hasDictIn K C &&
  (eqB (PySem.W.findIn K (.ref C) "__class__") (some (some (.builtin "object.__class__"))) && (eqB (PySem.W.specialIn K (.builtin "object.__class__") "__get__") (some (some (.builtin "getset_descriptor.__get__"))) && (decide (PySem.W.takesIn K (.builtin "object.__class__") = some true) && decide (PySem.W.mroIn K C (.type "object") = some true)))))))
theorem excB_ok {C : Addr} (h : excB K C = true) : ExcC K C := by
  obtain ⟨h1, h⟩ := He.ba h
  obtain ⟨h2, h⟩ := He.ba h
  obtain ⟨h3, h⟩ := He.ba h
  obtain ⟨h4, h⟩ := He.ba h
  obtain ⟨h5, h⟩ := He.ba h
  obtain ⟨h6, h⟩ := He.ba h
  obtain ⟨h7, h8⟩ := He.ba h
  exact ⟨of_decide_eq_true h1, of_decide_eq_true h2, of_decide_eq_true h3, h4, of_decide_eq_true h5, of_decide_eq_true h6, of_decide_eq_true h7, of_decide_eq_true h8⟩
def insB (K : Fg) (c : Nat) : Bool := (He.Fa.cls (cname c)).ok K && (eqB (PySem.W.findIn K (.ref (He.ga K (cname c))) "__class__") (some (some (.builtin "object.__class__"))) && (eqB (PySem.W.specialIn K (.builtin "object.__class__") "__get__") (some (some (.builtin "getset_descriptor.__get__"))) &&
  (decide (PySem.W.takesIn K (.builtin "object.__class__") = some true) && decide (PySem.W.mroIn K (He.ga K (cname c)) (.type "object") = some true))))
theorem insB_ok {c : Nat} (h : insB K c = true) : InsK K c := by
  obtain ⟨h1, h⟩ := He.ba h
  obtain ⟨h2, h⟩ := He.ba h
  obtain ⟨h3, h⟩ := He.ba h
  obtain ⟨h4, h5⟩ := He.ba h
  exact ⟨He.cls_ok h1, of_decide_eq_true h2, of_decide_eq_true h3, of_decide_eq_true h4, of_decide_eq_true h5⟩
def inssB (cs : List Nat) (K : Fg) : Bool := cs.all (insB K)
theorem inssB_ok {cs : List Nat} (h : inssB cs K = true) : ∀ c ∈ cs, InsK K c := fun c hc => insB_ok (List.all_eq_true.mp h c hc)
def eqKB (c : Nat) (K : Fg) : Bool := eqB (PySem.W.findIn K (.ref (He.ga K (cname c))) "__eq__") (some (some (.ref (He.ma K (He.ga K (cname c)) "__eq__")))) && (eqB (PySem.W.findIn K (.ref (He.ga K (cname c))) "__ne__") (some (some (.builtin "object.__ne__"))) &&
  (PySem.W.isFn K (.ref (He.ma K (He.ga K (cname c)) "__eq__")) && decide (PySem.W.mroIn K (He.ga K (cname c)) (.type "object") = some true)))
theorem eqKB_ok {c : Nat} (h : eqKB c K = true) : EqK K (He.ga K (cname c)) (He.ma K (He.ga K (cname c)) "__eq__") := by
  obtain ⟨h1, h⟩ := He.ba h
  obtain ⟨h2, h⟩ := He.ba h
  obtain ⟨h3, h4⟩ := He.ba h
  exact ⟨of_decide_eq_true h1, of_decide_eq_true h2, h3, of_decide_eq_true h4⟩
theorem lookup_mem {α : Type} {k : Nat} {b : α} : ∀ {t : List (Nat × α)}, t.lookup k = some b → (k, b) ∈ t
  | [], h => by cases h
  | (j, c) :: t, h => by
    unfold List.lookup at h
    cases q : k == j with
    | true =>
      rw [q] at h
      cases h
      rw [beq_iff_eq.mp q]
      exact List.mem_cons_self ..
    | false =>
      rw [q] at h
      exact List.mem_cons_of_mem _ (lookup_mem h)
def exB (t : List (Nat × Bool)) (c : Nat) (K : Fg) : Bool := t.all fun p => decide (PySem.W.exmOne K (.ref (He.ga K (cname p.1))) (.ref (He.ga K (cname c))) = some p.2)
theorem exB_ok {t : List (Nat × Bool)} {c : Nat} (h : exB t c K = true) : ∀ k b, t.lookup k = some b → PySem.W.exmOne K (.ref (He.ga K (cname k))) (.ref (He.ga K (cname c))) = some b :=
  fun k b e => of_decide_eq_true (List.all_eq_true.mp h (k, b) (lookup_mem e))
def ixB (t : List (Nat × Bool)) (c : Nat) (K : Fg) : Bool := t.all fun p => excB K (He.ga K (cname p.1)) && decide (PySem.W.kitOne K (.ref (He.ga K (cname p.1))) (.ref (He.ga K (cname c))) = some p.2)
theorem ixB_ok {t : List (Nat × Bool)} {c : Nat} (h : ixB t c K = true) : ∀ k b, t.lookup k = some b → ExcC K (He.ga K (cname k)) ∧ PySem.W.kitOne K (.ref (He.ga K (cname k))) (.ref (He.ga K (cname c))) = some b :=
  fun k b e => by
    obtain ⟨h1, h2⟩ := He.ba (List.all_eq_true.mp h (k, b) (lookup_mem e))
    exact ⟨excB_ok h1, of_decide_eq_true h2⟩
def xfsB (l : List Nat) (f : Nat) (K : Fg) : Bool := l.all fun k => xfB K (He.ga K (cname k)) && eqB (PySem.W.findIn K (.ref (He.ga K (cname k))) (fname f)) (some none)
theorem xfsB_ok {l : List Nat} {f : Nat} (h : xfsB l f K = true) : ∀ k, l.contains k = true → XfC K (He.ga K (cname k)) ∧ PySem.W.findIn K (.ref (He.ga K (cname k))) (fname f) = some none := fun k e => by
  obtain ⟨h1, h2⟩ := He.ba (List.all_eq_true.mp h k (List.contains_iff_mem.mp e))
  exact ⟨xfB_ok h1, of_decide_eq_true h2⟩
def fldB (fc : List Nat) (f : Nat) (K : Fg) : Bool := fc.all fun c => (He.Fa.cls (cname c)).ok K && (He.Fa.noat (cname c) (fname f)).ok K
theorem fldB_ok {fc : List Nat} {f : Nat} (h : fldB fc f K = true) : FldOk K fc f := fun c hc => by
  obtain ⟨h1, h2⟩ := He.ba (List.all_eq_true.mp h c hc)
  exact ⟨He.cls_ok h1, He.noat_ok h2⟩
def faB (f : He.Fa) (K : Fg) : Bool := f.ok K
def xAll (l : List (Fg → Bool)) (K : Fg) : Bool := l.all fun f => f K
theorem xAt {l : List (Fg → Bool)} {fa : List He.Fa} {fn : List He.DefD} {su : List SuD} (c : SaysX fa fn su (xAll l) K) (i : Nat) {f : Fg → Bool} (h : l[i]? = some f := by rfl) : f K = true :=
  List.all_eq_true.mp c.b f (List.mem_of_getElem? h)
end
end DL
namespace DL
open PySem PySem.Spec PyProof.Rows L2
/-! ### the law's promise, from what the mirror tells -/
theorem rs_law {κ : Kx} {H : Hp} : RS κ (w0 [] H [] H) where
  le := fun _ _ h => h
  lm := rfl
  ls := rfl
  slot := fun i d e => by
    have e' : ([] : List Slot)[i]? = some (.d d) := e
    simp at e'
  own := fun i d e => by
    have e' : ([] : List Slot)[i]? = some (.own d) := e
    simp at e'
  cel := fun n a c h => by
    have e' : ([] : List Cell)[n]? = some c := h.1
    simp at e'
  cc := fun n n' a c c' h => by
    have e' : ([] : List Cell)[n]? = some c := h.1
    simp at e'
  oo := fun n n' a c c' h => by
    have e' : ([] : List Slot)[n]? = some (.own c) := h.1
    simp at e'
  oc := fun n n' a c c' h => by
    have e' : ([] : List Slot)[n]? = some (.own c) := h.1
    simp at e'
theorem ints_isV {κ : Kx} {m : List Addr} {F : Hp} : ∀ ns : List Int, IsL κ m F (ns.map V.int) (ns.map D.int)
  | [] => .nil
  | n :: ns => .cons (.int n) (ints_isV ns)
theorem funD_one {K : Fg} {x qual : Str} {params : Arguments} {body : List Stmt} {scope : Scope} {dvs : List V} {kws : List (Str × V)} {f : Addr} {fd fd' : FuncData} (F : FunD K x qual params body scope dvs kws f fd) (F' : FunD K x qual params body scope dvs kws f fd') : fd = fd' := by
  obtain ⟨_, _, _, _, _, _, _, _, _, _, _, l, _⟩ := F.ex
  obtain ⟨_, _, _, _, _, _, _, _, _, _, _, l', _⟩ := F'.ex
  rw [l] at l'
  cases l'
  rfl
theorem sp_law {K : Fg} {cs : List Nat} {M : FM} {H : Hp} {a : Addr} {ns : List Int} (hS : SqL K H a (ns.map V.int)) (h : ∃ μ', M [.rol (ns.map D.int)] [] = .ok (.bl true) μ') :
    spF ⟨K, none, cs⟩ 1 M [.ref a] H (fun v _ => v = .bl true) (fun _ _ _ => False) := by
  obtain ⟨μ', h⟩ := h
  refine ⟨[], H, [], [.rol (ns.map D.int)], rs_law, rfl, .cons (.rol hS (ints_isV ns)) .nil, ?_⟩
  rw [h]
  intro m' F' H' v _ _ i
  cases i
  rfl
end DL
set_option Elab.async false
set_option linter.all false
set_option maxRecDepth 100000
set_option maxHeartbeats 4000000
/-! ### what holds behind a mirror: rules, word by word -/
namespace DL
open PySem PySem.Spec PyProof.Rows L2
abbrev KE := D → Env → Mu → Prop
abbrev KX := Exn → Env → Mu → Prop
abbrev KM := Env → Mu → Prop
def wE (M : EM) (env : Env) (μ : Mu) (K : KE) (X : KX) : Prop := match M env μ with
  | .ok d e m => K d e m
  | .exc x e m => X x e m
  | .stk => False
def wT (M : TM) (env : Env) (μ : Mu) (K : Bool → Env → Mu → Prop) (X : KX) : Prop := match M env μ with
  | .ok d e m => K d e m
  | .exc x e m => X x e m
  | .stk => False
def wA (M : AM) (env : Env) (μ : Mu) (K : List D → Env → Mu → Prop) (X : KX) : Prop := match M env μ with
  | .ok d e m => K d e m
  | .exc x e m => X x e m
  | .stk => False
def wN (M : NM) (env : Env) (μ : Mu) (K : Cell → Env → Mu → Prop) (X : KX) : Prop := match M env μ with
  | .ok d e m => K d e m
  | .exc x e m => X x e m
  | .stk => False
def wI (M : IM) (env : Env) (μ : Mu) (K : List D → (Mu → Prop) → Env → Mu → Prop) (X : KX) : Prop := match M env μ with
  | .ok d ck e m => K d ck e m
  | .exc x e m => X x e m
  | .stk => False
def wO (M : PM) (env : Env) (μ : Mu) (K : Option Int → Env → Mu → Prop) (X : KX) : Prop := match M env μ with
  | .ok d e m => K d e m
  | .exc x e m => X x e m
  | .stk => False
def wG (T : GM) (d : D) (env : Env) (μ : Mu) (K : KM) : Prop := match T d env μ with
  | .ok e m => K e m
  | .no => False
def wGs (T : GMs) (d : List D) (env : Env) (μ : Mu) (K : KM) : Prop := match T d env μ with
  | .ok e m => K e m
  | .no => False
def wS (M : SM) (env : Env) (μ : Mu) (N : KM) (R : KE) (B C : KM) (X : KX) : Prop := match M env μ with
  | .nx e m => N e m
  | .ret d e m => R d e m
  | .bk e m => B e m
  | .ct e m => C e m
  | .exc x e m => X x e m
  | .stk => False
def wF (M : FM) (ds : List D) (μ : Mu) (K : D → Mu → Prop) (X : Exn → Mu → Prop) : Prop := match M ds μ with
  | .ok d m => K d m
  | .exc x m => X x m
  | .stk => False
def wJ (M : List D → Mu → NR) (ds : List D) (μ : Mu) (K : Cell → Mu → Prop) (X : Exn → Mu → Prop) : Prop := match M ds μ with
  | .ok d _ m => K d m
  | .exc x _ m => X x m
  | .stk => False
section
variable {env : Env} {μ : Mu} {K : KE} {KT : Bool → Env → Mu → Prop} {KA : List D → Env → Mu → Prop} {KN : Cell → Env → Mu → Prop} {X : KX} {N B C : KM} {R : KE}
variable {a b c : EM} {d : D} {i : Nat} {f g : Env → Mu → D → D → Option D} {Ma Mk : AM} {Mn : NM} {s t : SM} {p q : TM}
/-! expressions -/
theorem wE_bind {k : D → EM} (h : wE a env μ (fun x e m => wE (k x) e m K X) X) : wE (a.bind k) env μ K X := by
  unfold wE EM.bind ER.bind
  unfold wE at h
  cases e : a env μ <;> rw [e] at h <;> exact h
theorem wE_lift {o : Option D} (h : ∃ d, o = some d ∧ K d env μ) : wE (lift o) env μ K X := by
  obtain ⟨d, rfl, h⟩ := h
  exact h
theorem wE_C (h : K d env μ) : wE (mC d) env μ K X := h
theorem wE_var (e : env[i]? = some (.d d)) (h : K d env μ) : wE (mVar i) env μ K X := by
  unfold wE mVar
  rw [e]
  exact h
theorem wE_own {cl : Cell} (e : env[i]? = some (.own cl)) (h : K (.loc i) env μ) : wE (mVar i) env μ K X := by
  unfold wE mVar
  rw [e]
  exact h
theorem wE_bin (h : wE a env μ (fun x e m => wE b e m (fun y e m => ∃ d, f e m x y = some d ∧ K d e m) X) X) : wE (mBin f a b) env μ K X := by
  refine wE_bind ?_
  unfold wE at h ⊢
  cases e : a env μ with
  | ok d1 e1 m1 =>
    rw [e] at h
    dsimp only at h ⊢
    refine (wE_bind ?_ : wE (b.bind fun y => fun env μ => lift (f env μ d1 y) env μ) e1 m1 K X)
    unfold wE
    cases e2 : b e1 m1 with
    | ok d2 e3 m3 =>
      rw [e2] at h
      exact wE_lift h
    | _ =>
      rw [e2] at h
      exact h
  | _ =>
    rw [e] at h
    exact h
theorem wE_un {f : Env → Mu → D → Option D} (h : wE a env μ (fun x e m => ∃ d, f e m x = some d ∧ K d e m) X) : wE (mUn f a) env μ K X := by
  refine wE_bind ?_
  unfold wE at h ⊢
  cases e : a env μ with
  | ok d1 e1 m1 =>
    rw [e] at h
    exact wE_lift h
  | _ =>
    rw [e] at h
    exact h
theorem wE_chain (h : wE a env μ (fun x e m => wE b e m (fun y e m => ∃ z, f e m x y = some (.bl z) ∧ (z = true → wE c e m (fun u e m => ∃ d, g e m y u = some d ∧ K d e m) X) ∧ (z = false → K (.bl false) e m)) X) X) : wE (mChain f g a b c) env μ K X := by
  refine wE_bind ?_
  unfold wE at h ⊢
  cases e : a env μ with
  | ok d1 e1 m1 =>
    rw [e] at h
    dsimp only at h ⊢
    refine (wE_bind ?_ : wE (b.bind _) e1 m1 K X)
    unfold wE
    cases e2 : b e1 m1 with
    | ok d2 e3 m3 =>
      rw [e2] at h
      obtain ⟨z, hz, h1, h2⟩ := h
      dsimp only
      rw [hz]
      cases z with
      | false => exact h2 rfl
      | true =>
        have h3 := h1 rfl
        refine (wE_bind ?_ : wE (c.bind fun u => fun env μ => lift (g env μ d2 u) env μ) e3 m3 K X)
        unfold wE
        cases e4 : c e3 m3 with
        | ok d5 e5 m5 =>
          rw [e4] at h3
          exact wE_lift h3
        | _ =>
          rw [e4] at h3
          exact h3
    | _ =>
      rw [e2] at h
      exact h
  | _ =>
    rw [e] at h
    exact h
theorem wE_and (h : wE a env μ (fun x e m => ∃ k, truB e m x = some k ∧ (k = true → wE b e m K X) ∧ (k = false → K x e m)) X) : wE (mAndV a b) env μ K X := by
  refine wE_bind ?_
  unfold wE at h ⊢
  cases e : a env μ with
  | ok d1 e1 m1 =>
    rw [e] at h
    obtain ⟨k, hk, h1, h2⟩ := h
    dsimp only
    rw [hk]
    cases k with
    | false => exact h2 rfl
    | true => exact h1 rfl
  | _ =>
    rw [e] at h
    exact h
theorem wE_or (h : wE a env μ (fun x e m => ∃ k, truB e m x = some k ∧ (k = false → wE b e m K X) ∧ (k = true → K x e m)) X) : wE (mOrV a b) env μ K X := by
  refine wE_bind ?_
  unfold wE at h ⊢
  cases e : a env μ with
  | ok d1 e1 m1 =>
    rw [e] at h
    obtain ⟨k, hk, h1, h2⟩ := h
    dsimp only
    rw [hk]
    cases k with
    | true => exact h2 rfl
    | false => exact h1 rfl
  | _ =>
    rw [e] at h
    exact h
theorem wE_not (h : wE a env μ (fun x e m => ∃ k, truB e m x = some k ∧ K (.bl (!k)) e m) X) : wE (mNotV a) env μ K X := by
  refine wE_bind ?_
  unfold wE at h ⊢
  cases e : a env μ with
  | ok d1 e1 m1 =>
    rw [e] at h
    obtain ⟨k, hk, h1⟩ := h
    dsimp only
    rw [hk]
    exact h1
  | _ =>
    rw [e] at h
    exact h
theorem wE_if (h : wT p env μ (fun k e m => (k = true → wE a e m K X) ∧ (k = false → wE b e m K X)) X) : wE (mIf p a b) env μ K X := by
  unfold wE mIf TR.toE
  unfold wT at h
  cases e : p env μ with
  | ok k e1 m1 =>
    rw [e] at h
    cases k with
    | true => exact h.1 rfl
    | false => exact h.2 rfl
  | _ =>
    rw [e] at h
    exact h
theorem wE_tup (h : wA Ma env μ (fun ds e m => (ds.all noLoc = true ∧ ds.length ≤ sizeLine) ∧ K (.tup ds) e m) X) : wE (mTup Ma) env μ K X := by
  unfold wE mTup AR.toE
  unfold wA at h
  cases e : Ma env μ with
  | ok k e1 m1 =>
    rw [e] at h
    dsimp only
    rw [if_pos h.1]
    exact h.2
  | _ =>
    rw [e] at h
    exact h
theorem wN_lst (h : wA Ma env μ (fun ds e m => (ds.all noLoc = true ∧ ds.length ≤ sizeLine) ∧ KN (.lst ds) e m) X) : wN (mLst Ma) env μ KN X := by
  unfold wN mLst AR.toN
  unfold wA at h
  cases e : Ma env μ with
  | ok k e1 m1 =>
    rw [e] at h
    dsimp only
    rw [if_pos h.1]
    exact h.2
  | _ =>
    rw [e] at h
    exact h
theorem wE_N (h : wN Mn env μ (fun c e m => K c.toD e m) X) : wE (mN Mn) env μ K X := by
  unfold wE mN NR.toE
  unfold wN at h
  cases e : Mn env μ <;> rw [e] at h <;> exact h
theorem wE_cel (h : wN Mn env μ (fun c e m => K (.cel m.length) e (m ++ [c])) X) : wE (mCelN Mn) env μ K X := by
  unfold wE mCelN
  unfold wN at h
  cases e : Mn env μ <;> rw [e] at h <;> exact h
theorem wA_nil (h : KA [] env μ) : wA aNil env μ KA X := h
theorem wA_cons (h : wE a env μ (fun d e m => wA Ma e m (fun ds e m => KA (d :: ds) e m) X) X) : wA (aCons a Ma) env μ KA X := by
  unfold wA aCons ER.toA
  unfold wE at h
  cases e : a env μ with
  | ok d1 e1 m1 =>
    rw [e] at h
    dsimp only at h ⊢
    unfold AR.bind
    unfold wA at h
    dsimp only at h
    cases e2 : Ma e1 m1 <;> rw [e2] at h <;> exact h
  | _ =>
    rw [e] at h
    exact h
theorem wE_call {f : Env → Mu → List D → Option D} (h : wA Ma env μ (fun ds e m => ∃ d, f e m ds = some d ∧ K d e m) X) : wE (mCall f Ma) env μ K X := by
  unfold wE mCall AR.toE
  unfold wA at h
  cases e : Ma env μ with
  | ok d1 e1 m1 =>
    rw [e] at h
    exact wE_lift h
  | _ =>
    rw [e] at h
    exact h
theorem wN_call {f : Env → Mu → List D → Option Cell} (h : wA Ma env μ (fun ds e m => ∃ d, f e m ds = some d ∧ KN d e m) X) : wN (mCallN f Ma) env μ KN X := by
  unfold wN mCallN AR.toN
  unfold wA at h
  cases e : Ma env μ with
  | ok d1 e1 m1 =>
    rw [e] at h
    obtain ⟨d, e2, h2⟩ := h
    dsimp only
    rw [e2]
    exact h2
  | _ =>
    rw [e] at h
    exact h
theorem wE_run {M : FM} {ds : List D} (hl : ds.all noLoc = true) (h : wF M ds μ (fun d m => K d env m) (fun x m => X x env m)) : wE (runF M ds) env μ K X := by
  unfold wE runF
  unfold wF at h
  rw [if_pos hl]
  cases e : M ds μ <;> rw [e] at h <;> exact h
theorem wE_callU {M : FM} {sel : List Sel} {dd : List D} (h : wA Ma env μ (fun ds e m => wA Mk e m (fun es e m => (selG .non sel ds es dd).all noLoc = true ∧ wF M (selG .non sel ds es dd) m (fun d m => K d e m) (fun x m => X x e m)) X) X) : wE (mCallU M sel dd Ma Mk) env μ K X := by
  unfold wE mCallU AR.toE
  unfold wA at h
  cases e : Ma env μ with
  | ok d1 e1 m1 =>
    rw [e] at h
    dsimp only at h ⊢
    cases e2 : Mk e1 m1 with
    | ok d3 e3 m3 =>
      rw [e2] at h
      exact wE_run h.1 h.2
    | _ =>
      rw [e2] at h
      exact h
  | _ =>
    rw [e] at h
    exact h
theorem wE_fld {fc : List Nat} {n : Nat} (h : wE a env μ (fun x e m => ∃ d, fldD fc n e m x = some d ∧ K d e m) X) : wE (mFld fc n a) env μ K X := wE_un h
theorem wE_met {fl : LM} (h : wE a env μ (fun o e m => ∃ l, mutOf e m o = some (.lst l) ∧ wA Ma e m (fun ds e m => ds.all noLoc = true ∧ ∃ l d l', mutOf e m o = some (.lst l) ∧ fl l ds = some (d, l') ∧ K d (putE e o (.lst l')) (putM m o (.lst l'))) X) X) : wE (mMet fl a Ma) env μ K X := by
  refine wE_bind ?_
  unfold wE at h ⊢
  cases e : a env μ with
  | ok d1 e1 m1 =>
    rw [e] at h
    obtain ⟨l, e2, h⟩ := h
    dsimp only
    rw [e2]
    dsimp only
    unfold AR.toE
    unfold wA at h
    cases e3 : Ma e1 m1 with
    | ok ds e4 m4 =>
      rw [e3] at h
      obtain ⟨h1, l2, d, l', h2, h3, h4⟩ := h
      dsimp only
      unfold lmRun
      rw [h2]
      dsimp only
      rw [if_pos h1, h3]
      exact h4
    | _ =>
      rw [e3] at h
      exact h
  | _ =>
    rw [e] at h
    exact h
theorem wE_isi {cks : List Tag} (h : wE a env μ (fun d e m => ∃ t, tagOf e m d = some t ∧ K (.bl (isiAns t cks)) e m) X) : wE (mIsi cks a) env μ K X := by
  refine wE_bind ?_
  unfold wE at h ⊢
  cases e : a env μ with
  | ok d1 e1 m1 =>
    rw [e] at h
    obtain ⟨t, e2, h⟩ := h
    dsimp only
    rw [e2]
    exact h
  | _ =>
    rw [e] at h
    exact h
theorem wO_none (KO : Option Int → Env → Mu → Prop) (h : KO none env μ) : wO oNone env μ KO X := h
theorem wO_some {KO : Option Int → Env → Mu → Prop} (h : wE a env μ (fun d e m => ∃ i, d = .int i ∧ KO (some i) e m) X) : wO (oSome a) env μ KO X := by
  unfold wO oSome
  unfold wE at h
  cases e : a env μ with
  | ok d1 e1 m1 =>
    rw [e] at h
    obtain ⟨i, rfl, h⟩ := h
    exact h
  | _ =>
    rw [e] at h
    exact h
theorem wE_slice {lo hi : PM} (h : wE a env μ (fun d e m => wO lo e m (fun l e m => wO hi e m (fun h e m => ∃ x, sliceD e m d l h = some x ∧ K x e m) X) X) X) : wE (mSlice a lo hi) env μ K X := by
  refine wE_bind ?_
  unfold wE at h ⊢
  cases e : a env μ with
  | ok d1 e1 m1 =>
    rw [e] at h
    dsimp only at h ⊢
    unfold wO at h
    cases e2 : lo e1 m1 with
    | ok d3 e3 m3 =>
      rw [e2] at h
      dsimp only at h ⊢
      cases e4 : hi e3 m3 with
      | ok d5 e5 m5 =>
        rw [e4] at h
        exact wE_lift h
      | _ =>
        rw [e4] at h
        exact h
    | _ =>
      rw [e2] at h
      exact h
  | _ =>
    rw [e] at h
    exact h
theorem wN_make {M : List D → Mu → NR} {sel : List Sel} {dd : List D} (h : wA Ma env μ (fun ds e m => wA Mk e m (fun es e m => (selG .non sel (.non :: ds) es dd).all noLoc = true ∧ wJ M (selG .non sel (.non :: ds) es dd) m (fun c m => ((c matches .slf _ _) = false ∧ (c matches .dead) = false) ∧ KN c e m) (fun x m => X x e m)) X) X) : wN (mMakeU M sel dd Ma Mk) env μ KN X := by
  unfold wN mMakeU AR.toN
  unfold wA at h
  cases e : Ma env μ with
  | ok d1 e1 m1 =>
    rw [e] at h
    dsimp only at h ⊢
    cases e2 : Mk e1 m1 with
    | ok d3 e3 m3 =>
      rw [e2] at h
      obtain ⟨h1, h2⟩ := h
      dsimp only
      unfold runI
      unfold wJ at h2
      rw [if_pos h1]
      cases e4 : M (selG .non sel (.non :: d1) d3 dd) m3 with
      | ok c5 e5 m5 =>
        rw [e4] at h2
        obtain ⟨⟨h3, h4⟩, h5⟩ := h2
        cases c5 with
        | slf _ _ => cases h3
        | dead => cases h4
        | _ => exact h5
      | _ =>
        rw [e4] at h2
        exact h2
    | _ =>
      rw [e2] at h
      exact h
  | _ =>
    rw [e] at h
    exact h
theorem wE_isX {pf : Nat → Option Bool} (h : wE a env μ (fun d e m => ∃ c gs b, d = .exn c gs ∧ pf c = some b ∧ K (.bl b) e m) X) : wE (mIsX pf a) env μ K X := by
  refine wE_bind ?_
  unfold wE at h ⊢
  cases e : a env μ with
  | ok d1 e1 m1 =>
    rw [e] at h
    obtain ⟨c, gs, b, rfl, h1, h2⟩ := h
    dsimp only
    rw [h1]
    exact h2
  | _ =>
    rw [e] at h
    exact h
theorem wE_xf {pf : Nat → Bool} {n : Nat} (h : wE a env μ (fun d e m => ∃ c gs y, d = .exn c gs ∧ pf c = true ∧ gfld n gs = some y ∧ K y e m) X) : wE (mXf pf n a) env μ K X := by
  refine wE_bind ?_
  unfold wE at h ⊢
  cases e : a env μ with
  | ok d1 e1 m1 =>
    rw [e] at h
    obtain ⟨c, gs, y, rfl, h1, h2, h3⟩ := h
    dsimp only
    rw [if_pos h1, h2]
    exact h3
  | _ =>
    rw [e] at h
    exact h
theorem wE_cmpI {neg : Bool} {c : Nat} {M : FM} (h : wE a env μ (fun x e m => wE b e m (fun y e m => ∃ gs hs, insOf e m x = some (c, gs) ∧ insOf e m y = some (c, hs) ∧ (noLoc x = true ∧ noLoc y = true) ∧ wF M [x, y] m (fun d m => ∃ k, d = .bl k ∧ K (.bl (k != neg)) e m) (fun _ _ => False)) X) X) : wE (mCmpI neg c M a b) env μ K X := by
  refine wE_bind ?_
  unfold wE at h ⊢
  cases e : a env μ with
  | ok d1 e1 m1 =>
    rw [e] at h
    dsimp only at h ⊢
    refine (wE_bind ?_ : wE (b.bind _) e1 m1 K X)
    unfold wE
    cases e2 : b e1 m1 with
    | ok d2 e3 m3 =>
      rw [e2] at h
      obtain ⟨gs, hs, h1, h2, ⟨h3, h4⟩, h5⟩ := h
      dsimp only
      rw [h1, h2]
      dsimp only
      rw [if_pos ⟨rfl, rfl⟩]
      unfold runF
      rw [if_pos (by simp [h3, h4])]
      unfold wF at h5
      cases e4 : M [d1, d2] m3 with
      | ok d6 m6 =>
        rw [e4] at h5
        obtain ⟨k, rfl, h6⟩ := h5
        exact h6
      | _ =>
        rw [e4] at h5
        exact h5.elim
    | _ =>
      rw [e2] at h
      exact h
  | _ =>
    rw [e] at h
    exact h
/-! tests -/
theorem wT_tru (h : wE a env μ (fun d e m => ∃ k, truB e m d = some k ∧ KT k e m) X) : wT (mTru a) env μ KT X := by
  unfold wT mTru ER.toT
  unfold wE at h
  cases e : a env μ with
  | ok d1 e1 m1 =>
    rw [e] at h
    obtain ⟨k, e2, h2⟩ := h
    dsimp only
    rw [e2]
    exact h2
  | _ =>
    rw [e] at h
    exact h
theorem wT_tst (h : wE a env μ (fun d e m => ∃ k, d = .bl k ∧ KT k e m) X) : wT (mTst a) env μ KT X := by
  unfold wT mTst ER.toT
  unfold wE at h
  cases e : a env μ with
  | ok d1 e1 m1 =>
    rw [e] at h
    obtain ⟨k, rfl, h2⟩ := h
    exact h2
  | _ =>
    rw [e] at h
    exact h
theorem wT_and (h : wT p env μ (fun k e m => (k = true → wT q e m KT X) ∧ (k = false → KT false e m)) X) : wT (mAndT p q) env μ KT X := by
  unfold wT mAndT TR.bind
  unfold wT at h
  cases e : p env μ with
  | ok k e1 m1 =>
    rw [e] at h
    cases k with
    | true => exact h.1 rfl
    | false => exact h.2 rfl
  | _ =>
    rw [e] at h
    exact h
theorem wT_or (h : wT p env μ (fun k e m => (k = false → wT q e m KT X) ∧ (k = true → KT true e m)) X) : wT (mOrT p q) env μ KT X := by
  unfold wT mOrT TR.bind
  unfold wT at h
  cases e : p env μ with
  | ok k e1 m1 =>
    rw [e] at h
    cases k with
    | false => exact h.1 rfl
    | true => exact h.2 rfl
  | _ =>
    rw [e] at h
    exact h
theorem wT_not (h : wT p env μ (fun k e m => KT (!k) e m) X) : wT (mNotT p) env μ KT X := by
  unfold wT mNotT TR.bind
  unfold wT at h
  cases e : p env μ <;> rw [e] at h <;> exact h
theorem wT_yes (h : KT true env μ) : wT mYes env μ KT X := h
/-! statements -/
theorem wS_seq (h : wS s env μ (fun e m => wS t e m N R B C X) R B C X) : wS (mSeq s t) env μ N R B C X := by
  unfold wS mSeq SR.bind
  unfold wS at h
  cases e : s env μ with
  | nx e1 m1 =>
    rw [e] at h
    exact h
  | _ =>
    rw [e] at h
    exact h
theorem wS_nx (h : N env μ) : wS mNx env μ N R B C X := h
theorem wS_bk (h : B env μ) : wS mBk env μ N R B C X := h
theorem wS_ct (h : C env μ) : wS mCt env μ N R B C X := h
theorem wS_retN (h : R .non env μ) : wS mRetN env μ N R B C X := h
theorem wS_expr (h : wE a env μ (fun _ e m => N e m) X) : wS (mExpr a) env μ N R B C X := by
  unfold wS mExpr ER.toS
  unfold wE at h
  cases e : a env μ <;> rw [e] at h <;> exact h
theorem wS_ret (h : wE a env μ (fun d e m => noLoc d = true ∧ R d e m) X) : wS (mRet a) env μ N R B C X := by
  unfold wS mRet ER.toS
  unfold wE at h
  cases e : a env μ with
  | ok d1 e1 m1 =>
    rw [e] at h
    dsimp only
    rw [if_pos h.1]
    exact h.2
  | _ =>
    rw [e] at h
    exact h
theorem wS_if (h : wT p env μ (fun k e m => (k = true → wS s e m N R B C X) ∧ (k = false → wS t e m N R B C X)) X) : wS (mIfS p s t) env μ N R B C X := by
  unfold wS mIfS TR.toS
  unfold wT at h
  cases e : p env μ with
  | ok k e1 m1 =>
    rw [e] at h
    cases k with
    | true => exact h.1 rfl
    | false => exact h.2 rfl
  | _ =>
    rw [e] at h
    exact h
theorem wS_set (h : wE a env μ (fun d e m => noLoc d = true ∧ N (e.set i (.d d)) m) X) : wS (mSet i a) env μ N R B C X := by
  unfold wS mSet ER.toS
  unfold wE at h
  cases e : a env μ with
  | ok d1 e1 m1 =>
    rw [e] at h
    dsimp only
    rw [if_pos h.1]
    exact h.2
  | _ =>
    rw [e] at h
    exact h
theorem wS_setN (h : wN Mn env μ (fun c e m => N (e.set i (.own c)) m) X) : wS (mSetN i Mn) env μ N R B C X := by
  unfold wS mSetN NR.toS
  unfold wN at h
  cases e : Mn env μ <;> rw [e] at h <;> exact h
theorem wS_setC (h : wN Mn env μ (fun c e m => N (e.set i (.d (.cel m.length))) (m ++ [c])) X) : wS (mSetC i Mn) env μ N R B C X := by
  unfold wS mSetC NR.toS
  unfold wN at h
  cases e : Mn env μ <;> rw [e] at h <;> exact h
theorem wS_fz {cl : Cell} (e : env[i]? = some (.own cl)) (h : N (env.set i (.d cl.toD)) μ) : wS (mFz i) env μ N R B C X := by
  unfold wS mFz
  rw [e]
  exact h
theorem wS_fz' {x : D} (e : env[i]? = some (.d x)) (h : N env μ) : wS (mFz i) env μ N R B C X := by
  unfold wS mFz
  rw [e]
  exact h
theorem wS_asg {T : GM} (h : wE a env μ (fun d e m => wG T d e m N) X) : wS (mAsg T a) env μ N R B C X := by
  unfold wS mAsg ER.toS
  unfold wE at h
  cases e : a env μ with
  | ok d1 e1 m1 =>
    rw [e] at h
    dsimp only at h ⊢
    unfold wG at h
    cases e2 : T d1 e1 m1 <;> rw [e2] at h <;> exact h
  | _ =>
    rw [e] at h
    exact h
theorem wS_par {j : Nat} (h : wA Ma env μ (fun ds e m => ∃ x y, ds = [x, y] ∧ (noLoc x = true ∧ noLoc y = true) ∧ N ((e.set i (.d x)).set j (.d y)) m) X) : wS (mPar i j Ma) env μ N R B C X := by
  unfold wS mPar AR.toS
  unfold wA at h
  cases e : Ma env μ with
  | ok d1 e1 m1 =>
    rw [e] at h
    obtain ⟨x, y, rfl, h1, h2⟩ := h
    dsimp only
    rw [if_pos h1]
    exact h2
  | _ =>
    rw [e] at h
    exact h
theorem wS_aug {op : Int → Int → Int} {x : Int} (e : env[i]? = some (.d (.int x))) (h : wE a env μ (fun d e m => ∃ y, d = .int y ∧ N (e.set i (.d (.int (op x y)))) m) X) : wS (mAugI i op a) env μ N R B C X := by
  unfold wS mAugI
  rw [e]
  dsimp only
  unfold ER.toS
  unfold wE at h
  cases e : a env μ with
  | ok d1 e1 m1 =>
    rw [e] at h
    obtain ⟨y, rfl, h⟩ := h
    exact h
  | _ =>
    rw [e] at h
    exact h
theorem wS_setSelf {fc : List Nat} {n : Nat} (h : wE a env μ (fun d e m => ∃ c gs, e[i]? = some (.own (.slf c gs)) ∧ (c ∈ fc ∧ gs.length < 1000 ∧ noLoc d = true) ∧ N (e.set i (.own (.slf c (gputF n d gs)))) m) X) : wS (mSetSelf i fc n a) env μ N R B C X := by
  unfold wS mSetSelf ER.toS
  unfold wE at h
  cases e : a env μ with
  | ok d1 e1 m1 =>
    rw [e] at h
    obtain ⟨c, gs, h1, h2, h3⟩ := h
    dsimp only
    rw [h1]
    dsimp only
    rw [if_pos h2]
    exact h3
  | _ =>
    rw [e] at h
    exact h
theorem wS_raise {c n : Nat} (h : wA Ma env μ (fun ds e m => ∃ d, ds = [d] ∧ noLoc d = true ∧ X ⟨c, [(n, d)]⟩ e m) X) : wS (mRaise c n Ma) env μ N R B C X := by
  unfold wS mRaise AR.toS
  unfold wA at h
  cases e : Ma env μ with
  | ok d1 e1 m1 =>
    rw [e] at h
    obtain ⟨d, rfl, h1, h2⟩ := h
    dsimp only
    rw [if_pos h1]
    exact h2
  | _ =>
    rw [e] at h
    exact h
theorem wS_try {hs : HM} (h : wS s env μ N R B C (fun x e m => wS (mHs x hs) e m N R B C X)) : wS (mTry s hs) env μ N R B C X := by
  unfold wS mTry
  unfold wS at h
  cases e : s env μ <;> rw [e] at h <;> exact h
def noEx (e : Env) : Prop := e.all noExS = true
theorem wS_hs0 {x : Exn} (h : X x env μ) : wS (mHs x []) env μ N R B C X := h
theorem wS_hsF {x : Exn} {pf : Nat → Option Bool} {oi : Option Nat} {M : SM} {r : HM} (e : pf x.c = some false) (h : wS (mHs x r) env μ N R B C X) : wS (mHs x ((pf, oi, M) :: r)) env μ N R B C X := by
  unfold wS at h ⊢
  cases oi <;> unfold mHs <;> rw [e] <;> exact h
theorem wS_hsN {x : Exn} {pf : Nat → Option Bool} {M : SM} {r : HM} (e : pf x.c = some true) (h : wS M env μ (fun e m => noEx e ∧ N e m) (fun d e m => noEx e ∧ R d e m) (fun e m => noEx e ∧ B e m) (fun e m => noEx e ∧ C e m) (fun _ _ _ => False)) : wS (mHs x ((pf, none, M) :: r)) env μ N R B C X := by
  unfold wS at h ⊢
  unfold mHs
  rw [e]
  dsimp only
  unfold sealS
  cases e2 : M env μ <;> rw [e2] at h <;> first | exact h.elim | (dsimp only; rw [if_pos (show List.all _ noExS = true from h.1)]; exact h.2)
theorem wS_hsA {x : Exn} {pf : Nat → Option Bool} {M : SM} {r : HM} (e : pf x.c = some true) (h : wS M (env.set i (.d (.exn x.c x.fs))) μ (fun e m => noEx (e.set i .non) ∧ N (e.set i .non) m) (fun d e m => noEx (e.set i .non) ∧ R d (e.set i .non) m) (fun e m => noEx (e.set i .non) ∧ B (e.set i .non) m) (fun e m => noEx (e.set i .non) ∧ C (e.set i .non) m) (fun _ _ _ => False)) :
    wS (mHs x ((pf, some i, M) :: r)) env μ N R B C X := by
  unfold wS at h ⊢
  unfold mHs
  rw [e]
  dsimp only
  unfold sealS unS
  cases e2 : M (env.set i (.d (.exn x.c x.fs))) μ <;> rw [e2] at h <;> first | exact h.elim | (dsimp only; rw [if_pos (show List.all _ noExS = true from h.1)]; exact h.2)
/-! targets -/
theorem wG_n (h1 : noLoc d = true) (h : N (env.set i (.d d)) μ) : wG (gN i) d env μ N := by
  unfold wG gN
  rw [if_pos h1]
  exact h
theorem wG_T {n : Nat} {ts : GMs} {l : List D} (hl : l.length = n) (h : wGs ts l env μ N) : wG (gT n ts) (.tup l) env μ N := by
  unfold wG gT
  dsimp only
  rw [if_pos hl]
  exact h
theorem wGs_nil (h : N env μ) : wGs gsNil [] env μ N := h
theorem wGs_cons {T : GM} {ts : GMs} {r : List D} (h : wG T d env μ fun e m => wGs ts r e m N) : wGs (gsCons T ts) (d :: r) env μ N := by
  unfold wGs gsCons GR.bind
  unfold wG at h
  dsimp only
  cases e : T d env μ <;> rw [e] at h <;> exact h
theorem wG_sub (h : wE a env μ (fun o e m => wE b e m (fun j e m => ∃ c c', mutOf e m o = some c ∧ noLoc d = true ∧ setCell c j d = some c' ∧ N (putE e o c') (putM m o c')) (fun _ _ _ => False)) (fun _ _ _ => False)) : wG (gSubD a b) d env μ N := by
  unfold wG gSubD ER.toG
  unfold wE at h
  cases e : a env μ with
  | ok d1 e1 m1 =>
    rw [e] at h
    dsimp only at h ⊢
    cases e2 : b e1 m1 with
    | ok d3 e3 m3 =>
      rw [e2] at h
      obtain ⟨c, c', h1, h2, h3, h4⟩ := h
      dsimp only
      unfold setAt
      rw [h1]
      dsimp only
      rw [if_pos h2, h3]
      exact h4
    | _ =>
      rw [e2] at h
      exact h.elim
  | _ =>
    rw [e] at h
    exact h.elim
/-! walks -/
variable {KI : List D → (Mu → Prop) → Env → Mu → Prop}
theorem wI_seq (h : wE a env μ (fun d e m => ∃ k l ck, itemsOf m d = some (k, l, ck) ∧ KI l ck e m) X) : wI (iSeq a) env μ KI X := by
  unfold wI iSeq ER.toI
  unfold wE at h
  cases e : a env μ with
  | ok d1 e1 m1 =>
    rw [e] at h
    obtain ⟨k, l, ck, h1, h2⟩ := h
    dsimp only
    rw [h1]
    exact h2
  | _ =>
    rw [e] at h
    exact h
theorem wI_range1 (h : wA Ma env μ (fun ds e m => ∃ j, ds = [.int j] ∧ (-(2 ^ 62) ≤ j ∧ j < 2 ^ 62) ∧ KI (rngD 0 j.toNat) (fun _ => True) e m) X) : wI (iRange1 Ma) env μ KI X := by
  unfold wI iRange1 AR.toI
  unfold wA at h
  cases e : Ma env μ with
  | ok d1 e1 m1 =>
    rw [e] at h
    obtain ⟨j, rfl, h1, h2⟩ := h
    dsimp only
    rw [if_pos h1]
    exact h2
  | _ =>
    rw [e] at h
    exact h
theorem wI_range2 (h : wA Ma env μ (fun ds e m => ∃ i j, ds = [.int i, .int j] ∧ (-(2 ^ 62) ≤ i ∧ i < 2 ^ 62 ∧ -(2 ^ 62) ≤ j ∧ j < 2 ^ 62) ∧ KI (rngD i (j - i).toNat) (fun _ => True) e m) X) : wI (iRange2 Ma) env μ KI X := by
  unfold wI iRange2 AR.toI
  unfold wA at h
  cases e : Ma env μ with
  | ok d1 e1 m1 =>
    rw [e] at h
    obtain ⟨i, j, rfl, h1, h2⟩ := h
    dsimp only
    rw [if_pos h1]
    exact h2
  | _ =>
    rw [e] at h
    exact h
theorem wI_enum (h : wA Ma env μ (fun ds e m => ∃ d k l ck, ds = [d] ∧ itemsOf m d = some (k, l, ck) ∧ KI (enumD l) ck e m) X) : wI (iEnum Ma) env μ KI X := by
  unfold wI iEnum AR.toI
  unfold wA at h
  cases e : Ma env μ with
  | ok d1 e1 m1 =>
    rw [e] at h
    obtain ⟨d, k, l, ck, rfl, h1, h2⟩ := h
    dsimp only
    rw [h1]
    exact h2
  | _ =>
    rw [e] at h
    exact h
theorem wI_zip (h : wA Ma env μ (fun ds e m => ∃ d d' k l ck l' ck', ds = [d, d'] ∧ itemsOf m d = some (k, l, ck) ∧ itemsOf m d' = some (k, l', ck') ∧ KI (zipD l l') (fun m => ck m ∧ ck' m) e m) X) : wI (iZip Ma) env μ KI X := by
  unfold wI iZip AR.toI
  unfold wA at h
  cases e : Ma env μ with
  | ok d1 e1 m1 =>
    rw [e] at h
    obtain ⟨d, d', k, l, ck, l', ck', rfl, h1, h2, h3⟩ := h
    dsimp only
    rw [h1, h2]
    cases k <;> exact h3
  | _ =>
    rw [e] at h
    exact h
/-! loops -/
theorem wS_for {S : IM} {T : GM} (h : wI S env μ (fun l ck e m => wS (forL ck T s l) e m N R B C X) X) : wS (mFor S T s) env μ N R B C X := by
  unfold wS mFor
  unfold wI at h
  cases e : S env μ <;> rw [e] at h <;> exact h
/-- what is held at a loop's turn: not to be taken apart by the steps -/
def Hold (P : Prop) : Prop := P
theorem Hold.mk {P : Prop} (h : P) : Hold P := h
theorem wFor_inv {ck : Mu → Prop} {T : GM} : ∀ (l pre : List D) (I : Nat → KM) {env : Env} {μ : Mu}, I pre.length env μ →
    (∀ k d e m, (pre ++ l)[k]? = some d → I k e m → ck m ∧ wG T d e m fun e m => wS s e m (I (k + 1)) R N (I (k + 1)) X) → (∀ e m, I (pre ++ l).length e m → ck m ∧ N e m) → wS (forL ck T s l) env μ N R B C X
  | [], pre, I, env, μ, h0, hs, he => by
    rw [List.append_nil] at he
    obtain ⟨h1, h2⟩ := he _ _ h0
    unfold wS forL
    rw [if_pos h1]
    exact h2
  | d :: l, pre, I, env, μ, h0, hs, he => by
    have e1 : (pre ++ d :: l)[pre.length]? = some d := by simp
    obtain ⟨h1, h2⟩ := hs _ d _ _ e1 h0
    have ih := fun env μ h => wFor_inv l (pre ++ [d]) I (env := env) (μ := μ) h (by simpa using hs) (by simpa using he)
    unfold wG at h2
    unfold wS forL
    rw [if_pos h1]
    cases e2 : T d env μ with
    | no =>
      rw [e2] at h2
      exact h2.elim
    | ok e3 m3 =>
      rw [e2] at h2
      dsimp only at h2 ⊢
      unfold wS at h2
      cases e4 : s e3 m3 with
      | nx e5 m5 =>
        rw [e4] at h2
        exact ih _ _ (by simpa using h2)
      | ct e5 m5 =>
        rw [e4] at h2
        exact ih _ _ (by simpa using h2)
      | _ =>
        rw [e4] at h2
        exact h2
theorem wFor {ck : Mu → Prop} {T : GM} {l : List D} (I : Nat → KM) (h0 : I 0 env μ)
    (hs : ∀ k d e m, l[k]? = some d → I k e m → ck m ∧ wG T d e m fun e m => wS s e m (fun e m => Hold (I (k + 1) e m)) R N (fun e m => Hold (I (k + 1) e m)) X) (he : ∀ e m, I l.length e m → ck m ∧ N e m) : wS (forL ck T s l) env μ N R B C X :=
  wFor_inv l [] I h0 hs he
theorem wLc_inv {ck : Mu → Prop} {T : GM} {tt : TM} {elt : EM} {vs : List Nat} {KN : Cell → Env → Mu → Prop} : ∀ (l pre : List D) (I : Nat → List D → KM) {acc : List D} {env : Env} {μ : Mu}, I pre.length acc env μ →
    (∀ k d acc e m, (pre ++ l)[k]? = some d → I k acc e m → ck m ∧ wG T d e m fun e m => wT tt e m (fun b e m => (b = true → wE elt e m (fun x e m => (noLoc x = true ∧ acc.length < sizeLine) ∧ I (k + 1) (acc ++ [x]) (wipeE e vs) m) (fun _ _ _ => False)) ∧ (b = false → I (k + 1) acc (wipeE e vs) m)) (fun _ _ _ => False)) →
    (∀ acc e m, I (pre ++ l).length acc e m → ck m ∧ KN (.lst acc) e m) → wN (fun env μ => lcL ck T tt elt vs l acc env μ) env μ KN (fun _ _ _ => False)
  | [], pre, I, acc, env, μ, h0, hs, he => by
    rw [List.append_nil] at he
    obtain ⟨h1, h2⟩ := he _ _ _ h0
    unfold wN lcL
    dsimp only
    rw [if_pos h1]
    exact h2
  | d :: l, pre, I, acc, env, μ, h0, hs, he => by
    have e1 : (pre ++ d :: l)[pre.length]? = some d := by simp
    obtain ⟨h1, h2⟩ := hs _ d _ _ _ e1 h0
    have ih := fun acc env μ h => wLc_inv (ck := ck) (T := T) (tt := tt) (elt := elt) (vs := vs) (KN := KN) l (pre ++ [d]) I (acc := acc) (env := env) (μ := μ) h (by simpa using hs) (by simpa using he)
    unfold wG at h2
    unfold wN lcL
    dsimp only
    rw [if_pos h1]
    cases e2 : T d env μ with
    | no =>
      rw [e2] at h2
      exact h2.elim
    | ok e3 m3 =>
      rw [e2] at h2
      dsimp only at h2 ⊢
      unfold wT at h2
      cases e4 : tt e3 m3 with
      | ok b e5 m5 =>
        rw [e4] at h2
        obtain ⟨ht, hf⟩ := h2
        cases b with
        | false => exact ih _ _ _ (by simpa using hf rfl)
        | true =>
          have h3 := ht rfl
          unfold wE at h3
          dsimp only
          cases e6 : elt e5 m5 with
          | ok x e7 m7 =>
            rw [e6] at h3
            dsimp only
            rw [if_pos h3.1]
            exact ih _ _ _ (by simpa using h3.2)
          | _ =>
            rw [e6] at h3
            exact h3.elim
      | _ =>
        rw [e4] at h2
        exact h2.elim
theorem wN_lc {S : IM} {T : GM} {tt : TM} {elt : EM} {vs : List Nat} (h : wI S env μ (fun l ck e m => wN (fun env μ => lcL ck T tt elt vs l [] env μ) (wipeE e vs) m (fun c e1 m1 => KN c (restE e e1 vs) m1) (fun _ _ _ => False)) X) : wN (mLc S T tt elt vs) env μ KN X := by
  unfold wN mLc
  unfold wI at h
  cases e : S env μ with
  | ok l ck e1 m1 =>
    rw [e] at h
    dsimp only at h ⊢
    unfold wN at h
    dsimp only at h
    cases e2 : lcL ck T tt elt vs l [] (wipeE e1 vs) m1 with
    | ok c e3 m3 =>
      rw [e2] at h
      exact h
    | _ =>
      rw [e2] at h
      exact h.elim
  | _ =>
    rw [e] at h
    exact h
theorem wLc {ck : Mu → Prop} {T : GM} {tt : TM} {elt : EM} {vs : List Nat} {l : List D} (I : Nat → List D → KM) (h0 : I 0 [] env μ)
    (hs : ∀ k d acc e m, l[k]? = some d → I k acc e m → ck m ∧ wG T d e m fun e m => wT tt e m (fun b e m => (b = true → wE elt e m (fun x e m => (noLoc x = true ∧ acc.length < sizeLine) ∧ Hold (I (k + 1) (acc ++ [x]) (wipeE e vs) m)) (fun _ _ _ => False)) ∧ (b = false → Hold (I (k + 1) acc (wipeE e vs) m))) (fun _ _ _ => False))
    (he : ∀ acc e m, I l.length acc e m → ck m ∧ KN (.lst acc) e m) : wN (fun env μ => lcL ck T tt elt vs l [] env μ) env μ KN (fun _ _ _ => False) := wLc_inv l [] I h0 hs he
theorem whileW (I : Nat → KM) (hs : ∀ v e m, I v e m → wT p e m (fun b e m => (b = true → wS s e m (fun e m => ∃ v' < v, I v' e m) R N (fun e m => ∃ v' < v, I v' e m) X) ∧ (b = false → N e m)) X) :
    ∀ (v : Nat) (env : Env) (μ : Mu), I v env μ → ∃ n, wS (whileL p s n) env μ N R B C X := by
  intro v
  induction v using Nat.strongRecOn with
  | ind v ih =>
    intro env μ h
    have h1 := hs v env μ h
    unfold wT at h1
    cases e : p env μ with
    | ok b e1 m1 =>
      rw [e] at h1
      cases b with
      | false => exact ⟨1, by unfold wS whileL; rw [e]; exact h1.2 rfl⟩
      | true =>
        have h2 := h1.1 rfl
        unfold wS at h2
        cases e2 : s e1 m1 with
        | nx e3 m3 =>
          rw [e2] at h2
          obtain ⟨v', hv, h3⟩ := h2
          obtain ⟨n, h4⟩ := ih v' hv _ _ h3
          exact ⟨n + 1, by unfold wS whileL; rw [e]; dsimp only; rw [e2]; exact h4⟩
        | ct e3 m3 =>
          rw [e2] at h2
          obtain ⟨v', hv, h3⟩ := h2
          obtain ⟨n, h4⟩ := ih v' hv _ _ h3
          exact ⟨n + 1, by unfold wS whileL; rw [e]; dsimp only; rw [e2]; exact h4⟩
        | _ =>
          rw [e2] at h2
          exact ⟨1, by unfold wS whileL; rw [e]; dsimp only; rw [e2]; exact h2⟩
    | _ =>
      rw [e] at h1
      exact ⟨1, by unfold wS whileL; rw [e]; exact h1⟩
theorem wS_while (I : Nat → KM) (v : Nat) (h0 : I v env μ) (hs : ∀ v e m, I v e m → wT p e m (fun b e m => (b = true → wS s e m (fun e m => Hold (∃ v' < v, I v' e m)) R N (fun e m => Hold (∃ v' < v, I v' e m)) X) ∧ (b = false → N e m)) X) : wS (mWhile p s) env μ N R B C X := by
  obtain ⟨n, h⟩ := whileW (B := B) (C := C) I hs v env μ h0
  have ns : whileL p s n env μ ≠ .stk := fun z => by
    unfold wS at h
    rw [z] at h
    exact h
  have ex : ∃ n, whileL p s n env μ ≠ .stk := ⟨n, ns⟩
  have e : mWhile p s env μ = whileL p s n env μ := by
    unfold mWhile
    rw [dif_pos ex]
    have h1 := Classical.choose_spec ex
    have h2 := whileL_mono (c := p) (b := s) rfl h1 n
    have h3 := whileL_mono (c := p) (b := s) rfl ns (Classical.choose ex)
    rw [Nat.add_comm] at h3
    exact h2.symm.trans h3
  unfold wS at h ⊢
  rw [e]
  exact h
end
/-! defs -/
section
variable {ds : List D} {μ : Mu} {K : D → Mu → Prop} {X : Exn → Mu → Prop} {KC : Cell → Mu → Prop}
theorem wF_def {np nl : Nat} {body : SM} (hl : ds.length = np) (h : wS body (startD nl ds) μ (fun _ m => K .non m) (fun d _ m => K d m) (fun _ _ => False) (fun _ _ => False) (fun x _ m => X x m)) : wF (runDef np nl body) ds μ K X := by
  unfold wF runDef
  rw [if_pos hl]
  unfold wS at h
  cases e : body (startD nl ds) μ <;> rw [e] at h <;> exact h
theorem wJ_init {np nl c : Nat} {body : SM} (hl : ds.length + 1 = np) (h : wS body (startI c nl ds) μ (fun e m => ∃ gs, e[0]? = some (.own (.slf c gs)) ∧ KC (.ins c gs) m) (fun _ _ _ => False) (fun _ _ => False) (fun _ _ => False) (fun x _ m => X x m)) : wJ (runInit np nl c body) ds μ KC X := by
  unfold wJ runInit
  rw [if_pos hl]
  unfold wS at h
  cases e : body (startI c nl ds) μ with
  | nx e1 m1 =>
    rw [e] at h
    obtain ⟨gs, h1, h2⟩ := h
    dsimp only
    unfold endI
    rw [h1]
    dsimp only
    rw [if_pos rfl]
    exact h2
  | exc x e1 m1 =>
    rw [e] at h
    exact h
  | _ =>
    rw [e] at h
    exact h.elim
theorem wF.imp {M : FM} {K' : D → Mu → Prop} {X' : Exn → Mu → Prop} (h : wF M ds μ K X) (hk : ∀ d m, K d m → K' d m) (hx : ∀ x m, X x m → X' x m) : wF M ds μ K' X' := by
  unfold wF at h ⊢
  cases e : M ds μ with
  | ok d m =>
    rw [e] at h
    exact hk _ _ h
  | exc d m =>
    rw [e] at h
    exact hx _ _ h
  | stk =>
    rw [e] at h
    exact h
theorem wJ.imp {M : List D → Mu → NR} {K' : Cell → Mu → Prop} {X' : Exn → Mu → Prop} (h : wJ M ds μ KC X) (hk : ∀ d m, KC d m → K' d m) (hx : ∀ x m, X x m → X' x m) : wJ M ds μ K' X' := by
  unfold wJ at h ⊢
  cases e : M ds μ with
  | ok d _ m =>
    rw [e] at h
    exact hk _ _ h
  | exc d _ m =>
    rw [e] at h
    exact hx _ _ h
  | stk =>
    rw [e] at h
    exact h
end
end DL
set_option Elab.async false
set_option linter.all false
set_option maxRecDepth 100000
set_option maxHeartbeats 4000000
/-! ### one step of a mirror, many steps -/
namespace DL
open PySem PySem.Spec PyProof.Rows L2
section
variable {env : Env} {μ : Mu} {i j : Int}
theorem mod_ok (h : j ≠ 0) : modD env μ (.int i) (.int j) = some (.int (i.fmod j)) := if_pos h
theorem fdiv_ok (h : j ≠ 0) (h2 : j.natAbs < 1073741824) : fdivD env μ (.int i) (.int j) = some (.int (i.fdiv j)) := if_pos ⟨h, h2⟩
theorem mul_okR (h : -(2 ^ 64) < j ∧ j < 2 ^ 64) : mulD env μ (.int i) (.int j) = some (.int (i * j)) := if_pos (.inr h)
theorem mul_okL (h : -(2 ^ 64) < i ∧ i < 2 ^ 64) : mulD env μ (.int i) (.int j) = some (.int (i * j)) := if_pos (.inl h)
theorem pow_ok (h : 0 ≤ j ∧ j ≤ 1000000 ∧ i.natAbs < 2 ^ 64) : powD env μ (.int i) (.int j) = some (.int (i ^ j.toNat)) := if_pos h
theorem seq_cel {n : Nat} {l : List D} (h : μ[n]? = some (.lst l)) : seqOf env μ (.cel n) = some (.lst, l) := by
  unfold seqOf
  dsimp only
  rw [h]
theorem ix_seq {d : D} {k : SK} {l : List D} {x : D} (h : seqOf env μ d = some (k, l)) (hx : atI l i = some x) : ixD env μ d (.int i) = some x := by
  unfold ixD
  rw [h]
  exact hx
theorem mut_cel {n : Nat} {c : Cell} (h : μ[n]? = some c) : mutOf env μ (.cel n) = some c := h
end
theorem app_ok {l : List D} {d : D} (h : l.length ≤ 1000000) : lmAppend l [d] = some (.non, l ++ [d]) := if_pos (Nat.lt_of_le_of_lt h (by decide))
theorem atI_mem {l : List D} {i : Int} (h0 : 0 ≤ i) (h1 : i < l.length) : ∃ x ∈ l, atI l i = some x := by
  unfold atI ixN
  rw [if_pos h0, if_pos h1]
  exact ⟨_, List.getElem_mem (by omega), List.getElem?_eq_getElem (by omega)⟩
theorem mem_get {α : Type} {l : List α} {k : Nat} {x : α} (h : l[k]? = some x) : x ∈ l := List.mem_of_getElem? h
theorem map_snoc {α β : Type} (f : α → β) (l : List α) (x : α) : l.map f ++ [f x] = (l ++ [x]).map f := by simp
theorem all_snoc {α : Type} {p : α → Prop} {l : List α} {x : α} (h : ∀ y ∈ l, p y) (hx : p x) : ∀ y ∈ l ++ [x], p y := fun y hy => by
  rcases List.mem_append.mp hy with hy | hy
  · exact h y hy
  · rw [List.mem_singleton.mp hy]
    exact hx
theorem ifTT {A B : Prop} (h : A) : (true = true → A) ∧ (true = false → B) := ⟨fun _ => h, fun z => nomatch z⟩
theorem ifFF {A B : Prop} (h : B) : (false = true → A) ∧ (false = false → B) := ⟨(fun z => nomatch z), fun _ => h⟩
theorem ifTF {A B : Prop} (h : B) : (true = false → A) ∧ (true = true → B) := ⟨(fun z => nomatch z), fun _ => h⟩
theorem ifFT {A B : Prop} (h : A) : (false = false → A) ∧ (false = true → B) := ⟨fun _ => h, fun z => nomatch z⟩
theorem nl1 {a : D} (h : noLoc a = true) : [a].all noLoc = true := by simp [h]
theorem nl2 {a b : D} (h : noLoc a = true) (h2 : noLoc b = true) : [a, b].all noLoc = true := by simp [h, h2]
theorem nl3 {a b c : D} (h : noLoc a = true) (h2 : noLoc b = true) (h3 : noLoc c = true) : [a, b, c].all noLoc = true := by simp [h, h2, h3]
/-- a statement, what holds behind it, the rest -/
theorem wS_cut {s t : SM} {env : Env} {μ : Mu} {N : KM} {R : KE} {B C : KM} {X : KX} (J : KM) (h1 : wS s env μ (fun e m => Hold (J e m)) R B C X) (h2 : ∀ e m, J e m → wS t e m N R B C X) : wS (mSeq s t) env μ N R B C X := by
  unfold wS mSeq SR.bind
  unfold wS at h1
  cases e : s env μ with
  | nx e1 m1 =>
    rw [e] at h1
    have h3 := h2 e1 m1 h1
    unfold wS at h3
    exact h3
  | _ =>
    rw [e] at h1
    exact h1
/-! ### sequences, read only -/
structure SqD (m : Mu) (d : D) (l : List D) : Prop where
  sq : ∃ k, ∀ env, seqOf env m d = some (k, l)
  it : ∃ k ck, itemsOf m d = some (k, l, ck) ∧ ck m
  nl : noLoc d = true
  tg : ∃ t, (∀ env, tagOf env m d = some t) ∧ (t = .ty "list" ∨ t = .ty "tuple")
theorem SqD.lst {m : Mu} {l : List D} : SqD m (.lst l) l := ⟨⟨_, fun _ => rfl⟩, ⟨_, _, rfl, True.intro⟩, rfl, ⟨_, fun _ => rfl, .inl rfl⟩⟩
theorem SqD.rol {m : Mu} {l : List D} : SqD m (.rol l) l := ⟨⟨_, fun _ => rfl⟩, ⟨_, _, rfl, True.intro⟩, rfl, ⟨_, fun _ => rfl, .inl rfl⟩⟩
theorem SqD.tup {m : Mu} {l : List D} : SqD m (.tup l) l := ⟨⟨_, fun _ => rfl⟩, ⟨_, _, rfl, True.intro⟩, rfl, ⟨_, fun _ => rfl, .inr rfl⟩⟩
theorem SqD.cel {m : Mu} {n : Nat} {l : List D} (h : m[n]? = some (.lst l)) : SqD m (.cel n) l :=
  ⟨⟨.lst, fun _ => seq_cel h⟩, ⟨true, _, by unfold itemsOf; dsimp only; rw [h], h⟩, rfl, ⟨.ty "list", fun _ => by unfold tagOf; dsimp only; rw [h]; rfl, .inl rfl⟩⟩
theorem SqD.len {m : Mu} {d : D} {l : List D} (h : SqD m d l) {env : Env} : lenD env m [d] = some (.int l.length) := by
  obtain ⟨k, e⟩ := h.sq
  have e := e env
  unfold lenD
  cases d with
  | str s => cases e
  | _ =>
    dsimp only
    rw [e]
theorem SqD.ix {m : Mu} {d : D} {l : List D} {x : D} {i : Int} (h : SqD m d l) {env : Env} (e : atI l i = some x) : ixD env m d (.int i) = some x := by
  obtain ⟨k, e1⟩ := h.sq
  exact ix_seq (e1 env) e
theorem SqD.tuple {m : Mu} {d : D} {l : List D} (h : SqD m d l) {env : Env} : tupleD env m [d] = some (.tup l) := by
  obtain ⟨k, e⟩ := h.sq
  unfold tupleD
  dsimp only
  rw [e env]
theorem SqD.list {m : Mu} {d : D} {l : List D} (h : SqD m d l) {env : Env} : listC env m [d] = some (.lst l) := by
  obtain ⟨k, e⟩ := h.sq
  unfold listC
  dsimp only
  rw [e env]
theorem SqD.isN {m : Mu} {d : D} {l : List D} (h : SqD m d l) {env : Env} : isND' env m d .non = some (.bl false) := by
  obtain ⟨k, e⟩ := h.sq
  have e := e env
  unfold isND'
  rw [if_pos h.nl]
  cases d with
  | non => cases e
  | _ => rfl
theorem SqD.notN {m : Mu} {d : D} {l : List D} (h : SqD m d l) {env : Env} : notND' env m d .non = some (.bl true) := by
  obtain ⟨k, e⟩ := h.sq
  have e := e env
  unfold notND'
  rw [if_pos h.nl]
  cases d with
  | non => cases e
  | _ => rfl
theorem bls_map (f : D → Bool) : ∀ l : List D, blsOf (l.map fun d => .bl (f d)) = some (l.map f)
  | [] => rfl
  | d :: l => by
    show (blsOf (l.map fun d => .bl (f d))).map _ = _
    rw [bls_map f l]
    rfl
theorem all_map (f : D → Bool) (l : List D) {env : Env} {m : Mu} : allD env m [.lst (l.map fun d => .bl (f d))] = some (.bl (l.all f)) := by
  show (blsOf (l.map fun d => .bl (f d))).map _ = _
  rw [bls_map]
  simp [List.all_map]
/-- a list comprehension that is a map -/
theorem wLc_map {ck : Mu → Prop} {T : GM} {elt : EM} {vs : List Nat} {l : List D} {e0 : Env} {m : Mu} {KN : Cell → Env → Mu → Prop} (f : D → D) (hck : ck m) (hl : l.length ≤ 1000000)
    (hs : ∀ d ∈ l, wG T d e0 m fun e m' => m' = m ∧ wE elt e m (fun x e' m' => x = f d ∧ noLoc x = true ∧ m' = m ∧ wipeE e' vs = e0) (fun _ _ _ => False)) (he : KN (.lst (l.map f)) e0 m) :
    wN (fun env μ => lcL ck T mYes elt vs l [] env μ) e0 m KN (fun _ _ _ => False) := by
  refine wLc (fun k acc e m' => k ≤ l.length ∧ acc = (l.take k).map f ∧ e = e0 ∧ m' = m) ⟨Nat.zero_le _, by simp, rfl, rfl⟩ ?_ ?_
  · rintro k d acc e m' hk ⟨hkl, rfl, rfl, rfl⟩
    refine ⟨hck, ?_⟩
    have h1 := hs d (mem_get hk)
    unfold wG at h1 ⊢
    cases q : T d e m' with
    | no =>
      rw [q] at h1
      exact h1
    | ok e1 m1 =>
      rw [q] at h1
      obtain ⟨rfl, h2⟩ := h1
      dsimp only
      refine wT_yes ⟨fun _ => ?_, fun z => nomatch z⟩
      have hkl' : k < l.length := (List.getElem?_eq_some_iff.mp hk).1
      unfold wE at h2 ⊢
      cases q2 : elt e1 m1 with
      | ok x e2 m2 =>
        rw [q2] at h2
        obtain ⟨rfl, h3, rfl, h4⟩ := h2
        refine ⟨⟨h3, ?_⟩, hkl', ?_, h4, rfl⟩
        · rw [List.length_map, List.length_take]
          exact Nat.lt_of_le_of_lt (Nat.min_le_right _ _) (Nat.lt_of_le_of_lt hl (by decide))
        · rw [map_snoc, List.take_succ, hk]
          rfl
      | _ =>
        rw [q2] at h2
        exact h2
  · rintro acc e m' ⟨_, rfl, rfl, rfl⟩
    rw [List.take_length]
    exact ⟨hck, he⟩
/-- a list comprehension, its answer told -/
theorem wLc_list {ck : Mu → Prop} {T : GM} {elt : EM} {vs : List Nat} {l ys : List D} {e0 : Env} {m : Mu} {KN : Cell → Env → Mu → Prop} (hck : ck m) (hl : l.length ≤ 1000000) (hy : l.length = ys.length)
    (hs : ∀ (k : Nat) (d : D), l[k]? = some d → ∃ y : D, ys[k]? = some y ∧ wG T d e0 m fun e m' => m' = m ∧ wE elt e m (fun x e' m' => x = y ∧ noLoc x = true ∧ m' = m ∧ wipeE e' vs = e0) (fun _ _ _ => False)) (he : KN (.lst ys) e0 m) :
    wN (fun env μ => lcL ck T mYes elt vs l [] env μ) e0 m KN (fun _ _ _ => False) := by
  refine wLc (fun k acc e m' => k ≤ l.length ∧ acc = ys.take k ∧ e = e0 ∧ m' = m) ⟨Nat.zero_le _, by simp, rfl, rfl⟩ ?_ ?_
  · rintro k d acc e m' hk ⟨hkl, rfl, rfl, rfl⟩
    refine ⟨hck, ?_⟩
    obtain ⟨y, hyk, h1⟩ := hs k d hk
    unfold wG at h1 ⊢
    cases q : T d e m' with
    | no =>
      rw [q] at h1
      exact h1
    | ok e1 m1 =>
      rw [q] at h1
      obtain ⟨rfl, h2⟩ := h1
      dsimp only
      refine wT_yes ⟨fun _ => ?_, fun z => nomatch z⟩
      have hkl' : k < l.length := (List.getElem?_eq_some_iff.mp hk).1
      unfold wE at h2 ⊢
      cases q2 : elt e1 m1 with
      | ok x e2 m2 =>
        rw [q2] at h2
        obtain ⟨rfl, h3, rfl, h4⟩ := h2
        refine ⟨⟨h3, ?_⟩, hkl', ?_, h4, rfl⟩
        · rw [List.length_take]
          exact Nat.lt_of_le_of_lt (Nat.min_le_right _ _) (Nat.lt_of_le_of_lt (hy ▸ hl) (by decide))
        · rw [List.take_succ, hyk]
          rfl
      | _ =>
        rw [q2] at h2
        exact h2
  · rintro acc e m' ⟨_, rfl, rfl, rfl⟩
    rw [hy, List.take_length]
    exact ⟨hck, he⟩
theorem eq_int {env : Env} {m : Mu} {i j : Int} : eqD env m (.int i) (.int j) = some (.bl (i == j)) := by rfl
theorem ne_int {env : Env} {m : Mu} {i j : Int} : neD env m (.int i) (.int j) = some (.bl (!(i == j))) := by rfl
theorem rep1 {x : D} {n : Nat} : (List.replicate n [x]).flatten = List.replicate n x := by
  induction n with
  | zero => rfl
  | succ n ih =>
    rw [List.replicate_succ, List.flatten_cons, ih]
    rfl
theorem mul_tup1 {env : Env} {m : Mu} {x : D} {n : Int} (h : -1000 ≤ n ∧ n ≤ 1000) : mulD env m (.tup [x]) (.int n) = some (.tup (List.replicate n.toNat x)) := by
  show (if n ≤ 1000 ∧ -1000 ≤ n ∧ [x].length ≤ 1000 then some (D.tup (List.replicate n.toNat [x]).flatten) else none) = _
  rw [if_pos ⟨h.2, h.1, by simp⟩, rep1]
/-! ### displays of dicts -/
def wK (ps : List (EM × EM)) (env : Env) (μ : Mu) (K : List (D × D) → Env → Mu → Prop) (X : KX) : Prop := match mPairs ps env μ with
  | .ok l e m => K l e m
  | .exc x e m => X x e m
  | .stk => False
theorem wN_disp {ps : List (EM × EM)} {env : Env} {μ : Mu} {KN : Cell → Env → Mu → Prop} {X : KX} (h : wK ps env μ (fun l e m => ∃ kvs, putAll [] l = some kvs ∧ l.length ≤ 15 ∧ KN (.dct false kvs) e m) X) : wN (mDisp ps) env μ KN X := by
  unfold wN mDisp
  unfold wK at h
  cases e : mPairs ps env μ with
  | ok l e1 m1 =>
    rw [e] at h
    obtain ⟨kvs, h1, h2, h3⟩ := h
    dsimp only
    rw [h1]
    dsimp only
    rw [if_pos h2]
    exact h3
  | _ =>
    rw [e] at h
    exact h
theorem wK_nil {env : Env} {μ : Mu} {K : List (D × D) → Env → Mu → Prop} {X : KX} (h : K [] env μ) : wK [] env μ K X := h
theorem wK_cons {mk mv : EM} {ps : List (EM × EM)} {env : Env} {μ : Mu} {K : List (D × D) → Env → Mu → Prop} {X : KX} (h : wE mk env μ (fun k e m => wE mv e m (fun v e m => wK ps e m (fun l e m => K ((k, v) :: l) e m) X) X) X) : wK ((mk, mv) :: ps) env μ K X := by
  unfold wK mPairs
  unfold wE at h
  cases e : mk env μ with
  | ok d1 e1 m1 =>
    rw [e] at h
    dsimp only at h ⊢
    cases e2 : mv e1 m1 with
    | ok d2 e3 m3 =>
      rw [e2] at h
      dsimp only at h ⊢
      unfold wK at h
      cases e4 : mPairs ps e3 m3 <;> rw [e4] at h <;> exact h
    | _ =>
      rw [e2] at h
      exact h
  | _ =>
    rw [e] at h
    exact h
/-! ### a box: three numbers in a cell -/
def bc (q : Int × Int × Int) : Cell := .lst [.int q.1, .int q.2.1, .int q.2.2]
def bx (μ : Mu) (b : Nat) (q : Int × Int × Int) : Mu := μ.set b (bc q)
section
variable {μ : Mu} {b : Nat} {q q' : Int × Int × Int} {env : Env}
theorem bx_get (h : b < μ.length) : (bx μ b q)[b]? = some (.lst [.int q.1, .int q.2.1, .int q.2.2]) := by
  unfold bx
  rw [List.getElem?_set_self h]
  rfl
theorem bx_set {x y z : Int} : (bx μ b q).set b (.lst [.int x, .int y, .int z]) = bx μ b (x, y, z) := by
  unfold bx
  rw [List.set_set]
  rfl
theorem bx0 (h : b < μ.length) : ixD env (bx μ b q) (.cel b) (.int 0) = some (.int q.1) := ix_seq (seq_cel (bx_get h)) (by rfl)
theorem bx1 (h : b < μ.length) : ixD env (bx μ b q) (.cel b) (.int 1) = some (.int q.2.1) := ix_seq (seq_cel (bx_get h)) (by rfl)
theorem bx2 (h : b < μ.length) : ixD env (bx μ b q) (.cel b) (.int 2) = some (.int q.2.2) := ix_seq (seq_cel (bx_get h)) (by rfl)
theorem bx_len : (bx μ b q).length = μ.length := by
  unfold bx
  rw [List.length_set]
theorem bx_app {c : Cell} (h : b < μ.length) : bx μ b q ++ [c] = bx (μ ++ [c]) b q := by
  unfold bx
  rw [List.set_append_left _ _ h]
end
end DL
set_option Elab.async false
set_option linter.all false
set_option maxRecDepth 100000
set_option maxHeartbeats 4000000
/-! ### data that may be compared and shown -/
namespace DL
open PySem PySem.Spec PyProof.Rows L2
structure Nice (k b : Nat) (p : PyData) : Prop where
  lay : p.canLay0 = true
  dep : p.depth ≤ k
  sho : p.showable = true
  lea : p.leavesShort 13 = true
  blk : p.bulk ≤ b
  ok : PyData.strOk p.shown = true
theorem strOk_iff {x : Str} : PyData.strOk x = true ↔ ∀ c ∈ x.cps.toList, c < 0x110000 := by
  unfold PyData.strOk
  rw [← Array.all_toList, List.all_eq_true]
  exact ⟨fun h c hc => of_decide_eq_true (h c hc), fun h c hc => decide_eq_true (h c hc)⟩
theorem strOk_app {a b : Str} (ha : PyData.strOk a = true) (hb : PyData.strOk b = true) : PyData.strOk (a ++ b) = true := by
  rw [strOk_iff] at *
  intro c hc
  rcases mem_cps_append.mp hc with h | h
  · exact ha c h
  · exact hb c h
theorem strOk_join {sep : Str} {ts : List Str} (hs : PyData.strOk sep = true) (ht : ∀ t ∈ ts, PyData.strOk t = true) : PyData.strOk (Str.join sep ts) = true := by
  rw [strOk_iff] at *
  intro c hc
  rcases (mem_join sep c ts).mp hc with ⟨t, h1, h2⟩ | ⟨_, h⟩
  · exact strOk_iff.mp (ht t h1) c h2
  · exact hs c h
theorem nice_int {i : Int} (h : i.natAbs < 10 ^ 12) : Nice 0 0 (.int i) where
  lay := rfl
  dep := Nat.le_refl _
  sho := by
    show decide (i.natAbs.log2 < 1920) = true
    refine decide_eq_true ?_
    by_cases z : i.natAbs = 0
    · rw [z]
      decide
    · exact (Nat.log2_lt z).mpr (Nat.lt_of_lt_of_le h (Nat.le_trans (by decide : 10 ^ 12 ≤ 2 ^ 64) (Nat.pow_le_pow_right (by decide) (by decide))))
  lea := decide_eq_true (PyData.shown_int_le h)
  blk := Nat.le_refl _
  ok := by
    rw [strOk_iff]
    intro c hc
    by_cases q : c < 0x110000
    · exact q
    · exact absurd hc (shown_int_free' (k := c) ⟨by omega, .inr (by omega)⟩ i)
theorem nice_non : Nice 0 0 .none := ⟨rfl, Nat.le_refl _, rfl, rfl, Nat.le_refl _, by decide +kernel⟩
theorem nice_bool {b : Bool} : Nice 0 0 (.bool b) := ⟨rfl, Nat.le_refl _, rfl, rfl, Nat.le_refl _, by cases b <;> decide +kernel⟩
theorem Nice.mono {k b k' b' : Nat} {p : PyData} (h : Nice k b p) (hk : k ≤ k') (hb : b ≤ b') : Nice k' b' p := ⟨h.lay, Nat.le_trans h.dep hk, h.sho, h.lea, Nat.le_trans h.blk hb, h.ok⟩
/-- the items of a sequence -/
theorem nice_all {k b : Nat} : ∀ {xs : List PyData}, (∀ x ∈ xs, Nice k b x) → PyData.canLayAll0 xs = true ∧ PyData.depthAll xs ≤ k ∧ PyData.showableAll xs = true ∧ PyData.leavesShortAll 13 xs = true ∧ PyData.bulkAll xs ≤ xs.length * (b + 1) ∧ ∀ t ∈ PyData.shownAll xs, PyData.strOk t = true
  | [], _ => ⟨rfl, Nat.zero_le _, rfl, rfl, Nat.zero_le _, fun _ h => nomatch h⟩
  | x :: xs, h => by
    have hx := h x (List.mem_cons_self ..)
    obtain ⟨h1, h2, h3, h4, h5, h6⟩ := nice_all (xs := xs) fun y hy => h y (List.mem_cons_of_mem _ hy)
    refine ⟨?_, ?_, ?_, ?_, ?_, ?_⟩
    · show (x.canLay0 && PyData.canLayAll0 xs) = true
      rw [hx.lay, h1]
      rfl
    · exact Nat.max_le.mpr ⟨hx.dep, h2⟩
    · show (x.showable && PyData.showableAll xs) = true
      rw [hx.sho, h3]
      rfl
    · show (x.leavesShort 13 && PyData.leavesShortAll 13 xs) = true
      rw [hx.lea, h4]
      rfl
    · show x.bulk + 1 + PyData.bulkAll xs ≤ (xs.length + 1) * (b + 1)
      rw [Nat.succ_mul]
      have := hx.blk
      omega
    · intro t ht
      rcases List.mem_cons.mp (show t ∈ x.shown :: PyData.shownAll xs from ht) with rfl | ht
      · exact hx.ok
      · exact h6 t ht
theorem nice_tuple {k b c : Nat} {xs : List PyData} (h : ∀ x ∈ xs, Nice k b x) (hl : xs.length ≤ c) : Nice (k + 1) (c * (b + 1)) (.tuple xs) := by
  obtain ⟨h1, h2, h3, h4, h5, h6⟩ := nice_all h
  refine ⟨h1, Nat.succ_le_succ h2, h3, h4, Nat.le_trans h5 (Nat.mul_le_mul_right _ hl), ?_⟩
  rw [PyData.shown_tuple]
  exact strOk_app (strOk_app (by decide +kernel) (strOk_join (by decide +kernel) h6)) (by split <;> decide +kernel)
theorem nice_list {k b c : Nat} {xs : List PyData} (h : ∀ x ∈ xs, Nice k b x) (hl : xs.length ≤ c) : Nice (k + 1) (c * (b + 1)) (.list xs) := by
  obtain ⟨h1, h2, h3, h4, h5, h6⟩ := nice_all h
  refine ⟨h1, Nat.succ_le_succ h2, h3, h4, Nat.le_trans h5 (Nat.mul_le_mul_right _ hl), ?_⟩
  rw [PyData.shown_list]
  exact strOk_app (strOk_app (by decide +kernel) (strOk_join (by decide +kernel) h6)) (by decide +kernel)
theorem Nice.shaped {k b : Nat} {p : PyData} (h : Nice k b p) (hk : k ≤ 64) : SeqAt.shaped p = true := by
  unfold SeqAt.shaped
  rw [h.lay, decide_eq_true (Nat.le_trans h.dep hk)]
  rfl
section
variable {env : Env} {m : Mu} {d d' : D} {p q : PyData} {k b : Nat}
theorem toPR_of (e : toP d = some p) : toPR env m d = some p := by
  unfold toPR
  cases d <;> first | exact e | cases e
theorem repr_ok (h : Nice k b p) (e : toPR env m d = some p) (hk : k ≤ 50) (hb : b ≤ 1000000) : reprD env m [d] = some (.str p.shown) := by
  unfold reprD
  dsimp only
  rw [e]
  dsimp only
  rw [if_pos ⟨h.sho, Nat.le_trans h.dep hk, PyData.shown_fits_bulk (by decide) (by decide) h.lea (Nat.le_trans h.blk (Nat.le_trans hb (by decide)))⟩]
theorem ne_same (h : SeqAt.shaped p = true) (e : toPR env m d = some p) (e' : toPR env m d' = some p) : neD env m d d' = some (.bl false) := by
  unfold neD
  rw [e, e']
  dsimp only
  rw [h]
  have l := h
  unfold SeqAt.shaped at l
  rw [_root_.PySem.SeqAt.eqv_refl p (Bool.and_eq_true_iff.mp l).1]
  rfl
theorem eq_same (h : SeqAt.shaped p = true) (e : toPR env m d = some p) (e' : toPR env m d' = some p) : eqD env m d d' = some (.bl true) := by
  unfold eqD
  rw [e, e']
  dsimp only
  rw [h]
  have l := h
  unfold SeqAt.shaped at l
  rw [_root_.PySem.SeqAt.eqv_refl p (Bool.and_eq_true_iff.mp l).1]
  rfl
theorem str_shaped {x : Str} (h : PyData.strOk x = true) : SeqAt.shaped (.str x) = true := by
  unfold SeqAt.shaped
  show (PyData.strOk x && decide (0 ≤ 64)) = true
  rw [h]
  rfl
theorem toPs_map {α : Type} {f : α → D} {g : α → PyData} : ∀ {l : List α}, (∀ x ∈ l, toP (f x) = some (g x)) → toPs (l.map f) = some (l.map g)
  | [], _ => rfl
  | x :: l, h => by
    show (match toP (f x), toPs (l.map f) with | some p, some ps => some (p :: ps) | _, _ => none) = _
    rw [h x (List.mem_cons_self ..), toPs_map fun y hy => h y (List.mem_cons_of_mem _ hy)]
    rfl
end
end DL
set_option Elab.async false
set_option linter.all false
set_option maxRecDepth 100000
set_option maxHeartbeats 0
namespace Lw
open PySem PySem.Spec PyProof.Rows L2 DL
abbrev Env := DL.Env
def top (i : Nat) : Stmt := PySem.Challenge.pw_hiddenfalls_k07_other_words.main.body.getD i (.Pass ⟨0, 0, 0, 0⟩)
structure Fx (P : Program) (K : Fg) (mg : Str → Option Value) : Prop where
  f_int : mg "int" = none
  D__law_take : ∃ fd, FunD K "_law_take" "_law_take" (defArgs (top 32)) (defBody (top 32)) (defScope (top 32)) [] [] (He.ga K "_law_take") fd
  g__law_take : mg "_law_take" = some (.ref (He.ga K "_law_take"))
  f_len : mg "len" = none
  D__law_pick : ∃ fd, FunD K "_law_pick" "_law_pick" (defArgs (top 33)) (defBody (top 33)) (defScope (top 33)) [] [] (He.ga K "_law_pick") fd
  f_range : mg "range" = none
  g__law_pick : mg "_law_pick" = some (.ref (He.ga K "_law_pick"))
  f_max : mg "max" = none
  D__law_tables : ∃ fd, FunD K "_law_tables" "_law_tables" (defArgs (top 34)) (defBody (top 34)) (defScope (top 34)) [] [] (He.ga K "_law_tables") fd
  isi_0 : isiB K [14] [.ty "list", .ty "tuple"] = true
  ins : ∀ c ∈ ([14] : List Nat), InsK K c
  f_isinstance : mg "isinstance" = none
  f_tuple : mg "tuple" = none
  f_list : mg "list" = none
  D_is_sequence : ∃ fd, FunD K "is_sequence" "is_sequence" (defArgs (top 15)) (defBody (top 15)) (defScope (top 15)) [] [] (He.ga K "is_sequence") fd
  isi_1 : isiB K [14] [.ty "int"] = true
  isi_2 : isiB K [14] [.ty "bool"] = true
  f_bool : mg "bool" = none
  D_is_integer : ∃ fd, FunD K "is_integer" "is_integer" (defArgs (top 12)) (defBody (top 12)) (defScope (top 12)) [] [] (He.ga K "is_integer") fd
  g_is_integer : mg "is_integer" = some (.ref (He.ga K "is_integer"))
  D_is_number : ∃ fd, FunD K "is_number" "is_number" (defArgs (top 13)) (defBody (top 13)) (defScope (top 13)) [] [] (He.ga K "is_number") fd
  g_is_number : mg "is_number" = some (.ref (He.ga K "is_number"))
  D_is_below : ∃ fd, FunD K "is_below" "is_below" (defArgs (top 14)) (defBody (top 14)) (defScope (top 14)) [] [] (He.ga K "is_below") fd
  g_is_sequence : mg "is_sequence" = some (.ref (He.ga K "is_sequence"))
  g_is_below : mg "is_below" = some (.ref (He.ga K "is_below"))
  i_MOST_WORD : ∃ t, mg "MOST_WORD" = some (.int 1000000 t)
  f_all : mg "all" = none
  D_is_word : ∃ fd, FunD K "is_word" "is_word" (defArgs (top 19)) (defBody (top 19)) (defScope (top 19)) [] [] (He.ga K "is_word") fd
  su_BadMachine : SupK P K 1 0
  g_BadMachine : mg "BadMachine" = some (.ref (He.ga K (cname 1)))
  f_super : mg "super" = none
  f_enumerate : mg "enumerate" = none
  g_is_word : mg "is_word" = some (.ref (He.ga K "is_word"))
  D_checked_words : ∃ fd, FunD K "checked_words" "checked_words" (defArgs (top 20)) (defBody (top 20)) (defScope (top 20)) [] [] (He.ga K "checked_words") fd
  i_MOST_STATES : ∃ t, mg "MOST_STATES" = some (.int 40 t)
  D_is_table : ∃ fd, FunD K "is_table" "is_table" (defArgs (top 18)) (defBody (top 18)) (defScope (top 18)) [] [] (He.ga K "is_table") fd
  D_first_rows : ∃ fd, FunD K "first_rows" "first_rows" (defArgs (top 21)) (defBody (top 21)) (defScope (top 21)) [] [] (He.ga K "first_rows") fd
  i_MOST_DEEDS : ∃ t, mg "MOST_DEEDS" = some (.int 12 t)
  g_is_table : mg "is_table" = some (.ref (He.ga K "is_table"))
  fo_states : FldOk K [14] 6
  fo_deeds : FldOk K [14] 7
  fo_tables : FldOk K [14] 8
  fo_words : FldOk K [14] 9
  g_checked_words : mg "checked_words" = some (.ref (He.ga K "checked_words"))
  fo_reached : FldOk K [14] 10
  g_first_rows : mg "first_rows" = some (.ref (He.ga K "first_rows"))
  f_sorted : mg "sorted" = none
  D_Machine___init__ : ∃ fd, FunD K "__init__" "Machine.__init__" (defArgs (inClass (top 17) 0)) (defBody (inClass (top 17) 0)) (defScope (inClass (top 17) 0)) [.non] [] (He.ma K (He.ga K (cname 14)) "__init__") fd
  D__law_words : ∃ fd, FunD K "_law_words" "_law_words" (defArgs (top 35)) (defBody (top 35)) (defScope (top 35)) [] [] (He.ga K "_law_words") fd
  g_Machine : mg "Machine" = some (.ref (He.ga K (cname 14)))
  mk_Machine : L2.Mk K (He.ga K (cname 14)) (He.ma K (He.ga K (cname 14)) "__init__")
  D_with_words : ∃ fd, FunD K "with_words" "with_words" (defArgs (top 25)) (defBody (top 25)) (defScope (top 25)) [] [] (He.ga K "with_words") fd
  su_Refused : SupK P K 7 0
  g_Refused : mg "Refused" = some (.ref (He.ga K (cname 7)))
  D_check_sorts : ∃ fd, FunD K "check_sorts" "check_sorts" (defArgs (top 26)) (defBody (top 26)) (defScope (top 26)) [] [] (He.ga K "check_sorts") fd
  g_with_words : mg "with_words" = some (.ref (He.ga K "with_words"))
  g_check_sorts : mg "check_sorts" = some (.ref (He.ga K "check_sorts"))
  D_sort_words : ∃ fd, FunD K "sort_words" "sort_words" (defArgs (top 27)) (defBody (top 27)) (defScope (top 27)) [] [] (He.ga K "sort_words") fd
  g_sort_words : mg "sort_words" = some (.ref (He.ga K "sort_words"))
  D_silent_words : ∃ fd, FunD K "silent_words" "silent_words" (defArgs (top 28)) (defBody (top 28)) (defScope (top 28)) [] [] (He.ga K "silent_words") fd
  D_button_words : ∃ fd, FunD K "button_words" "button_words" (defArgs (top 29)) (defBody (top 29)) (defScope (top 29)) [] [] (He.ga K "button_words") fd
  g_button_words : mg "button_words" = some (.ref (He.ga K "button_words"))
  ex_Refused : ∀ k b, ([(0, false), (1, false), (2, false), (7, true), (11, false), (12, false)] : List (Nat × Bool)).lookup k = some b → PySem.W.exmOne K (.ref (He.ga K (cname k))) (.ref (He.ga K (cname 7))) = some b
  ix_FallError : ∀ k b, ([(0, true), (1, true), (2, true), (7, true), (11, false), (12, false)] : List (Nat × Bool)).lookup k = some b → ExcC K (He.ga K (cname k)) ∧ PySem.W.kitOne K (.ref (He.ga K (cname k))) (.ref (He.ga K (cname 0))) = some b
  g_FallError : mg "FallError" = some (.ref (He.ga K (cname 0)))
  ix_BadMachine : ∀ k b, ([(0, false), (1, true), (2, false), (7, false), (11, false), (12, false)] : List (Nat × Bool)).lookup k = some b → ExcC K (He.ga K (cname k)) ∧ PySem.W.kitOne K (.ref (He.ga K (cname k))) (.ref (He.ga K (cname 1))) = some b
  xf_at : ∀ k, ([1, 2, 7] : List Nat).contains k = true → XfC K (He.ga K (cname k)) ∧ PySem.W.findIn K (.ref (He.ga K (cname k))) (fname 0) = some none
  f_repr : mg "repr" = none
  ex_BadMachine : ∀ k b, ([(0, false), (1, true), (2, false), (7, false), (11, false), (12, false)] : List (Nat × Bool)).lookup k = some b → PySem.W.exmOne K (.ref (He.ga K (cname k))) (.ref (He.ga K (cname 1))) = some b
  D__law_refused : ∃ fd, FunD K "_law_refused" "_law_refused" (defArgs (top 37)) (defBody (top 37)) (defScope (top 37)) [] [] (He.ga K "_law_refused") fd
  isi_3 : isiB K [14] [.own 14] = true
  D_Machine___eq__ : ∃ fd, FunD K "__eq__" "Machine.__eq__" (defArgs (inClass (top 17) 1)) (defBody (inClass (top 17) 1)) (defScope (inClass (top 17) 1)) [] [] (He.ma K (He.ga K (cname 14)) "__eq__") fd
  g__law_tables : mg "_law_tables" = some (.ref (He.ga K "_law_tables"))
  g__law_words : mg "_law_words" = some (.ref (He.ga K "_law_words"))
  g_silent_words : mg "silent_words" = some (.ref (He.ga K "silent_words"))
  isi_4 : isiB K [14] [.ty "list"] = true
  f_zip : mg "zip" = none
  eq_Machine : EqK K (He.ga K (cname 14)) (He.ma K (He.ga K (cname 14)) "__eq__")
  g__law_refused : mg "_law_refused" = some (.ref (He.ga K "_law_refused"))
  D__law_case_right : ∃ fd, FunD K "_law_case_right" "_law_case_right" (defArgs (top 38)) (defBody (top 38)) (defScope (top 38)) [] [] (He.ga K "_law_case_right") fd
  f_abs : mg "abs" = none
  D__law_box : ∃ fd, FunD K "_law_box" "_law_box" (defArgs (top 31)) (defBody (top 31)) (defScope (top 31)) [] [] (He.ga K "_law_box") fd
  g__law_case_right : mg "_law_case_right" = some (.ref (He.ga K "_law_case_right"))
  g__law_box : mg "_law_box" = some (.ref (He.ga K "_law_box"))
  D_law : ∃ fd, FunD K "law" "law" (defArgs (top 39)) (defBody (top 39)) (defScope (top 39)) [] [] (He.ga K "law") fd
/-! ### _law_take -/
abbrev N__law_take : List Str := ["_law_box_here", "_law_many", "_law_digit", "_law_raw"]
abbrev ps__law_take : List Str := ["_law_box_here", "_law_many"]
noncomputable def ms__law_take : SM := (mSeq (mIfS (mTst (mBin gtD (mBin ixD (mVar 0) (mC (.int 0))) (mC (.int 0)))) (mSeq (mSet 2 (mBin modD (mCall intD (aCons (mBin ixD (mVar 0) (mC (.int 0))) aNil)) (mVar 1)))
  (mSeq (mAsg (gSubD (mVar 0) (mC (.int 0))) (mBin fdivD (mBin ixD (mVar 0) (mC (.int 0))) (mVar 1)))
  (mRet (mVar 2)))) mNx)
  (mSeq (mAsg (gSubD (mVar 0) (mC (.int 2))) (mBin addD (mBin ixD (mVar 0) (mC (.int 2))) (mC (.int 1))))
  (mSeq (mSet 3 (mBin modD (mCall intD (aCons (mBin addD (mBin mulD (mBin addD (mBin ixD (mVar 0) (mC (.int 1))) (mBin mulD (mC (.int 71011)) (mBin ixD (mVar 0) (mC (.int 2))))) (mC (.int 61091))) (mC (.int 37))) aNil)) (mC (.int 2147483423))))
  (mSeq (mAsg (gSubD (mVar 0) (mC (.int 1))) (mBin addD (mBin modD (mCall intD (aCons (mBin addD (mBin mulD (mVar 3) (mC (.int 46099))) (mC (.int 21019))) aNil)) (mC (.int 2147483477))) (mC (.int 1))))
  (mRet (mBin modD (mCall intD (aCons (mBin fdivD (mBin addD (mBin mulD (mVar 3) (mC (.int 2147483629))) (mBin ixD (mVar 0) (mC (.int 1)))) (mC (.int 8191))) aNil)) (mVar 1)))))))
noncomputable def m__law_take : FM := runDef 2 4 ms__law_take
theorem sc__law_take : FnScope N__law_take ps__law_take (defScope (top 32)) := ⟨rfl, rfl, rfl, by decide +kernel, rfl, by decide +kernel, by decide +kernel⟩
theorem F__law_take {P : Program} {w : World} {K : Fg} {mg : Str → Option Value} {base : Heap} (fx : Fx P K mg) : ∃ fd, FunD K "_law_take" "_law_take" (defArgs (top 32)) (defBody (top 32)) (defScope (top 32)) [] [] (He.ga K "_law_take") fd ∧ FnG P w K mg base (L2.CX P w) 1 (He.ga K "_law_take") fd ps__law_take (spF ⟨K, none, [14]⟩ 2 m__law_take) := by
  obtain ⟨fd, D⟩ := fx.D__law_take
  have nd : N__law_take.Nodup := sc__law_take.nd
  refine ⟨fd, D, d_ok (cs := [14]) D sc__law_take fun cdv A outer s H E hr => ?_⟩
  have tk0 : ∃ W, Takes (cxOf (L2.CX P w) P w K mg base N__law_take "_law_take" (defScope (top 32)) (He.ga K "_law_take") cdv A outer s H E) W := ⟨_, takes_of rfl rfl rfl rfl⟩
  exact (b_cons (s_if (t_cmp c_gt (e_ix hr.u1 (e_var 0 rfl (.inl rfl)) e_int (fun _ _ => rfl)) e_int rfl) (b_cons (s_set 2 nd rfl (.inl rfl) (e_mod (e_intc fx.f_int rfl (a_cons (e_ix hr.u1 (e_var 0 rfl (.inl rfl)) e_int (fun _ _ => rfl)) a_nil)) (e_var 1 rfl (.inl rfl))))
    (b_cons (s_asg (e_fdiv (e_ix hr.u1 (e_var 0 rfl (.inl rfl)) e_int (fun _ _ => rfl)) (e_var 1 rfl (.inl rfl))) (g_sub hr.u1 (e_var 0 rfl (.inl rfl)) e_int tk0))
    (b_one (s_ret (e_var 2 rfl (.inl rfl)))))) b_nil)
    (b_cons (s_asg (e_add (e_ix hr.u1 (e_var 0 rfl (.inl rfl)) e_int (fun _ _ => rfl)) e_int) (g_sub hr.u1 (e_var 0 rfl (.inl rfl)) e_int tk0))
    (b_cons (s_set 3 nd rfl (.inl rfl) (e_mod (e_intc fx.f_int rfl (a_cons (e_add (e_mul (e_add (e_ix hr.u1 (e_var 0 rfl (.inl rfl)) e_int (fun _ _ => rfl)) (e_mul e_int (e_ix hr.u1 (e_var 0 rfl (.inl rfl)) e_int (fun _ _ => rfl)))) e_int) e_int) a_nil)) e_int))
    (b_cons (s_asg (e_add (e_mod (e_intc fx.f_int rfl (a_cons (e_add (e_mul (e_var 3 rfl (.inl rfl)) e_int) e_int) a_nil)) e_int) e_int) (g_sub hr.u1 (e_var 0 rfl (.inl rfl)) e_int tk0))
    (b_one (s_ret (e_mod (e_intc fx.f_int rfl (a_cons (e_fdiv (e_add (e_mul (e_var 3 rfl (.inl rfl)) e_int) (e_ix hr.u1 (e_var 0 rfl (.inl rfl)) e_int (fun _ _ => rfl))) e_int) a_nil)) (e_var 1 rfl (.inl rfl)))))))))
/-! ### _law_pick -/
abbrev N__law_pick : List Str := ["_law_box_here", "_law_some"]
abbrev ps__law_pick : List Str := ["_law_box_here", "_law_some"]
noncomputable def ms__law_pick : SM := (mRet (mBin ixD (mVar 1) (mCallU m__law_take [.p 0, .p 1] (([] : List V).map litV) (aCons (mVar 0) (aCons (mCall lenD (aCons (mVar 1) aNil)) aNil)) aNil)))
noncomputable def m__law_pick : FM := runDef 2 2 ms__law_pick
theorem sc__law_pick : FnScope N__law_pick ps__law_pick (defScope (top 33)) := ⟨rfl, rfl, rfl, by decide +kernel, rfl, by decide +kernel, by decide +kernel⟩
theorem F__law_pick {P : Program} {w : World} {K : Fg} {mg : Str → Option Value} {base : Heap} (fx : Fx P K mg) : ∃ fd, FunD K "_law_pick" "_law_pick" (defArgs (top 33)) (defBody (top 33)) (defScope (top 33)) [] [] (He.ga K "_law_pick") fd ∧ FnG P w K mg base (L2.CX P w) 2 (He.ga K "_law_pick") fd ps__law_pick (spF ⟨K, none, [14]⟩ 2 m__law_pick) := by
  obtain ⟨fd, D⟩ := fx.D__law_pick
  obtain ⟨fd__law_take, D__law_take, G__law_take⟩ := F__law_take (P := P) (w := w) (base := base) fx
  have kb_0 := kb0 (ps := ps__law_take) D__law_take 2 [] [.p 0, .p 1] (fun _ _ _ _ _ _ us ws h1 h2 => match us, ws, h1, h2 with | [_, _], [], _, _ => rfl)
  have nd : N__law_pick.Nodup := sc__law_pick.nd
  refine ⟨fd, D, d_ok (cs := [14]) D sc__law_pick fun cdv A outer s H E hr => ?_⟩
  have tk0 : ∃ W, Takes (cxOf (L2.CX P w) P w K mg base N__law_pick "_law_pick" (defScope (top 33)) (He.ga K "_law_pick") cdv A outer s H E) W := ⟨_, takes_of rfl rfl rfl rfl⟩
  exact (b_one (s_ret (e_ix hr.u1 (e_var 1 rfl (.inl rfl)) (e_call noX_none G__law_take (hr.mono (by decide : 1 ≤ _)) (by rfl) fx.g__law_take D__law_take.kp kb_0 rfl rfl (a_cons (e_var 0 rfl (.inl rfl)) (a_cons (e_len fx.f_len rfl (a_cons (e_var 1 rfl (.inl rfl)) a_nil)) a_nil)) (len_cons (len_cons len_nil))) (fun _ _ => rfl))))
/-! ### _law_tables -/
abbrev N__law_tables : List Str := ["_law_box_here", "_law_most", "_law_deeds", "_law_many", "_law_found", "_law_deed", "_law_table", "_law_state", "_law_style", "_law_shift", "_law_free"]
abbrev ps__law_tables : List Str := ["_law_box_here", "_law_most", "_law_deeds"]
noncomputable def ms__law_tables : SM := (mSeq (mSet 3 (mBin addD (mC (.int 1)) (mCallU m__law_take [.p 0, .p 1] (([] : List V).map litV) (aCons (mVar 0) (aCons (mVar 1) aNil)) aNil)))
  (mSeq (mSetN 4 (mLst aNil))
  (mSeq (mFor (iRange1 (aCons (mVar 2) aNil)) (gN 5) (mSeq (mPar 8 9 (aCons (mCallU m__law_pick [.p 0, .p 1] (([] : List V).map litV) (aCons (mVar 0) (aCons (mN (mLst (aCons (mC (.int 0)) (aCons (mC (.int 0)) (aCons (mC (.int 1)) (aCons (mC (.int 2)) (aCons (mC (.int 3)) aNil))))))) aNil)) aNil) (aCons (mCallU m__law_take [.p 0, .p 1] (([] : List V).map litV) (aCons (mVar 0) (aCons (mVar 3) aNil)) aNil) aNil)))
  (mSeq (mSetN 6 (mLst aNil))
  (mSeq (mFor (iRange1 (aCons (mVar 3) aNil)) (gN 7) (mSeq (mSet 10 (mCallU m__law_take [.p 0, .p 1] (([] : List V).map litV) (aCons (mVar 0) (aCons (mVar 3) aNil)) aNil))
  (mExpr (mMet lmAppend (mVar 6) (aCons (mBin ixD (mN (mLst (aCons (mVar 10) (aCons (mCallU m__law_pick [.p 0, .p 1] (([] : List V).map litV) (aCons (mVar 0) (aCons (mN (mLst (aCons (mVar 7) (aCons (mVar 10) aNil)))) aNil)) aNil) (aCons (mBin modD (mCall intD (aCons (mBin addD (mVar 7) (mVar 9)) aNil)) (mVar 3)) (aCons (mCall max2D (aCons (mC (.int 0)) (aCons (mBin subD (mVar 7) (mVar 9)) aNil))) aNil)))))) (mVar 8)) aNil)))))
  (mSeq (mFz 6) (mExpr (mMet lmAppend (mVar 4) (aCons (mVar 6) aNil))))))))
  (mSeq (mFz 4) (mRet (mVar 4))))))
noncomputable def m__law_tables : FM := runDef 3 11 ms__law_tables
theorem sc__law_tables : FnScope N__law_tables ps__law_tables (defScope (top 34)) := ⟨rfl, rfl, rfl, by decide +kernel, rfl, by decide +kernel, by decide +kernel⟩
theorem F__law_tables {P : Program} {w : World} {K : Fg} {mg : Str → Option Value} {base : Heap} (fx : Fx P K mg) : ∃ fd, FunD K "_law_tables" "_law_tables" (defArgs (top 34)) (defBody (top 34)) (defScope (top 34)) [] [] (He.ga K "_law_tables") fd ∧ FnG P w K mg base (L2.CX P w) 3 (He.ga K "_law_tables") fd ps__law_tables (spF ⟨K, none, [14]⟩ 3 m__law_tables) := by
  obtain ⟨fd, D⟩ := fx.D__law_tables
  obtain ⟨fd__law_take, D__law_take, G__law_take⟩ := F__law_take (P := P) (w := w) (base := base) fx
  have kb_0 := kb0 (ps := ps__law_take) D__law_take 2 [] [.p 0, .p 1] (fun _ _ _ _ _ _ us ws h1 h2 => match us, ws, h1, h2 with | [_, _], [], _, _ => rfl)
  obtain ⟨fd__law_pick, D__law_pick, G__law_pick⟩ := F__law_pick (P := P) (w := w) (base := base) fx
  have kb_1 := kb0 (ps := ps__law_pick) D__law_pick 2 [] [.p 0, .p 1] (fun _ _ _ _ _ _ us ws h1 h2 => match us, ws, h1, h2 with | [_, _], [], _, _ => rfl)
  have nd : N__law_tables.Nodup := sc__law_tables.nd
  refine ⟨fd, D, d_ok (cs := [14]) D sc__law_tables fun cdv A outer s H E hr => ?_⟩
  have tk0 : ∃ W, Takes (cxOf (L2.CX P w) P w K mg base N__law_tables "_law_tables" (defScope (top 34)) (He.ga K "_law_tables") cdv A outer s H E) W := ⟨_, takes_of rfl rfl rfl rfl⟩
  exact (b_cons (s_set 3 nd rfl (.inl rfl) (e_add e_int (e_call noX_none G__law_take (hr.mono (by decide : 1 ≤ _)) (by rfl) fx.g__law_take D__law_take.kp kb_0 rfl rfl (a_cons (e_var 0 rfl (.inl rfl)) (a_cons (e_var 1 rfl (.inl rfl)) a_nil)) (len_cons (len_cons len_nil)))))
    (b_cons (s_setN 4 nd rfl (.inl rfl) (n_lst a_nil))
    (b_cons (s_for (passes_of rfl) rfl (i_range1 (by rfl) fx.f_range (a_cons (e_var 2 rfl (.inl rfl)) a_nil)) (g_name 5 nd rfl (.inl rfl)) (b_cons (s_par 8 9 rfl nd rfl rfl (by decide) rfl rfl (a_cons (e_call noX_none G__law_pick (hr.mono (by decide : 2 ≤ _)) (by rfl) fx.g__law_pick D__law_pick.kp kb_1 rfl rfl (a_cons (e_var 0 rfl (.inl rfl)) (a_cons (e_n (n_lst (a_cons e_int (a_cons e_int (a_cons e_int (a_cons e_int (a_cons e_int a_nil))))))) a_nil)) (len_cons (len_cons len_nil))) (a_cons (e_call noX_none G__law_take (hr.mono (by decide : 1 ≤ _)) (by rfl) fx.g__law_take D__law_take.kp kb_0 rfl rfl (a_cons (e_var 0 rfl (.inl rfl)) (a_cons (e_var 3 rfl (.inl rfl)) a_nil)) (len_cons (len_cons len_nil))) a_nil)) rfl)
    (b_cons (s_setN 6 nd rfl (.inl rfl) (n_lst a_nil))
    (b_cons (s_for (passes_of rfl) rfl (i_range1 (by rfl) fx.f_range (a_cons (e_var 3 rfl (.inl rfl)) a_nil)) (g_name 7 nd rfl (.inl rfl)) (b_cons (s_set 10 nd rfl (.inl rfl) (e_call noX_none G__law_take (hr.mono (by decide : 1 ≤ _)) (by rfl) fx.g__law_take D__law_take.kp kb_0 rfl rfl (a_cons (e_var 0 rfl (.inl rfl)) (a_cons (e_var 3 rfl (.inl rfl)) a_nil)) (len_cons (len_cons len_nil))))
    (b_one (s_expr (e_append (e_var 6 rfl (.inl rfl)) (a_cons (e_ix hr.u1 (e_n (n_lst (a_cons (e_var 10 rfl (.inl rfl)) (a_cons (e_call noX_none G__law_pick (hr.mono (by decide : 2 ≤ _)) (by rfl) fx.g__law_pick D__law_pick.kp kb_1 rfl rfl (a_cons (e_var 0 rfl (.inl rfl)) (a_cons (e_n (n_lst (a_cons (e_var 7 rfl (.inl rfl)) (a_cons (e_var 10 rfl (.inl rfl)) a_nil)))) a_nil)) (len_cons (len_cons len_nil))) (a_cons (e_mod (e_intc fx.f_int rfl (a_cons (e_add (e_var 7 rfl (.inl rfl)) (e_var 9 rfl (.inl rfl))) a_nil)) (e_var 3 rfl (.inl rfl))) (a_cons (e_max2 rfl fx.f_max rfl (a_cons e_int (a_cons (e_sub (e_var 7 rfl (.inl rfl)) (e_var 9 rfl (.inl rfl))) a_nil))) a_nil)))))) (e_var 8 rfl (.inl rfl)) (fun _ _ => rfl)) a_nil))))))
    (b_one (s_fz 6 (s_expr (e_append (e_var 4 rfl (.inl rfl)) (a_cons (e_var 6 rfl (.inl rfl)) a_nil)))))))))
    (b_one (s_fz 4 (s_ret (e_var 4 rfl (.inl rfl))))))))
/-! ### is_sequence -/
abbrev N_is_sequence : List Str := ["value"]
abbrev ps_is_sequence : List Str := ["value"]
noncomputable def ms_is_sequence : SM := (mRet (mIsi [.ty "list", .ty "tuple"] (mVar 0)))
noncomputable def m_is_sequence : FM := runDef 1 1 ms_is_sequence
theorem sc_is_sequence : FnScope N_is_sequence ps_is_sequence (defScope (top 15)) := ⟨rfl, rfl, rfl, by decide +kernel, rfl, by decide +kernel, by decide +kernel⟩
theorem F_is_sequence {P : Program} {w : World} {K : Fg} {mg : Str → Option Value} {base : Heap} (fx : Fx P K mg) : ∃ fd, FunD K "is_sequence" "is_sequence" (defArgs (top 15)) (defBody (top 15)) (defScope (top 15)) [] [] (He.ga K "is_sequence") fd ∧ FnG P w K mg base (L2.CX P w) 1 (He.ga K "is_sequence") fd ps_is_sequence (spF ⟨K, none, [14]⟩ 1 m_is_sequence) := by
  obtain ⟨fd, D⟩ := fx.D_is_sequence
  have nd : N_is_sequence.Nodup := sc_is_sequence.nd
  refine ⟨fd, D, d_ok (cs := [14]) D sc_is_sequence fun cdv A outer s H E hr => ?_⟩
  have tk0 : ∃ W, Takes (cxOf (L2.CX P w) P w K mg base N_is_sequence "is_sequence" (defScope (top 15)) (He.ga K "is_sequence") cdv A outer s H E) W := ⟨_, takes_of rfl rfl rfl rfl⟩
  exact (b_one (s_ret (e_isiT [.ty "list", .ty "tuple"] (by decide) fx.ins fx.isi_0 rfl fx.f_isinstance (e_var 0 rfl (.inl rfl)) (pac_cons (cls_ty fx.f_list rfl DL.boot_list') (pac_cons (cls_ty fx.f_tuple rfl DL.boot_tuple') pac_nil)))))
/-! ### is_integer -/
abbrev N_is_integer : List Str := ["value"]
abbrev ps_is_integer : List Str := ["value"]
noncomputable def ms_is_integer : SM := (mRet (mAndV (mIsi [.ty "int"] (mVar 0)) (mNotV (mIsi [.ty "bool"] (mVar 0)))))
noncomputable def m_is_integer : FM := runDef 1 1 ms_is_integer
theorem sc_is_integer : FnScope N_is_integer ps_is_integer (defScope (top 12)) := ⟨rfl, rfl, rfl, by decide +kernel, rfl, by decide +kernel, by decide +kernel⟩
theorem F_is_integer {P : Program} {w : World} {K : Fg} {mg : Str → Option Value} {base : Heap} (fx : Fx P K mg) : ∃ fd, FunD K "is_integer" "is_integer" (defArgs (top 12)) (defBody (top 12)) (defScope (top 12)) [] [] (He.ga K "is_integer") fd ∧ FnG P w K mg base (L2.CX P w) 1 (He.ga K "is_integer") fd ps_is_integer (spF ⟨K, none, [14]⟩ 1 m_is_integer) := by
  obtain ⟨fd, D⟩ := fx.D_is_integer
  have nd : N_is_integer.Nodup := sc_is_integer.nd
  refine ⟨fd, D, d_ok (cs := [14]) D sc_is_integer fun cdv A outer s H E hr => ?_⟩
  have tk0 : ∃ W, Takes (cxOf (L2.CX P w) P w K mg base N_is_integer "is_integer" (defScope (top 12)) (He.ga K "is_integer") cdv A outer s H E) W := ⟨_, takes_of rfl rfl rfl rfl⟩
  exact (b_one (s_ret (e_and (e_isi (.ty "int") fx.ins fx.isi_1 rfl fx.f_isinstance (e_var 0 rfl (.inl rfl)) (cls_ty fx.f_int rfl DL.boot_int)) (e_one (e_not (e_isi (.ty "bool") fx.ins fx.isi_2 rfl fx.f_isinstance (e_var 0 rfl (.inl rfl)) (cls_ty fx.f_bool rfl DL.boot_bool)))))))
/-! ### is_number -/
abbrev N_is_number : List Str := ["value"]
abbrev ps_is_number : List Str := ["value"]
noncomputable def ms_is_number : SM := (mRet (mAndV (mCallU m_is_integer [.p 0] (([] : List V).map litV) (aCons (mVar 0) aNil) aNil) (mBin geD (mVar 0) (mC (.int 0)))))
noncomputable def m_is_number : FM := runDef 1 1 ms_is_number
theorem sc_is_number : FnScope N_is_number ps_is_number (defScope (top 13)) := ⟨rfl, rfl, rfl, by decide +kernel, rfl, by decide +kernel, by decide +kernel⟩
theorem F_is_number {P : Program} {w : World} {K : Fg} {mg : Str → Option Value} {base : Heap} (fx : Fx P K mg) : ∃ fd, FunD K "is_number" "is_number" (defArgs (top 13)) (defBody (top 13)) (defScope (top 13)) [] [] (He.ga K "is_number") fd ∧ FnG P w K mg base (L2.CX P w) 2 (He.ga K "is_number") fd ps_is_number (spF ⟨K, none, [14]⟩ 1 m_is_number) := by
  obtain ⟨fd, D⟩ := fx.D_is_number
  obtain ⟨fd_is_integer, D_is_integer, G_is_integer⟩ := F_is_integer (P := P) (w := w) (base := base) fx
  have kb_0 := kb0 (ps := ps_is_integer) D_is_integer 1 [] [.p 0] (fun _ _ _ _ _ _ us ws h1 h2 => match us, ws, h1, h2 with | [_], [], _, _ => rfl)
  have nd : N_is_number.Nodup := sc_is_number.nd
  refine ⟨fd, D, d_ok (cs := [14]) D sc_is_number fun cdv A outer s H E hr => ?_⟩
  have tk0 : ∃ W, Takes (cxOf (L2.CX P w) P w K mg base N_is_number "is_number" (defScope (top 13)) (He.ga K "is_number") cdv A outer s H E) W := ⟨_, takes_of rfl rfl rfl rfl⟩
  exact (b_one (s_ret (e_and (e_call noX_none G_is_integer (hr.mono (by decide : 1 ≤ _)) (by rfl) fx.g_is_integer D_is_integer.kp kb_0 rfl rfl (a_cons (e_var 0 rfl (.inl rfl)) a_nil) (len_cons len_nil)) (e_one (e_cmp1 c_ge (e_var 0 rfl (.inl rfl)) e_int rfl)))))
/-! ### is_below -/
abbrev N_is_below : List Str := ["value", "most"]
abbrev ps_is_below : List Str := ["value", "most"]
noncomputable def ms_is_below : SM := (mRet (mAndV (mCallU m_is_number [.p 0] (([] : List V).map litV) (aCons (mVar 0) aNil) aNil) (mBin ltD (mVar 0) (mVar 1))))
noncomputable def m_is_below : FM := runDef 2 2 ms_is_below
theorem sc_is_below : FnScope N_is_below ps_is_below (defScope (top 14)) := ⟨rfl, rfl, rfl, by decide +kernel, rfl, by decide +kernel, by decide +kernel⟩
theorem F_is_below {P : Program} {w : World} {K : Fg} {mg : Str → Option Value} {base : Heap} (fx : Fx P K mg) : ∃ fd, FunD K "is_below" "is_below" (defArgs (top 14)) (defBody (top 14)) (defScope (top 14)) [] [] (He.ga K "is_below") fd ∧ FnG P w K mg base (L2.CX P w) 3 (He.ga K "is_below") fd ps_is_below (spF ⟨K, none, [14]⟩ 2 m_is_below) := by
  obtain ⟨fd, D⟩ := fx.D_is_below
  obtain ⟨fd_is_number, D_is_number, G_is_number⟩ := F_is_number (P := P) (w := w) (base := base) fx
  have kb_0 := kb0 (ps := ps_is_number) D_is_number 1 [] [.p 0] (fun _ _ _ _ _ _ us ws h1 h2 => match us, ws, h1, h2 with | [_], [], _, _ => rfl)
  have nd : N_is_below.Nodup := sc_is_below.nd
  refine ⟨fd, D, d_ok (cs := [14]) D sc_is_below fun cdv A outer s H E hr => ?_⟩
  have tk0 : ∃ W, Takes (cxOf (L2.CX P w) P w K mg base N_is_below "is_below" (defScope (top 14)) (He.ga K "is_below") cdv A outer s H E) W := ⟨_, takes_of rfl rfl rfl rfl⟩
  exact (b_one (s_ret (e_and (e_call noX_none G_is_number (hr.mono (by decide : 2 ≤ _)) (by rfl) fx.g_is_number D_is_number.kp kb_0 rfl rfl (a_cons (e_var 0 rfl (.inl rfl)) a_nil) (len_cons len_nil)) (e_one (e_cmp1 c_lt (e_var 0 rfl (.inl rfl)) (e_var 1 rfl (.inl rfl)) rfl)))))
/-! ### is_word -/
abbrev N_is_word : List Str := ["value", "part"]
abbrev ps_is_word : List Str := ["value"]
noncomputable def ms_is_word : SM := (mRet (mAndV (mCallU m_is_sequence [.p 0] (([] : List V).map litV) (aCons (mVar 0) aNil) aNil) (mAndV (mBin eqD (mCall lenD (aCons (mVar 0) aNil)) (mC (.int 2))) (mCall allD (aCons (mN (mLc (iSeq (mVar 0)) (gN 1) mYes (mCallU m_is_below [.p 0, .p 1] (([] : List V).map litV) (aCons (mVar 1) (aCons (mBin addD (mC (.int 1000000)) (mC (.int 1))) aNil)) aNil) [1])) aNil)))))
noncomputable def m_is_word : FM := runDef 1 2 ms_is_word
theorem sc_is_word : FnScope N_is_word ps_is_word (defScope (top 19)) := ⟨rfl, rfl, rfl, by decide +kernel, rfl, by decide +kernel, by decide +kernel⟩
theorem F_is_word {P : Program} {w : World} {K : Fg} {mg : Str → Option Value} {base : Heap} (fx : Fx P K mg) : ∃ fd, FunD K "is_word" "is_word" (defArgs (top 19)) (defBody (top 19)) (defScope (top 19)) [] [] (He.ga K "is_word") fd ∧ FnG P w K mg base (L2.CX P w) 4 (He.ga K "is_word") fd ps_is_word (spF ⟨K, none, [14]⟩ 1 m_is_word) := by
  obtain ⟨fd, D⟩ := fx.D_is_word
  obtain ⟨fd_is_sequence, D_is_sequence, G_is_sequence⟩ := F_is_sequence (P := P) (w := w) (base := base) fx
  have kb_0 := kb0 (ps := ps_is_sequence) D_is_sequence 1 [] [.p 0] (fun _ _ _ _ _ _ us ws h1 h2 => match us, ws, h1, h2 with | [_], [], _, _ => rfl)
  obtain ⟨fd_is_below, D_is_below, G_is_below⟩ := F_is_below (P := P) (w := w) (base := base) fx
  have kb_1 := kb0 (ps := ps_is_below) D_is_below 2 [] [.p 0, .p 1] (fun _ _ _ _ _ _ us ws h1 h2 => match us, ws, h1, h2 with | [_, _], [], _, _ => rfl)
  obtain ⟨t_MOST_WORD, hi_MOST_WORD⟩ := fx.i_MOST_WORD
  have nd : N_is_word.Nodup := sc_is_word.nd
  refine ⟨fd, D, d_ok (cs := [14]) D sc_is_word fun cdv A outer s H E hr => ?_⟩
  have tk0 : ∃ W, Takes (cxOf (L2.CX P w) P w K mg base N_is_word "is_word" (defScope (top 19)) (He.ga K "is_word") cdv A outer s H E) W := ⟨_, takes_of rfl rfl rfl rfl⟩
  exact (b_one (s_ret (e_and (e_call noX_none G_is_sequence (hr.mono (by decide : 1 ≤ _)) (by rfl) fx.g_is_sequence D_is_sequence.kp kb_0 rfl rfl (a_cons (e_var 0 rfl (.inl rfl)) a_nil) (len_cons len_nil)) (e_and (e_cmp1 (c_eq hr.u64) (e_len fx.f_len rfl (a_cons (e_var 0 rfl (.inl rfl)) a_nil)) e_int rfl) (e_one (e_allc rfl fx.f_all rfl (a_cons (e_n (n_lc (own := [("part", 1)]) rfl nd (i_seq (e_var 0 rfl (.inl rfl))) (blkOk_by (own := [("part", 1)]) (by kernel_rfl)) (fun _ _ _ _ _ => (gl_name 1 (by decide) nd rfl (.inl rfl) (.inr rfl))) (fun _ _ _ _ _ => ts_nil) (fun _ _ _ _ _ => (e_call noX_none G_is_below (hr.mono (by decide : 3 ≤ _)) (by rfl) fx.g_is_below D_is_below.kp kb_1 rfl rfl (a_cons (e_var 1 rfl (.inl rfl)) (a_cons (e_add (e_gint rfl hi_MOST_WORD) e_int) a_nil)) (len_cons (len_cons len_nil)))))) a_nil)))))))
/-! ### checked_words -/
abbrev N_checked_words : List Str := ["states", "deeds", "words", "deed", "told", "word"]
abbrev ps_checked_words : List Str := ["states", "deeds", "words"]
noncomputable def ms_checked_words : SM := (mSeq (mIfS (mTst (mBin isND' (mVar 2) (mC .non))) (mRet (mCall tupleD (aCons (mN (mLc (iRange1 (aCons (mVar 1) aNil)) (gN 3) mYes (mBin mulD (mTup (aCons (mTup (aCons (mVar 3) (aCons (mC (.int 0)) aNil))) aNil)) (mVar 0)) [3])) aNil))) mNx)
  (mSeq (mIfS (mOrT (mNotT (mTru (mCallU m_is_sequence [.p 0] (([] : List V).map litV) (aCons (mVar 2) aNil) aNil))) (mTst (mBin neD (mCall lenD (aCons (mVar 2) aNil)) (mVar 1)))) (mRaise 1 0 (aCons (mUn negD (mC (.int 2))) aNil)) mNx)
  (mSeq (mFor (iEnum (aCons (mVar 2) aNil)) (gT 2 (gsCons (gN 3) (gsCons (gN 4) gsNil))) (mIfS (mOrT (mNotT (mTru (mCallU m_is_sequence [.p 0] (([] : List V).map litV) (aCons (mVar 4) aNil) aNil))) (mOrT (mTst (mBin neD (mCall lenD (aCons (mVar 4) aNil)) (mVar 0))) (mNotT (mTru (mCall allD (aCons (mN (mLc (iSeq (mVar 4)) (gN 5) mYes (mCallU m_is_word [.p 0] (([] : List V).map litV) (aCons (mVar 5) aNil) aNil) [5])) aNil)))))) (mRaise 1 0 (aCons (mBin addD (mVar 1) (mVar 3)) aNil)) mNx))
  (mRet (mCall tupleD (aCons (mN (mLc (iSeq (mVar 2)) (gN 4) mYes (mCall tupleD (aCons (mN (mLc (iSeq (mVar 4)) (gN 5) mYes (mTup (aCons (mBin ixD (mVar 5) (mC (.int 0))) (aCons (mBin ixD (mVar 5) (mC (.int 1))) aNil))) [5])) aNil)) [4])) aNil))))))
noncomputable def m_checked_words : FM := runDef 3 6 ms_checked_words
theorem sc_checked_words : FnScope N_checked_words ps_checked_words (defScope (top 20)) := ⟨rfl, rfl, rfl, by decide +kernel, rfl, by decide +kernel, by decide +kernel⟩
theorem F_checked_words {P : Program} {w : World} {K : Fg} {mg : Str → Option Value} {base : Heap} (fx : Fx P K mg) : ∃ fd, FunD K "checked_words" "checked_words" (defArgs (top 20)) (defBody (top 20)) (defScope (top 20)) [] [] (He.ga K "checked_words") fd ∧ FnG P w K mg base (L2.CX P w) 5 (He.ga K "checked_words") fd ps_checked_words (spF ⟨K, none, [14]⟩ 3 m_checked_words) := by
  obtain ⟨fd, D⟩ := fx.D_checked_words
  obtain ⟨fd_is_sequence, D_is_sequence, G_is_sequence⟩ := F_is_sequence (P := P) (w := w) (base := base) fx
  have kb_0 := kb0 (ps := ps_is_sequence) D_is_sequence 1 [] [.p 0] (fun _ _ _ _ _ _ us ws h1 h2 => match us, ws, h1, h2 with | [_], [], _, _ => rfl)
  obtain ⟨fd_is_word, D_is_word, G_is_word⟩ := F_is_word (P := P) (w := w) (base := base) fx
  have kb_1 := kb0 (ps := ps_is_word) D_is_word 1 [] [.p 0] (fun _ _ _ _ _ _ us ws h1 h2 => match us, ws, h1, h2 with | [_], [], _, _ => rfl)
  have nd : N_checked_words.Nodup := sc_checked_words.nd
  refine ⟨fd, D, d_ok (cs := [14]) D sc_checked_words fun cdv A outer s H E hr => ?_⟩
  have tk0 : ∃ W, Takes (cxOf (L2.CX P w) P w K mg base N_checked_words "checked_words" (defScope (top 20)) (He.ga K "checked_words") cdv A outer s H E) W := ⟨_, takes_of rfl rfl rfl rfl⟩
  exact (b_cons (s_if (t_cmp c_isN (e_var 2 rfl (.inl rfl)) e_non rfl) (b_one (s_ret (e_tupc fx.f_tuple rfl (a_cons (e_n (n_lc (own := [("deed", 3)]) rfl nd (i_range1 (by rfl) fx.f_range (a_cons (e_var 1 rfl (.inl rfl)) a_nil)) (blkOk_by (own := [("deed", 3)]) (by kernel_rfl)) (fun _ _ _ _ _ => (gl_name 3 (by decide) nd rfl (.inl rfl) (.inr rfl))) (fun _ _ _ _ _ => ts_nil) (fun _ _ _ _ _ => (e_mul (e_tup (a_cons (e_tup (a_cons (e_var 3 rfl (.inl rfl)) (a_cons e_int a_nil))) a_nil)) (e_var 0 rfl (.inr (.inl rfl))))))) a_nil)))) b_nil)
    (b_cons (s_if (t_w (w_or (t_not (t_val (e_call noX_none G_is_sequence (hr.mono (by decide : 1 ≤ _)) (by rfl) fx.g_is_sequence D_is_sequence.kp kb_0 rfl rfl (a_cons (e_var 2 rfl (.inl rfl)) a_nil) (len_cons len_nil)))) (w_or1 (t_cmp (c_ne hr.u64) (e_len fx.f_len rfl (a_cons (e_var 2 rfl (.inl rfl)) a_nil)) (e_var 1 rfl (.inl rfl)) rfl)))) (b_one (s_raise (c := 1) (f := 0) fx.su_BadMachine rfl (hr.mono (by decide : 1 ≤ _)).r fx.f_super rfl fx.g_BadMachine (a_cons (e_neg e_int) a_nil))) b_nil)
    (b_cons (s_for (passes_of rfl) rfl (i_enum (by rfl) fx.f_enumerate (a_cons (e_var 2 rfl (.inl rfl)) a_nil)) (g_tup rfl (gs_cons (g_name 3 nd rfl (.inl rfl)) (gs_cons (g_name 4 nd rfl (.inl rfl)) gs_nil))) (b_one (s_if (t_w (w_or (t_not (t_val (e_call noX_none G_is_sequence (hr.mono (by decide : 1 ≤ _)) (by rfl) fx.g_is_sequence D_is_sequence.kp kb_0 rfl rfl (a_cons (e_var 4 rfl (.inl rfl)) a_nil) (len_cons len_nil)))) (w_or (t_cmp (c_ne hr.u64) (e_len fx.f_len rfl (a_cons (e_var 4 rfl (.inl rfl)) a_nil)) (e_var 0 rfl (.inr (.inl rfl))) rfl) (w_or1 (t_not (t_val (e_allc rfl fx.f_all rfl (a_cons (e_n (n_lc (own := [("word", 5)]) rfl nd (i_seq (e_var 4 rfl (.inl rfl))) (blkOk_by (own := [("word", 5)]) (by kernel_rfl)) (fun _ _ _ _ _ => (gl_name 5 (by decide) nd rfl (.inl rfl) (.inr rfl))) (fun _ _ _ _ _ => ts_nil) (fun _ _ _ _ _ => (e_call noX_none G_is_word (hr.mono (by decide : 4 ≤ _)) (by rfl) fx.g_is_word D_is_word.kp kb_1 rfl rfl (a_cons (e_var 5 rfl (.inl rfl)) a_nil) (len_cons len_nil))))) a_nil)))))))) (b_one (s_raise (c := 1) (f := 0) fx.su_BadMachine rfl (hr.mono (by decide : 1 ≤ _)).r fx.f_super rfl fx.g_BadMachine (a_cons (e_add (e_var 1 rfl (.inl rfl)) (e_var 3 rfl (.inl rfl))) a_nil))) b_nil)))
    (b_one (s_ret (e_tupc fx.f_tuple rfl (a_cons (e_n (n_lc (own := [("told", 4)]) rfl nd (i_seq (e_var 2 rfl (.inl rfl))) (blkOk_by (own := [("told", 4)]) (by kernel_rfl)) (fun _ _ _ _ _ => (gl_name 4 (by decide) nd rfl (.inl rfl) (.inr rfl))) (fun _ _ _ _ _ => ts_nil) (fun _ _ _ _ _ => (e_tupc fx.f_tuple rfl (a_cons (e_n (n_lc (own := [("word", 5)]) rfl nd (i_seq (e_var 4 rfl (.inl rfl))) (blkOk_by (own := [("word", 5)]) (by kernel_rfl)) (fun _ _ _ _ _ => (gl_name 5 (by decide) nd rfl (.inl rfl) (.inr rfl))) (fun _ _ _ _ _ => ts_nil) (fun _ _ _ _ _ => (e_tup (a_cons (e_ix hr.u1 (e_var 5 rfl (.inl rfl)) e_int (fun _ _ => rfl)) (a_cons (e_ix hr.u1 (e_var 5 rfl (.inl rfl)) e_int (fun _ _ => rfl)) a_nil)))))) a_nil))))) a_nil)))))))
/-! ### is_table -/
abbrev N_is_table : List Str := ["value", "many", "state"]
abbrev ps_is_table : List Str := ["value", "many"]
noncomputable def ms_is_table : SM := (mSeq (mIfS (mOrT (mNotT (mTru (mCallU m_is_sequence [.p 0] (([] : List V).map litV) (aCons (mVar 0) aNil) aNil))) (mOrT (mNotT (mTst (mChain leD leD (mC (.int 1)) (mCall lenD (aCons (mVar 0) aNil)) (mC (.int 40))))) (mAndT (mTst (mBin notND' (mVar 1) (mC .non))) (mTst (mBin neD (mCall lenD (aCons (mVar 0) aNil)) (mVar 1)))))) (mRet (mC (.bl false))) mNx)
  (mRet (mCall allD (aCons (mN (mLc (iSeq (mVar 0)) (gN 2) mYes (mCallU m_is_below [.p 0, .p 1] (([] : List V).map litV) (aCons (mVar 2) (aCons (mCall lenD (aCons (mVar 0) aNil)) aNil)) aNil) [2])) aNil))))
noncomputable def m_is_table : FM := runDef 2 3 ms_is_table
theorem sc_is_table : FnScope N_is_table ps_is_table (defScope (top 18)) := ⟨rfl, rfl, rfl, by decide +kernel, rfl, by decide +kernel, by decide +kernel⟩
theorem F_is_table {P : Program} {w : World} {K : Fg} {mg : Str → Option Value} {base : Heap} (fx : Fx P K mg) : ∃ fd, FunD K "is_table" "is_table" (defArgs (top 18)) (defBody (top 18)) (defScope (top 18)) [] [] (He.ga K "is_table") fd ∧ FnG P w K mg base (L2.CX P w) 4 (He.ga K "is_table") fd ps_is_table (spF ⟨K, none, [14]⟩ 2 m_is_table) := by
  obtain ⟨fd, D⟩ := fx.D_is_table
  obtain ⟨fd_is_sequence, D_is_sequence, G_is_sequence⟩ := F_is_sequence (P := P) (w := w) (base := base) fx
  have kb_0 := kb0 (ps := ps_is_sequence) D_is_sequence 1 [] [.p 0] (fun _ _ _ _ _ _ us ws h1 h2 => match us, ws, h1, h2 with | [_], [], _, _ => rfl)
  obtain ⟨t_MOST_STATES, hi_MOST_STATES⟩ := fx.i_MOST_STATES
  obtain ⟨fd_is_below, D_is_below, G_is_below⟩ := F_is_below (P := P) (w := w) (base := base) fx
  have kb_1 := kb0 (ps := ps_is_below) D_is_below 2 [] [.p 0, .p 1] (fun _ _ _ _ _ _ us ws h1 h2 => match us, ws, h1, h2 with | [_, _], [], _, _ => rfl)
  have nd : N_is_table.Nodup := sc_is_table.nd
  refine ⟨fd, D, d_ok (cs := [14]) D sc_is_table fun cdv A outer s H E hr => ?_⟩
  have tk0 : ∃ W, Takes (cxOf (L2.CX P w) P w K mg base N_is_table "is_table" (defScope (top 18)) (He.ga K "is_table") cdv A outer s H E) W := ⟨_, takes_of rfl rfl rfl rfl⟩
  exact (b_cons (s_if (t_w (w_or (t_not (t_val (e_call noX_none G_is_sequence (hr.mono (by decide : 1 ≤ _)) (by rfl) fx.g_is_sequence D_is_sequence.kp kb_0 rfl rfl (a_cons (e_var 0 rfl (.inr (.inl rfl))) a_nil) (len_cons len_nil)))) (w_or (t_not (t_chain c_le c_le e_int (e_len fx.f_len rfl (a_cons (e_var 0 rfl (.inr (.inl rfl))) a_nil)) (e_gint rfl hi_MOST_STATES))) (w_or1 (t_w (w_and (t_cmp c_notN (e_var 1 rfl (.inl rfl)) e_non rfl) (w_and1 (t_cmp (c_ne hr.u64) (e_len fx.f_len rfl (a_cons (e_var 0 rfl (.inr (.inl rfl))) a_nil)) (e_var 1 rfl (.inl rfl)) rfl)))))))) (b_one (s_ret e_bl)) b_nil)
    (b_one (s_ret (e_allc rfl fx.f_all rfl (a_cons (e_n (n_lc (own := [("state", 2)]) rfl nd (i_seq (e_var 0 rfl (.inr (.inl rfl)))) (blkOk_by (own := [("state", 2)]) (by kernel_rfl)) (fun _ _ _ _ _ => (gl_name 2 (by decide) nd rfl (.inl rfl) (.inr rfl))) (fun _ _ _ _ _ => ts_nil) (fun _ _ _ _ _ => (e_call noX_none G_is_below (hr.mono (by decide : 3 ≤ _)) (by rfl) fx.g_is_below D_is_below.kp kb_1 rfl rfl (a_cons (e_var 2 rfl (.inl rfl)) (a_cons (e_len fx.f_len rfl (a_cons (e_var 0 rfl (.inr (.inl rfl))) a_nil)) a_nil)) (len_cons (len_cons len_nil)))))) a_nil)))))
/-! ### first_rows -/
abbrev N_first_rows : List Str := ["tables", "start", "rows", "waiting", "at", "deed", "table", "after"]
abbrev ps_first_rows : List Str := ["tables", "start"]
noncomputable def ms_first_rows : SM := (mSeq (mSetN 2 (mDisp [((mVar 1), (mTup aNil))]))
  (mSeq (mSetN 3 (mLst (aCons (mVar 1) aNil)))
  (mSeq (mSet 4 (mC (.int 0)))
  (mSeq (mWhile (mTst (mBin ltD (mVar 4) (mCall lenD (aCons (mVar 3) aNil)))) (mSeq (mFor (iEnum (aCons (mVar 0) aNil)) (gT 2 (gsCons (gN 5) (gsCons (gN 6) gsNil))) (mSeq (mSet 7 (mBin ixD (mVar 6) (mBin ixD (mVar 3) (mVar 4))))
  (mIfS (mTst (mBin notInD (mVar 7) (mVar 2))) (mSeq (mAsg (gSubD (mVar 2) (mVar 7)) (mBin addD (mBin ixD (mVar 2) (mBin ixD (mVar 3) (mVar 4))) (mTup (aCons (mVar 5) aNil))))
  (mExpr (mMet lmAppend (mVar 3) (aCons (mVar 7) aNil)))) mNx)))
  (mAugI 4 (fun i j => i + j) (mC (.int 1)))))
  (mSeq (mFz 2) (mRet (mVar 2)))))))
noncomputable def m_first_rows : FM := runDef 2 8 ms_first_rows
theorem sc_first_rows : FnScope N_first_rows ps_first_rows (defScope (top 21)) := ⟨rfl, rfl, rfl, by decide +kernel, rfl, by decide +kernel, by decide +kernel⟩
theorem F_first_rows {P : Program} {w : World} {K : Fg} {mg : Str → Option Value} {base : Heap} (fx : Fx P K mg) : ∃ fd, FunD K "first_rows" "first_rows" (defArgs (top 21)) (defBody (top 21)) (defScope (top 21)) [] [] (He.ga K "first_rows") fd ∧ FnG P w K mg base (L2.CX P w) 1 (He.ga K "first_rows") fd ps_first_rows (spF ⟨K, none, [14]⟩ 2 m_first_rows) := by
  obtain ⟨fd, D⟩ := fx.D_first_rows
  have nd : N_first_rows.Nodup := sc_first_rows.nd
  refine ⟨fd, D, d_ok (cs := [14]) D sc_first_rows fun cdv A outer s H E hr => ?_⟩
  have tk0 : ∃ W, Takes (cxOf (L2.CX P w) P w K mg base N_first_rows "first_rows" (defScope (top 21)) (He.ga K "first_rows") cdv A outer s H E) W := ⟨_, takes_of rfl rfl rfl rfl⟩
  exact (b_cons (s_setN 2 nd rfl (.inl rfl) (n_disp (.cons (e_var 1 rfl (.inl rfl)) (e_tup a_nil) .nil) rfl rfl (by simp) (by decide)))
    (b_cons (s_setN 3 nd rfl (.inl rfl) (n_lst (a_cons (e_var 1 rfl (.inl rfl)) a_nil)))
    (b_cons (s_set 4 nd rfl (.inl rfl) e_int)
    (b_cons (s_while (passes_of rfl) (t_cmp c_lt (e_var 4 rfl (.inl rfl)) (e_len fx.f_len rfl (a_cons (e_var 3 rfl (.inl rfl)) a_nil)) rfl) (b_cons (s_for (passes_of rfl) rfl (i_enum (by rfl) fx.f_enumerate (a_cons (e_var 0 rfl (.inl rfl)) a_nil)) (g_tup rfl (gs_cons (g_name 5 nd rfl (.inl rfl)) (gs_cons (g_name 6 nd rfl (.inl rfl)) gs_nil))) (b_cons (s_set 7 nd rfl (.inl rfl) (e_ix hr.u1 (e_var 6 rfl (.inl rfl)) (e_ix hr.u1 (e_var 3 rfl (.inl rfl)) (e_var 4 rfl (.inl rfl)) (fun _ _ => rfl)) (fun _ _ => rfl)))
    (b_one (s_if (t_cmp (c_notIn hr.u1) (e_var 7 rfl (.inl rfl)) (e_var 2 rfl (.inl rfl)) rfl) (b_cons (s_asg (e_add (e_ix hr.u1 (e_var 2 rfl (.inl rfl)) (e_ix hr.u1 (e_var 3 rfl (.inl rfl)) (e_var 4 rfl (.inl rfl)) (fun _ _ => rfl)) (fun _ _ => rfl)) (e_tup (a_cons (e_var 5 rfl (.inl rfl)) a_nil))) (g_sub hr.u1 (e_var 2 rfl (.inl rfl)) (e_var 7 rfl (.inl rfl)) tk0))
    (b_one (s_expr (e_append (e_var 3 rfl (.inl rfl)) (a_cons (e_var 7 rfl (.inl rfl)) a_nil))))) b_nil))))
    (b_one (s_augI 4 ip_add nd rfl (.inl rfl) e_int))))
    (b_one (s_fz 2 (s_ret (e_var 2 rfl (.inl rfl)))))))))
/-! ### Machine.__init__ -/
abbrev N_Machine___init__ : List Str := ["self", "tables", "words", "deed", "table"]
abbrev ps_Machine___init__ : List Str := ["self", "tables", "words"]
noncomputable def ms_Machine___init__ : SM := (mSeq (mIfS (mOrT (mNotT (mTru (mCallU m_is_sequence [.p 0] (([] : List V).map litV) (aCons (mVar 1) aNil) aNil))) (mNotT (mTst (mChain leD leD (mC (.int 1)) (mCall lenD (aCons (mVar 1) aNil)) (mC (.int 12)))))) (mRaise 1 0 (aCons (mUn negD (mC (.int 1))) aNil)) mNx)
  (mSeq (mFor (iEnum (aCons (mVar 1) aNil)) (gT 2 (gsCons (gN 3) (gsCons (gN 4) gsNil))) (mIfS (mNotT (mTru (mCallU m_is_table [.p 0, .p 1] (([] : List V).map litV) (aCons (mVar 4) (aCons (mIf (mTst (mBin gtD (mVar 3) (mC (.int 0)))) (mCall lenD (aCons (mBin ixD (mVar 1) (mC (.int 0))) aNil)) (mC .non)) aNil)) aNil))) (mRaise 1 0 (aCons (mVar 3) aNil)) mNx))
  (mSeq (mSetSelf 0 [14] 6 (mCall lenD (aCons (mBin ixD (mVar 1) (mC (.int 0))) aNil)))
  (mSeq (mSetSelf 0 [14] 7 (mCall lenD (aCons (mVar 1) aNil)))
  (mSeq (mSetSelf 0 [14] 8 (mCall tupleD (aCons (mN (mLc (iSeq (mVar 1)) (gN 4) mYes (mCall tupleD (aCons (mVar 4) aNil)) [4])) aNil)))
  (mSeq (mSetSelf 0 [14] 9 (mCallU m_checked_words [.p 0, .p 1, .p 2] (([] : List V).map litV) (aCons (mFld [14] 6 (mVar 0)) (aCons (mFld [14] 7 (mVar 0)) (aCons (mVar 2) aNil))) aNil))
  (mSetSelf 0 [14] 10 (mCall tupleD (aCons (mN (mCallN sortedC (aCons (mN (mCallN dkeysC (aCons (mCallU m_first_rows [.p 0, .p 1] (([] : List V).map litV) (aCons (mFld [14] 8 (mVar 0)) (aCons (mC (.int 0)) aNil)) aNil) aNil))) aNil))) aNil)))))))))
noncomputable def m_Machine___init__ : List D → Mu → NR := runInit 3 5 14 ms_Machine___init__
theorem sc_Machine___init__ : FnScope N_Machine___init__ ps_Machine___init__ (defScope (inClass (top 17) 0)) := ⟨rfl, rfl, rfl, by decide +kernel, rfl, by decide +kernel, by decide +kernel⟩
theorem F_Machine___init__ {P : Program} {w : World} {K : Fg} {mg : Str → Option Value} {base : Heap} (fx : Fx P K mg) : ∃ fd, FunD K "__init__" "Machine.__init__" (defArgs (inClass (top 17) 0)) (defBody (inClass (top 17) 0)) (defScope (inClass (top 17) 0)) [.non] [] (He.ma K (He.ga K (cname 14)) "__init__") fd ∧ FnG P w K mg base (L2.CX P w) 6 (He.ma K (He.ga K (cname 14)) "__init__") fd ps_Machine___init__ (spI K [14] 3 14 m_Machine___init__) := by
  obtain ⟨fd, D⟩ := fx.D_Machine___init__
  obtain ⟨fd_is_sequence, D_is_sequence, G_is_sequence⟩ := F_is_sequence (P := P) (w := w) (base := base) fx
  have kb_0 := kb0 (ps := ps_is_sequence) D_is_sequence 1 [] [.p 0] (fun _ _ _ _ _ _ us ws h1 h2 => match us, ws, h1, h2 with | [_], [], _, _ => rfl)
  obtain ⟨t_MOST_DEEDS, hi_MOST_DEEDS⟩ := fx.i_MOST_DEEDS
  obtain ⟨fd_is_table, D_is_table, G_is_table⟩ := F_is_table (P := P) (w := w) (base := base) fx
  have kb_1 := kb0 (ps := ps_is_table) D_is_table 2 [] [.p 0, .p 1] (fun _ _ _ _ _ _ us ws h1 h2 => match us, ws, h1, h2 with | [_, _], [], _, _ => rfl)
  obtain ⟨fd_checked_words, D_checked_words, G_checked_words⟩ := F_checked_words (P := P) (w := w) (base := base) fx
  have kb_2 := kb0 (ps := ps_checked_words) D_checked_words 3 [] [.p 0, .p 1, .p 2] (fun _ _ _ _ _ _ us ws h1 h2 => match us, ws, h1, h2 with | [_, _, _], [], _, _ => rfl)
  obtain ⟨fd_first_rows, D_first_rows, G_first_rows⟩ := F_first_rows (P := P) (w := w) (base := base) fx
  have kb_3 := kb0 (ps := ps_first_rows) D_first_rows 2 [] [.p 0, .p 1] (fun _ _ _ _ _ _ us ws h1 h2 => match us, ws, h1, h2 with | [_, _], [], _, _ => rfl)
  have nd : N_Machine___init__.Nodup := sc_Machine___init__.nd
  refine ⟨fd, D, d_init (cs := [14]) 14 D sc_Machine___init__ fun self cdv A outer s H E hr => ?_⟩
  have tk0 : ∃ W, Takes (cxOf (L2.CX P w) P w K mg base N_Machine___init__ "Machine.__init__" (defScope (inClass (top 17) 0)) (He.ma K (He.ga K (cname 14)) "__init__") cdv A outer s H E) W := ⟨_, takes_of rfl rfl rfl rfl⟩
  exact (b_cons (s_if (t_w (w_or (t_not (t_val (e_call noX_self G_is_sequence (hr.mono (by decide : 1 ≤ _)) (by rfl) fx.g_is_sequence D_is_sequence.kp kb_0 rfl rfl (a_cons (e_var 1 rfl (.inl rfl)) a_nil) (len_cons len_nil)))) (w_or1 (t_not (t_chain c_le c_le e_int (e_len fx.f_len rfl (a_cons (e_var 1 rfl (.inl rfl)) a_nil)) (e_gint rfl hi_MOST_DEEDS)))))) (b_one (s_raise (c := 1) (f := 0) fx.su_BadMachine rfl (hr.mono (by decide : 1 ≤ _)).r fx.f_super rfl fx.g_BadMachine (a_cons (e_neg e_int) a_nil))) b_nil)
    (b_cons (s_for (passes_of rfl) rfl (i_enum (by rfl) fx.f_enumerate (a_cons (e_var 1 rfl (.inl rfl)) a_nil)) (g_tup rfl (gs_cons (g_name 3 nd rfl (.inl rfl)) (gs_cons (g_name 4 nd rfl (.inl rfl)) gs_nil))) (b_one (s_if (t_not (t_val (e_call noX_self G_is_table (hr.mono (by decide : 4 ≤ _)) (by rfl) fx.g_is_table D_is_table.kp kb_1 rfl rfl (a_cons (e_var 4 rfl (.inl rfl)) (a_cons (e_if (t_cmp c_gt (e_var 3 rfl (.inl rfl)) e_int rfl) (e_len fx.f_len rfl (a_cons (e_ix hr.u1 (e_var 1 rfl (.inl rfl)) e_int (fun _ _ => rfl)) a_nil)) e_non) a_nil)) (len_cons (len_cons len_nil))))) (b_one (s_raise (c := 1) (f := 0) fx.su_BadMachine rfl (hr.mono (by decide : 1 ≤ _)).r fx.f_super rfl fx.g_BadMachine (a_cons (e_var 3 rfl (.inl rfl)) a_nil))) b_nil)))
    (b_cons (s_setSelf 0 [14] 6 rfl (by decide) fx.fo_states rfl (.inl rfl) (e_len fx.f_len rfl (a_cons (e_ix hr.u1 (e_var 1 rfl (.inl rfl)) e_int (fun _ _ => rfl)) a_nil)))
    (b_cons (s_setSelf 0 [14] 7 rfl (by decide) fx.fo_deeds rfl (.inl rfl) (e_len fx.f_len rfl (a_cons (e_var 1 rfl (.inl rfl)) a_nil)))
    (b_cons (s_setSelf 0 [14] 8 rfl (by decide) fx.fo_tables rfl (.inl rfl) (e_tupc fx.f_tuple rfl (a_cons (e_n (n_lc (own := [("table", 4)]) rfl nd (i_seq (e_var 1 rfl (.inl rfl))) (blkOk_by (own := [("table", 4)]) (by kernel_rfl)) (fun _ _ _ _ _ => (gl_name 4 (by decide) nd rfl (.inl rfl) (.inr rfl))) (fun _ _ _ _ _ => ts_nil) (fun _ _ _ _ _ => (e_tupc fx.f_tuple rfl (a_cons (e_var 4 rfl (.inl rfl)) a_nil))))) a_nil)))
    (b_cons (s_setSelf 0 [14] 9 rfl (by decide) fx.fo_words rfl (.inl rfl) (e_call noX_self G_checked_words (hr.mono (by decide : 5 ≤ _)) (by rfl) fx.g_checked_words D_checked_words.kp kb_2 rfl rfl (a_cons (e_fld [14] 6 rfl (by decide) fx.fo_states (e_var 0 rfl (.inl rfl))) (a_cons (e_fld [14] 7 rfl (by decide) fx.fo_deeds (e_var 0 rfl (.inl rfl))) (a_cons (e_var 2 rfl (.inl rfl)) a_nil))) (len_cons (len_cons (len_cons len_nil)))))
    (b_one (s_setSelf 0 [14] 10 rfl (by decide) fx.fo_reached rfl (.inl rfl) (e_tupc fx.f_tuple rfl (a_cons (e_n (n_sorted fx.f_sorted rfl (a_cons (e_n (n_listd rfl fx.f_list rfl (a_cons (e_call noX_self G_first_rows (hr.mono (by decide : 1 ≤ _)) (by rfl) fx.g_first_rows D_first_rows.kp kb_3 rfl rfl (a_cons (e_fld [14] 8 rfl (by decide) fx.fo_tables (e_var 0 rfl (.inl rfl))) (a_cons e_int a_nil)) (len_cons (len_cons len_nil))) a_nil))) a_nil))) a_nil))))))))))
/-! ### _law_words -/
abbrev N__law_words : List Str := ["_law_box_here", "_law_tables_here", "_law_said", "_law_shown", "_law_found", "_law_table", "_law_state"]
abbrev ps__law_words : List Str := ["_law_box_here", "_law_tables_here"]
noncomputable def ms__law_words : SM := (mSeq (mAsg (gT 2 (gsCons (gN 2) (gsCons (gN 3) gsNil))) (mTup (aCons (mBin addD (mC (.int 1)) (mCallU m__law_take [.p 0, .p 1] (([] : List V).map litV) (aCons (mVar 0) (aCons (mC (.int 3)) aNil)) aNil)) (aCons (mBin addD (mC (.int 1)) (mCallU m__law_take [.p 0, .p 1] (([] : List V).map litV) (aCons (mVar 0) (aCons (mC (.int 3)) aNil)) aNil)) aNil))))
  (mSeq (mSetN 4 (mLst aNil))
  (mSeq (mFor (iSeq (mVar 1)) (gN 5) (mExpr (mMet lmAppend (mVar 4) (aCons (mN (mLc (iSeq (mVar 5)) (gN 6) mYes (mTup (aCons (mCallU m__law_take [.p 0, .p 1] (([] : List V).map litV) (aCons (mVar 0) (aCons (mVar 2) aNil)) aNil) (aCons (mCallU m__law_take [.p 0, .p 1] (([] : List V).map litV) (aCons (mVar 0) (aCons (mVar 3) aNil)) aNil) aNil))) [6])) aNil))))
  (mSeq (mFz 4) (mRet (mVar 4))))))
noncomputable def m__law_words : FM := runDef 2 7 ms__law_words
theorem sc__law_words : FnScope N__law_words ps__law_words (defScope (top 35)) := ⟨rfl, rfl, rfl, by decide +kernel, rfl, by decide +kernel, by decide +kernel⟩
theorem F__law_words {P : Program} {w : World} {K : Fg} {mg : Str → Option Value} {base : Heap} (fx : Fx P K mg) : ∃ fd, FunD K "_law_words" "_law_words" (defArgs (top 35)) (defBody (top 35)) (defScope (top 35)) [] [] (He.ga K "_law_words") fd ∧ FnG P w K mg base (L2.CX P w) 2 (He.ga K "_law_words") fd ps__law_words (spF ⟨K, none, [14]⟩ 2 m__law_words) := by
  obtain ⟨fd, D⟩ := fx.D__law_words
  obtain ⟨fd__law_take, D__law_take, G__law_take⟩ := F__law_take (P := P) (w := w) (base := base) fx
  have kb_0 := kb0 (ps := ps__law_take) D__law_take 2 [] [.p 0, .p 1] (fun _ _ _ _ _ _ us ws h1 h2 => match us, ws, h1, h2 with | [_, _], [], _, _ => rfl)
  have nd : N__law_words.Nodup := sc__law_words.nd
  refine ⟨fd, D, d_ok (cs := [14]) D sc__law_words fun cdv A outer s H E hr => ?_⟩
  have tk0 : ∃ W, Takes (cxOf (L2.CX P w) P w K mg base N__law_words "_law_words" (defScope (top 35)) (He.ga K "_law_words") cdv A outer s H E) W := ⟨_, takes_of rfl rfl rfl rfl⟩
  exact (b_cons (s_asg (e_tup (a_cons (e_add e_int (e_call noX_none G__law_take (hr.mono (by decide : 1 ≤ _)) (by rfl) fx.g__law_take D__law_take.kp kb_0 rfl rfl (a_cons (e_var 0 rfl (.inr (.inl rfl))) (a_cons e_int a_nil)) (len_cons (len_cons len_nil)))) (a_cons (e_add e_int (e_call noX_none G__law_take (hr.mono (by decide : 1 ≤ _)) (by rfl) fx.g__law_take D__law_take.kp kb_0 rfl rfl (a_cons (e_var 0 rfl (.inr (.inl rfl))) (a_cons e_int a_nil)) (len_cons (len_cons len_nil)))) a_nil))) (g_tup rfl (gs_cons (g_name 2 nd rfl (.inr rfl)) (gs_cons (g_name 3 nd rfl (.inr rfl)) gs_nil))))
    (b_cons (s_setN 4 nd rfl (.inl rfl) (n_lst a_nil))
    (b_cons (s_for (passes_of rfl) rfl (i_seq (e_var 1 rfl (.inl rfl))) (g_name 5 nd rfl (.inl rfl)) (b_one (s_expr (e_append (e_var 4 rfl (.inl rfl)) (a_cons (e_n (n_lc (own := [("_law_state", 6)]) rfl nd (i_seq (e_var 5 rfl (.inl rfl))) (blkOk_by (own := [("_law_state", 6)]) (by kernel_rfl)) (fun _ _ _ _ _ => (gl_name 6 (by decide) nd rfl (.inl rfl) (.inr rfl))) (fun _ _ _ _ _ => ts_nil) (fun _ _ _ _ _ => (e_tup (a_cons (e_call noX_none G__law_take (hr.mono (by decide : 1 ≤ _)) (by rfl) fx.g__law_take D__law_take.kp kb_0 rfl rfl (a_cons (e_var 0 rfl (.inr (.inl rfl))) (a_cons (e_var 2 rfl (.inr (.inl rfl))) a_nil)) (len_cons (len_cons len_nil))) (a_cons (e_call noX_none G__law_take (hr.mono (by decide : 1 ≤ _)) (by rfl) fx.g__law_take D__law_take.kp kb_0 rfl rfl (a_cons (e_var 0 rfl (.inr (.inl rfl))) (a_cons (e_var 3 rfl (.inr (.inl rfl))) a_nil)) (len_cons (len_cons len_nil))) a_nil)))))) a_nil)))))
    (b_one (s_fz 4 (s_ret (e_var 4 rfl (.inl rfl))))))))
/-! ### with_words -/
abbrev N_with_words : List Str := ["machine", "words"]
abbrev ps_with_words : List Str := ["machine", "words"]
noncomputable def ms_with_words : SM := (mRet (mN (mMakeU m_Machine___init__ [.p 1, .p 2] (([.non] : List V).map litV) (aCons (mFld [14] 8 (mVar 0)) (aCons (mVar 1) aNil)) aNil)))
noncomputable def m_with_words : FM := runDef 2 2 ms_with_words
theorem sc_with_words : FnScope N_with_words ps_with_words (defScope (top 25)) := ⟨rfl, rfl, rfl, by decide +kernel, rfl, by decide +kernel, by decide +kernel⟩
theorem F_with_words {P : Program} {w : World} {K : Fg} {mg : Str → Option Value} {base : Heap} (fx : Fx P K mg) : ∃ fd, FunD K "with_words" "with_words" (defArgs (top 25)) (defBody (top 25)) (defScope (top 25)) [] [] (He.ga K "with_words") fd ∧ FnG P w K mg base (L2.CX P w) 8 (He.ga K "with_words") fd ps_with_words (spF ⟨K, none, [14]⟩ 2 m_with_words) := by
  obtain ⟨fd, D⟩ := fx.D_with_words
  obtain ⟨fd_Machine___init__, D_Machine___init__, G_Machine___init__⟩ := F_Machine___init__ (P := P) (w := w) (base := base) fx
  have kb_0 := kb1 (ps := ps_Machine___init__) D_Machine___init__ 3 [] [.p 0, .p 1, .p 2] (by simp) (fun _ _ _ _ _ _ _ us ws its h1 h2 h3 => match us, ws, its, h1, h2, h3 with | [_, _, _], [], [_], _, _, _ => ⟨_, rfl, rfl⟩)
  have nd : N_with_words.Nodup := sc_with_words.nd
  refine ⟨fd, D, d_ok (cs := [14]) D sc_with_words fun cdv A outer s H E hr => ?_⟩
  have tk0 : ∃ W, Takes (cxOf (L2.CX P w) P w K mg base N_with_words "with_words" (defScope (top 25)) (He.ga K "with_words") cdv A outer s H E) W := ⟨_, takes_of rfl rfl rfl rfl⟩
  exact (b_one (s_ret (e_n (n_make (c := 14) noX_none (by decide) fx.mk_Machine G_Machine___init__ (hr.mono (by decide : 7 ≤ _)) rfl fx.g_Machine kb_0 rfl rfl rfl (a_cons (e_fld [14] 8 rfl (by decide) fx.fo_tables (e_var 0 rfl (.inl rfl))) (a_cons (e_var 1 rfl (.inl rfl)) a_nil)) (len_cons (len_cons len_nil))))))
/-! ### check_sorts -/
abbrev N_check_sorts : List Str := ["machine", "sorts", "sort"]
abbrev ps_check_sorts : List Str := ["machine", "sorts"]
noncomputable def ms_check_sorts : SM := (mSeq (mIfS (mOrT (mNotT (mTru (mCallU m_is_sequence [.p 0] (([] : List V).map litV) (aCons (mVar 1) aNil) aNil))) (mTst (mBin neD (mCall lenD (aCons (mVar 1) aNil)) (mFld [14] 7 (mVar 0))))) (mRaise 7 0 (aCons (mVar 1) aNil)) mNx)
  (mSeq (mIfS (mNotT (mTru (mCall allD (aCons (mN (mLc (iSeq (mVar 1)) (gN 2) mYes (mCallU m_is_below [.p 0, .p 1] (([] : List V).map litV) (aCons (mVar 2) (aCons (mBin addD (mC (.int 1000000)) (mC (.int 1))) aNil)) aNil) [2])) aNil)))) (mRaise 7 0 (aCons (mVar 1) aNil)) mNx)
  (mRet (mCall tupleD (aCons (mVar 1) aNil)))))
noncomputable def m_check_sorts : FM := runDef 2 3 ms_check_sorts
theorem sc_check_sorts : FnScope N_check_sorts ps_check_sorts (defScope (top 26)) := ⟨rfl, rfl, rfl, by decide +kernel, rfl, by decide +kernel, by decide +kernel⟩
theorem F_check_sorts {P : Program} {w : World} {K : Fg} {mg : Str → Option Value} {base : Heap} (fx : Fx P K mg) : ∃ fd, FunD K "check_sorts" "check_sorts" (defArgs (top 26)) (defBody (top 26)) (defScope (top 26)) [] [] (He.ga K "check_sorts") fd ∧ FnG P w K mg base (L2.CX P w) 4 (He.ga K "check_sorts") fd ps_check_sorts (spF ⟨K, none, [14]⟩ 2 m_check_sorts) := by
  obtain ⟨fd, D⟩ := fx.D_check_sorts
  obtain ⟨fd_is_sequence, D_is_sequence, G_is_sequence⟩ := F_is_sequence (P := P) (w := w) (base := base) fx
  have kb_0 := kb0 (ps := ps_is_sequence) D_is_sequence 1 [] [.p 0] (fun _ _ _ _ _ _ us ws h1 h2 => match us, ws, h1, h2 with | [_], [], _, _ => rfl)
  obtain ⟨fd_is_below, D_is_below, G_is_below⟩ := F_is_below (P := P) (w := w) (base := base) fx
  have kb_1 := kb0 (ps := ps_is_below) D_is_below 2 [] [.p 0, .p 1] (fun _ _ _ _ _ _ us ws h1 h2 => match us, ws, h1, h2 with | [_, _], [], _, _ => rfl)
  obtain ⟨t_MOST_WORD, hi_MOST_WORD⟩ := fx.i_MOST_WORD
  have nd : N_check_sorts.Nodup := sc_check_sorts.nd
  refine ⟨fd, D, d_ok (cs := [14]) D sc_check_sorts fun cdv A outer s H E hr => ?_⟩
  have tk0 : ∃ W, Takes (cxOf (L2.CX P w) P w K mg base N_check_sorts "check_sorts" (defScope (top 26)) (He.ga K "check_sorts") cdv A outer s H E) W := ⟨_, takes_of rfl rfl rfl rfl⟩
  exact (b_cons (s_if (t_w (w_or (t_not (t_val (e_call noX_none G_is_sequence (hr.mono (by decide : 1 ≤ _)) (by rfl) fx.g_is_sequence D_is_sequence.kp kb_0 rfl rfl (a_cons (e_var 1 rfl (.inl rfl)) a_nil) (len_cons len_nil)))) (w_or1 (t_cmp (c_ne hr.u64) (e_len fx.f_len rfl (a_cons (e_var 1 rfl (.inl rfl)) a_nil)) (e_fld [14] 7 rfl (by decide) fx.fo_deeds (e_var 0 rfl (.inl rfl))) rfl)))) (b_one (s_raise (c := 7) (f := 0) fx.su_Refused rfl (hr.mono (by decide : 1 ≤ _)).r fx.f_super rfl fx.g_Refused (a_cons (e_var 1 rfl (.inl rfl)) a_nil))) b_nil)
    (b_cons (s_if (t_not (t_val (e_allc rfl fx.f_all rfl (a_cons (e_n (n_lc (own := [("sort", 2)]) rfl nd (i_seq (e_var 1 rfl (.inl rfl))) (blkOk_by (own := [("sort", 2)]) (by kernel_rfl)) (fun _ _ _ _ _ => (gl_name 2 (by decide) nd rfl (.inl rfl) (.inr rfl))) (fun _ _ _ _ _ => ts_nil) (fun _ _ _ _ _ => (e_call noX_none G_is_below (hr.mono (by decide : 3 ≤ _)) (by rfl) fx.g_is_below D_is_below.kp kb_1 rfl rfl (a_cons (e_var 2 rfl (.inl rfl)) (a_cons (e_add (e_gint rfl hi_MOST_WORD) e_int) a_nil)) (len_cons (len_cons len_nil)))))) a_nil)))) (b_one (s_raise (c := 7) (f := 0) fx.su_Refused rfl (hr.mono (by decide : 1 ≤ _)).r fx.f_super rfl fx.g_Refused (a_cons (e_var 1 rfl (.inl rfl)) a_nil))) b_nil)
    (b_one (s_ret (e_tupc fx.f_tuple rfl (a_cons (e_var 1 rfl (.inl rfl)) a_nil))))))
/-! ### sort_words -/
abbrev N_sort_words : List Str := ["machine", "sorts", "sort"]
abbrev ps_sort_words : List Str := ["machine", "sorts"]
noncomputable def ms_sort_words : SM := (mRet (mCallU m_with_words [.p 0, .p 1] (([] : List V).map litV) (aCons (mVar 0) (aCons (mN (mLc (iSeq (mCallU m_check_sorts [.p 0, .p 1] (([] : List V).map litV) (aCons (mVar 0) (aCons (mVar 1) aNil)) aNil)) (gN 2) mYes (mBin mulD (mN (mLst (aCons (mTup (aCons (mVar 2) (aCons (mC (.int 0)) aNil))) aNil))) (mFld [14] 6 (mVar 0))) [2])) aNil)) aNil))
noncomputable def m_sort_words : FM := runDef 2 3 ms_sort_words
theorem sc_sort_words : FnScope N_sort_words ps_sort_words (defScope (top 27)) := ⟨rfl, rfl, rfl, by decide +kernel, rfl, by decide +kernel, by decide +kernel⟩
theorem F_sort_words {P : Program} {w : World} {K : Fg} {mg : Str → Option Value} {base : Heap} (fx : Fx P K mg) : ∃ fd, FunD K "sort_words" "sort_words" (defArgs (top 27)) (defBody (top 27)) (defScope (top 27)) [] [] (He.ga K "sort_words") fd ∧ FnG P w K mg base (L2.CX P w) 9 (He.ga K "sort_words") fd ps_sort_words (spF ⟨K, none, [14]⟩ 2 m_sort_words) := by
  obtain ⟨fd, D⟩ := fx.D_sort_words
  obtain ⟨fd_with_words, D_with_words, G_with_words⟩ := F_with_words (P := P) (w := w) (base := base) fx
  have kb_0 := kb0 (ps := ps_with_words) D_with_words 2 [] [.p 0, .p 1] (fun _ _ _ _ _ _ us ws h1 h2 => match us, ws, h1, h2 with | [_, _], [], _, _ => rfl)
  obtain ⟨fd_check_sorts, D_check_sorts, G_check_sorts⟩ := F_check_sorts (P := P) (w := w) (base := base) fx
  have kb_1 := kb0 (ps := ps_check_sorts) D_check_sorts 2 [] [.p 0, .p 1] (fun _ _ _ _ _ _ us ws h1 h2 => match us, ws, h1, h2 with | [_, _], [], _, _ => rfl)
  have nd : N_sort_words.Nodup := sc_sort_words.nd
  refine ⟨fd, D, d_ok (cs := [14]) D sc_sort_words fun cdv A outer s H E hr => ?_⟩
  have tk0 : ∃ W, Takes (cxOf (L2.CX P w) P w K mg base N_sort_words "sort_words" (defScope (top 27)) (He.ga K "sort_words") cdv A outer s H E) W := ⟨_, takes_of rfl rfl rfl rfl⟩
  exact (b_one (s_ret (e_call noX_none G_with_words (hr.mono (by decide : 8 ≤ _)) (by rfl) fx.g_with_words D_with_words.kp kb_0 rfl rfl (a_cons (e_var 0 rfl (.inr (.inl rfl))) (a_cons (e_n (n_lc (own := [("sort", 2)]) rfl nd (i_seq (e_call noX_none G_check_sorts (hr.mono (by decide : 4 ≤ _)) (by rfl) fx.g_check_sorts D_check_sorts.kp kb_1 rfl rfl (a_cons (e_var 0 rfl (.inr (.inl rfl))) (a_cons (e_var 1 rfl (.inl rfl)) a_nil)) (len_cons (len_cons len_nil)))) (blkOk_by (own := [("sort", 2)]) (by kernel_rfl)) (fun _ _ _ _ _ => (gl_name 2 (by decide) nd rfl (.inl rfl) (.inr rfl))) (fun _ _ _ _ _ => ts_nil) (fun _ _ _ _ _ => (e_mul (e_n (n_lst (a_cons (e_tup (a_cons (e_var 2 rfl (.inl rfl)) (a_cons e_int a_nil))) a_nil))) (e_fld [14] 6 rfl (by decide) fx.fo_states (e_var 0 rfl (.inr (.inl rfl)))))))) a_nil)) (len_cons (len_cons len_nil)))))
/-! ### silent_words -/
abbrev N_silent_words : List Str := ["machine"]
abbrev ps_silent_words : List Str := ["machine"]
noncomputable def ms_silent_words : SM := (mRet (mCallU m_sort_words [.p 0, .p 1] (([] : List V).map litV) (aCons (mVar 0) (aCons (mBin mulD (mTup (aCons (mC (.int 0)) aNil)) (mFld [14] 7 (mVar 0))) aNil)) aNil))
noncomputable def m_silent_words : FM := runDef 1 1 ms_silent_words
theorem sc_silent_words : FnScope N_silent_words ps_silent_words (defScope (top 28)) := ⟨rfl, rfl, rfl, by decide +kernel, rfl, by decide +kernel, by decide +kernel⟩
theorem F_silent_words {P : Program} {w : World} {K : Fg} {mg : Str → Option Value} {base : Heap} (fx : Fx P K mg) : ∃ fd, FunD K "silent_words" "silent_words" (defArgs (top 28)) (defBody (top 28)) (defScope (top 28)) [] [] (He.ga K "silent_words") fd ∧ FnG P w K mg base (L2.CX P w) 10 (He.ga K "silent_words") fd ps_silent_words (spF ⟨K, none, [14]⟩ 1 m_silent_words) := by
  obtain ⟨fd, D⟩ := fx.D_silent_words
  obtain ⟨fd_sort_words, D_sort_words, G_sort_words⟩ := F_sort_words (P := P) (w := w) (base := base) fx
  have kb_0 := kb0 (ps := ps_sort_words) D_sort_words 2 [] [.p 0, .p 1] (fun _ _ _ _ _ _ us ws h1 h2 => match us, ws, h1, h2 with | [_, _], [], _, _ => rfl)
  have nd : N_silent_words.Nodup := sc_silent_words.nd
  refine ⟨fd, D, d_ok (cs := [14]) D sc_silent_words fun cdv A outer s H E hr => ?_⟩
  have tk0 : ∃ W, Takes (cxOf (L2.CX P w) P w K mg base N_silent_words "silent_words" (defScope (top 28)) (He.ga K "silent_words") cdv A outer s H E) W := ⟨_, takes_of rfl rfl rfl rfl⟩
  exact (b_one (s_ret (e_call noX_none G_sort_words (hr.mono (by decide : 9 ≤ _)) (by rfl) fx.g_sort_words D_sort_words.kp kb_0 rfl rfl (a_cons (e_var 0 rfl (.inl rfl)) (a_cons (e_mul (e_tup (a_cons e_int a_nil)) (e_fld [14] 7 rfl (by decide) fx.fo_deeds (e_var 0 rfl (.inl rfl)))) a_nil)) (len_cons (len_cons len_nil)))))
/-! ### button_words -/
abbrev N_button_words : List Str := ["machine", "sorts", "sort"]
abbrev ps_button_words : List Str := ["machine", "sorts"]
noncomputable def ms_button_words : SM := (mRet (mCallU m_with_words [.p 0, .p 1] (([] : List V).map litV) (aCons (mVar 0) (aCons (mN (mLc (iSeq (mCallU m_check_sorts [.p 0, .p 1] (([] : List V).map litV) (aCons (mVar 0) (aCons (mVar 1) aNil)) aNil)) (gN 2) mYes (mBin mulD (mN (mLst (aCons (mTup (aCons (mC (.int 0)) (aCons (mVar 2) aNil))) aNil))) (mFld [14] 6 (mVar 0))) [2])) aNil)) aNil))
noncomputable def m_button_words : FM := runDef 2 3 ms_button_words
theorem sc_button_words : FnScope N_button_words ps_button_words (defScope (top 29)) := ⟨rfl, rfl, rfl, by decide +kernel, rfl, by decide +kernel, by decide +kernel⟩
theorem F_button_words {P : Program} {w : World} {K : Fg} {mg : Str → Option Value} {base : Heap} (fx : Fx P K mg) : ∃ fd, FunD K "button_words" "button_words" (defArgs (top 29)) (defBody (top 29)) (defScope (top 29)) [] [] (He.ga K "button_words") fd ∧ FnG P w K mg base (L2.CX P w) 9 (He.ga K "button_words") fd ps_button_words (spF ⟨K, none, [14]⟩ 2 m_button_words) := by
  obtain ⟨fd, D⟩ := fx.D_button_words
  obtain ⟨fd_with_words, D_with_words, G_with_words⟩ := F_with_words (P := P) (w := w) (base := base) fx
  have kb_0 := kb0 (ps := ps_with_words) D_with_words 2 [] [.p 0, .p 1] (fun _ _ _ _ _ _ us ws h1 h2 => match us, ws, h1, h2 with | [_, _], [], _, _ => rfl)
  obtain ⟨fd_check_sorts, D_check_sorts, G_check_sorts⟩ := F_check_sorts (P := P) (w := w) (base := base) fx
  have kb_1 := kb0 (ps := ps_check_sorts) D_check_sorts 2 [] [.p 0, .p 1] (fun _ _ _ _ _ _ us ws h1 h2 => match us, ws, h1, h2 with | [_, _], [], _, _ => rfl)
  have nd : N_button_words.Nodup := sc_button_words.nd
  refine ⟨fd, D, d_ok (cs := [14]) D sc_button_words fun cdv A outer s H E hr => ?_⟩
  have tk0 : ∃ W, Takes (cxOf (L2.CX P w) P w K mg base N_button_words "button_words" (defScope (top 29)) (He.ga K "button_words") cdv A outer s H E) W := ⟨_, takes_of rfl rfl rfl rfl⟩
  exact (b_one (s_ret (e_call noX_none G_with_words (hr.mono (by decide : 8 ≤ _)) (by rfl) fx.g_with_words D_with_words.kp kb_0 rfl rfl (a_cons (e_var 0 rfl (.inr (.inl rfl))) (a_cons (e_n (n_lc (own := [("sort", 2)]) rfl nd (i_seq (e_call noX_none G_check_sorts (hr.mono (by decide : 4 ≤ _)) (by rfl) fx.g_check_sorts D_check_sorts.kp kb_1 rfl rfl (a_cons (e_var 0 rfl (.inr (.inl rfl))) (a_cons (e_var 1 rfl (.inl rfl)) a_nil)) (len_cons (len_cons len_nil)))) (blkOk_by (own := [("sort", 2)]) (by kernel_rfl)) (fun _ _ _ _ _ => (gl_name 2 (by decide) nd rfl (.inl rfl) (.inr rfl))) (fun _ _ _ _ _ => ts_nil) (fun _ _ _ _ _ => (e_mul (e_n (n_lst (a_cons (e_tup (a_cons e_int (a_cons (e_var 2 rfl (.inl rfl)) a_nil))) a_nil))) (e_fld [14] 6 rfl (by decide) fx.fo_states (e_var 0 rfl (.inr (.inl rfl)))))))) a_nil)) (len_cons (len_cons len_nil)))))
/-! ### _law_refused -/
abbrev N__law_refused : List Str := ["_law_machine", "_law_kind", "_law_value", "e"]
abbrev ps__law_refused : List Str := ["_law_machine", "_law_kind", "_law_value"]
noncomputable def ms__law_refused : SM := (mSeq (mTry (mIfS (mTst (mBin eqD (mVar 1) (mC (.int 0)))) (mExpr (mCallU m_sort_words [.p 0, .p 1] (([] : List V).map litV) (aCons (mVar 0) (aCons (mVar 2) aNil)) aNil)) (mIfS (mTst (mBin eqD (mVar 1) (mC (.int 1)))) (mExpr (mCallU m_button_words [.k 1, .k 0] (([] : List V).map litV) aNil (aCons (mVar 2) (aCons (mVar 0) aNil)))) (mExpr (mCallU m_with_words [.k 1, .k 0] (([] : List V).map litV) aNil (aCons (mVar 2) (aCons (mVar 0) aNil)))))) [((fun k => ([(0, false), (1, false), (2, false), (7, true), (11, false), (12, false)] : List (Nat × Bool)).lookup k), some 3, (mRet (mIf (mAndT (mTru (mIsX (fun k => ([(0, true), (1, true), (2, true), (7, true), (11, false), (12, false)] : List (Nat × Bool)).lookup k) (mVar 3))) (mNotT (mTru (mIsX (fun k => ([(0, false), (1, true), (2, false), (7, false), (11, false), (12, false)] : List (Nat × Bool)).lookup k) (mVar 3))))) (mTup (aCons (mC (.str "refused")) (aCons (mCall reprD (aCons (mXf (fun k => ([1, 2, 7] : List Nat).contains k) 0 (mVar 3)) aNil)) aNil))) (mC (.str "wrong"))))), ((fun k => ([(0, false), (1, true), (2, false), (7, false), (11, false), (12, false)] : List (Nat × Bool)).lookup k), some 3, (mRet (mTup (aCons (mC (.str "machine")) (aCons (mXf (fun k => ([1, 2, 7] : List Nat).contains k) 0 (mVar 3)) aNil)))))])
  (mRet (mC .non)))
noncomputable def m__law_refused : FM := runDef 3 4 ms__law_refused
theorem sc__law_refused : FnScope N__law_refused ps__law_refused (defScope (top 37)) := ⟨rfl, rfl, rfl, by decide +kernel, rfl, by decide +kernel, by decide +kernel⟩
theorem F__law_refused {P : Program} {w : World} {K : Fg} {mg : Str → Option Value} {base : Heap} (fx : Fx P K mg) : ∃ fd, FunD K "_law_refused" "_law_refused" (defArgs (top 37)) (defBody (top 37)) (defScope (top 37)) [] [] (He.ga K "_law_refused") fd ∧ FnG P w K mg base (L2.CX P w) 10 (He.ga K "_law_refused") fd ps__law_refused (spF ⟨K, none, [14]⟩ 3 m__law_refused) := by
  obtain ⟨fd, D⟩ := fx.D__law_refused
  obtain ⟨fd_sort_words, D_sort_words, G_sort_words⟩ := F_sort_words (P := P) (w := w) (base := base) fx
  have kb_0 := kb0 (ps := ps_sort_words) D_sort_words 2 [] [.p 0, .p 1] (fun _ _ _ _ _ _ us ws h1 h2 => match us, ws, h1, h2 with | [_, _], [], _, _ => rfl)
  obtain ⟨fd_button_words, D_button_words, G_button_words⟩ := F_button_words (P := P) (w := w) (base := base) fx
  have kb_1 := kb0 (ps := ps_button_words) D_button_words 0 ["sorts", "machine"] [.k 1, .k 0] (fun _ _ _ _ _ _ us ws h1 h2 => match us, ws, h1, h2 with | [], [_, _], _, _ => rfl)
  obtain ⟨fd_with_words, D_with_words, G_with_words⟩ := F_with_words (P := P) (w := w) (base := base) fx
  have kb_2 := kb0 (ps := ps_with_words) D_with_words 0 ["words", "machine"] [.k 1, .k 0] (fun _ _ _ _ _ _ us ws h1 h2 => match us, ws, h1, h2 with | [], [_, _], _, _ => rfl)
  have nd : N__law_refused.Nodup := sc__law_refused.nd
  refine ⟨fd, D, d_ok (cs := [14]) D sc__law_refused fun cdv A outer s H E hr => ?_⟩
  have tk0 : ∃ W, Takes (cxOf (L2.CX P w) P w K mg base N__law_refused "_law_refused" (defScope (top 37)) (He.ga K "_law_refused") cdv A outer s H E) W := ⟨_, takes_of rfl rfl rfl rfl⟩
  exact (b_cons (s_try rfl rfl nd (fun _ _ hpo tk0 => (b_one (s_if (t_cmp (c_eq hr.u64) (e_var 1 rfl (.inl rfl)) e_int rfl) (b_one (s_expr (e_call noX_none G_sort_words (hr.mono (by decide : 9 ≤ _)) (by rfl) fx.g_sort_words D_sort_words.kp kb_0 rfl rfl (a_cons (e_var 0 rfl (.inl rfl)) (a_cons (e_var 2 rfl (.inl rfl)) a_nil)) (len_cons (len_cons len_nil))))) (b_one (s_if (t_cmp (c_eq hr.u64) (e_var 1 rfl (.inl rfl)) e_int rfl) (b_one (s_expr (e_callK0 noX_none G_button_words (hr.mono (by decide : 9 ≤ _)) (by rfl) fx.g_button_words D_button_words.kp kb_1 rfl rfl (k_cons (e_var 2 rfl (.inl rfl)) (k_cons (e_var 0 rfl (.inl rfl)) k_nil)) (len_cons (len_cons len_nil))))) (b_one (s_expr (e_callK0 noX_none G_with_words (hr.mono (by decide : 8 ≤ _)) (by rfl) fx.g_with_words D_with_words.kp kb_2 rfl rfl (k_cons (e_var 2 rfl (.inl rfl)) (k_cons (e_var 0 rfl (.inl rfl)) k_nil)) (len_cons (len_cons len_nil)))))))))) (.as_ (p := (fun k => ([(0, false), (1, false), (2, false), (7, true), (11, false), (12, false)] : List (Nat × Bool)).lookup k)) (i := 3) ⟨rfl, by decide, .inl fx.g_Refused⟩ fx.ex_Refused rfl rfl (fun a oe cls d pn hz hv => (b_one (s_ret (e_if (t_w (w_and (t_val (e_isX (pf := (fun k => ([(0, true), (1, true), (2, true), (7, true), (11, false), (12, false)] : List (Nat × Bool)).lookup k)) (cv := V.ref (He.ga K (cname 0))) (cw := Value.ref (He.ga K (cname 0))) hz hv fx.ix_FallError (fun _ h => h) rfl fx.f_isinstance (e_var 3 rfl (.inl rfl)) (cls_own fx.g_FallError rfl))) (w_and1 (t_not (t_val (e_isX (pf := (fun k => ([(0, false), (1, true), (2, false), (7, false), (11, false), (12, false)] : List (Nat × Bool)).lookup k)) (cv := V.ref (He.ga K (cname 1))) (cw := Value.ref (He.ga K (cname 1))) hz hv fx.ix_BadMachine (fun _ h => h) rfl fx.f_isinstance (e_var 3 rfl (.inl rfl)) (cls_own fx.g_BadMachine rfl))))))) (e_tup (a_cons e_str (a_cons (e_reprX hr fx.f_repr rfl (a_cons (e_xf (pf := (fun k => ([1, 2, 7] : List Nat).contains k)) 0 rfl (by decide) hz hv fx.xf_at (e_var 3 rfl (.inl rfl))) a_nil)) a_nil))) e_str)))) (.as_ (p := (fun k => ([(0, false), (1, true), (2, false), (7, false), (11, false), (12, false)] : List (Nat × Bool)).lookup k)) (i := 3) ⟨rfl, by decide, .inl fx.g_BadMachine⟩ fx.ex_BadMachine rfl rfl (fun a oe cls d pn hz hv => (b_one (s_ret (e_tup (a_cons e_str (a_cons (e_xf (pf := (fun k => ([1, 2, 7] : List Nat).contains k)) 0 rfl (by decide) hz hv fx.xf_at (e_var 3 rfl (.inl rfl))) a_nil)))))) .nil)))
    (b_one (s_ret e_non)))
/-! ### Machine.__eq__ -/
abbrev N_Machine___eq__ : List Str := ["self", "other"]
abbrev ps_Machine___eq__ : List Str := ["self", "other"]
noncomputable def ms_Machine___eq__ : SM := (mRet (mAndV (mIsi [.own 14] (mVar 1)) (mAndV (mBin eqD (mFld [14] 8 (mVar 0)) (mFld [14] 8 (mVar 1))) (mBin eqD (mFld [14] 9 (mVar 0)) (mFld [14] 9 (mVar 1))))))
noncomputable def m_Machine___eq__ : FM := runDef 2 2 ms_Machine___eq__
theorem sc_Machine___eq__ : FnScope N_Machine___eq__ ps_Machine___eq__ (defScope (inClass (top 17) 1)) := ⟨rfl, rfl, rfl, by decide +kernel, rfl, by decide +kernel, by decide +kernel⟩
theorem F_Machine___eq__ {P : Program} {w : World} {K : Fg} {mg : Str → Option Value} {base : Heap} (fx : Fx P K mg) : ∃ fd, FunD K "__eq__" "Machine.__eq__" (defArgs (inClass (top 17) 1)) (defBody (inClass (top 17) 1)) (defScope (inClass (top 17) 1)) [] [] (He.ma K (He.ga K (cname 14)) "__eq__") fd ∧ FnG P w K mg base (L2.CX P w) 1 (He.ma K (He.ga K (cname 14)) "__eq__") fd ps_Machine___eq__ (spF ⟨K, none, [14]⟩ 2 m_Machine___eq__) := by
  obtain ⟨fd, D⟩ := fx.D_Machine___eq__
  have nd : N_Machine___eq__.Nodup := sc_Machine___eq__.nd
  refine ⟨fd, D, d_ok (cs := [14]) D sc_Machine___eq__ fun cdv A outer s H E hr => ?_⟩
  have tk0 : ∃ W, Takes (cxOf (L2.CX P w) P w K mg base N_Machine___eq__ "Machine.__eq__" (defScope (inClass (top 17) 1)) (He.ma K (He.ga K (cname 14)) "__eq__") cdv A outer s H E) W := ⟨_, takes_of rfl rfl rfl rfl⟩
  exact (b_one (s_ret (e_and (e_isi (.own 14) fx.ins fx.isi_3 rfl fx.f_isinstance (e_var 1 rfl (.inl rfl)) (cls_own fx.g_Machine rfl)) (e_and (e_cmp1 (c_eq hr.u64) (e_fld [14] 8 rfl (by decide) fx.fo_tables (e_var 0 rfl (.inl rfl))) (e_fld [14] 8 rfl (by decide) fx.fo_tables (e_var 1 rfl (.inl rfl))) rfl) (e_one (e_cmp1 (c_eq hr.u64) (e_fld [14] 9 rfl (by decide) fx.fo_words (e_var 0 rfl (.inl rfl))) (e_fld [14] 9 rfl (by decide) fx.fo_words (e_var 1 rfl (.inl rfl))) rfl))))))
/-! ### _law_case_right -/
abbrev N__law_case_right : List Str := ["_law_box_here", "_law_deeds", "_law_tables_here", "_law_machine", "_law_sorts", "_law_deed", "_law_passed", "_law_many", "_law_made", "_law_words_here", "_law_handed", "_law_told", "_law_word", "_law_due", "_law_sort", "_law_other", "_law_one", "_law_at", "_law_odd", "_law_value", "_law_kind"]
abbrev ps__law_case_right : List Str := ["_law_box_here"]
noncomputable def ms__law_case_right : SM := (mSeq (mSet 1 (mCallU m__law_pick [.p 0, .p 1] (([] : List V).map litV) (aCons (mVar 0) (aCons (mN (mLst (aCons (mC (.int 1)) (aCons (mC (.int 2)) (aCons (mC (.int 3)) (aCons (mC (.int 2)) (aCons (mC (.int 2)) (aCons (mC (.int 3)) (aCons (mC (.int 2)) (aCons (mC (.int 1)) (aCons (mC (.int 3)) (aCons (mC (.int 12)) aNil)))))))))))) aNil)) aNil))
  (mSeq (mSet 2 (mCallU m__law_tables [.p 0, .p 1, .p 2] (([] : List V).map litV) (aCons (mVar 0) (aCons (mIf (mTst (mBin eqD (mVar 1) (mC (.int 12)))) (mC (.int 2)) (mC (.int 4))) (aCons (mVar 1) aNil))) aNil))
  (mSeq (mSet 3 (mN (mMakeU m_Machine___init__ [.p 1, .p 2] (([.non] : List V).map litV) (aCons (mVar 2) (aCons (mIf (mTst (mBin eqD (mCallU m__law_take [.p 0, .p 1] (([] : List V).map litV) (aCons (mVar 0) (aCons (mC (.int 2)) aNil)) aNil) (mC (.int 0)))) (mCallU m__law_words [.p 0, .p 1] (([] : List V).map litV) (aCons (mVar 0) (aCons (mVar 2) aNil)) aNil) (mC .non)) aNil)) aNil)))
  (mSeq (mSet 4 (mN (mLc (iRange1 (aCons (mVar 1) aNil)) (gN 5) mYes (mCallU m__law_pick [.p 0, .p 1] (([] : List V).map litV) (aCons (mVar 0) (aCons (mN (mLst (aCons (mCallU m__law_take [.p 0, .p 1] (([] : List V).map litV) (aCons (mVar 0) (aCons (mC (.int 3)) aNil)) aNil) (aCons (mBin subD (mBin powD (mC (.int 10)) (mC (.int 6))) (mCallU m__law_take [.p 0, .p 1] (([] : List V).map litV) (aCons (mVar 0) (aCons (mC (.int 2)) aNil)) aNil)) aNil)))) aNil)) aNil) [5])))
  (mSeq (mSet 6 (mIf (mTst (mBin eqD (mCallU m__law_take [.p 0, .p 1] (([] : List V).map litV) (aCons (mVar 0) (aCons (mC (.int 2)) aNil)) aNil) (mC (.int 0)))) (mCelN (mCallN listC (aCons (mVar 4) aNil))) (mCall tupleD (aCons (mVar 4) aNil))))
  (mSeq (mSet 7 (mFld [14] 6 (mVar 3)))
  (mSeq (mSetN 8 (mLst (aCons (mCallU m_sort_words [.k 0, .k 1] (([] : List V).map litV) aNil (aCons (mVar 3) (aCons (mVar 6) aNil))) (aCons (mCallU m_silent_words [.k 0] (([] : List V).map litV) aNil (aCons (mVar 3) aNil)) (aCons (mCallU m_button_words [.p 0, .p 1] (([] : List V).map litV) (aCons (mVar 3) (aCons (mVar 6) aNil)) aNil) aNil)))))
  (mSeq (mSet 9 (mCallU m__law_words [.p 0, .p 1] (([] : List V).map litV) (aCons (mVar 0) (aCons (mVar 2) aNil)) aNil))
  (mSeq (mSet 10 (mN (mLc (iSeq (mVar 9)) (gN 11) mYes (mCelN (mLc (iSeq (mVar 11)) (gN 12) mYes (mN (mCallN listC (aCons (mVar 12) aNil))) [12])) [11])))
  (mSeq (mExpr (mMet lmAppend (mVar 8) (aCons (mCallU m_with_words [.p 0, .p 1] (([] : List V).map litV) (aCons (mVar 3) (aCons (mVar 10) aNil)) aNil) aNil)))
  (mSeq (mSet 11 (mBin ixD (mVar 10) (mC (.int 0))))
  (mSeq (mAsg (gSubD (mVar 11) (mC (.int 0))) (mN (mLst (aCons (mC (.int 5)) (aCons (mC (.int 5)) aNil)))))
  (mSeq (mIfS (mTru (mIsi [.ty "list"] (mVar 6))) (mAsg (gSubD (mVar 6) (mC (.int 0))) (mC (.int 77))) mNx)
  (mSeq (mSet 13 (mN (mLst (aCons (mCall tupleD (aCons (mN (mLc (iSeq (mVar 4)) (gN 14) mYes (mBin mulD (mTup (aCons (mTup (aCons (mVar 14) (aCons (mC (.int 0)) aNil))) aNil)) (mVar 7)) [14])) aNil)) (aCons (mCall tupleD (aCons (mBin mulD (mN (mLst (aCons (mBin mulD (mTup (aCons (mTup (aCons (mC (.int 0)) (aCons (mC (.int 0)) aNil))) aNil)) (mVar 7)) aNil))) (mVar 1)) aNil)) (aCons (mCall tupleD (aCons (mN (mLc (iSeq (mVar 4)) (gN 14) mYes (mBin mulD (mTup (aCons (mTup (aCons (mC (.int 0)) (aCons (mVar 14) aNil))) aNil)) (mVar 7)) [14])) aNil)) (aCons (mCall tupleD (aCons (mN (mLc (iSeq (mVar 9)) (gN 11) mYes (mCall tupleD (aCons (mVar 11) aNil)) [11])) aNil)) aNil)))))))
  (mSeq (mSeq (mFz 8) (mFor (iZip (aCons (mVar 8) (aCons (mVar 13) aNil))) (gT 2 (gsCons (gN 15) (gsCons (gN 16) gsNil))) (mIfS (mTst (mBin neD (mCall reprD (aCons (mN (mLst (aCons (mFld [14] 8 (mVar 15)) (aCons (mFld [14] 9 (mVar 15)) aNil)))) aNil)) (mCall reprD (aCons (mN (mLst (aCons (mFld [14] 8 (mVar 3)) (aCons (mVar 16) aNil)))) aNil)))) (mRet (mC (.bl false))) mNx)))
  (mSeq (mIfS (mOrT (mTst (mCmpI true 14 m_Machine___eq__ (mCallU m_silent_words [.p 0] (([] : List V).map litV) (aCons (mVar 3) aNil) aNil) (mBin ixD (mVar 8) (mC (.int 1))))) (mTst (mCmpI true 14 m_Machine___eq__ (mCallU m_with_words [.p 0, .p 1] (([] : List V).map litV) (aCons (mVar 3) (aCons (mC .non) aNil)) aNil) (mN (mMakeU m_Machine___init__ [.p 1, .d 0] (([.non] : List V).map litV) (aCons (mVar 2) aNil) aNil))))) (mRet (mC (.bl false))) mNx)
  (mSeq (mSet 17 (mCallU m__law_take [.p 0, .p 1] (([] : List V).map litV) (aCons (mVar 0) (aCons (mVar 1) aNil)) aNil))
  (mSeq (mSet 18 (mCallU m__law_pick [.p 0, .p 1] (([] : List V).map litV) (aCons (mVar 0) (aCons (mN (mLst (aCons (mBin subD (mC (.int 0)) (mC (.int 1))) (aCons (mC (.bl true)) (aCons (mC .non) (aCons (mC (.str "0")) (aCons (mBin addD (mBin powD (mC (.int 10)) (mC (.int 6))) (mC (.int 1))) (aCons (mTup (aCons (mC (.int 0)) aNil)) aNil)))))))) aNil)) aNil))
  (mSeq (mFor (iSeq (mTup (aCons (mC .non) (aCons (mBin mulD (mC (.str "0")) (mVar 1)) (aCons (mSlice (mVar 4) (oSome (mC (.int 1))) oNone) (aCons (mBin addD (mVar 4) (mN (mLst (aCons (mC (.int 0)) aNil)))) (aCons (mBin addD (mBin addD (mSlice (mVar 4) oNone (oSome (mVar 17))) (mN (mLst (aCons (mVar 18) aNil)))) (mSlice (mVar 4) (oSome (mBin addD (mVar 17) (mC (.int 1)))) oNone)) (aCons (mCall tupleD (aCons (mBin addD (mBin addD (mSlice (mVar 4) oNone (oSome (mVar 17))) (mN (mLst (aCons (mVar 18) aNil)))) (mSlice (mVar 4) (oSome (mBin addD (mVar 17) (mC (.int 1)))) oNone)) aNil)) (aCons (mC (.int 0)) aNil))))))))) (gN 19) (mIfS (mTst (mBin neD (mN (mLc (iRange1 (aCons (mC (.int 2)) aNil)) (gN 20) (mTst (mBin neD (mCallU m__law_refused [.p 0, .p 1, .p 2] (([] : List V).map litV) (aCons (mVar 3) (aCons (mVar 20) (aCons (mVar 19) aNil))) aNil) (mTup (aCons (mC (.str "refused")) (aCons (mCall reprD (aCons (mVar 19) aNil)) aNil))))) (mVar 20) [20])) (mN (mLst aNil)))) (mRet (mC (.bl false))) mNx))
  (mRet (mAndV (mBin eqD (mCallU m__law_refused [.p 0, .p 1, .p 2] (([] : List V).map litV) (aCons (mVar 3) (aCons (mC (.int 2)) (aCons (mBin addD (mVar 9) (mVar 9)) aNil))) aNil) (mTup (aCons (mC (.str "machine")) (aCons (mBin subD (mC (.int 0)) (mC (.int 2))) aNil)))) (mBin eqD (mCallU m__law_refused [.p 0, .p 1, .p 2] (([] : List V).map litV) (aCons (mVar 3) (aCons (mC (.int 2)) (aCons (mBin addD (mBin addD (mSlice (mVar 9) oNone (oSome (mVar 17))) (mN (mLst (aCons (mBin addD (mBin ixD (mVar 9) (mVar 17)) (mN (mLst (aCons (mC (.int 0)) aNil)))) aNil)))) (mSlice (mVar 9) (oSome (mBin addD (mVar 17) (mC (.int 1)))) oNone)) aNil))) aNil) (mTup (aCons (mC (.str "machine")) (aCons (mBin addD (mVar 1) (mVar 17)) aNil)))))))))))))))))))))))))
noncomputable def m__law_case_right : FM := runDef 1 21 ms__law_case_right
theorem sc__law_case_right : FnScope N__law_case_right ps__law_case_right (defScope (top 38)) := ⟨rfl, rfl, rfl, by decide +kernel, rfl, by decide +kernel, by decide +kernel⟩
theorem F__law_case_right {P : Program} {w : World} {K : Fg} {mg : Str → Option Value} {base : Heap} (fx : Fx P K mg) : ∃ fd, FunD K "_law_case_right" "_law_case_right" (defArgs (top 38)) (defBody (top 38)) (defScope (top 38)) [] [] (He.ga K "_law_case_right") fd ∧ FnG P w K mg base (L2.CX P w) 11 (He.ga K "_law_case_right") fd ps__law_case_right (spF ⟨K, none, [14]⟩ 1 m__law_case_right) := by
  obtain ⟨fd, D⟩ := fx.D__law_case_right
  obtain ⟨fd__law_pick, D__law_pick, G__law_pick⟩ := F__law_pick (P := P) (w := w) (base := base) fx
  have kb_0 := kb0 (ps := ps__law_pick) D__law_pick 2 [] [.p 0, .p 1] (fun _ _ _ _ _ _ us ws h1 h2 => match us, ws, h1, h2 with | [_, _], [], _, _ => rfl)
  obtain ⟨fd__law_tables, D__law_tables, G__law_tables⟩ := F__law_tables (P := P) (w := w) (base := base) fx
  have kb_1 := kb0 (ps := ps__law_tables) D__law_tables 3 [] [.p 0, .p 1, .p 2] (fun _ _ _ _ _ _ us ws h1 h2 => match us, ws, h1, h2 with | [_, _, _], [], _, _ => rfl)
  obtain ⟨fd_Machine___init__, D_Machine___init__, G_Machine___init__⟩ := F_Machine___init__ (P := P) (w := w) (base := base) fx
  have kb_2 := kb1 (ps := ps_Machine___init__) D_Machine___init__ 3 [] [.p 0, .p 1, .p 2] (by simp) (fun _ _ _ _ _ _ _ us ws its h1 h2 h3 => match us, ws, its, h1, h2, h3 with | [_, _, _], [], [_], _, _, _ => ⟨_, rfl, rfl⟩)
  obtain ⟨fd__law_take, D__law_take, G__law_take⟩ := F__law_take (P := P) (w := w) (base := base) fx
  have kb_3 := kb0 (ps := ps__law_take) D__law_take 2 [] [.p 0, .p 1] (fun _ _ _ _ _ _ us ws h1 h2 => match us, ws, h1, h2 with | [_, _], [], _, _ => rfl)
  obtain ⟨fd__law_words, D__law_words, G__law_words⟩ := F__law_words (P := P) (w := w) (base := base) fx
  have kb_4 := kb0 (ps := ps__law_words) D__law_words 2 [] [.p 0, .p 1] (fun _ _ _ _ _ _ us ws h1 h2 => match us, ws, h1, h2 with | [_, _], [], _, _ => rfl)
  obtain ⟨fd_sort_words, D_sort_words, G_sort_words⟩ := F_sort_words (P := P) (w := w) (base := base) fx
  have kb_5 := kb0 (ps := ps_sort_words) D_sort_words 0 ["machine", "sorts"] [.k 0, .k 1] (fun _ _ _ _ _ _ us ws h1 h2 => match us, ws, h1, h2 with | [], [_, _], _, _ => rfl)
  obtain ⟨fd_silent_words, D_silent_words, G_silent_words⟩ := F_silent_words (P := P) (w := w) (base := base) fx
  have kb_6 := kb0 (ps := ps_silent_words) D_silent_words 0 ["machine"] [.k 0] (fun _ _ _ _ _ _ us ws h1 h2 => match us, ws, h1, h2 with | [], [_], _, _ => rfl)
  obtain ⟨fd_button_words, D_button_words, G_button_words⟩ := F_button_words (P := P) (w := w) (base := base) fx
  have kb_7 := kb0 (ps := ps_button_words) D_button_words 2 [] [.p 0, .p 1] (fun _ _ _ _ _ _ us ws h1 h2 => match us, ws, h1, h2 with | [_, _], [], _, _ => rfl)
  obtain ⟨fd_with_words, D_with_words, G_with_words⟩ := F_with_words (P := P) (w := w) (base := base) fx
  have kb_8 := kb0 (ps := ps_with_words) D_with_words 2 [] [.p 0, .p 1] (fun _ _ _ _ _ _ us ws h1 h2 => match us, ws, h1, h2 with | [_, _], [], _, _ => rfl)
  obtain ⟨fd_Machine___eq__, D_Machine___eq__, G_Machine___eq__⟩ := F_Machine___eq__ (P := P) (w := w) (base := base) fx
  have kb_9 := kb0 (ps := ps_Machine___eq__) D_Machine___eq__ 2 [] [.p 0, .p 1] (fun _ _ _ _ _ _ us ws h1 h2 => match us, ws, h1, h2 with | [_, _], [], _, _ => rfl)
  have kb_10 := kb0 (ps := ps_silent_words) D_silent_words 1 [] [.p 0] (fun _ _ _ _ _ _ us ws h1 h2 => match us, ws, h1, h2 with | [_], [], _, _ => rfl)
  have kb_11 := kb1 (ps := ps_Machine___init__) D_Machine___init__ 2 [] [.p 0, .p 1, .d 0] (by simp) (fun _ _ _ _ _ _ _ us ws its h1 h2 h3 => match us, ws, its, h1, h2, h3 with | [_, _], [], [_], _, _, _ => ⟨_, rfl, rfl⟩)
  obtain ⟨fd__law_refused, D__law_refused, G__law_refused⟩ := F__law_refused (P := P) (w := w) (base := base) fx
  have kb_12 := kb0 (ps := ps__law_refused) D__law_refused 3 [] [.p 0, .p 1, .p 2] (fun _ _ _ _ _ _ us ws h1 h2 => match us, ws, h1, h2 with | [_, _, _], [], _, _ => rfl)
  have nd : N__law_case_right.Nodup := sc__law_case_right.nd
  refine ⟨fd, D, d_ok (cs := [14]) D sc__law_case_right fun cdv A outer s H E hr => ?_⟩
  have tk0 : ∃ W, Takes (cxOf (L2.CX P w) P w K mg base N__law_case_right "_law_case_right" (defScope (top 38)) (He.ga K "_law_case_right") cdv A outer s H E) W := ⟨_, takes_of rfl rfl rfl rfl⟩
  exact (b_cons (s_set 1 nd rfl (.inl rfl) (e_call noX_none G__law_pick (hr.mono (by decide : 2 ≤ _)) (by rfl) fx.g__law_pick D__law_pick.kp kb_0 rfl rfl (a_cons (e_var 0 rfl (.inr (.inl rfl))) (a_cons (e_n (n_lst (a_cons e_int (a_cons e_int (a_cons e_int (a_cons e_int (a_cons e_int (a_cons e_int (a_cons e_int (a_cons e_int (a_cons e_int (a_cons e_int a_nil)))))))))))) a_nil)) (len_cons (len_cons len_nil))))
    (b_cons (s_set 2 nd rfl (.inl rfl) (e_call noX_none G__law_tables (hr.mono (by decide : 3 ≤ _)) (by rfl) fx.g__law_tables D__law_tables.kp kb_1 rfl rfl (a_cons (e_var 0 rfl (.inr (.inl rfl))) (a_cons (e_if (t_cmp (c_eq hr.u64) (e_var 1 rfl (.inl rfl)) e_int rfl) e_int e_int) (a_cons (e_var 1 rfl (.inl rfl)) a_nil))) (len_cons (len_cons (len_cons len_nil)))))
    (b_cons (s_set 3 nd rfl (.inr rfl) (e_n (n_make (c := 14) noX_none (by decide) fx.mk_Machine G_Machine___init__ (hr.mono (by decide : 7 ≤ _)) rfl fx.g_Machine kb_2 rfl rfl rfl (a_cons (e_var 2 rfl (.inl rfl)) (a_cons (e_if (t_cmp (c_eq hr.u64) (e_call noX_none G__law_take (hr.mono (by decide : 1 ≤ _)) (by rfl) fx.g__law_take D__law_take.kp kb_3 rfl rfl (a_cons (e_var 0 rfl (.inr (.inl rfl))) (a_cons e_int a_nil)) (len_cons (len_cons len_nil))) e_int rfl) (e_call noX_none G__law_words (hr.mono (by decide : 2 ≤ _)) (by rfl) fx.g__law_words D__law_words.kp kb_4 rfl rfl (a_cons (e_var 0 rfl (.inr (.inl rfl))) (a_cons (e_var 2 rfl (.inl rfl)) a_nil)) (len_cons (len_cons len_nil))) e_non) a_nil)) (len_cons (len_cons len_nil)))))
    (b_cons (s_stF 4 (st_lc (own := [("_law_deed", 5)]) rfl nd rfl rfl (sw_true rfl rfl rfl rfl) (i_range1 (by rfl) fx.f_range (a_cons (e_var 1 rfl (.inl rfl)) a_nil)) (blkOk_by (own := [("_law_deed", 5)]) (by kernel_rfl)) (fun _ _ _ _ _ => (gl_name 5 (by decide) nd rfl (.inl rfl) (.inr rfl))) (fun _ _ _ _ _ => ts_nil) (fun _ _ _ _ _ => (e_call noX_none G__law_pick (hr.mono (by decide : 2 ≤ _)) (by rfl) fx.g__law_pick D__law_pick.kp kb_0 rfl rfl (a_cons (e_var 0 rfl (.inr (.inl rfl))) (a_cons (e_n (n_lst (a_cons (e_call noX_none G__law_take (hr.mono (by decide : 1 ≤ _)) (by rfl) fx.g__law_take D__law_take.kp kb_3 rfl rfl (a_cons (e_var 0 rfl (.inr (.inl rfl))) (a_cons e_int a_nil)) (len_cons (len_cons len_nil))) (a_cons (e_sub (e_pow e_int e_int) (e_call noX_none G__law_take (hr.mono (by decide : 1 ≤ _)) (by rfl) fx.g__law_take D__law_take.kp kb_3 rfl rfl (a_cons (e_var 0 rfl (.inr (.inl rfl))) (a_cons e_int a_nil)) (len_cons (len_cons len_nil)))) a_nil)))) a_nil)) (len_cons (len_cons len_nil))))))
    (b_cons (s_set 6 nd rfl (.inl rfl) (e_if (t_cmp (c_eq hr.u64) (e_call noX_none G__law_take (hr.mono (by decide : 1 ≤ _)) (by rfl) fx.g__law_take D__law_take.kp kb_3 rfl rfl (a_cons (e_var 0 rfl (.inr (.inl rfl))) (a_cons e_int a_nil)) (len_cons (len_cons len_nil))) e_int rfl) (e_cel (n_listc fx.f_list rfl (a_cons (e_var 4 rfl (.inl rfl)) a_nil))) (e_tupc fx.f_tuple rfl (a_cons (e_var 4 rfl (.inl rfl)) a_nil))))
    (b_cons (s_set 7 nd rfl (.inr rfl) (e_fld [14] 6 rfl (by decide) fx.fo_states (e_var 3 rfl (.inr (.inl rfl)))))
    (b_cons (s_setN 8 nd rfl (.inl rfl) (n_lst (a_cons (e_callK0 noX_none G_sort_words (hr.mono (by decide : 9 ≤ _)) (by rfl) fx.g_sort_words D_sort_words.kp kb_5 rfl rfl (k_cons (e_var 3 rfl (.inr (.inl rfl))) (k_cons (e_var 6 rfl (.inl rfl)) k_nil)) (len_cons (len_cons len_nil))) (a_cons (e_callK0 noX_none G_silent_words (hr.mono (by decide : 10 ≤ _)) (by rfl) fx.g_silent_words D_silent_words.kp kb_6 rfl rfl (k_cons (e_var 3 rfl (.inr (.inl rfl))) k_nil) (len_cons len_nil)) (a_cons (e_call noX_none G_button_words (hr.mono (by decide : 9 ≤ _)) (by rfl) fx.g_button_words D_button_words.kp kb_7 rfl rfl (a_cons (e_var 3 rfl (.inr (.inl rfl))) (a_cons (e_var 6 rfl (.inl rfl)) a_nil)) (len_cons (len_cons len_nil))) a_nil)))))
    (b_cons (s_set 9 nd rfl (.inl rfl) (e_call noX_none G__law_words (hr.mono (by decide : 2 ≤ _)) (by rfl) fx.g__law_words D__law_words.kp kb_4 rfl rfl (a_cons (e_var 0 rfl (.inr (.inl rfl))) (a_cons (e_var 2 rfl (.inl rfl)) a_nil)) (len_cons (len_cons len_nil))))
    (b_cons (s_stF 10 (st_lc (own := [("_law_told", 11)]) rfl nd rfl rfl (sw_true rfl rfl rfl rfl) (i_seq (e_var 9 rfl (.inl rfl))) (blkOk_by (own := [("_law_told", 11)]) (by kernel_rfl)) (fun _ _ _ _ _ => (gl_name 11 (by decide) nd rfl (.inl rfl) (.inr rfl))) (fun _ _ _ _ _ => ts_nil) (fun _ _ _ _ _ => (e_cel (n_lc (own := [("_law_word", 12)]) rfl nd (i_seq (e_var 11 rfl (.inl rfl))) (blkOk_by (own := [("_law_word", 12)]) (by kernel_rfl)) (fun _ _ _ _ _ => (gl_name 12 (by decide) nd rfl (.inl rfl) (.inr rfl))) (fun _ _ _ _ _ => ts_nil) (fun _ _ _ _ _ => (e_n (n_listc fx.f_list rfl (a_cons (e_var 12 rfl (.inl rfl)) a_nil)))))))))
    (b_cons (s_expr (e_append (e_var 8 rfl (.inl rfl)) (a_cons (e_call noX_none G_with_words (hr.mono (by decide : 8 ≤ _)) (by rfl) fx.g_with_words D_with_words.kp kb_8 rfl rfl (a_cons (e_var 3 rfl (.inr (.inl rfl))) (a_cons (e_var 10 rfl (.inl rfl)) a_nil)) (len_cons (len_cons len_nil))) a_nil)))
    (b_cons (s_set 11 nd rfl (.inl rfl) (e_ix hr.u1 (e_var 10 rfl (.inl rfl)) e_int (fun _ _ => rfl)))
    (b_cons (s_asg (e_n (n_lst (a_cons e_int (a_cons e_int a_nil)))) (g_sub hr.u1 (e_var 11 rfl (.inl rfl)) e_int tk0))
    (b_cons (s_if (t_val (e_isi (.ty "list") fx.ins fx.isi_4 rfl fx.f_isinstance (e_var 6 rfl (.inl rfl)) (cls_ty fx.f_list rfl DL.boot_list'))) (b_one (s_asg e_int (g_sub hr.u1 (e_var 6 rfl (.inl rfl)) e_int tk0))) b_nil)
    (b_cons (s_set 13 nd rfl (.inl rfl) (e_n (n_lst (a_cons (e_tupc fx.f_tuple rfl (a_cons (e_n (n_lc (own := [("_law_sort", 14)]) rfl nd (i_seq (e_var 4 rfl (.inl rfl))) (blkOk_by (own := [("_law_sort", 14)]) (by kernel_rfl)) (fun _ _ _ _ _ => (gl_name 14 (by decide) nd rfl (.inl rfl) (.inr rfl))) (fun _ _ _ _ _ => ts_nil) (fun _ _ _ _ _ => (e_mul (e_tup (a_cons (e_tup (a_cons (e_var 14 rfl (.inl rfl)) (a_cons e_int a_nil))) a_nil)) (e_var 7 rfl (.inr (.inl rfl))))))) a_nil)) (a_cons (e_tupc fx.f_tuple rfl (a_cons (e_mul (e_n (n_lst (a_cons (e_mul (e_tup (a_cons (e_tup (a_cons e_int (a_cons e_int a_nil))) a_nil)) (e_var 7 rfl (.inr (.inl rfl)))) a_nil))) (e_var 1 rfl (.inl rfl))) a_nil)) (a_cons (e_tupc fx.f_tuple rfl (a_cons (e_n (n_lc (own := [("_law_sort", 14)]) rfl nd (i_seq (e_var 4 rfl (.inl rfl))) (blkOk_by (own := [("_law_sort", 14)]) (by kernel_rfl)) (fun _ _ _ _ _ => (gl_name 14 (by decide) nd rfl (.inl rfl) (.inr rfl))) (fun _ _ _ _ _ => ts_nil) (fun _ _ _ _ _ => (e_mul (e_tup (a_cons (e_tup (a_cons e_int (a_cons (e_var 14 rfl (.inl rfl)) a_nil))) a_nil)) (e_var 7 rfl (.inr (.inl rfl))))))) a_nil)) (a_cons (e_tupc fx.f_tuple rfl (a_cons (e_n (n_lc (own := [("_law_told", 11)]) rfl nd (i_seq (e_var 9 rfl (.inl rfl))) (blkOk_by (own := [("_law_told", 11)]) (by kernel_rfl)) (fun _ _ _ _ _ => (gl_name 11 (by decide) nd rfl (.inl rfl) (.inr rfl))) (fun _ _ _ _ _ => ts_nil) (fun _ _ _ _ _ => (e_tupc fx.f_tuple rfl (a_cons (e_var 11 rfl (.inl rfl)) a_nil))))) a_nil)) a_nil)))))))
    (b_cons (s_fz 8 (s_for (passes_of rfl) rfl (i_zip (by rfl) fx.f_zip (a_cons (e_var 8 rfl (.inl rfl)) (a_cons (e_var 13 rfl (.inl rfl)) a_nil))) (g_tup rfl (gs_cons (g_name 15 nd rfl (.inl rfl)) (gs_cons (g_name 16 nd rfl (.inl rfl)) gs_nil))) (b_one (s_if (t_cmp (c_ne hr.u64) (e_repr hr fx.f_repr rfl (a_cons (e_n (n_lst (a_cons (e_fld [14] 8 rfl (by decide) fx.fo_tables (e_var 15 rfl (.inl rfl))) (a_cons (e_fld [14] 9 rfl (by decide) fx.fo_words (e_var 15 rfl (.inl rfl))) a_nil)))) a_nil)) (e_repr hr fx.f_repr rfl (a_cons (e_n (n_lst (a_cons (e_fld [14] 8 rfl (by decide) fx.fo_tables (e_var 3 rfl (.inr (.inl rfl)))) (a_cons (e_var 16 rfl (.inl rfl)) a_nil)))) a_nil)) rfl) (b_one (s_ret e_bl)) b_nil))))
    (b_cons (s_if (t_w (w_or (t_neI (c := 14) noX_none fx.eq_Machine G_Machine___eq__ (hr.mono (by decide : 2 ≤ _)) kb_9 (e_call noX_none G_silent_words (hr.mono (by decide : 10 ≤ _)) (by rfl) fx.g_silent_words D_silent_words.kp kb_10 rfl rfl (a_cons (e_var 3 rfl (.inr (.inl rfl))) a_nil) (len_cons len_nil)) (e_ix hr.u1 (e_var 8 rfl (.inl rfl)) e_int (fun _ _ => rfl))) (w_or1 (t_neI (c := 14) noX_none fx.eq_Machine G_Machine___eq__ (hr.mono (by decide : 2 ≤ _)) kb_9 (e_call noX_none G_with_words (hr.mono (by decide : 8 ≤ _)) (by rfl) fx.g_with_words D_with_words.kp kb_8 rfl rfl (a_cons (e_var 3 rfl (.inr (.inl rfl))) (a_cons e_non a_nil)) (len_cons (len_cons len_nil))) (e_n (n_make (c := 14) noX_none (by decide) fx.mk_Machine G_Machine___init__ (hr.mono (by decide : 7 ≤ _)) rfl fx.g_Machine kb_11 rfl rfl rfl (a_cons (e_var 2 rfl (.inl rfl)) a_nil) (len_cons len_nil))))))) (b_one (s_ret e_bl)) b_nil)
    (b_cons (s_set 17 nd rfl (.inl rfl) (e_call noX_none G__law_take (hr.mono (by decide : 1 ≤ _)) (by rfl) fx.g__law_take D__law_take.kp kb_3 rfl rfl (a_cons (e_var 0 rfl (.inr (.inl rfl))) (a_cons (e_var 1 rfl (.inl rfl)) a_nil)) (len_cons (len_cons len_nil))))
    (b_cons (s_set 18 nd rfl (.inl rfl) (e_call noX_none G__law_pick (hr.mono (by decide : 2 ≤ _)) (by rfl) fx.g__law_pick D__law_pick.kp kb_0 rfl rfl (a_cons (e_var 0 rfl (.inr (.inl rfl))) (a_cons (e_n (n_lst (a_cons (e_sub e_int e_int) (a_cons e_bl (a_cons e_non (a_cons e_str (a_cons (e_add (e_pow e_int e_int) e_int) (a_cons (e_tup (a_cons e_int a_nil)) a_nil)))))))) a_nil)) (len_cons (len_cons len_nil))))
    (b_cons (s_for (passes_of rfl) rfl (i_seq (e_tup (a_cons e_non (a_cons (e_mul e_str (e_var 1 rfl (.inl rfl))) (a_cons (e_slice (e_var 4 rfl (.inl rfl)) (o_some e_int) o_none) (a_cons (e_add (e_var 4 rfl (.inl rfl)) (e_n (n_lst (a_cons e_int a_nil)))) (a_cons (e_add (e_add (e_slice (e_var 4 rfl (.inl rfl)) o_none (o_some (e_var 17 rfl (.inl rfl)))) (e_n (n_lst (a_cons (e_var 18 rfl (.inl rfl)) a_nil)))) (e_slice (e_var 4 rfl (.inl rfl)) (o_some (e_add (e_var 17 rfl (.inl rfl)) e_int)) o_none)) (a_cons (e_tupc fx.f_tuple rfl (a_cons (e_add (e_add (e_slice (e_var 4 rfl (.inl rfl)) o_none (o_some (e_var 17 rfl (.inl rfl)))) (e_n (n_lst (a_cons (e_var 18 rfl (.inl rfl)) a_nil)))) (e_slice (e_var 4 rfl (.inl rfl)) (o_some (e_add (e_var 17 rfl (.inl rfl)) e_int)) o_none)) a_nil)) (a_cons e_int a_nil))))))))) (g_name 19 nd rfl (.inr rfl)) (b_one (s_if (t_cmp (c_ne hr.u64) (e_n (n_lc (own := [("_law_kind", 20)]) rfl nd (i_range1 (by rfl) fx.f_range (a_cons e_int a_nil)) (blkOk_by (own := [("_law_kind", 20)]) (by kernel_rfl)) (fun _ _ _ _ _ => (gl_name 20 (by decide) nd rfl (.inl rfl) (.inr rfl))) (fun _ _ _ _ _ => (ts_one (t_cmp (c_ne hr.u64) (e_call noX_none G__law_refused (hr.mono (by decide : 10 ≤ _)) (by rfl) fx.g__law_refused D__law_refused.kp kb_12 rfl rfl (a_cons (e_var 3 rfl (.inr (.inl rfl))) (a_cons (e_var 20 rfl (.inl rfl)) (a_cons (e_var 19 rfl (.inr (.inl rfl))) a_nil))) (len_cons (len_cons (len_cons len_nil)))) (e_tup (a_cons e_str (a_cons (e_repr hr fx.f_repr rfl (a_cons (e_var 19 rfl (.inr (.inl rfl))) a_nil)) a_nil))) rfl))) (fun _ _ _ _ _ => (e_var 20 rfl (.inl rfl))))) (e_n (n_lst a_nil)) rfl) (b_one (s_ret e_bl)) b_nil)))
    (b_one (s_ret (e_and (e_cmp1 (c_eq hr.u64) (e_call noX_none G__law_refused (hr.mono (by decide : 10 ≤ _)) (by rfl) fx.g__law_refused D__law_refused.kp kb_12 rfl rfl (a_cons (e_var 3 rfl (.inr (.inl rfl))) (a_cons e_int (a_cons (e_add (e_var 9 rfl (.inl rfl)) (e_var 9 rfl (.inl rfl))) a_nil))) (len_cons (len_cons (len_cons len_nil)))) (e_tup (a_cons e_str (a_cons (e_sub e_int e_int) a_nil))) rfl) (e_one (e_cmp1 (c_eq hr.u64) (e_call noX_none G__law_refused (hr.mono (by decide : 10 ≤ _)) (by rfl) fx.g__law_refused D__law_refused.kp kb_12 rfl rfl (a_cons (e_var 3 rfl (.inr (.inl rfl))) (a_cons e_int (a_cons (e_add (e_add (e_slice (e_var 9 rfl (.inl rfl)) o_none (o_some (e_var 17 rfl (.inl rfl)))) (e_n (n_lst (a_cons (e_add (e_ix hr.u1 (e_var 9 rfl (.inl rfl)) (e_var 17 rfl (.inl rfl)) (fun _ _ => rfl)) (e_n (n_lst (a_cons e_int a_nil)))) a_nil)))) (e_slice (e_var 9 rfl (.inl rfl)) (o_some (e_add (e_var 17 rfl (.inl rfl)) e_int)) o_none)) a_nil))) (len_cons (len_cons (len_cons len_nil)))) (e_tup (a_cons e_str (a_cons (e_add (e_var 1 rfl (.inl rfl)) (e_var 17 rfl (.inl rfl))) a_nil))) rfl))))))))))))))))))))))))
/-! ### _law_box -/
abbrev N__law_box : List Str := ["_law_script", "_law_k", "_law_cell"]
abbrev ps__law_box : List Str := ["_law_script", "_law_k"]
noncomputable def ms__law_box : SM := (mSeq (mSet 2 (mBin addD (mBin mulD (mC (.int 5437)) (mVar 1)) (mC (.int 811))))
  (mSeq (mIfS (mTst (mBin ltD (mVar 1) (mCall lenD (aCons (mVar 0) aNil)))) (mSet 2 (mCall absD (aCons (mBin ixD (mVar 0) (mVar 1)) aNil))) (mIfS (mTst (mBin gtD (mCall lenD (aCons (mVar 0) aNil)) (mC (.int 0)))) (mSet 2 (mBin addD (mVar 2) (mBin mulD (mBin modD (mCall intD (aCons (mCall absD (aCons (mBin ixD (mVar 0) (mBin modD (mCall intD (aCons (mVar 1) aNil)) (mCall lenD (aCons (mVar 0) aNil)))) aNil)) aNil)) (mC (.int 2147483477))) (mC (.int 43889))))) mNx))
  (mRet (mCelN (mLst (aCons (mBin ixD (mN (mLst (aCons (mC (.int 0)) (aCons (mVar 2) aNil)))) (mCall intD (aCons (mBin geD (mVar 2) (mBin powD (mC (.int 10)) (mC (.int 18)))) aNil))) (aCons (mBin addD (mBin modD (mCall intD (aCons (mBin addD (mBin mulD (mBin modD (mCall intD (aCons (mVar 2) aNil)) (mC (.int 2147483477))) (mC (.int 39019))) (mBin mulD (mC (.int 25111)) (mVar 1))) aNil)) (mC (.int 2147483477))) (mC (.int 1))) (aCons (mC (.int 0)) aNil))))))))
noncomputable def m__law_box : FM := runDef 2 3 ms__law_box
theorem sc__law_box : FnScope N__law_box ps__law_box (defScope (top 31)) := ⟨rfl, rfl, rfl, by decide +kernel, rfl, by decide +kernel, by decide +kernel⟩
theorem F__law_box {P : Program} {w : World} {K : Fg} {mg : Str → Option Value} {base : Heap} (fx : Fx P K mg) : ∃ fd, FunD K "_law_box" "_law_box" (defArgs (top 31)) (defBody (top 31)) (defScope (top 31)) [] [] (He.ga K "_law_box") fd ∧ FnG P w K mg base (L2.CX P w) 1 (He.ga K "_law_box") fd ps__law_box (spF ⟨K, none, [14]⟩ 2 m__law_box) := by
  obtain ⟨fd, D⟩ := fx.D__law_box
  have nd : N__law_box.Nodup := sc__law_box.nd
  refine ⟨fd, D, d_ok (cs := [14]) D sc__law_box fun cdv A outer s H E hr => ?_⟩
  have tk0 : ∃ W, Takes (cxOf (L2.CX P w) P w K mg base N__law_box "_law_box" (defScope (top 31)) (He.ga K "_law_box") cdv A outer s H E) W := ⟨_, takes_of rfl rfl rfl rfl⟩
  exact (b_cons (s_set 2 nd rfl (.inl rfl) (e_add (e_mul e_int (e_var 1 rfl (.inl rfl))) e_int))
    (b_cons (s_if (t_cmp c_lt (e_var 1 rfl (.inl rfl)) (e_len fx.f_len rfl (a_cons (e_var 0 rfl (.inl rfl)) a_nil)) rfl) (b_one (s_set 2 nd rfl (.inl rfl) (e_abs fx.f_abs rfl (a_cons (e_ix hr.u1 (e_var 0 rfl (.inl rfl)) (e_var 1 rfl (.inl rfl)) (fun _ _ => rfl)) a_nil)))) (b_one (s_if (t_cmp c_gt (e_len fx.f_len rfl (a_cons (e_var 0 rfl (.inl rfl)) a_nil)) e_int rfl) (b_one (s_set 2 nd rfl (.inl rfl) (e_add (e_var 2 rfl (.inl rfl)) (e_mul (e_mod (e_intc fx.f_int rfl (a_cons (e_abs fx.f_abs rfl (a_cons (e_ix hr.u1 (e_var 0 rfl (.inl rfl)) (e_mod (e_intc fx.f_int rfl (a_cons (e_var 1 rfl (.inl rfl)) a_nil)) (e_len fx.f_len rfl (a_cons (e_var 0 rfl (.inl rfl)) a_nil))) (fun _ _ => rfl)) a_nil)) a_nil)) e_int) e_int)))) b_nil)))
    (b_one (s_ret (e_cel (n_lst (a_cons (e_ix hr.u1 (e_n (n_lst (a_cons e_int (a_cons (e_var 2 rfl (.inl rfl)) a_nil)))) (e_intc fx.f_int rfl (a_cons (e_cmp1 c_ge (e_var 2 rfl (.inl rfl)) (e_pow e_int e_int) rfl) a_nil)) (fun _ _ => rfl)) (a_cons (e_add (e_mod (e_intc fx.f_int rfl (a_cons (e_add (e_mul (e_mod (e_intc fx.f_int rfl (a_cons (e_var 2 rfl (.inl rfl)) a_nil)) e_int) e_int) (e_mul e_int (e_var 1 rfl (.inl rfl)))) a_nil)) e_int) e_int) (a_cons e_int a_nil)))))))))
/-! ### law -/
abbrev N_law : List Str := ["_law_script", "_law_k"]
abbrev ps_law : List Str := ["_law_script"]
noncomputable def ms_law : SM := (mSeq (mFor (iRange1 (aCons (mC (.int 3)) aNil)) (gN 1) (mIfS (mNotT (mTru (mCallU m__law_case_right [.p 0] (([] : List V).map litV) (aCons (mCallU m__law_box [.p 0, .p 1] (([] : List V).map litV) (aCons (mVar 0) (aCons (mVar 1) aNil)) aNil) aNil) aNil))) (mRet (mC (.bl false))) mNx))
  (mRet (mC (.bl true))))
noncomputable def m_law : FM := runDef 1 2 ms_law
theorem sc_law : FnScope N_law ps_law (defScope (top 39)) := ⟨rfl, rfl, rfl, by decide +kernel, rfl, by decide +kernel, by decide +kernel⟩
theorem F_law {P : Program} {w : World} {K : Fg} {mg : Str → Option Value} {base : Heap} (fx : Fx P K mg) : ∃ fd, FunD K "law" "law" (defArgs (top 39)) (defBody (top 39)) (defScope (top 39)) [] [] (He.ga K "law") fd ∧ FnG P w K mg base (L2.CX P w) 12 (He.ga K "law") fd ps_law (spF ⟨K, none, [14]⟩ 1 m_law) := by
  obtain ⟨fd, D⟩ := fx.D_law
  obtain ⟨fd__law_case_right, D__law_case_right, G__law_case_right⟩ := F__law_case_right (P := P) (w := w) (base := base) fx
  have kb_0 := kb0 (ps := ps__law_case_right) D__law_case_right 1 [] [.p 0] (fun _ _ _ _ _ _ us ws h1 h2 => match us, ws, h1, h2 with | [_], [], _, _ => rfl)
  obtain ⟨fd__law_box, D__law_box, G__law_box⟩ := F__law_box (P := P) (w := w) (base := base) fx
  have kb_1 := kb0 (ps := ps__law_box) D__law_box 2 [] [.p 0, .p 1] (fun _ _ _ _ _ _ us ws h1 h2 => match us, ws, h1, h2 with | [_, _], [], _, _ => rfl)
  have nd : N_law.Nodup := sc_law.nd
  refine ⟨fd, D, d_ok (cs := [14]) D sc_law fun cdv A outer s H E hr => ?_⟩
  have tk0 : ∃ W, Takes (cxOf (L2.CX P w) P w K mg base N_law "law" (defScope (top 39)) (He.ga K "law") cdv A outer s H E) W := ⟨_, takes_of rfl rfl rfl rfl⟩
  exact (b_cons (s_for (passes_of rfl) rfl (i_range1 (by rfl) fx.f_range (a_cons e_int a_nil)) (g_name 1 nd rfl (.inl rfl)) (b_one (s_if (t_not (t_val (e_call noX_none G__law_case_right (hr.mono (by decide : 11 ≤ _)) (by rfl) fx.g__law_case_right D__law_case_right.kp kb_0 rfl rfl (a_cons (e_call noX_none G__law_box (hr.mono (by decide : 1 ≤ _)) (by rfl) fx.g__law_box D__law_box.kp kb_1 rfl rfl (a_cons (e_var 0 rfl (.inl rfl)) (a_cons (e_var 1 rfl (.inl rfl)) a_nil)) (len_cons (len_cons len_nil))) a_nil) (len_cons len_nil)))) (b_one (s_ret e_bl)) b_nil)))
    (b_one (s_ret e_bl)))
/-! ### the head -/
abbrev PW : Program := PySem.Challenge.pw_hiddenfalls_k07_other_words
def suD_0 : SuD := ⟨1, 0, "BadMachine.__init__", defArgs (inClass (top 2) 0), defBody (inClass (top 2) 0), defScope (inClass (top 2) 0)⟩
theorem suP_0 : SuP PW suD_0 "/claim/cut.py" := ⟨⟨_, _, _, _, _, _, _, _, _, _, _, _, _, _, _, by rfl, by rfl, by rfl, by decide, fun _ => ⟨_, by rfl⟩, fun _ _ _ _ _ _ _ _ _ => by rfl, by rfl, by rfl, by decide, by decide⟩, by rfl, by rfl, by decide +kernel, by rfl, by rfl, by rfl, by decide +kernel, by decide +kernel⟩
def suD_1 : SuD := ⟨7, 0, "Refused.__init__", defArgs (inClass (top 4) 0), defBody (inClass (top 4) 0), defScope (inClass (top 4) 0)⟩
theorem suP_1 : SuP PW suD_1 "/claim/cut.py" := ⟨⟨_, _, _, _, _, _, _, _, _, _, _, _, _, _, _, by rfl, by rfl, by rfl, by decide, fun _ => ⟨_, by rfl⟩, fun _ _ _ _ _ _ _ _ _ => by rfl, by rfl, by rfl, by decide, by decide⟩, by rfl, by rfl, by decide +kernel, by rfl, by rfl, by rfl, by decide +kernel, by decide +kernel⟩
def faL : List He.Fa := [.free "int", .glo "_law_take", .free "len", .free "range", .glo "_law_pick", .free "max", .free "isinstance", .free "tuple", .free "list", .free "bool", .glo "is_integer", .glo "is_number", .glo "is_sequence", .glo "is_below", .int "MOST_WORD" (1000000), .free "all", .glo "BadMachine", .free "super", .free "enumerate", .glo "is_word", .int "MOST_STATES" (40), .int "MOST_DEEDS" (12), .glo "is_table", .glo "checked_words", .glo "first_rows", .free "sorted", .glo "Machine", .mkr "Machine", .glo "Refused", .glo "with_words", .glo "check_sorts", .glo "sort_words", .glo "button_words", .glo "FallError", .free "repr", .glo "_law_tables", .glo "_law_words", .glo "silent_words", .free "zip", .glo "_law_refused", .free "abs", .glo "_law_case_right", .glo "_law_box", .glo "law"]
def fnL : List He.DefD := [⟨("_law_take", none), "_law_take", "_law_take", defArgs (top 32), defBody (top 32), defScope (top 32), [], []⟩,
  ⟨("_law_pick", none), "_law_pick", "_law_pick", defArgs (top 33), defBody (top 33), defScope (top 33), [], []⟩,
  ⟨("_law_tables", none), "_law_tables", "_law_tables", defArgs (top 34), defBody (top 34), defScope (top 34), [], []⟩,
  ⟨("is_sequence", none), "is_sequence", "is_sequence", defArgs (top 15), defBody (top 15), defScope (top 15), [], []⟩,
  ⟨("is_integer", none), "is_integer", "is_integer", defArgs (top 12), defBody (top 12), defScope (top 12), [], []⟩,
  ⟨("is_number", none), "is_number", "is_number", defArgs (top 13), defBody (top 13), defScope (top 13), [], []⟩,
  ⟨("is_below", none), "is_below", "is_below", defArgs (top 14), defBody (top 14), defScope (top 14), [], []⟩,
  ⟨("is_word", none), "is_word", "is_word", defArgs (top 19), defBody (top 19), defScope (top 19), [], []⟩,
  ⟨("checked_words", none), "checked_words", "checked_words", defArgs (top 20), defBody (top 20), defScope (top 20), [], []⟩,
  ⟨("is_table", none), "is_table", "is_table", defArgs (top 18), defBody (top 18), defScope (top 18), [], []⟩,
  ⟨("first_rows", none), "first_rows", "first_rows", defArgs (top 21), defBody (top 21), defScope (top 21), [], []⟩,
  ⟨("Machine", some "__init__"), "__init__", "Machine.__init__", defArgs (inClass (top 17) 0), defBody (inClass (top 17) 0), defScope (inClass (top 17) 0), [.non], []⟩,
  ⟨("_law_words", none), "_law_words", "_law_words", defArgs (top 35), defBody (top 35), defScope (top 35), [], []⟩,
  ⟨("with_words", none), "with_words", "with_words", defArgs (top 25), defBody (top 25), defScope (top 25), [], []⟩,
  ⟨("check_sorts", none), "check_sorts", "check_sorts", defArgs (top 26), defBody (top 26), defScope (top 26), [], []⟩,
  ⟨("sort_words", none), "sort_words", "sort_words", defArgs (top 27), defBody (top 27), defScope (top 27), [], []⟩,
  ⟨("silent_words", none), "silent_words", "silent_words", defArgs (top 28), defBody (top 28), defScope (top 28), [], []⟩,
  ⟨("button_words", none), "button_words", "button_words", defArgs (top 29), defBody (top 29), defScope (top 29), [], []⟩,
  ⟨("_law_refused", none), "_law_refused", "_law_refused", defArgs (top 37), defBody (top 37), defScope (top 37), [], []⟩,
  ⟨("Machine", some "__eq__"), "__eq__", "Machine.__eq__", defArgs (inClass (top 17) 1), defBody (inClass (top 17) 1), defScope (inClass (top 17) 1), [], []⟩,
  ⟨("_law_case_right", none), "_law_case_right", "_law_case_right", defArgs (top 38), defBody (top 38), defScope (top 38), [], []⟩,
  ⟨("_law_box", none), "_law_box", "_law_box", defArgs (top 31), defBody (top 31), defScope (top 31), [], []⟩,
  ⟨("law", none), "law", "law", defArgs (top 39), defBody (top 39), defScope (top 39), [], []⟩]
def suL : List SuD := [suD_0, suD_1]
def xbL : List (Fg → Bool) := [fun K => isiB K [14] [.ty "list", .ty "tuple"],
  inssB [14],
  fun K => isiB K [14] [.ty "int"],
  fun K => isiB K [14] [.ty "bool"],
  supB suD_0 "/claim/cut.py",
  fldB [14] 6,
  fldB [14] 7,
  fldB [14] 8,
  fldB [14] 9,
  fldB [14] 10,
  supB suD_1 "/claim/cut.py",
  exB ([(0, false), (1, false), (2, false), (7, true), (11, false), (12, false)] : List (Nat × Bool)) 7,
  ixB ([(0, true), (1, true), (2, true), (7, true), (11, false), (12, false)] : List (Nat × Bool)) 0,
  ixB ([(0, false), (1, true), (2, false), (7, false), (11, false), (12, false)] : List (Nat × Bool)) 1,
  xfsB [1, 2, 7] 0,
  exB ([(0, false), (1, true), (2, false), (7, false), (11, false), (12, false)] : List (Nat × Bool)) 1,
  fun K => isiB K [14] [.own 14],
  fun K => isiB K [14] [.ty "list"],
  eqKB 14]
theorem fx_of {K : Fg} {h : Heap} {mg : Str → Option Value} (X : K.In h) (G : h.Ns mainGlobals mg) (c : SaysX faL fnL suL (xAll xbL) K) : Fx PW K mg where
  f_int := He.free_ok X G (c.d.fact 0)
  D__law_take := c.d.def_ 0
  g__law_take := He.glo_ok X G (c.d.fact 1)
  f_len := He.free_ok X G (c.d.fact 2)
  D__law_pick := c.d.def_ 1
  f_range := He.free_ok X G (c.d.fact 3)
  g__law_pick := He.glo_ok X G (c.d.fact 4)
  f_max := He.free_ok X G (c.d.fact 5)
  D__law_tables := c.d.def_ 2
  isi_0 := (xAt c 0)
  ins := inssB_ok (xAt c 1)
  f_isinstance := He.free_ok X G (c.d.fact 6)
  f_tuple := He.free_ok X G (c.d.fact 7)
  f_list := He.free_ok X G (c.d.fact 8)
  D_is_sequence := c.d.def_ 3
  isi_1 := (xAt c 2)
  isi_2 := (xAt c 3)
  f_bool := He.free_ok X G (c.d.fact 9)
  D_is_integer := c.d.def_ 4
  g_is_integer := He.glo_ok X G (c.d.fact 10)
  D_is_number := c.d.def_ 5
  g_is_number := He.glo_ok X G (c.d.fact 11)
  D_is_below := c.d.def_ 6
  g_is_sequence := He.glo_ok X G (c.d.fact 12)
  g_is_below := He.glo_ok X G (c.d.fact 13)
  i_MOST_WORD := He.int_ok X G (c.d.fact 14)
  f_all := He.free_ok X G (c.d.fact 15)
  D_is_word := c.d.def_ 7
  su_BadMachine := sup_ok suP_0 (c.suOf 0) (xAt c 4)
  g_BadMachine := He.glo_ok X G (c.d.fact 16)
  f_super := He.free_ok X G (c.d.fact 17)
  f_enumerate := He.free_ok X G (c.d.fact 18)
  g_is_word := He.glo_ok X G (c.d.fact 19)
  D_checked_words := c.d.def_ 8
  i_MOST_STATES := He.int_ok X G (c.d.fact 20)
  D_is_table := c.d.def_ 9
  D_first_rows := c.d.def_ 10
  i_MOST_DEEDS := He.int_ok X G (c.d.fact 21)
  g_is_table := He.glo_ok X G (c.d.fact 22)
  fo_states := fldB_ok (xAt c 5)
  fo_deeds := fldB_ok (xAt c 6)
  fo_tables := fldB_ok (xAt c 7)
  fo_words := fldB_ok (xAt c 8)
  g_checked_words := He.glo_ok X G (c.d.fact 23)
  fo_reached := fldB_ok (xAt c 9)
  g_first_rows := He.glo_ok X G (c.d.fact 24)
  f_sorted := He.free_ok X G (c.d.fact 25)
  D_Machine___init__ := c.d.def_ 11
  D__law_words := c.d.def_ 12
  g_Machine := He.glo_ok X G (c.d.fact 26)
  mk_Machine := He.mkr_ok (c.d.fact 27)
  D_with_words := c.d.def_ 13
  su_Refused := sup_ok suP_1 (c.suOf 1) (xAt c 10)
  g_Refused := He.glo_ok X G (c.d.fact 28)
  D_check_sorts := c.d.def_ 14
  g_with_words := He.glo_ok X G (c.d.fact 29)
  g_check_sorts := He.glo_ok X G (c.d.fact 30)
  D_sort_words := c.d.def_ 15
  g_sort_words := He.glo_ok X G (c.d.fact 31)
  D_silent_words := c.d.def_ 16
  D_button_words := c.d.def_ 17
  g_button_words := He.glo_ok X G (c.d.fact 32)
  ex_Refused := exB_ok (xAt c 11)
  ix_FallError := ixB_ok (xAt c 12)
  g_FallError := He.glo_ok X G (c.d.fact 33)
  ix_BadMachine := ixB_ok (xAt c 13)
  xf_at := xfsB_ok (xAt c 14)
  f_repr := He.free_ok X G (c.d.fact 34)
  ex_BadMachine := exB_ok (xAt c 15)
  D__law_refused := c.d.def_ 18
  isi_3 := (xAt c 16)
  D_Machine___eq__ := c.d.def_ 19
  g__law_tables := He.glo_ok X G (c.d.fact 35)
  g__law_words := He.glo_ok X G (c.d.fact 36)
  g_silent_words := He.glo_ok X G (c.d.fact 37)
  isi_4 := (xAt c 17)
  f_zip := He.free_ok X G (c.d.fact 38)
  eq_Machine := eqKB_ok (xAt c 18)
  g__law_refused := He.glo_ok X G (c.d.fact 39)
  D__law_case_right := c.d.def_ 20
  f_abs := He.free_ok X G (c.d.fact 40)
  D__law_box := c.d.def_ 21
  g__law_case_right := He.glo_ok X G (c.d.fact 41)
  g__law_box := He.glo_ok X G (c.d.fact 42)
  D_law := c.d.def_ 22
def nm0 : List PySem.Str := ["FallError", "BadMachine", "BadRow", "Refused", "NoState", "NoDeed", "MOST_STATES", "MOST_DEEDS", "MOST_WORD", "MOST_ROW", "is_integer", "is_number", "is_below", "is_sequence", "Machine", "is_table", "is_word", "checked_words", "first_rows", "need_state", "need_deed", "check_row", "with_words", "check_sorts", "sort_words", "silent_words", "button_words", "_law_box", "_law_take", "_law_pick"]
def nm1 : List PySem.Str := ["_law_tables", "_law_words", "_law_come", "_law_refused", "_law_case_right"]
def nms : List PySem.Str := nm0 ++ nm1
abbrev R : PySem.W.OpenRow := PySem.W.OpenLaw.row PySem.Challenge.rw_hiddenfalls_k07_other_words
abbrev hk : PySem.W.Hook := hookX 6 faL fnL suL (xAll xbL)
def ob (s : PySem.W.SharedT) : AlX := obsXG 6 faL fnL suL (xAll xbL) (HandSHeadRun.getT s)
theorem ob_eq (s : PySem.W.SharedT) : ob s = hk.obs s.abs := obsXG_eq (HandSHeadRun.getT_eq s)
theorem run (w : World) : HandSHeadRun.RunEq R (PySem.W.view R.prog [39]) hk ob 20000 nms w := by
  intro os
  kernel_rfl
theorem holds (math : ∀ ns : List Int, ns.length ≤ 63 → ∃ μ, m_law [.rol (ns.map D.int)] [] = .ok (.bl true) μ) : PySem.Challenge.rw_hiddenfalls_k07_other_words.Holds := by
  w_on; o_law
  refine HandSHeadRun.head_any (r := R) (q := PySem.W.view R.prog [39]) (H := hk) (ob := ob) (M := 20000) (loose := nms) (d := HandSHeadRun.topDef R.prog 39) (kwd := []) ob_eq
    (by kernel_rfl) (fun s => by kernel_rfl) run (by kernel_rfl) (by kernel_rfl) (by kernel_rfl) (by rfl) (by first | assumption | decide +kernel) (by decide +kernel) ⟨rfl, rfl, rfl, rfl, rfl, by decide +kernel⟩ ?hw ?hc
  case hw => w_witness2
  case hc =>
    refine walk_ofG (l := PySem.Challenge.rw_hiddenfalls_k07_other_words) (n := 63) (k := 12) (x := "_law_script") rfl (by decide) (by kernel_rfl) ⟨rfl, by decide, by decide⟩ ?F
    intro w mg fa h Y G hmg0
    obtain ⟨K, KX, c⟩ := Y
    have hmg : mg ("law" : PySem.Str) = some (.ref fa) := by
      have e : (HandSHeadRun.topDef R.prog 39).name = ("law" : PySem.Str) := by kernel_rfl
      rw [← e]
      exact hmg0
    have fx := fx_of KX G c
    have e := hmg.symm.trans (He.glo_ok KX G (c.d.fact 43))
    cases e
    obtain ⟨fd, F⟩ := fx.D_law
    have b := FunD.bindsA (ps := ps_law) F fun _ _ _ _ _ _ us hl => match us, hl with | [_], _ => rfl
    refine ⟨K, fd, spF ⟨K, none, [14]⟩ 1 m_law, KX, fun s v => b s [v] rfl, fun H a ns hl _ hS => sp_law hS (math ns hl), fun base _ _ => ?_⟩
    obtain ⟨fd2, F2, G2⟩ := F_law (P := PW) (w := w) (base := base) fx
    rw [funD_one F F2]
    exact G2
end Lw
set_option Elab.async false
set_option linter.all false
set_option maxRecDepth 100000
set_option maxHeartbeats 4000000
namespace Lw
open PySem PySem.Spec PyProof.Rows L2 DL
local macro_rules | `(tactic| infer_instance) => `(tactic| first
  | with_reducible refine wS_seq ?_
  | with_reducible refine wS_nx ?_
  | with_reducible refine wS_set ?_
  | with_reducible refine wS_ret ?_
  | with_reducible refine wS_retN ?_
  | with_reducible refine wS_expr ?_
  | with_reducible refine wS_if ?_
  | with_reducible refine wS_setN ?_
  | with_reducible refine wS_setC ?_
  | with_reducible refine wS_asg ?_
  | with_reducible refine wS_par ?_
  | with_reducible refine wS_for ?_
  | with_reducible refine wS_try ?_
  | with_reducible refine wS_raise ?_
  | with_reducible refine wS_setSelf ?_
  | with_reducible refine wS_bk ?_
  | with_reducible refine wS_ct ?_
  | ((with_reducible apply wS_fz); · rfl)
  | ((with_reducible apply wS_fz'); · rfl)
  | ((with_reducible apply wS_aug); · rfl)
  | with_reducible refine wE_C ?_
  | ((with_reducible apply wE_var); · rfl)
  | ((with_reducible apply wE_own); · rfl)
  | with_reducible refine wE_bin ?_
  | with_reducible refine wE_fld ?_
  | with_reducible refine wE_un ?_
  | with_reducible refine wE_chain ?_
  | with_reducible refine wE_and ?_
  | with_reducible refine wE_or ?_
  | with_reducible refine wE_not ?_
  | with_reducible refine wE_if ?_
  | with_reducible refine wE_tup ?_
  | with_reducible refine wE_N ?_
  | with_reducible refine wE_cel ?_
  | with_reducible refine wE_call ?_
  | with_reducible refine wE_callU ?_
  | with_reducible refine wE_met ?_
  | with_reducible refine wE_isi ?_
  | with_reducible refine wE_slice ?_
  | with_reducible refine wE_isX ?_
  | with_reducible refine wE_xf ?_
  | with_reducible refine wE_cmpI ?_
  | with_reducible refine wO_none _ ?_
  | with_reducible refine wO_some ?_
  | with_reducible refine wN_lst ?_
  | with_reducible refine wN_call ?_
  | with_reducible refine wN_make ?_
  | with_reducible refine wN_lc ?_
  | with_reducible refine wN_disp ?_
  | with_reducible refine wK_nil ?_
  | with_reducible refine wK_cons ?_
  | with_reducible refine wA_nil ?_
  | with_reducible refine wA_cons ?_
  | with_reducible refine wT_tru ?_
  | with_reducible refine wT_tst ?_
  | with_reducible refine wT_and ?_
  | with_reducible refine wT_or ?_
  | with_reducible refine wT_not ?_
  | with_reducible refine wT_yes ?_
  | ((with_reducible refine wG_n ?_ ?_); · rfl)
  | ((with_reducible refine wG_T ?_ ?_); · rfl)
  | with_reducible refine wGs_nil ?_
  | with_reducible refine wGs_cons ?_
  | with_reducible refine wG_sub ?_
  | with_reducible refine wI_seq ?_
  | with_reducible refine wI_range1 ?_
  | with_reducible refine wI_range2 ?_
  | with_reducible refine wI_enum ?_
  | with_reducible refine wI_zip ?_)
local macro_rules | `(tactic| trivial) => `(tactic| repeat (first | infer_instance | with_reducible refine ⟨_, rfl, ?_⟩ | with_reducible refine ⟨rfl, ?_⟩ | with_reducible refine And.intro ⟨rfl, Nat.le_of_ble_eq_true rfl⟩ ?_ | with_reducible refine And.intro ⟨rfl, rfl⟩ ?_ | with_reducible refine ⟨_, _, rfl, ?_⟩ | with_reducible refine And.intro (by omega) ?_ | refine ifTT ?_ | refine ifFF ?_ | refine ifTF ?_ | refine ifFT ?_))
section
variable {μ : Mu} {b : Nat} {q : Int × Int × Int} {K : D → Mu → Prop} {X : Exn → Mu → Prop}
theorem take_w {n : Int} (hb : b < μ.length) (hn : 0 < n) (hn2 : n < 1073741824) (h : ∀ d q', 0 ≤ d → d < n → K (.int d) (bx μ b q')) : wF m__law_take [.cel b, .int n] (bx μ b q) K X := by
  refine wF_def rfl ?_
  unfold ms__law_take
  trivial
  refine ⟨_, bx0 hb, ?_⟩
  trivial
  have nz : n ≠ 0 := by omega
  refine ⟨fun _ => ?_, fun _ => ?_⟩
  · trivial
    refine ⟨_, bx0 hb, ?_⟩
    trivial
    refine ⟨_, mod_ok nz, ?_⟩
    trivial
    refine ⟨_, bx0 hb, ?_⟩
    trivial
    refine ⟨_, fdiv_ok nz (by omega), ?_⟩
    trivial
    refine ⟨_, _, bx_get hb, rfl, rfl, ?_⟩
    trivial
    show K (.int (q.1.fmod n)) ((bx μ b q).set b (.lst [.int (q.1.fdiv n), .int q.2.1, .int q.2.2]))
    rw [bx_set]
    exact h _ _ (Int.fmod_nonneg_of_pos _ hn) (Int.fmod_lt_of_pos _ hn)
  · trivial
    refine ⟨_, bx2 hb, ?_⟩
    trivial
    refine ⟨_, _, bx_get hb, rfl, rfl, ?_⟩
    show wS _ _ ((bx μ b q).set b (.lst [.int q.1, .int q.2.1, .int (q.2.2 + 1)])) _ _ _ _ _
    rw [bx_set]
    trivial
    refine ⟨_, bx1 hb, ?_⟩
    trivial
    refine ⟨_, bx2 hb, ?_⟩
    trivial
    refine ⟨_, mul_okR (j := 61091) ⟨by decide, by decide⟩, ?_⟩
    trivial
    refine ⟨_, mul_okR (j := 46099) ⟨by decide, by decide⟩, ?_⟩
    trivial
    refine ⟨_, _, bx_get hb, rfl, rfl, ?_⟩
    show wS _ _ ((bx μ b _).set b (.lst [.int q.1, .int _, .int (q.2.2 + 1)])) _ _ _ _ _
    rw [bx_set]
    trivial
    refine ⟨_, mul_okR (j := 2147483629) ⟨by decide, by decide⟩, ?_⟩
    trivial
    refine ⟨_, bx1 hb, ?_⟩
    trivial
    refine ⟨_, mod_ok nz, ?_⟩
    trivial
    exact h _ _ (Int.fmod_nonneg_of_pos _ hn) (Int.fmod_lt_of_pos _ hn)
end
end Lw
set_option Elab.async false
set_option linter.all false
set_option maxRecDepth 100000
set_option maxHeartbeats 4000000
namespace Lw
open PySem PySem.Spec PyProof.Rows L2 DL
local macro_rules | `(tactic| infer_instance) => `(tactic| first
  | with_reducible refine wS_seq ?_
  | with_reducible refine wS_nx ?_
  | with_reducible refine wS_set ?_
  | with_reducible refine wS_ret ?_
  | with_reducible refine wS_retN ?_
  | with_reducible refine wS_expr ?_
  | with_reducible refine wS_if ?_
  | with_reducible refine wS_setN ?_
  | with_reducible refine wS_setC ?_
  | with_reducible refine wS_asg ?_
  | with_reducible refine wS_par ?_
  | with_reducible refine wS_for ?_
  | with_reducible refine wS_try ?_
  | with_reducible refine wS_raise ?_
  | with_reducible refine wS_setSelf ?_
  | with_reducible refine wS_bk ?_
  | with_reducible refine wS_ct ?_
  | ((with_reducible apply wS_fz); · rfl)
  | ((with_reducible apply wS_fz'); · rfl)
  | ((with_reducible apply wS_aug); · rfl)
  | with_reducible refine wE_C ?_
  | ((with_reducible apply wE_var); · rfl)
  | ((with_reducible apply wE_own); · rfl)
  | with_reducible refine wE_bin ?_
  | with_reducible refine wE_fld ?_
  | with_reducible refine wE_un ?_
  | with_reducible refine wE_chain ?_
  | with_reducible refine wE_and ?_
  | with_reducible refine wE_or ?_
  | with_reducible refine wE_not ?_
  | with_reducible refine wE_if ?_
  | with_reducible refine wE_tup ?_
  | with_reducible refine wE_N ?_
  | with_reducible refine wE_cel ?_
  | with_reducible refine wE_call ?_
  | with_reducible refine wE_callU ?_
  | with_reducible refine wE_met ?_
  | with_reducible refine wE_isi ?_
  | with_reducible refine wE_slice ?_
  | with_reducible refine wE_isX ?_
  | with_reducible refine wE_xf ?_
  | with_reducible refine wE_cmpI ?_
  | with_reducible refine wO_none _ ?_
  | with_reducible refine wO_some ?_
  | with_reducible refine wN_lst ?_
  | with_reducible refine wN_call ?_
  | with_reducible refine wN_make ?_
  | with_reducible refine wN_lc ?_
  | with_reducible refine wN_disp ?_
  | with_reducible refine wK_nil ?_
  | with_reducible refine wK_cons ?_
  | with_reducible refine wA_nil ?_
  | with_reducible refine wA_cons ?_
  | with_reducible refine wT_tru ?_
  | with_reducible refine wT_tst ?_
  | with_reducible refine wT_and ?_
  | with_reducible refine wT_or ?_
  | with_reducible refine wT_not ?_
  | with_reducible refine wT_yes ?_
  | ((with_reducible refine wG_n ?_ ?_); · rfl)
  | ((with_reducible refine wG_T ?_ ?_); · rfl)
  | with_reducible refine wGs_nil ?_
  | with_reducible refine wGs_cons ?_
  | with_reducible refine wG_sub ?_
  | with_reducible refine wI_seq ?_
  | with_reducible refine wI_range1 ?_
  | with_reducible refine wI_range2 ?_
  | with_reducible refine wI_enum ?_
  | with_reducible refine wI_zip ?_)
local macro_rules | `(tactic| trivial) => `(tactic| repeat (first | infer_instance | with_reducible refine ⟨_, rfl, ?_⟩ | with_reducible refine ⟨rfl, ?_⟩ | with_reducible refine And.intro ⟨rfl, Nat.le_of_ble_eq_true rfl⟩ ?_ | with_reducible refine And.intro ⟨rfl, rfl⟩ ?_ | with_reducible refine ⟨_, _, rfl, ?_⟩ | with_reducible refine And.intro (by omega) ?_ | refine ifTT ?_ | refine ifFF ?_ | refine ifTF ?_ | refine ifFT ?_))
section
variable {μ : Mu} {b : Nat} {q : Int × Int × Int} {K : D → Mu → Prop} {X : Exn → Mu → Prop}
theorem pick_w {l : List D} (hb : b < μ.length) (hl : l ≠ []) (hl2 : l.length < 1073741824) (hn : ∀ x ∈ l, noLoc x = true) (h : ∀ x ∈ l, ∀ q', K x (bx μ b q')) : wF m__law_pick [.cel b, .lst l] (bx μ b q) K X := by
  refine wF_def rfl ?_
  unfold ms__law_pick
  trivial
  have hp : 0 < l.length := List.length_pos_iff.mpr hl
  refine take_w hb (by omega) (by omega) fun d q' h0 h1 => ?_
  obtain ⟨x, hx, e⟩ := atI_mem h0 h1
  exact ⟨x, ix_seq rfl e, hn x hx, h x hx q'⟩
/-- a table: many states, each led to one of them -/
def OkRow (n : Int) (r : List Int) : Prop := (r.length : Int) = n ∧ ∀ x ∈ r, 0 ≤ x ∧ x < n
def rowL (r : List Int) : D := .lst (r.map D.int)
theorem four {e : Env} {m : Mu} {s a0 a1 a2 a3 : Int} (h0 : 0 ≤ s) (h3 : s ≤ 3) : ∃ v, ixD e m (.lst [.int a0, .int a1, .int a2, .int a3]) (.int s) = some (.int v) ∧ (v = a0 ∨ v = a1 ∨ v = a2 ∨ v = a3) := by
  have c : s = 0 ∨ s = 1 ∨ s = 2 ∨ s = 3 := by omega
  rcases c with rfl | rfl | rfl | rfl
  · exact ⟨a0, rfl, .inl rfl⟩
  · exact ⟨a1, rfl, .inr (.inl rfl)⟩
  · exact ⟨a2, rfl, .inr (.inr (.inl rfl))⟩
  · exact ⟨a3, rfl, .inr (.inr (.inr rfl))⟩
theorem tables_w {most deeds : Int} (hb : b < μ.length) (hm : 1 ≤ most ∧ most ≤ 40) (hd : 0 ≤ deeds ∧ deeds ≤ 1000)
    (h : ∀ (n : Int) (T : List (List Int)) q', 1 ≤ n → n ≤ most → (T.length : Int) = deeds → (∀ r ∈ T, OkRow n r) → K (.lst (T.map rowL)) (bx μ b q')) : wF m__law_tables [.cel b, .int most, .int deeds] (bx μ b q) K X := by
  refine wF_def rfl ?_
  unfold ms__law_tables
  trivial
  refine take_w hb (by omega) (by omega) fun d q1 h0 h1 => ?_
  trivial
  have hN : 1 ≤ 1 + d ∧ 1 + d ≤ most := by omega
  show wS _ [.d (.cel b), .d (.int most), .d (.int deeds), .d (.int (1 + d)), .own (.lst []), .non, .non, .non, .non, .non, .non] _ _ _ _ _ _
  generalize 1 + d = n at hN
  refine wFor (fun k e m => ∃ (T : List (List Int)) (q' : Int × Int × Int) (x5 x6 x7 x8 x9 x10 : Slot), e = [.d (.cel b), .d (.int most), .d (.int deeds), .d (.int n), .own (.lst (T.map rowL)), x5, x6, x7, x8, x9, x10] ∧ m = bx μ b q' ∧ T.length = k ∧ ∀ r ∈ T, OkRow n r)
    ⟨[], q1, _, _, _, _, _, _, rfl, rfl, rfl, fun _ h => nomatch h⟩ ?_ ?_
  · rintro k d e m hk ⟨T, q2, x5, x6, x7, x8, x9, x10, rfl, rfl, hT, hr⟩
    obtain ⟨hk, rfl⟩ := rngD_get hk
    refine ⟨True.intro, ?_⟩
    trivial
    refine pick_w hb (by simp) (by decide) (by decide) fun x hx q3 => ?_
    obtain ⟨st, rfl, hs⟩ : ∃ s : Int, x = .int s ∧ 0 ≤ s ∧ s ≤ 3 := by
      simp only [List.mem_cons, List.mem_nil_iff, or_false] at hx
      rcases hx with rfl | rfl | rfl | rfl | rfl <;> exact ⟨_, rfl, by decide, by decide⟩
    trivial
    refine take_w hb (by omega) (by omega) fun sh q4 h2 h3 => ?_
    trivial
    show wS _ [.d (.cel b), .d (.int most), .d (.int deeds), .d (.int n), .own (.lst (T.map rowL)), .d (.int (0 + (k : Int))), .own (.lst []), x7, .d (.int st), .d (.int sh), x10] _ _ _ _ _ _
    refine wFor (fun k' e m => ∃ (r : List Int) (q' : Int × Int × Int) (x7 x10 : Slot), e = [.d (.cel b), .d (.int most), .d (.int deeds), .d (.int n), .own (.lst (T.map rowL)), .d (.int (0 + (k : Int))), .own (.lst (r.map D.int)), x7, .d (.int st), .d (.int sh), x10] ∧ m = bx μ b q' ∧ r.length = k' ∧ ∀ x ∈ r, 0 ≤ x ∧ x < n)
      ⟨[], q4, _, _, rfl, rfl, rfl, fun _ h => nomatch h⟩ ?_ ?_
    · rintro k' d e m hk' ⟨r, q5, y7, y10, rfl, rfl, hrl, hrr⟩
      obtain ⟨hk', rfl⟩ := rngD_get hk'
      refine ⟨True.intro, ?_⟩
      trivial
      refine take_w hb (by omega) (by omega) fun fr q6 h4 h5 => ?_
      trivial
      show wF m__law_pick [.cel b, .lst [.int (0 + (k' : Int)), .int fr]] (bx μ b q6) _ _
      refine pick_w hb (by simp) (by simp) (by intro x hx; simp only [List.mem_cons, List.mem_nil_iff, or_false] at hx; rcases hx with rfl | rfl <;> rfl) fun x hx q7 => ?_
      obtain ⟨p, rfl, hp⟩ : ∃ p : Int, x = .int p ∧ 0 ≤ p ∧ p < n := by
        simp only [List.mem_cons, List.mem_nil_iff, or_false] at hx
        rcases hx with rfl | rfl
        · exact ⟨_, rfl, by omega, by omega⟩
        · exact ⟨_, rfl, h4, h5⟩
      trivial
      refine ⟨_, mod_ok (by omega), ?_⟩
      trivial
      obtain ⟨v, ev, hv⟩ := four (e := ([.d (.cel b), .d (.int most), .d (.int deeds), .d (.int n), .own (.lst (T.map rowL)), .d (.int (0 + (k : Int))), .own (.lst (r.map D.int)), .d (.int (0 + (k' : Int))), .d (.int st), .d (.int sh), .d (.int fr)] : Env)) (m := bx μ b q7) (s := st) (a0 := fr) (a1 := p) (a2 := (0 + (k' : Int) + sh).fmod n) (a3 := if (0 + (k' : Int) - sh) > 0 then (0 + (k' : Int) - sh) else 0) hs.1 hs.2
      refine ⟨_, ev, ?_⟩
      trivial
      have hvn : 0 ≤ v ∧ v < n := by
        have := Int.fmod_nonneg_of_pos (0 + (k' : Int) + sh) (b := n) (by omega)
        have := Int.fmod_lt_of_pos (0 + (k' : Int) + sh) (b := n) (by omega)
        rcases hv with rfl | rfl | rfl | rfl
        · omega
        · omega
        · omega
        · split <;> omega
      refine ⟨_, _, _, rfl, app_ok (by simp; omega), ?_⟩
      trivial
      refine Hold.mk ?_
      exact ⟨r ++ [v], q7, _, _, by rw [← map_snoc]; rfl, rfl, by rw [List.length_append, hrl]; rfl, all_snoc hrr hvn⟩
    · rintro e m ⟨r, q5, y7, y10, rfl, rfl, hrl, hrr⟩
      refine ⟨True.intro, ?_⟩
      rw [rngD_length] at hrl
      trivial
      refine ⟨_, _, _, rfl, app_ok (by simp; omega), ?_⟩
      trivial
      refine Hold.mk ?_
      exact ⟨T ++ [r], q5, _, _, _, _, _, _, by rw [← map_snoc]; rfl, rfl, by rw [List.length_append, hT]; rfl, all_snoc hr ⟨by omega, hrr⟩⟩
  · rintro e m ⟨T, q2, x5, x6, x7, x8, x9, x10, rfl, rfl, hT, hr⟩
    refine ⟨True.intro, ?_⟩
    rw [rngD_length] at hT
    trivial
    exact h n T q2 hN.1 hN.2 (by omega) hr
end
end Lw
set_option Elab.async false
set_option linter.all false
set_option maxRecDepth 100000
set_option maxHeartbeats 4000000
namespace Lw
open PySem PySem.Spec PyProof.Rows L2 DL
local macro_rules | `(tactic| infer_instance) => `(tactic| first
  | with_reducible refine wS_seq ?_
  | with_reducible refine wS_nx ?_
  | with_reducible refine wS_set ?_
  | with_reducible refine wS_ret ?_
  | with_reducible refine wS_retN ?_
  | with_reducible refine wS_expr ?_
  | with_reducible refine wS_if ?_
  | with_reducible refine wS_setN ?_
  | with_reducible refine wS_setC ?_
  | with_reducible refine wS_asg ?_
  | with_reducible refine wS_par ?_
  | with_reducible refine wS_for ?_
  | with_reducible refine wS_try ?_
  | with_reducible refine wS_raise ?_
  | with_reducible refine wS_setSelf ?_
  | with_reducible refine wS_bk ?_
  | with_reducible refine wS_ct ?_
  | ((with_reducible apply wS_fz); · rfl)
  | ((with_reducible apply wS_fz'); · rfl)
  | ((with_reducible apply wS_aug); · rfl)
  | with_reducible refine wE_C ?_
  | ((with_reducible apply wE_var); · rfl)
  | ((with_reducible apply wE_own); · rfl)
  | with_reducible refine wE_bin ?_
  | with_reducible refine wE_fld ?_
  | with_reducible refine wE_un ?_
  | with_reducible refine wE_chain ?_
  | with_reducible refine wE_and ?_
  | with_reducible refine wE_or ?_
  | with_reducible refine wE_not ?_
  | with_reducible refine wE_if ?_
  | with_reducible refine wE_tup ?_
  | with_reducible refine wE_N ?_
  | with_reducible refine wE_cel ?_
  | with_reducible refine wE_call ?_
  | with_reducible refine wE_callU ?_
  | with_reducible refine wE_met ?_
  | with_reducible refine wE_isi ?_
  | with_reducible refine wE_slice ?_
  | with_reducible refine wE_isX ?_
  | with_reducible refine wE_xf ?_
  | with_reducible refine wE_cmpI ?_
  | with_reducible refine wO_none _ ?_
  | with_reducible refine wO_some ?_
  | with_reducible refine wN_lst ?_
  | with_reducible refine wN_call ?_
  | with_reducible refine wN_make ?_
  | with_reducible refine wN_lc ?_
  | with_reducible refine wN_disp ?_
  | with_reducible refine wK_nil ?_
  | with_reducible refine wK_cons ?_
  | with_reducible refine wA_nil ?_
  | with_reducible refine wA_cons ?_
  | with_reducible refine wT_tru ?_
  | with_reducible refine wT_tst ?_
  | with_reducible refine wT_and ?_
  | with_reducible refine wT_or ?_
  | with_reducible refine wT_not ?_
  | with_reducible refine wT_yes ?_
  | ((with_reducible refine wG_n ?_ ?_); · rfl)
  | ((with_reducible refine wG_T ?_ ?_); · rfl)
  | with_reducible refine wGs_nil ?_
  | with_reducible refine wGs_cons ?_
  | with_reducible refine wG_sub ?_
  | with_reducible refine wI_seq ?_
  | with_reducible refine wI_range1 ?_
  | with_reducible refine wI_range2 ?_
  | with_reducible refine wI_enum ?_
  | with_reducible refine wI_zip ?_)
local macro_rules | `(tactic| trivial) => `(tactic| repeat (first | infer_instance | with_reducible refine ⟨_, rfl, ?_⟩ | with_reducible refine ⟨rfl, ?_⟩ | with_reducible refine And.intro ⟨rfl, Nat.le_of_ble_eq_true rfl⟩ ?_ | with_reducible refine And.intro ⟨rfl, rfl⟩ ?_ | with_reducible refine ⟨_, _, rfl, ?_⟩ | with_reducible refine And.intro (by omega) ?_ | refine ifTT ?_ | refine ifFF ?_ | refine ifTF ?_ | refine ifFT ?_))
section
variable {μ : Mu} {K : D → Mu → Prop} {X : Exn → Mu → Prop}
def plainD : D → Bool
  | .non => true
  | .bl _ => true
  | .int _ => true
  | .str _ => true
  | .tup _ => true
  | .lst _ => true
  | _ => false
def isI : D → Bool
  | .int _ => true
  | _ => false
def nneg : D → Bool
  | .int i => decide (0 ≤ i)
  | _ => false
def blw (n : Int) : D → Bool
  | .int i => decide (0 ≤ i) && decide (i < n)
  | _ => false
theorem seq_w {d : D} {l : List D} (h : SqD μ d l) (k : K (.bl true) μ) : wF m_is_sequence [d] μ K X := by
  refine wF_def rfl ?_
  unfold ms_is_sequence
  trivial
  obtain ⟨t, h1, h2⟩ := h.tg
  refine ⟨t, h1 _, rfl, ?_⟩
  rcases h2 with rfl | rfl <;> exact k
theorem noseq_w {d : D} (h : plainD d = true) (h2 : ∀ l, d ≠ .tup l ∧ d ≠ .lst l) (k : K (.bl false) μ) : wF m_is_sequence [d] μ K X := by
  refine wF_def rfl ?_
  unfold ms_is_sequence
  trivial
  cases d with
  | tup l => exact absurd rfl (h2 l).1
  | lst l => exact absurd rfl (h2 l).2
  | non => exact ⟨_, rfl, rfl, k⟩
  | bl _ => exact ⟨_, rfl, rfl, k⟩
  | int _ => exact ⟨_, rfl, rfl, k⟩
  | str _ => exact ⟨_, rfl, rfl, k⟩
  | _ => cases h
theorem int_w {d : D} (h : plainD d = true) (k : K (.bl (isI d)) μ) : wF m_is_integer [d] μ K X := by
  refine wF_def rfl ?_
  unfold ms_is_integer
  trivial
  cases d with
  | tup l => exact ⟨_, rfl, _, rfl, (fun z => nomatch z), fun _ => ⟨rfl, k⟩⟩
  | lst l => exact ⟨_, rfl, _, rfl, (fun z => nomatch z), fun _ => ⟨rfl, k⟩⟩
  | non => exact ⟨_, rfl, _, rfl, (fun z => nomatch z), fun _ => ⟨rfl, k⟩⟩
  | str _ => exact ⟨_, rfl, _, rfl, (fun z => nomatch z), fun _ => ⟨rfl, k⟩⟩
  | bl _ =>
    refine ⟨_, rfl, _, rfl, (fun _ => ?_), (fun z => nomatch z)⟩
    trivial
    exact k
  | int _ =>
    refine ⟨_, rfl, _, rfl, (fun _ => ?_), (fun z => nomatch z)⟩
    trivial
    exact k
  | _ => cases h
theorem num_w {d : D} (h : plainD d = true) (k : K (.bl (nneg d)) μ) : wF m_is_number [d] μ K X := by
  refine wF_def rfl ?_
  unfold ms_is_number
  have nl : noLoc d = true := by cases d <;> first | rfl | cases h
  trivial
  refine ⟨by simp [selG, nl], ?_⟩
  refine int_w h ?_
  trivial
  cases d with
  | int i =>
    refine ⟨(fun _ => ?_), (fun z => nomatch z)⟩
    trivial
    exact k
  | _ => first | exact ⟨(fun z => nomatch z), fun _ => ⟨rfl, k⟩⟩ | cases h
theorem below_w {d : D} {n : Int} (h : plainD d = true) (k : K (.bl (blw n d)) μ) : wF m_is_below [d, .int n] μ K X := by
  refine wF_def rfl ?_
  unfold ms_is_below
  have nl : noLoc d = true := by cases d <;> first | rfl | cases h
  trivial
  refine ⟨by simp [selG, nl], ?_⟩
  refine num_w h ?_
  trivial
  cases d with
  | int i =>
    have k2 : K (.bl (decide (0 ≤ i) && decide (i < n))) μ := k
    show (decide (0 ≤ i) = true → _) ∧ (decide (0 ≤ i) = false → noLoc (.bl (decide (0 ≤ i))) = true ∧ K (.bl (decide (0 ≤ i))) μ)
    by_cases c : 0 ≤ i
    · rw [decide_eq_true c] at k2
      refine ⟨(fun _ => ?_), (fun z => absurd c (of_decide_eq_false z))⟩
      trivial
      exact k2
    · rw [decide_eq_false c] at k2
      refine ⟨(fun z => absurd (of_decide_eq_true z) c), fun z => ⟨rfl, ?_⟩⟩
      rw [z]
      exact k2
  | _ => first | exact ⟨(fun z => nomatch z), fun _ => ⟨rfl, k⟩⟩ | cases h
end
end Lw
set_option Elab.async false
set_option linter.all false
set_option maxRecDepth 100000
set_option maxHeartbeats 4000000
namespace Lw
open PySem PySem.Spec PyProof.Rows L2 DL
local macro_rules | `(tactic| infer_instance) => `(tactic| first
  | with_reducible refine wS_seq ?_
  | with_reducible refine wS_nx ?_
  | with_reducible refine wS_set ?_
  | with_reducible refine wS_ret ?_
  | with_reducible refine wS_retN ?_
  | with_reducible refine wS_expr ?_
  | with_reducible refine wS_if ?_
  | with_reducible refine wS_setN ?_
  | with_reducible refine wS_setC ?_
  | with_reducible refine wS_asg ?_
  | with_reducible refine wS_par ?_
  | with_reducible refine wS_for ?_
  | with_reducible refine wS_try ?_
  | with_reducible refine wS_raise ?_
  | with_reducible refine wS_setSelf ?_
  | with_reducible refine wS_bk ?_
  | with_reducible refine wS_ct ?_
  | ((with_reducible apply wS_fz); · rfl)
  | ((with_reducible apply wS_fz'); · rfl)
  | ((with_reducible apply wS_aug); · rfl)
  | with_reducible refine wE_C ?_
  | ((with_reducible apply wE_var); · rfl)
  | ((with_reducible apply wE_own); · rfl)
  | with_reducible refine wE_bin ?_
  | with_reducible refine wE_fld ?_
  | with_reducible refine wE_un ?_
  | with_reducible refine wE_chain ?_
  | with_reducible refine wE_and ?_
  | with_reducible refine wE_or ?_
  | with_reducible refine wE_not ?_
  | with_reducible refine wE_if ?_
  | with_reducible refine wE_tup ?_
  | with_reducible refine wE_N ?_
  | with_reducible refine wE_cel ?_
  | with_reducible refine wE_call ?_
  | with_reducible refine wE_callU ?_
  | with_reducible refine wE_met ?_
  | with_reducible refine wE_isi ?_
  | with_reducible refine wE_slice ?_
  | with_reducible refine wE_isX ?_
  | with_reducible refine wE_xf ?_
  | with_reducible refine wE_cmpI ?_
  | with_reducible refine wO_none _ ?_
  | with_reducible refine wO_some ?_
  | with_reducible refine wN_lst ?_
  | with_reducible refine wN_call ?_
  | with_reducible refine wN_make ?_
  | with_reducible refine wN_lc ?_
  | with_reducible refine wN_disp ?_
  | with_reducible refine wK_nil ?_
  | with_reducible refine wK_cons ?_
  | with_reducible refine wA_nil ?_
  | with_reducible refine wA_cons ?_
  | with_reducible refine wT_tru ?_
  | with_reducible refine wT_tst ?_
  | with_reducible refine wT_and ?_
  | with_reducible refine wT_or ?_
  | with_reducible refine wT_not ?_
  | with_reducible refine wT_yes ?_
  | ((with_reducible refine wG_n ?_ ?_); · rfl)
  | ((with_reducible refine wG_T ?_ ?_); · rfl)
  | with_reducible refine wGs_nil ?_
  | with_reducible refine wGs_cons ?_
  | with_reducible refine wG_sub ?_
  | with_reducible refine wI_seq ?_
  | with_reducible refine wI_range1 ?_
  | with_reducible refine wI_range2 ?_
  | with_reducible refine wI_enum ?_
  | with_reducible refine wI_zip ?_)
local macro_rules | `(tactic| trivial) => `(tactic| repeat (first | infer_instance | with_reducible refine ⟨_, rfl, ?_⟩ | with_reducible refine ⟨rfl, ?_⟩ | with_reducible refine And.intro ⟨rfl, Nat.le_of_ble_eq_true rfl⟩ ?_ | with_reducible refine And.intro ⟨rfl, rfl⟩ ?_ | with_reducible refine ⟨_, _, rfl, ?_⟩ | with_reducible refine And.intro (by omega) ?_ | refine ifTT ?_ | refine ifFF ?_ | refine ifTF ?_ | refine ifFT ?_))
section
variable {μ : Mu} {K : D → Mu → Prop} {X : Exn → Mu → Prop}
theorem word_w {d : D} {a c : Int} (h : SqD μ d [.int a, .int c]) (ha : 0 ≤ a ∧ a ≤ 1000000) (hc : 0 ≤ c ∧ c ≤ 1000000) (k : K (.bl true) μ) : wF m_is_word [d] μ K X := by
  refine wF_def rfl ?_
  unfold ms_is_word
  have nl := h.nl
  trivial
  refine ⟨by simp [selG, nl], ?_⟩
  refine seq_w h ?_
  trivial
  refine ⟨_, h.len, ?_⟩
  refine wE_C ⟨_, eq_int, _, rfl, (fun _ => ?_), (fun z => nomatch z)⟩
  trivial
  obtain ⟨kk, ck, hi, hck⟩ := h.it
  refine ⟨kk, _, ck, hi, ?_⟩
  refine wLc_map (fun _ => .bl true) hck (by simp) (fun w hw => ?_) ?_
  · refine wG_n (by simp only [List.mem_cons, List.mem_nil_iff, or_false] at hw; rcases hw with rfl | rfl <;> rfl) ⟨rfl, ?_⟩
    obtain ⟨z, rfl, hz⟩ : ∃ z : Int, w = .int z ∧ 0 ≤ z ∧ z ≤ 1000000 := by
      simp only [List.mem_cons, List.mem_nil_iff, or_false] at hw
      rcases hw with rfl | rfl
      · exact ⟨_, rfl, ha⟩
      · exact ⟨_, rfl, hc⟩
    trivial
    refine below_w rfl ?_
    refine ⟨?_, rfl, rfl, rfl⟩
    show D.bl (decide (0 ≤ z) && decide (z < 1000000 + 1)) = .bl true
    rw [decide_eq_true hz.1, decide_eq_true (by omega)]
    rfl
  · trivial
    exact k
/-- told words, where none are given -/
def defW (n dd : Int) : D := .tup ((rngD 0 dd.toNat).map fun d => .tup (List.replicate n.toNat (.tup [d, .int 0])))
theorem cw_none {n dd : Int} (hn : 0 ≤ n ∧ n ≤ 1000) (hd : 0 ≤ dd ∧ dd ≤ 1000) (k : K (defW n dd) μ) : wF m_checked_words [.int n, .int dd, .non] μ K X := by
  refine wF_def rfl ?_
  unfold ms_checked_words
  trivial
  refine wLc_map (fun d => .tup (List.replicate n.toNat (.tup [d, .int 0]))) True.intro (by rw [rngD_length]; omega) (fun w hw => ?_) ?_
  · obtain ⟨j, hj⟩ := List.getElem?_of_mem hw
    obtain ⟨_, rfl⟩ := rngD_get hj
    refine wG_n rfl ⟨rfl, ?_⟩
    trivial
    exact ⟨_, mul_tup1 (by omega), rfl, rfl, rfl, rfl⟩
  · trivial
    exact k
/-- one row of words, as it is handed in -/
def ROk (m : Mu) (n : Int) (d : D) (r : List (Int × Int)) : Prop := ∃ ws, SqD m d ws ∧ (ws.length : Int) = n ∧ ws.length = r.length ∧
  ∀ (j : Nat) (w : D), ws[j]? = some w → ∃ p, r[j]? = some p ∧ SqD m w [.int p.1, .int p.2] ∧ (0 ≤ p.1 ∧ p.1 ≤ 1000000) ∧ (0 ≤ p.2 ∧ p.2 ≤ 1000000)
def wordD (p : Int × Int) : D := .tup [.int p.1, .int p.2]
def wrowD (r : List (Int × Int)) : D := .tup (r.map wordD)
/-- words that are a sequence of so many rows: the first c rows are right, the next one, if any, has another length -/
theorem cw_seq {n dd : Int} {d : D} {ts : List D} {W : List (List (Int × Int))} {c : Nat} (hn : 0 ≤ n ∧ n ≤ 1000) (hd : 0 ≤ dd ∧ dd ≤ 1000) (hs : SqD μ d ts) (hl2 : (ts.length : Int) = dd) (hc : c ≤ ts.length)
    (hp : ∀ (k : Nat) (t : D), ts[k]? = some t → k < c → ∃ r, W[k]? = some r ∧ ROk μ n t r) (hx : ∀ t : D, ts[c]? = some t → ∃ ws, SqD μ t ws ∧ (ws.length : Int) ≠ n)
    (kx : c < ts.length → X ⟨1, [(0, .int (dd + c))]⟩ μ) (k : c = ts.length → ts.length = W.length ∧ K (.tup (W.map wrowD)) μ) : wF m_checked_words [.int n, .int dd, d] μ K X := by
  refine wF_def rfl ?_
  unfold ms_checked_words
  have nl := hs.nl
  trivial
  refine ⟨_, hs.isN, _, rfl, (fun z => nomatch z), (fun _ => ?_)⟩
  trivial
  refine ⟨by simp [selG, nl], seq_w hs ?_⟩
  trivial
  refine ⟨_, hs.len, ?_⟩
  refine wE_var rfl ⟨_, ne_int, _, rfl, ?_⟩
  rw [hl2]
  refine ⟨fun z => by simp at z, fun _ => ?_⟩
  trivial
  obtain ⟨kk, ck, hi, hck⟩ := hs.it
  refine ⟨_, kk, _, ck, rfl, hi, ?_⟩
  refine wFor (fun j e m => m = μ ∧ j ≤ c ∧ ∃ x3 x4, e = [.d (.int n), .d (.int dd), .d d, x3, x4, .non]) ⟨rfl, Nat.zero_le _, _, _, rfl⟩ ?_ ?_
  · rintro j t e m hj ⟨rfl, hjc, x3, x4, rfl⟩
    refine ⟨hck, ?_⟩
    obtain ⟨t, hjt, rfl⟩ := enumD_get hj
    have hw : ∃ ws, SqD m t ws ∧ (j < c → ∃ r, W[j]? = some r ∧ ROk m n t r) := by
      rcases Nat.lt_or_ge j c with h1 | h1
      · obtain ⟨r, h2, h3⟩ := hp j t hjt h1
        obtain ⟨ws, h4, _⟩ := id h3
        exact ⟨ws, h4, fun _ => ⟨r, h2, h3⟩⟩
      · have e : j = c := by omega
        subst e
        obtain ⟨ws, h4, _⟩ := hx t hjt
        exact ⟨ws, h4, fun z => by omega⟩
    obtain ⟨ws0, hs0, hrow⟩ := hw
    have nlt := hs0.nl
    trivial
    refine wG_n nlt ?_
    trivial
    refine ⟨by simp [selG, nlt], seq_w hs0 ?_⟩
    trivial
    rcases Nat.lt_or_ge j c with h1 | h1
    · obtain ⟨r, hr, ws, hsw, hwn, hwr, hww⟩ := hrow h1
      refine ⟨_, hsw.len, ?_⟩
      refine wE_var rfl ⟨_, ne_int, _, rfl, ?_⟩
      rw [hwn]
      refine ⟨(fun _ => ?_), fun z => by simp at z⟩
      trivial
      obtain ⟨k2, ck2, hi2, hck2⟩ := hsw.it
      refine ⟨k2, _, ck2, hi2, ?_⟩
      refine wLc_map (fun _ => .bl true) hck2 (by omega) (fun w hw => ?_) ?_
      · obtain ⟨jj, hjj⟩ := List.getElem?_of_mem hw
        obtain ⟨p, hp1, hp2, hp3, hp4⟩ := hww jj w hjj
        refine wG_n hp2.nl ⟨rfl, ?_⟩
        trivial
        have nlw := hp2.nl
        refine ⟨by simp [selG, nlw], word_w hp2 hp3 hp4 ⟨rfl, rfl, rfl, rfl⟩⟩
      · refine wA_nil ⟨_, all_map (fun _ => true) _, ?_⟩
        trivial
        have ea : (ws.all fun _ => true) = true := by simp
        rw [ea]
        refine ⟨(fun z => nomatch z), (fun _ => ?_)⟩
        trivial
        exact Hold.mk ⟨rfl, h1, _, _, rfl⟩
    · have e : j = c := by omega
      subst e
      obtain ⟨ws, hsw, hwn⟩ := hx t hjt
      refine ⟨_, hsw.len, ?_⟩
      refine wE_var rfl ⟨_, ne_int, _, rfl, ?_⟩
      have eb : (!((ws.length : Int) == n)) = true := by simp [hwn]
      rw [eb]
      refine ⟨(fun z => nomatch z), (fun _ => ?_)⟩
      trivial
      exact kx (List.getElem?_eq_some_iff.mp hjt).1
  · rintro e m ⟨rfl, hjc, x3, x4, rfl⟩
    refine ⟨hck, ?_⟩
    rw [enumD_length] at hjc
    have ec : c = ts.length := by omega
    subst ec
    obtain ⟨hlW, k⟩ := k rfl
    trivial
    refine ⟨kk, _, ck, hi, ?_⟩
    refine wLc_list (ys := W.map wrowD) hck (by omega) (by simp [hlW]) (fun j t hj => ?_) ?_
    · obtain ⟨r, hr, ws, hsw, hwn, hwr, hww⟩ := hp j t hj (List.getElem?_eq_some_iff.mp hj).1
      refine ⟨wrowD r, by simp [hr], ?_⟩
      refine wG_n hsw.nl ⟨rfl, ?_⟩
      trivial
      obtain ⟨k2, ck2, hi2, hck2⟩ := hsw.it
      refine ⟨k2, _, ck2, hi2, ?_⟩
      refine wLc_list (ys := r.map wordD) hck2 (by omega) (by simp [hwr]) (fun jj w hjj => ?_) ?_
      · obtain ⟨p, hp1, hp2, hp3, hp4⟩ := hww jj w hjj
        refine ⟨wordD p, by simp [hp1], ?_⟩
        refine wG_n hp2.nl ⟨rfl, ?_⟩
        trivial
        refine ⟨_, hp2.ix (by rfl), ?_⟩
        trivial
        refine ⟨_, hp2.ix (by rfl), ?_⟩
        trivial
        exact rfl
      · trivial
        exact rfl
    · trivial
      exact k
end
end Lw
set_option Elab.async false
set_option linter.all false
set_option maxRecDepth 100000
set_option maxHeartbeats 4000000
namespace Lw
open PySem PySem.Spec PyProof.Rows L2 DL
local macro_rules | `(tactic| infer_instance) => `(tactic| first
  | with_reducible refine wS_seq ?_
  | with_reducible refine wS_nx ?_
  | with_reducible refine wS_set ?_
  | with_reducible refine wS_ret ?_
  | with_reducible refine wS_retN ?_
  | with_reducible refine wS_expr ?_
  | with_reducible refine wS_if ?_
  | with_reducible refine wS_setN ?_
  | with_reducible refine wS_setC ?_
  | with_reducible refine wS_asg ?_
  | with_reducible refine wS_par ?_
  | with_reducible refine wS_for ?_
  | with_reducible refine wS_try ?_
  | with_reducible refine wS_raise ?_
  | with_reducible refine wS_setSelf ?_
  | with_reducible refine wS_bk ?_
  | with_reducible refine wS_ct ?_
  | ((with_reducible apply wS_fz); · rfl)
  | ((with_reducible apply wS_fz'); · rfl)
  | ((with_reducible apply wS_aug); · rfl)
  | with_reducible refine wE_C ?_
  | ((with_reducible apply wE_var); · rfl)
  | ((with_reducible apply wE_own); · rfl)
  | with_reducible refine wE_bin ?_
  | with_reducible refine wE_fld ?_
  | with_reducible refine wE_un ?_
  | with_reducible refine wE_chain ?_
  | with_reducible refine wE_and ?_
  | with_reducible refine wE_or ?_
  | with_reducible refine wE_not ?_
  | with_reducible refine wE_if ?_
  | with_reducible refine wE_tup ?_
  | with_reducible refine wE_N ?_
  | with_reducible refine wE_cel ?_
  | with_reducible refine wE_call ?_
  | with_reducible refine wE_callU ?_
  | with_reducible refine wE_met ?_
  | with_reducible refine wE_isi ?_
  | with_reducible refine wE_slice ?_
  | with_reducible refine wE_isX ?_
  | with_reducible refine wE_xf ?_
  | with_reducible refine wE_cmpI ?_
  | with_reducible refine wO_none _ ?_
  | with_reducible refine wO_some ?_
  | with_reducible refine wN_lst ?_
  | with_reducible refine wN_call ?_
  | with_reducible refine wN_make ?_
  | with_reducible refine wN_lc ?_
  | with_reducible refine wN_disp ?_
  | with_reducible refine wK_nil ?_
  | with_reducible refine wK_cons ?_
  | with_reducible refine wA_nil ?_
  | with_reducible refine wA_cons ?_
  | with_reducible refine wT_tru ?_
  | with_reducible refine wT_tst ?_
  | with_reducible refine wT_and ?_
  | with_reducible refine wT_or ?_
  | with_reducible refine wT_not ?_
  | with_reducible refine wT_yes ?_
  | ((with_reducible refine wG_n ?_ ?_); · rfl)
  | ((with_reducible refine wG_T ?_ ?_); · rfl)
  | with_reducible refine wGs_nil ?_
  | with_reducible refine wGs_cons ?_
  | with_reducible refine wG_sub ?_
  | with_reducible refine wI_seq ?_
  | with_reducible refine wI_range1 ?_
  | with_reducible refine wI_range2 ?_
  | with_reducible refine wI_enum ?_
  | with_reducible refine wI_zip ?_)
local macro_rules | `(tactic| trivial) => `(tactic| repeat (first | infer_instance | with_reducible refine ⟨_, rfl, ?_⟩ | with_reducible refine ⟨rfl, ?_⟩ | with_reducible refine And.intro ⟨rfl, Nat.le_of_ble_eq_true rfl⟩ ?_ | with_reducible refine And.intro ⟨rfl, rfl⟩ ?_ | with_reducible refine ⟨_, _, rfl, ?_⟩ | with_reducible refine And.intro (by omega) ?_ | refine ifTT ?_ | refine ifFF ?_ | refine ifTF ?_ | refine ifFT ?_))
section
variable {μ : Mu} {K : D → Mu → Prop} {X : Exn → Mu → Prop}
theorem table_w {d many : D} {n : Int} {r : List Int} (hs : SqD μ d (r.map D.int)) (hn : 1 ≤ n ∧ n ≤ 40) (hr : OkRow n r) (hm : many = .non ∨ many = .int n) (k : K (.bl true) μ) : wF m_is_table [d, many] μ K X := by
  refine wF_def rfl ?_
  unfold ms_is_table
  have nl := hs.nl
  obtain ⟨h1, h2⟩ := hr
  have hl : ((r.map D.int).length : Int) = n := by simpa using h1
  trivial
  refine ⟨by simp [selG, nl], seq_w hs ?_⟩
  trivial
  refine ⟨_, hs.len, ?_⟩
  rw [hl]
  refine ⟨_, rfl, ?_⟩
  rw [decide_eq_true hn.1]
  trivial
  rw [decide_eq_true hn.2]
  trivial
  have fin : wS (mRet (mCall allD (aCons (mN (mLc (iSeq (mVar 0)) (gN 2) mYes (mCallU m_is_below [.p 0, .p 1] (([] : List V).map litV) (aCons (mVar 2) (aCons (mCall lenD (aCons (mVar 0) aNil)) aNil)) aNil) [2])) aNil))) (startD 3 [d, many]) μ (fun _ m => K .non m) (fun d _ m => K d m) (fun _ _ => False) (fun _ _ => False) (fun x _ m => X x m) := by
    trivial
    obtain ⟨k2, ck2, hi2, hck2⟩ := hs.it
    refine ⟨k2, _, ck2, hi2, ?_⟩
    refine wLc_map (fun _ => .bl true) hck2 (by omega) (fun w hw => ?_) ?_
    · obtain ⟨x, hx, rfl⟩ := List.mem_map.mp hw
      have h3 := h2 x hx
      refine wG_n rfl ⟨rfl, ?_⟩
      trivial
      refine ⟨_, hs.len, ?_⟩
      rw [hl]
      trivial
      refine below_w rfl ⟨?_, rfl, rfl, rfl⟩
      show D.bl (decide (0 ≤ x) && decide (x < n)) = .bl true
      rw [decide_eq_true h3.1, decide_eq_true h3.2]
      rfl
    · refine wA_nil ⟨_, all_map (fun _ => true) _, ?_⟩
      have ea : ((r.map D.int).all fun _ => true) = true := by simp
      rw [ea]
      exact ⟨rfl, k⟩
  rcases hm with rfl | rfl
  · refine ⟨_, rfl, _, rfl, ?_⟩
    exact ifFF (ifFF fin)
  · refine ⟨_, rfl, _, rfl, ?_⟩
    trivial
    refine ⟨_, hs.len, ?_⟩
    rw [hl]
    refine wE_var rfl ⟨_, ne_int, _, rfl, ?_⟩
    have ee : (!(n == n)) = false := by simp
    rw [ee]
    exact ifFF fin
end
end Lw
set_option Elab.async false
set_option linter.all false
set_option maxRecDepth 100000
set_option maxHeartbeats 4000000
namespace Lw
open PySem PySem.Spec PyProof.Rows L2 DL
/-! ### few numbers -/
theorem few : ∀ (n : Nat) (l : List Int), l.Nodup → (∀ x ∈ l, 0 ≤ x ∧ x < n) → l.length ≤ n
  | 0, l, _, h => by
    cases l with
    | nil => exact Nat.le_refl _
    | cons x r =>
      have := h x (List.mem_cons_self ..)
      omega
  | n + 1, l, hd, h => by
    have h1 := few n (l.erase (n : Int)) (hd.erase _) fun x hx => by
      have := h x (List.mem_of_mem_erase hx)
      have hne : x ≠ (n : Int) := fun z => by
        subst z
        exact (hd.mem_erase_iff.mp hx).1 rfl
      omega
    by_cases c : (n : Int) ∈ l
    · rw [List.length_erase_of_mem c] at h1
      omega
    · rw [List.erase_of_not_mem c] at h1
      omega
theorem gval_some {k : KK} : ∀ {l : List (KK × D)}, k ∈ l.map (·.1) → ∃ v, gval l k = some v ∧ (k, v) ∈ l
  | [], h => by cases h
  | (j, x) :: l, h => by
    unfold gval
    by_cases c : j = k
    · subst c
      exact ⟨x, by simp, List.mem_cons_self ..⟩
    · have h' : k ∈ l.map (·.1) := by
        rcases List.mem_cons.mp h with e | e
        · exact absurd e.symm c
        · exact e
      obtain ⟨v, h1, h2⟩ := gval_some h'
      refine ⟨v, ?_, List.mem_cons_of_mem _ h2⟩
      unfold gval at h1
      rw [List.find?_cons]
      simp only [decide_eq_false c]
      exact h1
theorem gval_none {k : KK} : ∀ {l : List (KK × D)}, k ∉ l.map (·.1) → gval l k = none ∧ (l.any fun p => decide (p.1 = k)) = false
  | [], h => ⟨rfl, rfl⟩
  | (j, x) :: l, h => by
    have c : j ≠ k := fun z => h (by rw [z]; exact List.mem_cons_self ..)
    obtain ⟨h1, h2⟩ := gval_none (k := k) (l := l) fun z => h (List.mem_cons_of_mem _ z)
    unfold gval at h1 ⊢
    rw [List.find?_cons, List.any_cons]
    simp only [decide_eq_false c]
    exact ⟨h1, h2⟩
theorem gput_new {l : List (KK × D)} {k : KK} {v : D} (h : k ∉ l.map (·.1)) : gput l k v = l ++ [(k, v)] := by
  unfold gput
  rw [if_neg (by rw [(gval_none h).2]; exact Bool.noConfusion)]
def ikey (x : Int) : KK := .k (.inl x)
theorem ikey_mem {x : Int} {ws : List Int} : ikey x ∈ ws.map ikey ↔ x ∈ ws := by
  constructor
  · intro h
    obtain ⟨y, hy, e⟩ := List.mem_map.mp h
    cases e
    exact hy
  · exact fun h => List.mem_map.mpr ⟨x, h, rfl⟩
theorem keys_ints : ∀ {l : List (KK × D)} {ws : List Int}, l.map (·.1) = ws.map ikey → kkKeys l = ws.map D.int
  | [], [], _ => rfl
  | [], _ :: _, h => by cases h
  | (k, v) :: l, [], h => by cases h
  | (k, v) :: l, x :: ws, h => by
    obtain ⟨h1, h2⟩ := List.cons.inj (show k :: l.map (·.1) = ikey x :: ws.map ikey from h)
    subst h1
    show kkD (ikey x) :: kkKeys l = D.int x :: ws.map D.int
    rw [keys_ints h2]
    rfl
def rowT (r : List Int) : D := .tup (r.map D.int)
/-- the rows found so far, and the states to look at -/
structure Fr (n : Nat) (kv : List (KK × D)) (ws : List Int) : Prop where
  nd : ws.Nodup
  bd : ∀ x ∈ ws, 0 ≤ x ∧ x < n
  ks : kv.map (·.1) = ws.map ikey
  vs : ∀ p ∈ kv, ∃ l, p.2 = .tup l ∧ l.length ≤ ws.length
theorem Fr.le {n : Nat} {kv : List (KK × D)} {ws : List Int} (f : Fr n kv ws) : ws.length ≤ n := few n ws f.nd f.bd
theorem Fr.get {n : Nat} {kv : List (KK × D)} {ws : List Int} {x : Int} (f : Fr n kv ws) (h : x ∈ ws) : ∃ l, gval kv (ikey x) = some (.tup l) ∧ l.length ≤ ws.length := by
  obtain ⟨v, h1, h2⟩ := gval_some (k := ikey x) (l := kv) (by rw [f.ks]; exact ikey_mem.mpr h)
  obtain ⟨l, h3, h4⟩ := f.vs _ h2
  dsimp only at h3
  subst h3
  exact ⟨l, h1, h4⟩
theorem Fr.more {n : Nat} {kv : List (KK × D)} {ws : List Int} {x : Int} {l : List D} (f : Fr n kv ws) (h : x ∉ ws) (hx : 0 ≤ x ∧ x < n) (hl : l.length ≤ ws.length + 1) : Fr n (kv ++ [(ikey x, .tup l)]) (ws ++ [x]) where
  nd := by
    rw [List.nodup_append]
    refine ⟨f.nd, by simp, fun a ha b hb e => ?_⟩
    rw [List.mem_singleton.mp hb] at e
    subst e
    exact h ha
  bd := all_snoc f.bd hx
  ks := by
    rw [List.map_append, List.map_append, f.ks]
    rfl
  vs := fun p hp => by
    rw [List.length_append]
    rcases List.mem_append.mp hp with h1 | h1
    · obtain ⟨l', h2, h3⟩ := f.vs p h1
      exact ⟨l', h2, Nat.le_succ_of_le h3⟩
    · rw [List.mem_singleton.mp h1]
      exact ⟨l, rfl, hl⟩
end Lw
set_option Elab.async false
set_option linter.all false
set_option maxRecDepth 100000
set_option maxHeartbeats 4000000
namespace Lw
open PySem PySem.Spec PyProof.Rows L2 DL
local macro_rules | `(tactic| infer_instance) => `(tactic| first
  | with_reducible refine wS_seq ?_
  | with_reducible refine wS_nx ?_
  | with_reducible refine wS_set ?_
  | with_reducible refine wS_ret ?_
  | with_reducible refine wS_retN ?_
  | with_reducible refine wS_expr ?_
  | with_reducible refine wS_if ?_
  | with_reducible refine wS_setN ?_
  | with_reducible refine wS_setC ?_
  | with_reducible refine wS_asg ?_
  | with_reducible refine wS_par ?_
  | with_reducible refine wS_for ?_
  | with_reducible refine wS_try ?_
  | with_reducible refine wS_raise ?_
  | with_reducible refine wS_setSelf ?_
  | with_reducible refine wS_bk ?_
  | with_reducible refine wS_ct ?_
  | ((with_reducible apply wS_fz); · rfl)
  | ((with_reducible apply wS_fz'); · rfl)
  | ((with_reducible apply wS_aug); · rfl)
  | with_reducible refine wE_C ?_
  | ((with_reducible apply wE_var); · rfl)
  | ((with_reducible apply wE_own); · rfl)
  | with_reducible refine wE_bin ?_
  | with_reducible refine wE_fld ?_
  | with_reducible refine wE_un ?_
  | with_reducible refine wE_chain ?_
  | with_reducible refine wE_and ?_
  | with_reducible refine wE_or ?_
  | with_reducible refine wE_not ?_
  | with_reducible refine wE_if ?_
  | with_reducible refine wE_tup ?_
  | with_reducible refine wE_N ?_
  | with_reducible refine wE_cel ?_
  | with_reducible refine wE_call ?_
  | with_reducible refine wE_callU ?_
  | with_reducible refine wE_met ?_
  | with_reducible refine wE_isi ?_
  | with_reducible refine wE_slice ?_
  | with_reducible refine wE_isX ?_
  | with_reducible refine wE_xf ?_
  | with_reducible refine wE_cmpI ?_
  | with_reducible refine wO_none _ ?_
  | with_reducible refine wO_some ?_
  | with_reducible refine wN_lst ?_
  | with_reducible refine wN_call ?_
  | with_reducible refine wN_make ?_
  | with_reducible refine wN_lc ?_
  | with_reducible refine wN_disp ?_
  | with_reducible refine wK_nil ?_
  | with_reducible refine wK_cons ?_
  | with_reducible refine wA_nil ?_
  | with_reducible refine wA_cons ?_
  | with_reducible refine wT_tru ?_
  | with_reducible refine wT_tst ?_
  | with_reducible refine wT_and ?_
  | with_reducible refine wT_or ?_
  | with_reducible refine wT_not ?_
  | with_reducible refine wT_yes ?_
  | ((with_reducible refine wG_n ?_ ?_); · rfl)
  | ((with_reducible refine wG_T ?_ ?_); · rfl)
  | with_reducible refine wGs_nil ?_
  | with_reducible refine wGs_cons ?_
  | with_reducible refine wG_sub ?_
  | with_reducible refine wI_seq ?_
  | with_reducible refine wI_range1 ?_
  | with_reducible refine wI_range2 ?_
  | with_reducible refine wI_enum ?_
  | with_reducible refine wI_zip ?_)
local macro_rules | `(tactic| trivial) => `(tactic| repeat (first | infer_instance | with_reducible refine ⟨_, rfl, ?_⟩ | with_reducible refine ⟨rfl, ?_⟩ | with_reducible refine And.intro ⟨rfl, Nat.le_of_ble_eq_true rfl⟩ ?_ | with_reducible refine And.intro ⟨rfl, rfl⟩ ?_ | with_reducible refine ⟨_, _, rfl, ?_⟩ | with_reducible refine And.intro (by omega) ?_ | refine ifTT ?_ | refine ifFF ?_ | refine ifTF ?_ | refine ifFT ?_))
section
variable {μ : Mu} {K : D → Mu → Prop} {X : Exn → Mu → Prop}
theorem first_rows_w {d : D} {n : Nat} {T : List (List Int)} (hs : SqD μ d (T.map rowT)) (hn : 1 ≤ n ∧ n ≤ 40) (hT : ∀ r ∈ T, OkRow n r) (hl : T.length ≤ 1000)
    (k : ∀ (kv : List (KK × D)) (ws : List Int), kkKeys kv = ws.map D.int → K (.dct false kv) μ) : wF m_first_rows [d, .int 0] μ K X := by
  refine wF_def rfl ?_
  unfold ms_first_rows
  have nl := hs.nl
  trivial
  refine ⟨by simp, ?_⟩
  trivial
  show wS _ [.d d, .d (.int 0), .own (.dct false [(ikey 0, .tup [])]), .own (.lst [.int 0]), .d (.int 0), .non, .non, .non] _ _ _ _ _ _
  have f0 : Fr n [(ikey 0, .tup [])] [0] := ⟨by simp, fun x hx => by rw [List.mem_singleton.mp hx]; omega, rfl, fun p hp => by rw [List.mem_singleton.mp hp]; exact ⟨_, rfl, by simp⟩⟩
  refine wS_while (fun v e m => m = μ ∧ ∃ kv ws x5 x6 x7, e = [.d d, .d (.int 0), .own (.dct false kv), .own (.lst (ws.map D.int)), .d (.int ((n - v : Nat) : Int)), x5, x6, x7] ∧ v ≤ n ∧ n - v ≤ ws.length ∧ Fr n kv ws) n
    ⟨rfl, _, _, _, _, _, by rw [Nat.sub_self]; rfl, Nat.le_refl _, by rw [Nat.sub_self]; exact Nat.zero_le _, f0⟩ ?_
  rintro v e m ⟨rfl, kv, ws, x5, x6, x7, rfl, hv, hvl, f⟩
  trivial
  show (decide (((n - v : Nat) : Int) < ((ws.map D.int).length : Int)) = true → _) ∧ (decide (((n - v : Nat) : Int) < ((ws.map D.int).length : Int)) = false → _)
  have fl := f.le
  rw [List.length_map]
  refine ⟨fun c => ?_, fun c => ?_⟩
  · have c := of_decide_eq_true c
    have hat : n - v < ws.length := by omega
    have hv0 : 0 < v := by omega
    trivial
    obtain ⟨k2, ck2, hi2, hck2⟩ := hs.it
    refine ⟨_, k2, _, ck2, rfl, hi2, ?_⟩
    obtain ⟨x0, hx0⟩ : ∃ x0, ws[n - v]? = some x0 := ⟨_, List.getElem?_eq_getElem hat⟩
    refine wFor (fun j e m' => m' = m ∧ ∃ kv ws x5 x6 x7, e = [.d d, .d (.int 0), .own (.dct false kv), .own (.lst (ws.map D.int)), .d (.int ((n - v : Nat) : Int)), x5, x6, x7] ∧ ws[n - v]? = some x0 ∧ Fr n kv ws)
      ⟨rfl, _, _, _, _, _, rfl, hx0, f⟩ ?_ ?_
    · rintro j t e m' hj ⟨rfl, kv, ws, x5, x6, x7, rfl, hx0, f⟩
      refine ⟨hck2, ?_⟩
      obtain ⟨t, hjt, rfl⟩ := enumD_get hj
      have hjl := (List.getElem?_eq_some_iff.mp hjt).1
      rw [List.length_map] at hjl
      rw [List.getElem?_map] at hjt
      obtain ⟨r, hr, rfl⟩ := Option.map_eq_some_iff.mp hjt
      have hrow := hT r (mem_get hr)
      have hxm := mem_get hx0
      have hat' := (List.getElem?_eq_some_iff.mp hx0).1
      have hxb := f.bd _ hxm
      have fl := f.le
      trivial
      have e0 : atI (ws.map D.int) ((n - v : Nat) : Int) = some (.int x0) := atI_nat (by rw [List.getElem?_map, hx0]; rfl)
      refine ⟨_, ix_seq rfl e0, ?_⟩
      obtain ⟨y, hy, ey⟩ := atI_mem (l := r.map D.int) (i := x0) hxb.1 (by rw [List.length_map, hrow.1]; exact hxb.2)
      obtain ⟨y, hyr, rfl⟩ := List.mem_map.mp hy
      have hyb := hrow.2 y hyr
      refine ⟨_, ix_seq rfl ey, ?_⟩
      trivial
      show ((!(gval kv (ikey y)).isSome) = true → _) ∧ ((!(gval kv (ikey y)).isSome) = false → _)
      by_cases cy : y ∈ ws
      · obtain ⟨l, hg, _⟩ := f.get cy
        rw [hg]
        trivial
        exact Hold.mk ⟨rfl, kv, ws, _, _, _, rfl, hx0, f⟩
      · have hnk : ikey y ∉ kv.map (·.1) := by
          rw [f.ks]
          exact fun z => cy (ikey_mem.mp z)
        rw [(gval_none hnk).1]
        trivial
        refine ⟨_, ix_seq rfl e0, ?_⟩
        obtain ⟨l, hg, hgl⟩ := f.get hxm
        refine ⟨_, hg, ?_⟩
        trivial
        refine ⟨_, if_pos (by simp; exact Nat.le_trans (Nat.succ_le_succ (Nat.le_trans hgl (Nat.le_trans fl hn.2))) (by decide)), ?_⟩
        trivial
        have hkl : kv.length = ws.length := by
          have := congrArg List.length f.ks
          simpa using this
        refine ⟨_, .dct false (kv ++ [(ikey y, .tup (l ++ [.int j]))]), rfl, rfl, ?_, ?_⟩
        · show (if kindOk false (ikey y) = true ∧ kv.length < sizeLine then some (Cell.dct false (gput kv (ikey y) _)) else none) = _
          rw [if_pos ⟨rfl, Nat.lt_of_le_of_lt (by omega : kv.length ≤ 40) (by decide)⟩, gput_new hnk]
        · trivial
          refine ⟨_, _, _, rfl, app_ok (by simp; omega), ?_⟩
          exact Hold.mk ⟨rfl, _, ws ++ [y], _, _, _, by rw [← map_snoc]; rfl, by rw [List.getElem?_append_left hat']; exact hx0, f.more cy hyb (by simp; omega)⟩
    · rintro e m' ⟨rfl, kv, ws, x5, x6, x7, rfl, hx0, f⟩
      refine ⟨hck2, ?_⟩
      have hat' := (List.getElem?_eq_some_iff.mp hx0).1
      trivial
      refine Hold.mk ⟨v - 1, by omega, rfl, kv, ws, x5, x6, x7, ?_, by omega, by omega, f⟩
      have ev : ((n - (v - 1) : Nat) : Int) = ((n - v : Nat) : Int) + 1 := by omega
      rw [ev]
      rfl
  · trivial
    exact k kv ws (keys_ints f.ks)
end
end Lw
set_option Elab.async false
set_option linter.all false
set_option maxRecDepth 100000
set_option maxHeartbeats 4000000
namespace Lw
open PySem PySem.Spec PyProof.Rows L2 DL
local macro_rules | `(tactic| infer_instance) => `(tactic| first
  | with_reducible refine wS_seq ?_
  | with_reducible refine wS_nx ?_
  | with_reducible refine wS_set ?_
  | with_reducible refine wS_ret ?_
  | with_reducible refine wS_retN ?_
  | with_reducible refine wS_expr ?_
  | with_reducible refine wS_if ?_
  | with_reducible refine wS_setN ?_
  | with_reducible refine wS_setC ?_
  | with_reducible refine wS_asg ?_
  | with_reducible refine wS_par ?_
  | with_reducible refine wS_for ?_
  | with_reducible refine wS_try ?_
  | with_reducible refine wS_raise ?_
  | with_reducible refine wS_setSelf ?_
  | with_reducible refine wS_bk ?_
  | with_reducible refine wS_ct ?_
  | ((with_reducible apply wS_fz); · rfl)
  | ((with_reducible apply wS_fz'); · rfl)
  | ((with_reducible apply wS_aug); · rfl)
  | with_reducible refine wE_C ?_
  | ((with_reducible apply wE_var); · rfl)
  | ((with_reducible apply wE_own); · rfl)
  | with_reducible refine wE_bin ?_
  | with_reducible refine wE_fld ?_
  | with_reducible refine wE_un ?_
  | with_reducible refine wE_chain ?_
  | with_reducible refine wE_and ?_
  | with_reducible refine wE_or ?_
  | with_reducible refine wE_not ?_
  | with_reducible refine wE_if ?_
  | with_reducible refine wE_tup ?_
  | with_reducible refine wE_N ?_
  | with_reducible refine wE_cel ?_
  | with_reducible refine wE_call ?_
  | with_reducible refine wE_callU ?_
  | with_reducible refine wE_met ?_
  | with_reducible refine wE_isi ?_
  | with_reducible refine wE_slice ?_
  | with_reducible refine wE_isX ?_
  | with_reducible refine wE_xf ?_
  | with_reducible refine wE_cmpI ?_
  | with_reducible refine wO_none _ ?_
  | with_reducible refine wO_some ?_
  | with_reducible refine wN_lst ?_
  | with_reducible refine wN_call ?_
  | with_reducible refine wN_make ?_
  | with_reducible refine wN_lc ?_
  | with_reducible refine wN_disp ?_
  | with_reducible refine wK_nil ?_
  | with_reducible refine wK_cons ?_
  | with_reducible refine wA_nil ?_
  | with_reducible refine wA_cons ?_
  | with_reducible refine wT_tru ?_
  | with_reducible refine wT_tst ?_
  | with_reducible refine wT_and ?_
  | with_reducible refine wT_or ?_
  | with_reducible refine wT_not ?_
  | with_reducible refine wT_yes ?_
  | ((with_reducible refine wG_n ?_ ?_); · rfl)
  | ((with_reducible refine wG_T ?_ ?_); · rfl)
  | with_reducible refine wGs_nil ?_
  | with_reducible refine wGs_cons ?_
  | with_reducible refine wG_sub ?_
  | with_reducible refine wI_seq ?_
  | with_reducible refine wI_range1 ?_
  | with_reducible refine wI_range2 ?_
  | with_reducible refine wI_enum ?_
  | with_reducible refine wI_zip ?_)
local macro_rules | `(tactic| trivial) => `(tactic| repeat (first | infer_instance | with_reducible refine ⟨_, rfl, ?_⟩ | with_reducible refine ⟨rfl, ?_⟩ | with_reducible refine And.intro ⟨rfl, Nat.le_of_ble_eq_true rfl⟩ ?_ | with_reducible refine And.intro ⟨rfl, rfl⟩ ?_ | with_reducible refine ⟨_, _, rfl, ?_⟩ | with_reducible refine And.intro (by omega) ?_ | refine ifTT ?_ | refine ifFF ?_ | refine ifTF ?_ | refine ifFT ?_))
/-- tables, as they are handed in -/
def TOk (m : Mu) (d : D) (T : List (List Int)) : Prop := ∃ ts, SqD m d ts ∧ ts.length = T.length ∧ ∀ (k : Nat) (t : D), ts[k]? = some t → ∃ r, T[k]? = some r ∧ SqD m t (r.map D.int)
theorem TOk.lst {m : Mu} {T : List (List Int)} : TOk m (.lst (T.map rowL)) T := ⟨_, SqD.lst, by simp, fun k t h => by
  rw [List.getElem?_map] at h
  obtain ⟨r, hr, rfl⟩ := Option.map_eq_some_iff.mp h
  exact ⟨r, hr, SqD.lst⟩⟩
theorem TOk.tup {m : Mu} {T : List (List Int)} : TOk m (.tup (T.map rowT)) T := ⟨_, SqD.tup, by simp, fun k t h => by
  rw [List.getElem?_map] at h
  obtain ⟨r, hr, rfl⟩ := Option.map_eq_some_iff.mp h
  exact ⟨r, hr, SqD.tup⟩⟩
/-- a machine's fields -/
def mach (n dd : Int) (T : List (List Int)) (wd rc : D) : List (Nat × D) := [(6, .int n), (7, .int dd), (8, .tup (T.map rowT)), (9, wd), (10, rc)]
theorem ints_of : ∀ ws : List Int, intsOf (ws.map D.int) = some ws
  | [] => rfl
  | w :: ws => by
    show (match intsOf (ws.map D.int) with | some is => some (w :: is) | none => none) = _
    rw [ints_of ws]
section
variable {μ : Mu} {K : D → Mu → Prop} {KC : Cell → Mu → Prop} {X : Exn → Mu → Prop}
theorem init_w {d w : D} {n : Nat} {dd : Int} {T : List (List Int)} (ht : TOk μ d T) (hT : ∀ r ∈ T, OkRow n r) (hn : 1 ≤ n ∧ n ≤ 40) (hl : (T.length : Int) = dd) (hdd : 1 ≤ dd ∧ dd ≤ 12) (nlw : noLoc w = true)
    (hw : wF m_checked_words [.int n, .int dd, w] μ (fun wd m => m = μ ∧ noLoc wd = true ∧ ∀ rc, noLoc rc = true → KC (.ins 14 (mach n dd T wd rc)) μ) X) : wJ m_Machine___init__ [d, w] μ KC X := by
  refine wJ_init rfl ?_
  unfold ms_Machine___init__
  obtain ⟨ts, hs, htl, hts⟩ := ht
  have nl := hs.nl
  have hlen : ((ts.length : Nat) : Int) = dd := by rw [htl]; exact hl
  obtain ⟨r0, hr0⟩ : ∃ r0, T[0]? = some r0 := ⟨_, List.getElem?_eq_getElem (by omega)⟩
  obtain ⟨t0, ht0⟩ : ∃ t0, ts[0]? = some t0 := ⟨_, List.getElem?_eq_getElem (by omega)⟩
  obtain ⟨r0', hr0', hs0⟩ := hts 0 t0 ht0
  cases hr0.symm.trans hr0'
  have hln0 : (((r0.map D.int).length : Nat) : Int) = n := by
    rw [List.length_map]
    exact (hT r0 (mem_get hr0)).1
  have at0 : atI ts 0 = some t0 := atI_nat (j := 0) ht0
  trivial
  refine ⟨by simp [selG, nl], seq_w hs ?_⟩
  trivial
  refine ⟨_, hs.len, ?_⟩
  rw [hlen]
  refine ⟨_, rfl, ?_⟩
  rw [decide_eq_true hdd.1]
  trivial
  rw [decide_eq_true hdd.2]
  trivial
  obtain ⟨k2, ck2, hi2, hck2⟩ := hs.it
  refine ⟨_, k2, _, ck2, rfl, hi2, ?_⟩
  show wS _ [.own (.slf 14 []), .d d, .d w, .non, .non] _ _ _ _ _ _
  refine wFor (fun j e m => m = μ ∧ ∃ x3 x4, e = [.own (.slf 14 []), .d d, .d w, x3, x4]) ⟨rfl, _, _, rfl⟩ ?_ ?_
  · rintro j t e m hj ⟨rfl, x3, x4, rfl⟩
    refine ⟨hck2, ?_⟩
    obtain ⟨t, hjt, rfl⟩ := enumD_get hj
    obtain ⟨r, hr, hst⟩ := hts j t hjt
    have nlt := hst.nl
    have hrow := hT r (mem_get hr)
    trivial
    refine wG_n nlt ?_
    trivial
    refine ⟨fun _ => ?_, fun _ => ?_⟩
    · trivial
      refine ⟨_, hs.ix at0, ?_⟩
      trivial
      refine ⟨_, hs0.len, ?_⟩
      rw [hln0]
      trivial
      refine ⟨nl2 nlt rfl, table_w hst (by omega) hrow (.inr rfl) ?_⟩
      trivial
      exact Hold.mk ⟨rfl, _, _, rfl⟩
    · trivial
      refine ⟨nl2 nlt rfl, table_w hst (by omega) hrow (.inl rfl) ?_⟩
      trivial
      exact Hold.mk ⟨rfl, _, _, rfl⟩
  · rintro e m ⟨rfl, x3, x4, rfl⟩
    refine ⟨hck2, ?_⟩
    trivial
    refine ⟨_, hs.ix at0, ?_⟩
    trivial
    refine ⟨_, hs0.len, ?_⟩
    rw [hln0]
    refine ⟨_, _, rfl, ⟨by decide, by decide, rfl⟩, ?_⟩
    trivial
    refine ⟨_, hs.len, ?_⟩
    rw [hlen]
    refine ⟨_, _, rfl, ⟨by decide, by simp [gputF], rfl⟩, ?_⟩
    show wS _ [.own (.slf 14 [(6, .int n), (7, .int dd)]), .d d, .d w, x3, x4] _ _ _ _ _ _
    trivial
    refine ⟨k2, _, ck2, hi2, ?_⟩
    refine wLc_list (ys := T.map rowT) hck2 (by omega) (by simp [htl]) (fun j t hj => ?_) ?_
    · obtain ⟨r, hr, hst⟩ := hts j t hj
      refine ⟨rowT r, by simp [hr], ?_⟩
      refine wG_n hst.nl ⟨rfl, ?_⟩
      trivial
      refine ⟨_, hst.tuple, rfl, rfl, rfl, rfl⟩
    · trivial
      refine ⟨⟨by decide, by simp, rfl⟩, ?_⟩
      trivial
      refine ⟨nl3 rfl rfl nlw, hw.imp (fun wd m' ⟨e, nlwd, kc⟩ => ?_) fun x m hx => hx⟩
      subst e
      trivial
      refine ⟨⟨by decide, by simp [gputF], nlwd⟩, ?_⟩
      trivial
      refine first_rows_w (T := T) SqD.tup hn hT (by omega) fun kv ws hkv => ?_
      trivial
      refine ⟨.lst ((isort ws).map D.int), ?_, ?_⟩
      · show (intsOf (kkKeys kv)).map _ = _
        rw [hkv, ints_of]
        rfl
      · trivial
        refine ⟨⟨by decide, by simp [gputF], rfl⟩, ?_⟩
        exact ⟨_, rfl, kc _ rfl⟩
end
end Lw
set_option Elab.async false
set_option linter.all false
set_option maxRecDepth 100000
set_option maxHeartbeats 4000000
namespace Lw
open PySem PySem.Spec PyProof.Rows L2 DL
local macro_rules | `(tactic| infer_instance) => `(tactic| first
  | with_reducible refine wS_seq ?_
  | with_reducible refine wS_nx ?_
  | with_reducible refine wS_set ?_
  | with_reducible refine wS_ret ?_
  | with_reducible refine wS_retN ?_
  | with_reducible refine wS_expr ?_
  | with_reducible refine wS_if ?_
  | with_reducible refine wS_setN ?_
  | with_reducible refine wS_setC ?_
  | with_reducible refine wS_asg ?_
  | with_reducible refine wS_par ?_
  | with_reducible refine wS_for ?_
  | with_reducible refine wS_try ?_
  | with_reducible refine wS_raise ?_
  | with_reducible refine wS_setSelf ?_
  | with_reducible refine wS_bk ?_
  | with_reducible refine wS_ct ?_
  | ((with_reducible apply wS_fz); · rfl)
  | ((with_reducible apply wS_fz'); · rfl)
  | ((with_reducible apply wS_aug); · rfl)
  | with_reducible refine wE_C ?_
  | ((with_reducible apply wE_var); · rfl)
  | ((with_reducible apply wE_own); · rfl)
  | with_reducible refine wE_bin ?_
  | with_reducible refine wE_fld ?_
  | with_reducible refine wE_un ?_
  | with_reducible refine wE_chain ?_
  | with_reducible refine wE_and ?_
  | with_reducible refine wE_or ?_
  | with_reducible refine wE_not ?_
  | with_reducible refine wE_if ?_
  | with_reducible refine wE_tup ?_
  | with_reducible refine wE_N ?_
  | with_reducible refine wE_cel ?_
  | with_reducible refine wE_call ?_
  | with_reducible refine wE_callU ?_
  | with_reducible refine wE_met ?_
  | with_reducible refine wE_isi ?_
  | with_reducible refine wE_slice ?_
  | with_reducible refine wE_isX ?_
  | with_reducible refine wE_xf ?_
  | with_reducible refine wE_cmpI ?_
  | with_reducible refine wO_none _ ?_
  | with_reducible refine wO_some ?_
  | with_reducible refine wN_lst ?_
  | with_reducible refine wN_call ?_
  | with_reducible refine wN_make ?_
  | with_reducible refine wN_lc ?_
  | with_reducible refine wN_disp ?_
  | with_reducible refine wK_nil ?_
  | with_reducible refine wK_cons ?_
  | with_reducible refine wA_nil ?_
  | with_reducible refine wA_cons ?_
  | with_reducible refine wT_tru ?_
  | with_reducible refine wT_tst ?_
  | with_reducible refine wT_and ?_
  | with_reducible refine wT_or ?_
  | with_reducible refine wT_not ?_
  | with_reducible refine wT_yes ?_
  | ((with_reducible refine wG_n ?_ ?_); · rfl)
  | ((with_reducible refine wG_T ?_ ?_); · rfl)
  | with_reducible refine wGs_nil ?_
  | with_reducible refine wGs_cons ?_
  | with_reducible refine wG_sub ?_
  | with_reducible refine wI_seq ?_
  | with_reducible refine wI_range1 ?_
  | with_reducible refine wI_range2 ?_
  | with_reducible refine wI_enum ?_
  | with_reducible refine wI_zip ?_)
local macro_rules | `(tactic| trivial) => `(tactic| repeat (first | infer_instance | with_reducible refine ⟨_, rfl, ?_⟩ | with_reducible refine ⟨rfl, ?_⟩ | with_reducible refine And.intro ⟨rfl, Nat.le_of_ble_eq_true rfl⟩ ?_ | with_reducible refine And.intro ⟨rfl, rfl⟩ ?_ | with_reducible refine ⟨_, _, rfl, ?_⟩ | with_reducible refine And.intro (by omega) ?_ | refine ifTT ?_ | refine ifFF ?_ | refine ifTF ?_ | refine ifFT ?_))
theorem mul_lst1 {env : Env} {m : Mu} {x : D} {n : Int} (h : 0 ≤ n ∧ n ≤ 1000) : mulD env m (.lst [x]) (.int n) = some (.lst (List.replicate n.toNat x)) := by
  show (if -(2 ^ 63) ≤ n ∧ n < 2 ^ 63 ∧ [x].length * n.toNat ≤ sizeLine then some (D.lst (List.replicate n.toNat [x]).flatten) else none) = _
  rw [if_pos ⟨by omega, by omega, by simp only [List.length_singleton, Nat.one_mul]; exact Nat.le_trans (by omega : n.toNat ≤ 1000) (by decide)⟩, rep1]
section
variable {μ : Mu} {K : D → Mu → Prop} {X : Exn → Mu → Prop} {n : Int} {dd : Int} {T : List (List Int)} {wd0 rc0 : D}
/-- what is known of a machine's tables -/
structure Tb (n : Int) (dd : Int) (T : List (List Int)) : Prop where
  ok : ∀ r ∈ T, OkRow n r
  n1 : 1 ≤ n ∧ n ≤ 40
  len : (T.length : Int) = dd
  d1 : 1 ≤ dd ∧ dd ≤ 12
theorem with_w {w : D} (t : Tb n dd T) (nlw : noLoc w = true) (hw : wF m_checked_words [.int n, .int dd, w] μ (fun wd m => m = μ ∧ noLoc wd = true ∧ ∀ rc, noLoc rc = true → K (.ins 14 (mach n dd T wd rc)) μ) X) :
    wF m_with_words [.ins 14 (mach n dd T wd0 rc0), w] μ K X := by
  refine wF_def rfl ?_
  unfold ms_with_words
  trivial
  refine ⟨nl2 rfl nlw, ?_⟩
  show wJ m_Machine___init__ [.tup (T.map rowT), w] μ _ _
  obtain ⟨n', rfl⟩ : ∃ n' : Nat, n = n' := ⟨n.toNat, by have := t.n1; omega⟩
  refine init_w TOk.tup t.ok (by have := t.n1; omega) t.len t.d1 nlw (hw.imp (fun wd m ⟨e, h1, h2⟩ => ⟨e, h1, fun rc hrc => ?_⟩) fun x m h => h)
  exact ⟨⟨rfl, rfl⟩, rfl, h2 rc hrc⟩
/-- sorts that are a sequence -/
theorem cs_seq {s : D} {l : List D} (hs : SqD μ s l) (hl : l.length ≤ 1000) (hp : (l.length : Int) = dd → ∀ x ∈ l, plainD x = true) (hok : (l.length : Int) = dd → (l.all (blw 1000001)) = true → K (.tup l) μ) (hbad : ¬ ((l.length : Int) = dd ∧ (l.all (blw 1000001)) = true) → X ⟨7, [(0, s)]⟩ μ) :
    wF m_check_sorts [.ins 14 (mach n dd T wd0 rc0), s] μ K X := by
  refine wF_def rfl ?_
  unfold ms_check_sorts
  have nl := hs.nl
  trivial
  refine ⟨nl1 nl, seq_w hs ?_⟩
  trivial
  refine ⟨_, hs.len, ?_⟩
  trivial
  by_cases c : (l.length : Int) = dd
  · have ee : (!(PyData.int (l.length : Int)).eqv (PyData.int dd)) = false := by
      show (!((l.length : Int) == dd)) = false
      simp [c]
    rw [ee]
    trivial
    obtain ⟨k2, ck2, hi2, hck2⟩ := hs.it
    refine ⟨k2, _, ck2, hi2, ?_⟩
    refine wLc_map (fun d => .bl (blw 1000001 d)) hck2 (by omega) (fun w hw => ?_) ?_
    · have hpw := hp c w hw
      have nlw : noLoc w = true := by cases w <;> first | rfl | cases hpw
      refine wG_n nlw ⟨rfl, ?_⟩
      trivial
      refine ⟨nl2 nlw rfl, below_w hpw ?_⟩
      exact ⟨rfl, rfl, rfl, rfl⟩
    · refine wA_nil ⟨_, all_map (blw 1000001) _, ?_⟩
      trivial
      cases e : l.all (blw 1000001) with
      | true =>
        trivial
        refine ⟨_, hs.tuple, rfl, hok c e⟩
      | false =>
        trivial
        refine hbad fun z => ?_
        rw [e] at z
        cases z.2
  · have ee : (!(PyData.int (l.length : Int)).eqv (PyData.int dd)) = true := by
      show (!((l.length : Int) == dd)) = true
      simp [c]
    rw [ee]
    trivial
    exact hbad fun z => c z.1
theorem cs_no {s : D} (hp : plainD s = true) (h2 : ∀ l, s ≠ .tup l ∧ s ≠ .lst l) (hbad : X ⟨7, [(0, s)]⟩ μ) : wF m_check_sorts [.ins 14 (mach n dd T wd0 rc0), s] μ K X := by
  refine wF_def rfl ?_
  unfold ms_check_sorts
  have nl : noLoc s = true := by cases s <;> first | rfl | cases hp
  trivial
  refine ⟨nl1 nl, noseq_w hp h2 ?_⟩
  trivial
  exact hbad
/-- words that say (or show) one number a row -/
def sortW (n : Int) (ns : List Int) : List (List (Int × Int)) := ns.map fun i => List.replicate n.toNat (i, 0)
def buttW (n : Int) (ns : List Int) : List (List (Int × Int)) := ns.map fun i => List.replicate n.toNat (0, i)
def wordsD (W : List (List (Int × Int))) : D := .tup (W.map wrowD)
/-- handed in as lists of tuples -/
theorem rok_rep {n : Int} {p : Int × Int} (hn : 0 ≤ n) (h1 : 0 ≤ p.1 ∧ p.1 ≤ 1000000) (h2 : 0 ≤ p.2 ∧ p.2 ≤ 1000000) : ROk μ n (.lst (List.replicate n.toNat (wordD p))) (List.replicate n.toNat p) := by
  refine ⟨_, SqD.lst, by simp; omega, by simp, fun j w hj => ?_⟩
  obtain ⟨hj1, rfl⟩ := List.getElem?_eq_some_iff.mp hj
  rw [List.length_replicate] at hj1
  refine ⟨p, by simp [hj1], ?_, h1, h2⟩
  rw [List.getElem_replicate]
  exact SqD.tup
theorem cw_rep {f : Int → Int × Int} {ns : List Int} (hn : 1 ≤ n ∧ n ≤ 40) (hd : 1 ≤ dd ∧ dd ≤ 12) (hl : (ns.length : Int) = dd) (hf : ∀ i ∈ ns, (0 ≤ (f i).1 ∧ (f i).1 ≤ 1000000) ∧ (0 ≤ (f i).2 ∧ (f i).2 ≤ 1000000)) (k : K (wordsD (ns.map fun i => List.replicate n.toNat (f i))) μ) :
    wF m_checked_words [.int n, .int dd, .lst (ns.map fun i => .lst (List.replicate n.toNat (wordD (f i))))] μ K X := by
  refine cw_seq (c := ns.length) (W := ns.map fun i => List.replicate n.toNat (f i)) (by omega) (by omega) SqD.lst (by simpa using hl) (by simp) (fun j t hj _ => ?_) (fun t ht => ?_) (fun h => by simp at h) (fun _ => ⟨by simp, k⟩)
  · rw [List.getElem?_map] at hj
    obtain ⟨i, hi, rfl⟩ := Option.map_eq_some_iff.mp hj
    exact ⟨_, by rw [List.getElem?_map, hi]; rfl, rok_rep (by omega) (hf i (mem_get hi)).1 (hf i (mem_get hi)).2⟩
  · have := (List.getElem?_eq_some_iff.mp ht).1
    simp at this
/-- sorts that are right -/
structure Srt (m : Mu) (dd : Int) (s : D) (ns : List Int) : Prop where
  sq : SqD m s (ns.map D.int)
  len : (ns.length : Int) = dd
  rng : ∀ i ∈ ns, 0 ≤ i ∧ i ≤ 1000000
theorem Srt.all {s : D} {ns : List Int} (h : Srt μ dd s ns) : ((ns.map D.int).all (blw 1000001)) = true := by
  rw [List.all_map, List.all_eq_true]
  intro i hi
  have := h.rng i hi
  show (decide (0 ≤ i) && decide (i < 1000001)) = true
  rw [decide_eq_true this.1, decide_eq_true (by omega)]
  rfl
theorem cs_ok {s : D} {ns : List Int} (h : Srt μ dd s ns) (hd : dd ≤ 12) (k : K (.tup (ns.map D.int)) μ) : wF m_check_sorts [.ins 14 (mach n dd T wd0 rc0), s] μ K X := by
  have hl := h.len
  refine cs_seq h.sq (by rw [List.length_map]; omega) (fun _ x hx => ?_) (fun _ _ => k) (fun z => absurd ⟨by rw [List.length_map]; exact h.len, h.all⟩ z)
  obtain ⟨i, _, rfl⟩ := List.mem_map.mp hx
  rfl
theorem sort_w {s : D} {ns : List Int} (t : Tb n dd T) (h : Srt μ dd s ns) (k : ∀ rc, noLoc rc = true → K (.ins 14 (mach n dd T (wordsD (sortW n ns)) rc)) μ) : wF m_sort_words [.ins 14 (mach n dd T wd0 rc0), s] μ K X := by
  have t' := t.n1
  have hl := h.len
  have hd := t.d1
  refine wF_def rfl ?_
  unfold ms_sort_words
  trivial
  refine ⟨nl2 rfl h.sq.nl, cs_ok h hd.2 ?_⟩
  trivial
  refine ⟨_, _, _, rfl, ?_⟩
  refine wLc_list (ys := ns.map fun i => .lst (List.replicate n.toNat (wordD (i, 0)))) True.intro (by rw [List.length_map]; omega) (by simp) (fun j w hj => ?_) ?_
  · rw [List.getElem?_map] at hj
    obtain ⟨i, hi, rfl⟩ := Option.map_eq_some_iff.mp hj
    refine ⟨_, by rw [List.getElem?_map, hi]; rfl, ?_⟩
    refine wG_n rfl ⟨rfl, ?_⟩
    trivial
    exact ⟨_, mul_lst1 (by omega), rfl, rfl, rfl, rfl⟩
  · trivial
    refine with_w t rfl ?_
    refine cw_rep (f := fun i => (i, 0)) t' hd h.len (fun i hi => ⟨h.rng i hi, by omega⟩) ?_
    exact ⟨rfl, rfl, fun rc hrc => ⟨rfl, k rc hrc⟩⟩
theorem butt_w {s : D} {ns : List Int} (t : Tb n dd T) (h : Srt μ dd s ns) (k : ∀ rc, noLoc rc = true → K (.ins 14 (mach n dd T (wordsD (buttW n ns)) rc)) μ) : wF m_button_words [.ins 14 (mach n dd T wd0 rc0), s] μ K X := by
  have t' := t.n1
  have hl := h.len
  have hd := t.d1
  refine wF_def rfl ?_
  unfold ms_button_words
  trivial
  refine ⟨nl2 rfl h.sq.nl, cs_ok h hd.2 ?_⟩
  trivial
  refine ⟨_, _, _, rfl, ?_⟩
  refine wLc_list (ys := ns.map fun i => .lst (List.replicate n.toNat (wordD (0, i)))) True.intro (by rw [List.length_map]; omega) (by simp) (fun j w hj => ?_) ?_
  · rw [List.getElem?_map] at hj
    obtain ⟨i, hi, rfl⟩ := Option.map_eq_some_iff.mp hj
    refine ⟨_, by rw [List.getElem?_map, hi]; rfl, ?_⟩
    refine wG_n rfl ⟨rfl, ?_⟩
    trivial
    exact ⟨_, mul_lst1 (by omega), rfl, rfl, rfl, rfl⟩
  · trivial
    refine with_w t rfl ?_
    refine cw_rep (f := fun i => (0, i)) t' hd h.len (fun i hi => ⟨by omega, h.rng i hi⟩) ?_
    exact ⟨rfl, rfl, fun rc hrc => ⟨rfl, k rc hrc⟩⟩
theorem silent_w (t : Tb n dd T) (k : ∀ rc, noLoc rc = true → K (.ins 14 (mach n dd T (wordsD (sortW n (List.replicate dd.toNat 0))) rc)) μ) : wF m_silent_words [.ins 14 (mach n dd T wd0 rc0)] μ K X := by
  have hd := t.d1
  refine wF_def rfl ?_
  unfold ms_silent_words
  trivial
  refine ⟨_, mul_tup1 (by omega), ?_⟩
  trivial
  refine sort_w t ⟨?_, ?_, ?_⟩ fun rc hrc => ⟨rfl, k rc hrc⟩
  · rw [List.map_replicate]
    exact SqD.tup
  · rw [List.length_replicate]
    omega
  · intro i hi
    rw [List.eq_of_mem_replicate hi]
    omega
end
end Lw
set_option Elab.async false
set_option linter.all false
set_option maxRecDepth 100000
set_option maxHeartbeats 4000000
namespace Lw
open PySem PySem.Spec PyProof.Rows L2 DL
local macro_rules | `(tactic| infer_instance) => `(tactic| first
  | with_reducible refine wS_seq ?_
  | with_reducible refine wS_nx ?_
  | with_reducible refine wS_set ?_
  | with_reducible refine wS_ret ?_
  | with_reducible refine wS_retN ?_
  | with_reducible refine wS_expr ?_
  | with_reducible refine wS_if ?_
  | with_reducible refine wS_setN ?_
  | with_reducible refine wS_setC ?_
  | with_reducible refine wS_asg ?_
  | with_reducible refine wS_par ?_
  | with_reducible refine wS_for ?_
  | with_reducible refine wS_try ?_
  | with_reducible refine wS_raise ?_
  | with_reducible refine wS_setSelf ?_
  | with_reducible refine wS_bk ?_
  | with_reducible refine wS_ct ?_
  | ((with_reducible apply wS_fz); · rfl)
  | ((with_reducible apply wS_fz'); · rfl)
  | ((with_reducible apply wS_aug); · rfl)
  | with_reducible refine wE_C ?_
  | ((with_reducible apply wE_var); · rfl)
  | ((with_reducible apply wE_own); · rfl)
  | with_reducible refine wE_bin ?_
  | with_reducible refine wE_fld ?_
  | with_reducible refine wE_un ?_
  | with_reducible refine wE_chain ?_
  | with_reducible refine wE_and ?_
  | with_reducible refine wE_or ?_
  | with_reducible refine wE_not ?_
  | with_reducible refine wE_if ?_
  | with_reducible refine wE_tup ?_
  | with_reducible refine wE_N ?_
  | with_reducible refine wE_cel ?_
  | with_reducible refine wE_call ?_
  | with_reducible refine wE_callU ?_
  | with_reducible refine wE_met ?_
  | with_reducible refine wE_isi ?_
  | with_reducible refine wE_slice ?_
  | with_reducible refine wE_isX ?_
  | with_reducible refine wE_xf ?_
  | with_reducible refine wE_cmpI ?_
  | with_reducible refine wO_none _ ?_
  | with_reducible refine wO_some ?_
  | with_reducible refine wN_lst ?_
  | with_reducible refine wN_call ?_
  | with_reducible refine wN_make ?_
  | with_reducible refine wN_lc ?_
  | with_reducible refine wN_disp ?_
  | with_reducible refine wK_nil ?_
  | with_reducible refine wK_cons ?_
  | with_reducible refine wA_nil ?_
  | with_reducible refine wA_cons ?_
  | with_reducible refine wT_tru ?_
  | with_reducible refine wT_tst ?_
  | with_reducible refine wT_and ?_
  | with_reducible refine wT_or ?_
  | with_reducible refine wT_not ?_
  | with_reducible refine wT_yes ?_
  | ((with_reducible refine wG_n ?_ ?_); · rfl)
  | ((with_reducible refine wG_T ?_ ?_); · rfl)
  | with_reducible refine wGs_nil ?_
  | with_reducible refine wGs_cons ?_
  | with_reducible refine wG_sub ?_
  | with_reducible refine wI_seq ?_
  | with_reducible refine wI_range1 ?_
  | with_reducible refine wI_range2 ?_
  | with_reducible refine wI_enum ?_
  | with_reducible refine wI_zip ?_)
local macro_rules | `(tactic| trivial) => `(tactic| repeat (first | infer_instance | with_reducible refine ⟨_, rfl, ?_⟩ | with_reducible refine ⟨rfl, ?_⟩ | with_reducible refine And.intro ⟨rfl, Nat.le_of_ble_eq_true rfl⟩ ?_ | with_reducible refine And.intro ⟨rfl, rfl⟩ ?_ | with_reducible refine ⟨_, _, rfl, ?_⟩ | with_reducible refine And.intro (by omega) ?_ | refine ifTT ?_ | refine ifFF ?_ | refine ifTF ?_ | refine ifFT ?_))
theorem noEx_of {v : D} (h : noLoc v = true) : noExS (.d v) = true := by cases v <;> first | rfl | cases h
section
variable {μ : Mu} {K : D → Mu → Prop} {X : Exn → Mu → Prop} {n : Int} {dd : Int} {T : List (List Int)} {wd0 rc0 : D}
theorem sort_x {s : D} (nl : noLoc s = true) (h : wF m_check_sorts [.ins 14 (mach n dd T wd0 rc0), s] μ (fun _ _ => False) X) : wF m_sort_words [.ins 14 (mach n dd T wd0 rc0), s] μ K X := by
  refine wF_def rfl ?_
  unfold ms_sort_words
  trivial
  exact ⟨nl2 rfl nl, h.imp (fun _ _ z => z.elim) fun _ _ z => z⟩
theorem butt_x {s : D} (nl : noLoc s = true) (h : wF m_check_sorts [.ins 14 (mach n dd T wd0 rc0), s] μ (fun _ _ => False) X) : wF m_button_words [.ins 14 (mach n dd T wd0 rc0), s] μ K X := by
  refine wF_def rfl ?_
  unfold ms_button_words
  trivial
  exact ⟨nl2 rfl nl, h.imp (fun _ _ z => z.elim) fun _ _ z => z⟩
theorem ref_sorts {v : D} {kd : Int} {z : Str} (hk : kd = 0 ∨ kd = 1) (nl : noLoc v = true) (h : wF m_check_sorts [.ins 14 (mach n dd T wd0 rc0), v] μ (fun _ _ => False) (fun x m => x = ⟨7, [(0, v)]⟩ ∧ m = μ)) (hr : ∀ env, reprD env μ [v] = some (.str z))
    (k : K (.tup [.str "refused", .str z]) μ) : wF m__law_refused [.ins 14 (mach n dd T wd0 rc0), .int kd, v] μ K X := by
  refine wF_def rfl ?_
  unfold ms__law_refused
  trivial
  have fin : ∀ (x : Exn) (m : Mu), x = ⟨7, [(0, v)]⟩ ∧ m = μ → wS (mHs x [((fun k => ([(0, false), (1, false), (2, false), (7, true), (11, false), (12, false)] : List (Nat × Bool)).lookup k), some 3, (mRet (mIf (mAndT (mTru (mIsX (fun k => ([(0, true), (1, true), (2, true), (7, true), (11, false), (12, false)] : List (Nat × Bool)).lookup k) (mVar 3))) (mNotT (mTru (mIsX (fun k => ([(0, false), (1, true), (2, false), (7, false), (11, false), (12, false)] : List (Nat × Bool)).lookup k) (mVar 3))))) (mTup (aCons (mC (.str "refused")) (aCons (mCall reprD (aCons (mXf (fun k => ([1, 2, 7] : List Nat).contains k) 0 (mVar 3)) aNil)) aNil))) (mC (.str "wrong"))))), ((fun k => ([(0, false), (1, true), (2, false), (7, false), (11, false), (12, false)] : List (Nat × Bool)).lookup k), some 3, (mRet (mTup (aCons (mC (.str "machine")) (aCons (mXf (fun k => ([1, 2, 7] : List Nat).contains k) 0 (mVar 3)) aNil)))))]) (startD 4 [.ins 14 (mach n dd T wd0 rc0), .int kd, v]) m (fun e m => wS (mRet (mC .non)) e m (fun x m => K .non m) (fun d x m => K d m) (fun _ _ => False) (fun _ _ => False) (fun x _ m => X x m)) (fun d _ m => K d m) (fun _ _ => False) (fun _ _ => False) (fun x _ m => X x m) := by
    rintro x m ⟨rfl, rfl⟩
    refine wS_hsA rfl ?_
    trivial
    refine ⟨_, _, _, rfl, rfl, ?_⟩
    trivial
    refine ⟨_, _, _, rfl, rfl, ?_⟩
    trivial
    refine ⟨_, _, _, rfl, rfl, rfl, ?_⟩
    trivial
    refine ⟨_, hr _, ?_⟩
    trivial
    refine ⟨?_, k⟩
    show (true && (true && (noExS (.d v) && true))) = true
    rw [noEx_of nl]
    rfl
  rcases hk with rfl | rfl
  · trivial
    refine ⟨nl2 rfl nl, sort_x nl (h.imp (fun _ _ z => z.elim) fun x m e => ?_)⟩
    exact fin x m e
  · trivial
    refine ⟨nl2 rfl nl, butt_x nl (h.imp (fun _ _ z => z.elim) fun x m e => ?_)⟩
    exact fin x m e
theorem ref_words {v : D} {at_ : Int} (t : Tb n dd T) (nl : noLoc v = true) (h : wF m_checked_words [.int n, .int dd, v] μ (fun _ _ => False) (fun x m => x = ⟨1, [(0, .int at_)]⟩ ∧ m = μ))
    (k : K (.tup [.str "machine", .int at_]) μ) : wF m__law_refused [.ins 14 (mach n dd T wd0 rc0), .int 2, v] μ K X := by
  refine wF_def rfl ?_
  unfold ms__law_refused
  trivial
  refine ⟨nl2 rfl nl, with_w t nl (h.imp (fun _ _ z => z.elim) ?_)⟩
  rintro x m ⟨rfl, rfl⟩
  refine wS_hsF rfl (wS_hsA rfl ?_)
  trivial
  refine ⟨_, _, _, rfl, rfl, rfl, ?_⟩
  trivial
  refine ⟨?_, k⟩
  show (true && (true && (noExS (.d v) && true))) = true
  rw [noEx_of nl]
  rfl
theorem eq_w {wd rc rc' : D} {p q : PyData} (hT : toP (.tup (T.map rowT)) = some p) (hp : SeqAt.shaped p = true) (hW : toP wd = some q) (hq : SeqAt.shaped q = true) (k : K (.bl true) μ) :
    wF m_Machine___eq__ [.ins 14 (mach n dd T wd rc), .ins 14 (mach n dd T wd rc')] μ K X := by
  refine wF_def rfl ?_
  unfold ms_Machine___eq__
  have hW' : ∀ env, toPR env μ wd = some q := fun env => toPR_of hW
  trivial
  refine ⟨_, eq_same hp (show toPR _ _ _ = _ from hT) hT, ?_⟩
  trivial
  exact ⟨_, eq_same hq (hW' _) (hW' _), rfl, k⟩
end
end Lw
set_option Elab.async false
set_option linter.all false
set_option maxRecDepth 100000
set_option maxHeartbeats 4000000
namespace Lw
open PySem PySem.Spec PyProof.Rows L2 DL
local macro_rules | `(tactic| infer_instance) => `(tactic| first
  | with_reducible refine wS_seq ?_
  | with_reducible refine wS_nx ?_
  | with_reducible refine wS_set ?_
  | with_reducible refine wS_ret ?_
  | with_reducible refine wS_retN ?_
  | with_reducible refine wS_expr ?_
  | with_reducible refine wS_if ?_
  | with_reducible refine wS_setN ?_
  | with_reducible refine wS_setC ?_
  | with_reducible refine wS_asg ?_
  | with_reducible refine wS_par ?_
  | with_reducible refine wS_for ?_
  | with_reducible refine wS_try ?_
  | with_reducible refine wS_raise ?_
  | with_reducible refine wS_setSelf ?_
  | with_reducible refine wS_bk ?_
  | with_reducible refine wS_ct ?_
  | ((with_reducible apply wS_fz); · rfl)
  | ((with_reducible apply wS_fz'); · rfl)
  | ((with_reducible apply wS_aug); · rfl)
  | with_reducible refine wE_C ?_
  | ((with_reducible apply wE_var); · rfl)
  | ((with_reducible apply wE_own); · rfl)
  | with_reducible refine wE_bin ?_
  | with_reducible refine wE_fld ?_
  | with_reducible refine wE_un ?_
  | with_reducible refine wE_chain ?_
  | with_reducible refine wE_and ?_
  | with_reducible refine wE_or ?_
  | with_reducible refine wE_not ?_
  | with_reducible refine wE_if ?_
  | with_reducible refine wE_tup ?_
  | with_reducible refine wE_N ?_
  | with_reducible refine wE_cel ?_
  | with_reducible refine wE_call ?_
  | with_reducible refine wE_callU ?_
  | with_reducible refine wE_met ?_
  | with_reducible refine wE_isi ?_
  | with_reducible refine wE_slice ?_
  | with_reducible refine wE_isX ?_
  | with_reducible refine wE_xf ?_
  | with_reducible refine wE_cmpI ?_
  | with_reducible refine wO_none _ ?_
  | with_reducible refine wO_some ?_
  | with_reducible refine wN_lst ?_
  | with_reducible refine wN_call ?_
  | with_reducible refine wN_make ?_
  | with_reducible refine wN_lc ?_
  | with_reducible refine wN_disp ?_
  | with_reducible refine wK_nil ?_
  | with_reducible refine wK_cons ?_
  | with_reducible refine wA_nil ?_
  | with_reducible refine wA_cons ?_
  | with_reducible refine wT_tru ?_
  | with_reducible refine wT_tst ?_
  | with_reducible refine wT_and ?_
  | with_reducible refine wT_or ?_
  | with_reducible refine wT_not ?_
  | with_reducible refine wT_yes ?_
  | ((with_reducible refine wG_n ?_ ?_); · rfl)
  | ((with_reducible refine wG_T ?_ ?_); · rfl)
  | with_reducible refine wGs_nil ?_
  | with_reducible refine wGs_cons ?_
  | with_reducible refine wG_sub ?_
  | with_reducible refine wI_seq ?_
  | with_reducible refine wI_range1 ?_
  | with_reducible refine wI_range2 ?_
  | with_reducible refine wI_enum ?_
  | with_reducible refine wI_zip ?_)
local macro_rules | `(tactic| trivial) => `(tactic| repeat (first | infer_instance | with_reducible refine ⟨_, rfl, ?_⟩ | with_reducible refine ⟨rfl, ?_⟩ | with_reducible refine And.intro ⟨rfl, Nat.le_of_ble_eq_true rfl⟩ ?_ | with_reducible refine And.intro ⟨rfl, rfl⟩ ?_ | with_reducible refine ⟨_, _, rfl, ?_⟩ | with_reducible refine And.intro (by omega) ?_ | refine ifTT ?_ | refine ifFF ?_ | refine ifTF ?_ | refine ifFT ?_))
theorem lt_line {a : Nat} (h : a ≤ 1000000) : a < sizeLine := Nat.lt_of_le_of_lt h (by decide)
/-- drawn words -/
def OkW (n : Int) (W : List (List (Int × Int))) : Prop := ∀ r ∈ W, (r.length : Int) = n ∧ ∀ p ∈ r, (0 ≤ p.1 ∧ p.1 ≤ 2) ∧ (0 ≤ p.2 ∧ p.2 ≤ 2)
def wrowL (r : List (Int × Int)) : D := .lst (r.map wordD)
section
variable {μ : Mu} {b : Nat} {q : Int × Int × Int} {K : D → Mu → Prop} {X : Exn → Mu → Prop} {n : Int} {T : List (List Int)}
theorem words_w (hb : b < μ.length) (hT : ∀ r ∈ T, OkRow n r) (hn : 1 ≤ n ∧ n ≤ 40) (hl : T.length ≤ 1000)
    (k : ∀ W q', W.length = T.length → OkW n W → K (.lst (W.map wrowL)) (bx μ b q')) : wF m__law_words [.cel b, .lst (T.map rowL)] (bx μ b q) K X := by
  refine wF_def rfl ?_
  unfold ms__law_words
  trivial
  refine take_w hb (by decide) (by decide) fun s1 q1 h1 h2 => ?_
  trivial
  refine take_w hb (by decide) (by decide) fun s2 q2 h3 h4 => ?_
  trivial
  refine ⟨_, _, _, rfl, ?_⟩
  show wS _ [.d (.cel b), .d (.lst (T.map rowL)), .d (.int (1 + s1)), .d (.int (1 + s2)), .own (.lst []), .non, .non] _ _ _ _ _ _
  refine wFor (fun j e m => ∃ W q' x5 x6, e = [.d (.cel b), .d (.lst (T.map rowL)), .d (.int (1 + s1)), .d (.int (1 + s2)), .own (.lst (W.map wrowL)), x5, .non] ∧ m = bx μ b q' ∧ W.length = j ∧ OkW n W ∧ x6 = 0)
    ⟨[], q2, _, 0, rfl, rfl, rfl, (fun _ h => nomatch h), rfl⟩ ?_ ?_
  · rintro j d e m hj ⟨W, q', x5, x6, rfl, rfl, hW, hok, _⟩
    refine ⟨True.intro, ?_⟩
    have hjl := (List.getElem?_eq_some_iff.mp hj).1
    rw [List.length_map] at hjl
    rw [List.getElem?_map] at hj
    obtain ⟨r, hr, rfl⟩ := Option.map_eq_some_iff.mp hj
    have hrow := hT r (mem_get hr)
    trivial
    refine ⟨_, _, _, rfl, ?_⟩
    show wN _ [.d (.cel b), .d (.lst (T.map rowL)), .d (.int (1 + s1)), .d (.int (1 + s2)), .own (.lst (W.map wrowL)), .d (rowL r), .non] _ _ _
    refine wLc (fun i acc e m => ∃ w q'', acc = w.map wordD ∧ e = [.d (.cel b), .d (.lst (T.map rowL)), .d (.int (1 + s1)), .d (.int (1 + s2)), .own (.lst (W.map wrowL)), .d (rowL r), .non] ∧ m = bx μ b q'' ∧ w.length = i ∧ ∀ p ∈ w, (0 ≤ p.1 ∧ p.1 ≤ 2) ∧ (0 ≤ p.2 ∧ p.2 ≤ 2))
      ⟨[], q', rfl, rfl, rfl, rfl, fun _ h => nomatch h⟩ ?_ ?_
    · rintro i d acc e m hi ⟨w, q'', rfl, rfl, rfl, hw, hwb⟩
      refine ⟨True.intro, ?_⟩
      have hil := (List.getElem?_eq_some_iff.mp hi).1
      rw [List.length_map] at hil
      rw [List.getElem?_map] at hi
      obtain ⟨x, hx, rfl⟩ := Option.map_eq_some_iff.mp hi
      trivial
      refine take_w hb (by omega) (by omega) fun a q3 h5 h6 => ?_
      trivial
      refine take_w hb (by omega) (by omega) fun c q4 h7 h8 => ?_
      trivial
      have hlen : r.length ≤ 40 := by have := hrow.1; omega
      refine ⟨⟨rfl, lt_line (by rw [List.length_map]; omega)⟩, Hold.mk ⟨w ++ [(a, c)], q4, by rw [← map_snoc]; rfl, rfl, rfl, by rw [List.length_append, hw]; rfl, all_snoc hwb ⟨by omega, by omega⟩⟩⟩
    · rintro acc e m ⟨w, q'', rfl, rfl, rfl, hw, hwb⟩
      refine ⟨True.intro, ?_⟩
      rw [List.length_map] at hw
      trivial
      refine ⟨_, _, _, rfl, app_ok (by rw [List.length_map]; omega), ?_⟩
      exact Hold.mk ⟨W ++ [w], q'', _, 0, by rw [← map_snoc]; rfl, rfl, by rw [List.length_append, hW]; rfl, all_snoc hok ⟨by rw [hw]; exact hrow.1, hwb⟩, rfl⟩
  · rintro e m ⟨W, q', x5, x6, rfl, rfl, hW, hok, _⟩
    refine ⟨True.intro, ?_⟩
    rw [List.length_map] at hW
    trivial
    exact k W q' hW hok
theorem box_w {ns : List Int} {k : Nat} (hk : k < 1000) (h : ∀ q', K (.cel μ.length) (bx (μ ++ [.dead]) μ.length q')) : wF m__law_box [.rol (ns.map D.int), .int k] μ K X := by
  refine wF_def rfl ?_
  unfold ms__law_box
  have hs : SqD μ (.rol (ns.map D.int)) (ns.map D.int) := SqD.rol
  generalize hL : (ns.map D.int) = L at hs
  have hk0 : (0 : Int) ≤ k := by omega
  have hk1 : (k : Int) < 1000 := by omega
  generalize (k : Int) = kk at hk0 hk1
  have hI : ∀ i : Int, 0 ≤ i → i < L.length → ∃ z : Int, atI L i = some (.int z) := fun i h0 h1 => by
    obtain ⟨x, hx, e⟩ := atI_mem h0 h1
    subst hL
    obtain ⟨z, _, rfl⟩ := List.mem_map.mp hx
    exact ⟨z, e⟩
  have fin : ∀ c : Int, wS (mRet (mCelN (mLst (aCons (mBin ixD (mN (mLst (aCons (mC (.int 0)) (aCons (mVar 2) aNil)))) (mCall DL.intD (aCons (mBin geD (mVar 2) (mBin powD (mC (.int 10)) (mC (.int 18)))) aNil))) (aCons (mBin addD (mBin modD (mCall DL.intD (aCons (mBin addD (mBin mulD (mBin modD (mCall DL.intD (aCons (mVar 2) aNil)) (mC (.int 2147483477))) (mC (.int 39019))) (mBin mulD (mC (.int 25111)) (mVar 1))) aNil)) (mC (.int 2147483477))) (mC (.int 1))) (aCons (mC (.int 0)) aNil)))))) [.d (.rol L), .d (.int kk), .d (.int c)] μ (fun _ m => K .non m) (fun d _ m => K d m) (fun _ _ => False) (fun _ _ => False) (fun x _ m => X x m) := by
    intro c
    trivial
    obtain ⟨z, hz⟩ : ∃ z : Int, ixD [.d (.rol L), .d (.int kk), .d (.int c)] μ (.lst [.int 0, .int c]) (.int (if decide ((10 : Int) ^ (18 : Int).toNat ≤ c) = true then 1 else 0)) = some (.int z) := by
      split
      · exact ⟨c, rfl⟩
      · exact ⟨0, rfl⟩
    refine ⟨_, hz, ?_⟩
    trivial
    refine ⟨_, mul_okR ⟨by decide, by decide⟩, ?_⟩
    trivial
    generalize (Int.fmod _ _ + 1 : Int) = y
    have e : μ ++ [.lst [.int z, .int y, .int 0]] = bx (μ ++ [.dead]) μ.length (z, y, 0) := by
      unfold bx
      rw [List.set_append_right _ _ (Nat.le_refl _), Nat.sub_self]
      rfl
    show K (.cel μ.length) (μ ++ [.lst [.int z, .int y, .int 0]])
    rw [e]
    exact h _
  have hlen := hs.len (env := [.d (.rol L), .d (.int kk), .d (.int (5437 * kk + 811))])
  refine wS_cut (fun e m => e = [.d (.rol L), .d (.int kk), .d (.int (5437 * kk + 811))] ∧ m = μ) ?_ ?_
  · trivial
    exact Hold.mk ⟨rfl, rfl⟩
  rintro e m ⟨rfl, rfl⟩
  refine wS_cut (fun e m' => (∃ c : Int, e = [.d (.rol L), .d (.int kk), .d (.int c)]) ∧ m' = m) ?_ ?_
  · trivial
    refine ⟨fun c => ?_, fun c => ?_⟩
    · obtain ⟨z, hz⟩ := hI kk hk0 (of_decide_eq_true c)
      trivial
      refine ⟨_, hs.ix hz, ?_⟩
      trivial
      exact Hold.mk ⟨⟨_, rfl⟩, rfl⟩
    · trivial
      refine ⟨fun c2 => ?_, fun c2 => ?_⟩
      · have c2 : (0 : Int) < L.length := of_decide_eq_true c2
        trivial
        refine ⟨_, mod_ok (by omega), ?_⟩
        obtain ⟨z, hz⟩ := hI (kk.fmod L.length) (Int.fmod_nonneg_of_pos _ c2) (Int.fmod_lt_of_pos _ c2)
        refine ⟨_, hs.ix hz, ?_⟩
        trivial
        refine ⟨_, mul_okR ⟨by decide, by decide⟩, ?_⟩
        trivial
        exact Hold.mk ⟨⟨_, rfl⟩, rfl⟩
      · trivial
        exact Hold.mk ⟨⟨_, rfl⟩, rfl⟩
  rintro e m' ⟨⟨c, rfl⟩, rfl⟩
  exact fin c
end
end Lw
set_option Elab.async false
set_option linter.all false
set_option maxRecDepth 100000
set_option maxHeartbeats 4000000
namespace Lw
open PySem PySem.Spec PyProof.Rows L2 DL
local macro_rules | `(tactic| infer_instance) => `(tactic| first
  | with_reducible refine wS_seq ?_
  | with_reducible refine wS_nx ?_
  | with_reducible refine wS_set ?_
  | with_reducible refine wS_ret ?_
  | with_reducible refine wS_retN ?_
  | with_reducible refine wS_expr ?_
  | with_reducible refine wS_if ?_
  | with_reducible refine wS_setN ?_
  | with_reducible refine wS_setC ?_
  | with_reducible refine wS_asg ?_
  | with_reducible refine wS_par ?_
  | with_reducible refine wS_for ?_
  | with_reducible refine wS_try ?_
  | with_reducible refine wS_raise ?_
  | with_reducible refine wS_setSelf ?_
  | with_reducible refine wS_bk ?_
  | with_reducible refine wS_ct ?_
  | ((with_reducible apply wS_fz); · rfl)
  | ((with_reducible apply wS_fz'); · rfl)
  | ((with_reducible apply wS_aug); · rfl)
  | with_reducible refine wE_C ?_
  | ((with_reducible apply wE_var); · rfl)
  | ((with_reducible apply wE_own); · rfl)
  | with_reducible refine wE_bin ?_
  | with_reducible refine wE_fld ?_
  | with_reducible refine wE_un ?_
  | with_reducible refine wE_chain ?_
  | with_reducible refine wE_and ?_
  | with_reducible refine wE_or ?_
  | with_reducible refine wE_not ?_
  | with_reducible refine wE_if ?_
  | with_reducible refine wE_tup ?_
  | with_reducible refine wE_N ?_
  | with_reducible refine wE_cel ?_
  | with_reducible refine wE_call ?_
  | with_reducible refine wE_callU ?_
  | with_reducible refine wE_met ?_
  | with_reducible refine wE_isi ?_
  | with_reducible refine wE_slice ?_
  | with_reducible refine wE_isX ?_
  | with_reducible refine wE_xf ?_
  | with_reducible refine wE_cmpI ?_
  | with_reducible refine wO_none _ ?_
  | with_reducible refine wO_some ?_
  | with_reducible refine wN_lst ?_
  | with_reducible refine wN_call ?_
  | with_reducible refine wN_make ?_
  | with_reducible refine wN_lc ?_
  | with_reducible refine wN_disp ?_
  | with_reducible refine wK_nil ?_
  | with_reducible refine wK_cons ?_
  | with_reducible refine wA_nil ?_
  | with_reducible refine wA_cons ?_
  | with_reducible refine wT_tru ?_
  | with_reducible refine wT_tst ?_
  | with_reducible refine wT_and ?_
  | with_reducible refine wT_or ?_
  | with_reducible refine wT_not ?_
  | with_reducible refine wT_yes ?_
  | ((with_reducible refine wG_n ?_ ?_); · rfl)
  | ((with_reducible refine wG_T ?_ ?_); · rfl)
  | with_reducible refine wGs_nil ?_
  | with_reducible refine wGs_cons ?_
  | with_reducible refine wG_sub ?_
  | with_reducible refine wI_seq ?_
  | with_reducible refine wI_range1 ?_
  | with_reducible refine wI_range2 ?_
  | with_reducible refine wI_enum ?_
  | with_reducible refine wI_zip ?_)
local macro_rules | `(tactic| trivial) => `(tactic| repeat (first | infer_instance | with_reducible refine ⟨_, rfl, ?_⟩ | with_reducible refine ⟨rfl, ?_⟩ | with_reducible refine And.intro ⟨rfl, Nat.le_of_ble_eq_true rfl⟩ ?_ | with_reducible refine And.intro ⟨rfl, rfl⟩ ?_ | with_reducible refine ⟨_, _, rfl, ?_⟩ | with_reducible refine And.intro (by omega) ?_ | refine ifTT ?_ | refine ifFF ?_ | refine ifTF ?_ | refine ifFT ?_))
theorem ixN_zero {n : Nat} (h : 0 < n) : ixN n 0 = some 0 := by
  unfold ixN
  rw [if_pos (by decide), if_pos (by omega)]
  rfl
theorem bx_other {μ : Mu} {b c : Nat} {q : Int × Int × Int} (h : c ≠ b) : (bx μ b q)[c]? = μ[c]? := by
  unfold bx
  rw [List.getElem?_set_ne (Ne.symm h)]
section
variable {μ : Mu} {K : D → Mu → Prop} {X : Exn → Mu → Prop} {n dd : Int}
/-- words of the wrong length -/
theorem cw_len {d : D} {ts : List D} (hn : 0 ≤ n ∧ n ≤ 1000) (hs : SqD μ d ts) (hl : (ts.length : Int) ≠ dd) (kx : X ⟨1, [(0, .int (-2))]⟩ μ) : wF m_checked_words [.int n, .int dd, d] μ K X := by
  refine wF_def rfl ?_
  unfold ms_checked_words
  have nl := hs.nl
  trivial
  refine ⟨_, hs.isN, _, rfl, ?_⟩
  trivial
  refine ⟨nl1 nl, seq_w hs ?_⟩
  trivial
  refine ⟨_, hs.len, ?_⟩
  trivial
  have ee : (!(PyData.int (ts.length : Int)).eqv (PyData.int dd)) = true := by
    show (!((ts.length : Int) == dd)) = true
    simp [hl]
  rw [ee]
  trivial
  exact kx
theorem okw_row {W : List (List (Int × Int))} {r : List (Int × Int)} (h : OkW n W) (hr : r ∈ W) : ROk μ n (wrowL r) r := by
  obtain ⟨h1, h2⟩ := h r hr
  refine ⟨_, SqD.lst, by rw [List.length_map]; exact h1, by simp, fun j w hj => ?_⟩
  rw [List.getElem?_map] at hj
  obtain ⟨p, hp, rfl⟩ := Option.map_eq_some_iff.mp hj
  have := h2 p (mem_get hp)
  exact ⟨p, hp, SqD.tup, by omega, by omega⟩
theorem cw_lst {W : List (List (Int × Int))} (hn : 1 ≤ n ∧ n ≤ 40) (hd : 1 ≤ dd ∧ dd ≤ 12) (h : OkW n W) (hl : (W.length : Int) = dd) (k : K (wordsD W) μ) : wF m_checked_words [.int n, .int dd, .lst (W.map wrowL)] μ K X := by
  refine cw_seq (c := W.length) (W := W) (by omega) (by omega) SqD.lst (by simpa using hl) (by simp) (fun j t hj _ => ?_) (fun t ht => ?_) (fun z => by simp at z) (fun _ => ⟨by simp, k⟩)
  · rw [List.getElem?_map] at hj
    obtain ⟨r, hr, rfl⟩ := Option.map_eq_some_iff.mp hj
    exact ⟨r, hr, okw_row h (mem_get hr)⟩
  · have := (List.getElem?_eq_some_iff.mp ht).1
    simp at this
/-- words in cells -/
def wcell (r : List (Int × Int)) : Cell := .lst (r.map fun p => .lst [.int p.1, .int p.2])
theorem cw_cel {W : List (List (Int × Int))} {L : Nat} (hn : 1 ≤ n ∧ n ≤ 40) (hd : 1 ≤ dd ∧ dd ≤ 12) (h : OkW n W) (hl : (W.length : Int) = dd) (hm : ∀ (j : Nat) (r : List (Int × Int)), W[j]? = some r → μ[L + j]? = some (wcell r)) (k : K (wordsD W) μ) :
    wF m_checked_words [.int n, .int dd, .lst ((List.range W.length).map fun j => .cel (L + j))] μ K X := by
  refine cw_seq (c := W.length) (W := W) (by omega) (by omega) SqD.lst (by simpa using hl) (by simp) (fun j t hj _ => ?_) (fun t ht => ?_) (fun z => by simp at z) (fun _ => ⟨by simp, k⟩)
  · rw [List.getElem?_map] at hj
    obtain ⟨j', hj', rfl⟩ := Option.map_eq_some_iff.mp hj
    have hjl := (List.getElem?_eq_some_iff.mp hj').1
    rw [List.length_range] at hjl
    rw [List.getElem?_range hjl] at hj'
    cases hj'
    have hr : W[j]? = some (W[j]) := List.getElem?_eq_getElem hjl
    obtain ⟨h1, h2⟩ := h _ (mem_get hr)
    refine ⟨_, hr, _, SqD.cel (hm j _ hr), by rw [List.length_map]; exact h1, by simp, fun i w hi => ?_⟩
    rw [List.getElem?_map] at hi
    obtain ⟨p, hp, rfl⟩ := Option.map_eq_some_iff.mp hi
    have := h2 p (mem_get hp)
    exact ⟨p, hp, SqD.lst, by omega, by omega⟩
  · have := (List.getElem?_eq_some_iff.mp ht).1
    simp at this
end
/-! ### tables and words as data -/
def rowP (r : List Int) : PyData := .tuple (r.map PyData.int)
def wordP (p : Int × Int) : PyData := .tuple [.int p.1, .int p.2]
def wrowP (r : List (Int × Int)) : PyData := .tuple (r.map wordP)
theorem toP_tables (T : List (List Int)) : toP (.tup (T.map rowT)) = some (.tuple (T.map rowP)) := by
  show (toPs (T.map rowT)).map PyData.tuple = _
  rw [toPs_map (g := rowP) fun r _ => ?_]
  · rfl
  · show (toPs (r.map D.int)).map PyData.tuple = _
    rw [toPs_map (g := PyData.int) fun i _ => rfl]
    rfl
theorem toP_words (W : List (List (Int × Int))) : toP (wordsD W) = some (.tuple (W.map wrowP)) := by
  show (toPs (W.map wrowD)).map PyData.tuple = _
  rw [toPs_map (g := wrowP) fun r _ => ?_]
  · rfl
  · show (toPs (r.map wordD)).map PyData.tuple = _
    rw [toPs_map (g := wordP) fun i _ => rfl]
    rfl
/-- words as a machine keeps them -/
def NcW (n dd : Int) (W : List (List (Int × Int))) : Prop := (W.length : Int) = dd ∧ ∀ r ∈ W, (r.length : Int) = n ∧ ∀ p ∈ r, (0 ≤ p.1 ∧ p.1 ≤ 1000000) ∧ (0 ≤ p.2 ∧ p.2 ≤ 1000000)
theorem nice_tables {n dd : Int} {T : List (List Int)} (t : Tb n dd T) : Nice 2 600 (.tuple (T.map rowP)) := by
  have := t.n1
  have := t.d1
  have := t.len
  refine (nice_tuple (k := 1) (b := 40) (c := 12) (fun x hx => ?_) (by rw [List.length_map]; omega)).mono (by decide) (by decide)
  obtain ⟨r, hr, rfl⟩ := List.mem_map.mp hx
  obtain ⟨h1, h2⟩ := t.ok r hr
  refine (nice_tuple (k := 0) (b := 0) (c := 40) (fun x hx => ?_) (by rw [List.length_map]; omega)).mono (by decide) (by decide)
  obtain ⟨i, hi, rfl⟩ := List.mem_map.mp hx
  have := h2 i hi
  exact nice_int (by omega)
theorem nice_words {n dd : Int} {W : List (List (Int × Int))} (h : NcW n dd W) (hn : n ≤ 40) (hd : dd ≤ 12) : Nice 3 2000 (.tuple (W.map wrowP)) := by
  obtain ⟨h0, h⟩ := h
  refine (nice_tuple (k := 2) (b := 120) (c := 12) (fun x hx => ?_) (by rw [List.length_map]; omega)).mono (by decide) (by decide)
  obtain ⟨r, hr, rfl⟩ := List.mem_map.mp hx
  obtain ⟨h1, h2⟩ := h r hr
  refine (nice_tuple (k := 1) (b := 2) (c := 40) (fun x hx => ?_) (by rw [List.length_map]; omega)).mono (by decide) (by decide)
  obtain ⟨p, hp, rfl⟩ := List.mem_map.mp hx
  have := h2 p hp
  refine (nice_tuple (k := 0) (b := 0) (c := 2) (fun x hx => ?_) (by simp)).mono (by decide) (by decide)
  simp only [List.mem_cons, List.mem_nil_iff, or_false] at hx
  rcases hx with rfl | rfl
  · exact nice_int (by omega)
  · exact nice_int (by omega)
theorem ncw_sort {n dd : Int} {ns : List Int} (hn : 0 ≤ n) (hl : (ns.length : Int) = dd) (h : ∀ i ∈ ns, 0 ≤ i ∧ i ≤ 1000000) : NcW n dd (sortW n ns) := ⟨by unfold sortW; rw [List.length_map]; exact hl, fun r hr => by
  obtain ⟨i, hi, rfl⟩ := List.mem_map.mp hr
  refine ⟨by rw [List.length_replicate]; omega, fun p hp => ?_⟩
  rw [List.eq_of_mem_replicate hp]
  exact ⟨h i hi, by simp⟩⟩
theorem ncw_butt {n dd : Int} {ns : List Int} (hn : 0 ≤ n) (hl : (ns.length : Int) = dd) (h : ∀ i ∈ ns, 0 ≤ i ∧ i ≤ 1000000) : NcW n dd (buttW n ns) := ⟨by unfold buttW; rw [List.length_map]; exact hl, fun r hr => by
  obtain ⟨i, hi, rfl⟩ := List.mem_map.mp hr
  refine ⟨by rw [List.length_replicate]; omega, fun p hp => ?_⟩
  rw [List.eq_of_mem_replicate hp]
  exact ⟨by simp, h i hi⟩⟩
theorem ncw_ok {n dd : Int} {W : List (List (Int × Int))} (hl : (W.length : Int) = dd) (h : OkW n W) : NcW n dd W := ⟨hl, fun r hr => ⟨(h r hr).1, fun p hp => by
  have := (h r hr).2 p hp
  exact ⟨by omega, by omega⟩⟩⟩
/-- the words of a machine of which none are told -/
def defWW (n dd : Int) : List (List (Int × Int)) := (List.range dd.toNat).map fun j => List.replicate n.toNat ((j : Nat), 0)
theorem defW_eq (n dd : Int) : defW n dd = wordsD (defWW n dd) := by
  unfold defW wordsD defWW rngD
  rw [List.map_map, List.map_map]
  congr 1
  refine List.map_congr_left fun j _ => ?_
  show D.tup (List.replicate n.toNat (.tup [.int (0 + (j : Nat)), .int 0])) = wrowD (List.replicate n.toNat ((j : Nat), 0))
  unfold wrowD
  rw [List.map_replicate, Int.zero_add]
  rfl
theorem ncw_def {n dd : Int} (hn : 0 ≤ n) (hd : 0 ≤ dd ∧ dd ≤ 1000) : NcW n dd (defWW n dd) := ⟨by unfold defWW; rw [List.length_map, List.length_range]; omega, fun r hr => by
  obtain ⟨i, hi, rfl⟩ := List.mem_map.mp hr
  rw [List.mem_range] at hi
  refine ⟨by rw [List.length_replicate]; omega, fun p hp => ?_⟩
  rw [List.eq_of_mem_replicate hp]
  exact ⟨by omega, by simp⟩⟩
theorem wordsD_sort (n : Int) (ns : List Int) : wordsD (sortW n ns) = .tup (ns.map fun i => .tup (List.replicate n.toNat (wordD (i, 0)))) := by
  unfold wordsD sortW
  rw [List.map_map]
  congr 1
  refine List.map_congr_left fun i _ => ?_
  show wrowD (List.replicate n.toNat (i, 0)) = _
  unfold wrowD
  rw [List.map_replicate]
theorem wordsD_butt (n : Int) (ns : List Int) : wordsD (buttW n ns) = .tup (ns.map fun i => .tup (List.replicate n.toNat (wordD (0, i)))) := by
  unfold wordsD buttW
  rw [List.map_map]
  congr 1
  refine List.map_congr_left fun i _ => ?_
  show wrowD (List.replicate n.toNat (0, i)) = _
  unfold wrowD
  rw [List.map_replicate]
theorem wordsD_zero (n : Int) (k : Nat) : wordsD (sortW n (List.replicate k 0)) = .tup (List.replicate k (.tup (List.replicate n.toNat (wordD (0, 0))))) := by
  rw [wordsD_sort, List.map_replicate]
def pairP (T : List (List Int)) (W : List (List (Int × Int))) : PyData := .list [.tuple (T.map rowP), .tuple (W.map wrowP)]
theorem toP_pair (T : List (List Int)) (W : List (List (Int × Int))) : toP (.lst [.tup (T.map rowT), wordsD W]) = some (pairP T W) := by
  show (match toP (.tup (T.map rowT)), (match toP (wordsD W), toPs [] with | some p, some ps => some (p :: ps) | _, _ => none) with | some p, some ps => some (p :: ps) | _, _ => none).map PyData.list = _
  rw [toP_tables, toP_words]
  rfl
theorem nice_pair {n dd : Int} {T : List (List Int)} {W : List (List (Int × Int))} (t : Tb n dd T) (h : NcW n dd W) : Nice 4 10000 (pairP T W) := by
  refine (nice_list (k := 3) (b := 2000) (c := 2) (fun x hx => ?_) (by simp)).mono (by decide) (by decide)
  simp only [List.mem_cons, List.mem_nil_iff, or_false] at hx
  rcases hx with rfl | rfl
  · exact (nice_tables t).mono (by decide) (by decide)
  · exact nice_words h t.n1.2 t.d1.2
theorem add_lst {env : Env} {m : Mu} {l l' : List D} (h : l.length + l'.length ≤ 1000000) : addD env m (.lst l) (.lst l') = some (.lst (l ++ l')) := if_pos (Nat.le_trans h (by decide))
theorem mul_str {env : Env} {m : Mu} {z : Str} {j : Int} (h : j ≤ 1000 ∧ -1000 ≤ j ∧ z.length ≤ 1000) : mulD env m (.str z) (.int j) = some (.str (strRep z j.toNat)) := if_pos h
theorem cut_to {l : List D} {a : Int} (h0 : 0 ≤ a) (h1 : a ≤ l.length) : cutL l none (some a) = l.take a.toNat := by
  unfold cutL HT.sIx
  dsimp only
  rw [if_neg (by omega), Nat.min_eq_left (by omega)]
  rfl
theorem cut_from {l : List D} {a : Int} (h0 : 0 ≤ a) (h1 : a ≤ l.length) : cutL l (some a) none = l.drop a.toNat := by
  unfold cutL HT.sIx
  dsimp only
  rw [if_neg (by omega), Nat.min_eq_left (by omega), List.take_of_length_le (by rw [List.length_drop]; exact Nat.le_refl _)]
end Lw
set_option Elab.async false
set_option linter.all false
set_option maxRecDepth 100000
set_option maxHeartbeats 8000000
namespace Lw
open PySem PySem.Spec PyProof.Rows L2 DL
local macro_rules | `(tactic| infer_instance) => `(tactic| first
  | with_reducible refine wS_seq ?_
  | with_reducible refine wS_nx ?_
  | with_reducible refine wS_set ?_
  | with_reducible refine wS_ret ?_
  | with_reducible refine wS_retN ?_
  | with_reducible refine wS_expr ?_
  | with_reducible refine wS_if ?_
  | with_reducible refine wS_setN ?_
  | with_reducible refine wS_setC ?_
  | with_reducible refine wS_asg ?_
  | with_reducible refine wS_par ?_
  | with_reducible refine wS_for ?_
  | with_reducible refine wS_try ?_
  | with_reducible refine wS_raise ?_
  | with_reducible refine wS_setSelf ?_
  | with_reducible refine wS_bk ?_
  | with_reducible refine wS_ct ?_
  | ((with_reducible apply wS_fz); · rfl)
  | ((with_reducible apply wS_fz'); · rfl)
  | ((with_reducible apply wS_aug); · rfl)
  | with_reducible refine wE_C ?_
  | ((with_reducible apply wE_var); · rfl)
  | ((with_reducible apply wE_own); · rfl)
  | with_reducible refine wE_bin ?_
  | with_reducible refine wE_fld ?_
  | with_reducible refine wE_un ?_
  | with_reducible refine wE_chain ?_
  | with_reducible refine wE_and ?_
  | with_reducible refine wE_or ?_
  | with_reducible refine wE_not ?_
  | with_reducible refine wE_if ?_
  | with_reducible refine wE_tup ?_
  | with_reducible refine wE_N ?_
  | with_reducible refine wE_cel ?_
  | with_reducible refine wE_call ?_
  | with_reducible refine wE_callU ?_
  | with_reducible refine wE_met ?_
  | with_reducible refine wE_isi ?_
  | with_reducible refine wE_slice ?_
  | with_reducible refine wE_isX ?_
  | with_reducible refine wE_xf ?_
  | with_reducible refine wE_cmpI ?_
  | with_reducible refine wO_none _ ?_
  | with_reducible refine wO_some ?_
  | with_reducible refine wN_lst ?_
  | with_reducible refine wN_call ?_
  | with_reducible refine wN_make ?_
  | with_reducible refine wN_lc ?_
  | with_reducible refine wN_disp ?_
  | with_reducible refine wK_nil ?_
  | with_reducible refine wK_cons ?_
  | with_reducible refine wA_nil ?_
  | with_reducible refine wA_cons ?_
  | with_reducible refine wT_tru ?_
  | with_reducible refine wT_tst ?_
  | with_reducible refine wT_and ?_
  | with_reducible refine wT_or ?_
  | with_reducible refine wT_not ?_
  | with_reducible refine wT_yes ?_
  | ((with_reducible refine wG_n ?_ ?_); · rfl)
  | ((with_reducible refine wG_T ?_ ?_); · rfl)
  | with_reducible refine wGs_nil ?_
  | with_reducible refine wGs_cons ?_
  | with_reducible refine wG_sub ?_
  | with_reducible refine wI_seq ?_
  | with_reducible refine wI_range1 ?_
  | with_reducible refine wI_range2 ?_
  | with_reducible refine wI_enum ?_
  | with_reducible refine wI_zip ?_)
local macro_rules | `(tactic| trivial) => `(tactic| repeat (first | infer_instance | with_reducible refine ⟨_, rfl, ?_⟩ | with_reducible refine ⟨rfl, ?_⟩ | with_reducible refine And.intro ⟨rfl, Nat.le_of_ble_eq_true rfl⟩ ?_ | with_reducible refine And.intro ⟨rfl, rfl⟩ ?_ | with_reducible refine ⟨_, _, rfl, ?_⟩ | with_reducible refine And.intro (by omega) ?_ | refine ifTT ?_ | refine ifFF ?_ | refine ifTF ?_ | refine ifFT ?_))
/-- a value that is no sort -/
structure OddOk (o : D) : Prop where
  pl : plainD o = true
  no : blw 1000001 o = false
  ni : ∃ p, toP o = some p ∧ Nice 1 20 p
theorem odd_nl {o : D} (h : OddOk o) : noLoc o = true := by
  have := h.pl
  cases o <;> first | rfl | cases this
theorem nice_zero : Nice 0 20 (.str "0") := ⟨by decide +kernel, Nat.le_refl _, rfl, by decide +kernel, by decide +kernel, by decide +kernel⟩
theorem odd_ok (x : D) (h : x ∈ [D.int (0 - 1), .bl true, .non, .str "0", .int (10 ^ 6 + 1), .tup [.int 0]]) : OddOk x := by
  simp only [List.mem_cons, List.mem_nil_iff, or_false] at h
  rcases h with rfl | rfl | rfl | rfl | rfl | rfl
  · exact ⟨rfl, rfl, _, rfl, (nice_int (by decide)).mono (by decide) (by decide)⟩
  · exact ⟨rfl, rfl, _, rfl, nice_bool.mono (by decide) (by decide)⟩
  · exact ⟨rfl, rfl, _, rfl, nice_non.mono (by decide) (by decide)⟩
  · exact ⟨rfl, rfl, _, rfl, nice_zero.mono (by decide) (by decide)⟩
  · exact ⟨rfl, by decide, _, rfl, (nice_int (by decide)).mono (by decide) (by decide)⟩
  · refine ⟨rfl, rfl, .tuple [.int 0], rfl, (nice_tuple (k := 0) (b := 0) (c := 1) (fun x hx => ?_) (by simp)).mono (by decide) (by decide)⟩
    rw [List.mem_singleton.mp hx]
    exact nice_int (by decide)
/-- a value that is refused as sorts, and can be shown -/
structure BadV (n dd : Int) (T : List (List Int)) (wd rc v : D) : Prop where
  nl : noLoc v = true
  ni : ∃ p, toP v = some p ∧ Nice 3 1000 p
  cs : ∀ m : Mu, wF m_check_sorts [.ins 14 (mach n dd T wd rc), v] m (fun _ _ => False) (fun x m' => x = ⟨7, [(0, v)]⟩ ∧ m' = m)
theorem nice_zeros {dd : Int} (h : dd = 1 ∨ dd = 2 ∨ dd = 3 ∨ dd = 12) : Nice 0 20 (.str (strRep "0" dd.toNat)) := by
  rcases h with rfl | rfl | rfl | rfl <;> exact ⟨by decide +kernel, Nat.le_refl _, rfl, by decide +kernel, by decide +kernel, by decide +kernel⟩
theorem ints_nice {ns : List Int} (h : ∀ i ∈ ns, 0 ≤ i ∧ i ≤ 1000000) : ∀ d ∈ ns.map D.int, plainD d = true ∧ blw 1000001 d = true ∧ ∃ p, toP d = some p ∧ Nice 1 20 p := fun d hd => by
  obtain ⟨i, hi, rfl⟩ := List.mem_map.mp hd
  have := h i hi
  refine ⟨rfl, ?_, _, rfl, (nice_int (by omega)).mono (by decide) (by decide)⟩
  show (decide (0 ≤ i) && decide (i < 1000001)) = true
  rw [decide_eq_true this.1, decide_eq_true (by omega)]
  rfl
theorem toPs_all {k b : Nat} : ∀ {l : List D}, (∀ d ∈ l, ∃ p, toP d = some p ∧ Nice k b p) → ∃ ps, toPs l = some ps ∧ ps.length = l.length ∧ ∀ p ∈ ps, Nice k b p
  | [], _ => ⟨[], rfl, rfl, fun _ h => nomatch h⟩
  | d :: l, h => by
    obtain ⟨p, h1, h2⟩ := h d (List.mem_cons_self ..)
    obtain ⟨ps, h3, h4, h5⟩ := toPs_all fun x hx => h x (List.mem_cons_of_mem _ hx)
    refine ⟨p :: ps, ?_, by rw [List.length_cons, h4]; rfl, fun x hx => ?_⟩
    · unfold toPs
      rw [h1, h3]
    · rcases List.mem_cons.mp hx with rfl | hx
      · exact h2
      · exact h5 x hx
theorem ref_shaped {x z : Str} (h : PyData.strOk z = true) (hx : PyData.strOk x = true := by decide +kernel) : SeqAt.shaped (.tuple [.str x, .str z]) = true := by
  unfold SeqAt.shaped
  show ((PyData.strOk x && (PyData.strOk z && true)) && decide _) = true
  rw [h, hx]
  rfl
/-- a list of such values -/
theorem bad_seq {n dd : Int} {T : List (List Int)} {wd rc v : D} {l : List D} (hv : v = .lst l ∨ v = .tup l) (hl : l.length ≤ 20) (hp : ∀ d ∈ l, plainD d = true ∧ ∃ p, toP d = some p ∧ Nice 1 20 p) (hb : ¬ ((l.length : Int) = dd ∧ (l.all (blw 1000001)) = true)) : BadV n dd T wd rc v := by
  obtain ⟨ps, h1, h2, h3⟩ := toPs_all fun d hd => (hp d hd).2
  rcases hv with rfl | rfl
  · refine ⟨rfl, ⟨.list ps, by show (toPs l).map _ = _; rw [h1]; rfl, (nice_list h3 (by omega : ps.length ≤ 20)).mono (by decide) (by decide)⟩, fun m => ?_⟩
    exact cs_seq SqD.lst (by omega) (fun _ x hx => (hp x hx).1) (fun h4 h5 => absurd ⟨h4, h5⟩ hb) fun _ => ⟨rfl, rfl⟩
  · refine ⟨rfl, ⟨.tuple ps, by show (toPs l).map _ = _; rw [h1]; rfl, (nice_tuple h3 (by omega : ps.length ≤ 20)).mono (by decide) (by decide)⟩, fun m => ?_⟩
    exact cs_seq SqD.tup (by omega) (fun _ x hx => (hp x hx).1) (fun h4 h5 => absurd ⟨h4, h5⟩ hb) fun _ => ⟨rfl, rfl⟩
section
variable {μ : Mu} {b : Nat} {q : Int × Int × Int} {K : D → Mu → Prop} {X : Exn → Mu → Prop}
theorem case_w (hb : b < μ.length) (k : ∀ μ', K (.bl true) μ') : wF m__law_case_right [.cel b] (bx μ b q) K X := by
  refine wF_def rfl ?_
  unfold ms__law_case_right
  -- the number of deeds
  refine wS_cut (fun e m => ∃ (dd : Int) (q : Int × Int × Int), (dd = 1 ∨ dd = 2 ∨ dd = 3 ∨ dd = 12) ∧ e = [.d (.cel b), .d (.int dd), .non, .non, .non, .non, .non, .non, .non, .non, .non, .non, .non, .non, .non, .non, .non, .non, .non, .non, .non] ∧ m = bx μ b q) ?_ ?_
  · trivial
    refine pick_w hb (by simp) (by decide) (by decide) fun x hx q' => ?_
    simp only [List.mem_cons, List.mem_nil_iff, or_false] at hx
    have hx' : ∃ dd : Int, x = .int dd ∧ (dd = 1 ∨ dd = 2 ∨ dd = 3 ∨ dd = 12) := by
      rcases hx with rfl | rfl | rfl | rfl | rfl | rfl | rfl | rfl | rfl | rfl <;> exact ⟨_, rfl, by decide⟩
    obtain ⟨dd, rfl, hdd⟩ := hx'
    exact ⟨rfl, Hold.mk ⟨dd, q', hdd, rfl, rfl⟩⟩
  rintro e m ⟨dd, q, hdd, rfl, rfl⟩
  -- the tables
  refine wS_cut (fun e m => ∃ (n : Int) (T : List (List Int)) (q : Int × Int × Int), Tb n dd T ∧ n ≤ 4 ∧ e = [.d (.cel b), .d (.int dd), .d (.lst (T.map rowL)), .non, .non, .non, .non, .non, .non, .non, .non, .non, .non, .non, .non, .non, .non, .non, .non, .non, .non] ∧ m = bx μ b q) ?_ ?_
  · have go : ∀ most : Int, 1 ≤ most ∧ most ≤ 4 → wF m__law_tables [.cel b, .int most, .int dd] (bx μ b q) (fun d m => noLoc d = true ∧ Hold (∃ (n : Int) (T : List (List Int)) (q : Int × Int × Int), Tb n dd T ∧ n ≤ 4 ∧ List.set ([.d (.cel b), .d (.int dd), .non, .non, .non, .non, .non, .non, .non, .non, .non, .non, .non, .non, .non, .non, .non, .non, .non, .non, .non] : List Slot) 2 (.d d) = [.d (.cel b), .d (.int dd), .d (.lst (T.map rowL)), .non, .non, .non, .non, .non, .non, .non, .non, .non, .non, .non, .non, .non, .non, .non, .non, .non, .non] ∧ m = bx μ b q)) (fun _ _ => False) := fun most hm => by
      refine tables_w hb (by omega) (by omega) fun n T q' h1 h2 h3 h4 => ⟨rfl, Hold.mk ⟨n, T, q', ⟨h4, by omega, h3, by omega⟩, by omega, rfl, rfl⟩⟩
    trivial
    refine ⟨fun _ => ?_, fun _ => ?_⟩
    · trivial
      exact (go 2 (by decide)).imp (fun d m h => h) (fun _ _ z => z.elim)
    · trivial
      exact (go 4 (by decide)).imp (fun d m h => h) (fun _ _ z => z.elim)
  rintro e m ⟨n, T, q, t, hn4, rfl, rfl⟩
  have tn := t.n1
  have td := t.d1
  have tl := t.len
  -- the machine
  refine wS_cut (fun e m => ∃ (wd rc : D) (q : Int × Int × Int), e = [.d (.cel b), .d (.int dd), .d (.lst (T.map rowL)), .d (.ins 14 (mach n dd T wd rc)), .non, .non, .non, .non, .non, .non, .non, .non, .non, .non, .non, .non, .non, .non, .non, .non, .non] ∧ m = bx μ b q) ?_ ?_
  · have go : ∀ (w : D) (q : Int × Int × Int), noLoc w = true → wF m_checked_words [.int n, .int dd, w] (bx μ b q) (fun wd m => m = bx μ b q ∧ noLoc wd = true) (fun _ _ => False) → wJ m_Machine___init__ [.lst (T.map rowL), w] (bx μ b q) (fun c m => (((c matches .slf _ _) = false ∧ (c matches .dead) = false)) ∧ noLoc c.toD = true ∧ Hold (∃ (wd rc : D) (q : Int × Int × Int), List.set ([.d (.cel b), .d (.int dd), .d (.lst (T.map rowL)), .non, .non, .non, .non, .non, .non, .non, .non, .non, .non, .non, .non, .non, .non, .non, .non, .non, .non] : List Slot) 3 (.d c.toD) = [.d (.cel b), .d (.int dd), .d (.lst (T.map rowL)), .d (.ins 14 (mach n dd T wd rc)), .non, .non, .non, .non, .non, .non, .non, .non, .non, .non, .non, .non, .non, .non, .non, .non, .non] ∧ m = bx μ b q)) (fun _ _ => False) := fun w q nlw hw => by
      obtain ⟨n', rfl⟩ : ∃ n' : Nat, n = n' := ⟨n.toNat, by omega⟩
      exact init_w TOk.lst t.ok (by omega) t.len t.d1 nlw (hw.imp (fun wd m ⟨e, h1⟩ => ⟨e, h1, fun rc hrc => ⟨⟨rfl, rfl⟩, rfl, Hold.mk ⟨wd, rc, q, rfl, rfl⟩⟩⟩) fun _ _ z => z)
    trivial
    refine take_w hb (by decide) (by decide) fun z q' h0 h1 => ?_
    trivial
    refine ⟨fun _ => ?_, fun _ => ?_⟩
    · trivial
      refine words_w hb t.ok t.n1 (by omega) fun W q2 hW hok => ?_
      trivial
      refine (go _ q2 rfl (cw_lst t.n1 t.d1 hok (by omega) ⟨rfl, rfl⟩)).imp (fun c m h => h) (fun _ _ z => z.elim)
    · trivial
      refine (go _ q' rfl (cw_none (by omega) (by omega) ⟨rfl, rfl⟩)).imp (fun c m h => h) (fun _ _ z => z.elim)
  rintro e m ⟨wd, rc, q, rfl, rfl⟩
  -- the sorts
  refine wS_cut (fun e m => ∃ (ns : List Int) (q : Int × Int × Int), (ns.length : Int) = dd ∧ (∀ i ∈ ns, 0 ≤ i ∧ i ≤ 1000000) ∧ e = [.d (.cel b), .d (.int dd), .d (.lst (T.map rowL)), .d (.ins 14 (mach n dd T wd rc)), .d (.lst (ns.map D.int)), .non, .non, .non, .non, .non, .non, .non, .non, .non, .non, .non, .non, .non, .non, .non, .non] ∧ m = bx μ b q) ?_ ?_
  · trivial
    show wN _ [.d (.cel b), .d (.int dd), .d (.lst (T.map rowL)), .d (.ins 14 (mach n dd T wd rc)), .non, .non, .non, .non, .non, .non, .non, .non, .non, .non, .non, .non, .non, .non, .non, .non, .non] _ _ _
    refine wLc (fun j acc e m => ∃ (ns : List Int) (q : Int × Int × Int), acc = ns.map D.int ∧ (∀ i ∈ ns, 0 ≤ i ∧ i ≤ 1000000) ∧ ns.length = j ∧ e = [.d (.cel b), .d (.int dd), .d (.lst (T.map rowL)), .d (.ins 14 (mach n dd T wd rc)), .non, .non, .non, .non, .non, .non, .non, .non, .non, .non, .non, .non, .non, .non, .non, .non, .non] ∧ m = bx μ b q) ⟨[], q, rfl, (fun _ h => nomatch h), rfl, rfl, rfl⟩ ?_ ?_
    · rintro j d acc e m hj ⟨ns, q, rfl, hns, hnl, rfl, rfl⟩
      obtain ⟨hjl, rfl⟩ := rngD_get hj
      refine ⟨True.intro, ?_⟩
      trivial
      refine take_w hb (by decide) (by decide) fun z q1 h0 h1 => ?_
      trivial
      refine take_w hb (by decide) (by decide) fun z2 q2 h2 h3 => ?_
      trivial
      refine pick_w (l := [.int z, .int (10 ^ 6 - z2)]) hb (by simp) (by simp) (by intro x hx; simp only [List.mem_cons, List.mem_nil_iff, or_false] at hx; rcases hx with rfl | rfl <;> rfl) fun x hx q3 => ?_
      obtain ⟨s, rfl, hs⟩ : ∃ s : Int, x = .int s ∧ 0 ≤ s ∧ s ≤ 1000000 := by
        simp only [List.mem_cons, List.mem_nil_iff, or_false] at hx
        rcases hx with rfl | rfl
        · exact ⟨_, rfl, by omega, by omega⟩
        · exact ⟨_, rfl, by omega, by omega⟩
      refine ⟨⟨rfl, lt_line (by rw [List.length_map]; omega)⟩, Hold.mk ⟨ns ++ [s], q3, by rw [← map_snoc], all_snoc hns hs, by rw [List.length_append, hnl]; rfl, rfl, rfl⟩⟩
    · rintro acc e m ⟨ns, q, rfl, hns, hnl, rfl, rfl⟩
      rw [rngD_length] at hnl
      refine ⟨True.intro, rfl, Hold.mk ⟨ns, q, by omega, hns, rfl, rfl⟩⟩
  rintro e m ⟨ns, q, hnl, hns, rfl, rfl⟩
  -- as passed
  refine wS_cut (fun e m => ∃ (μ1 : Mu) (P : D) (q : Int × Int × Int), b < μ1.length ∧ (∀ q, SqD (bx μ1 b q) P (ns.map D.int)) ∧ (P = .tup (ns.map D.int) ∨ ∃ c, P = .cel c ∧ c ≠ b ∧ μ1[c]? = some (.lst (ns.map D.int))) ∧ e = [.d (.cel b), .d (.int dd), .d (.lst (T.map rowL)), .d (.ins 14 (mach n dd T wd rc)), .d (.lst (ns.map D.int)), .non, .d P, .non, .non, .non, .non, .non, .non, .non, .non, .non, .non, .non, .non, .non, .non] ∧ m = bx μ1 b q) ?_ ?_
  · trivial
    refine take_w hb (by decide) (by decide) fun z q1 h0 h1 => ?_
    trivial
    refine ⟨fun _ => ?_, fun _ => ?_⟩
    · trivial
      have e1 : bx μ b q1 ++ [.lst (ns.map D.int)] = bx (μ ++ [.lst (ns.map D.int)]) b q1 := bx_app hb
      refine Hold.mk ⟨μ ++ [.lst (ns.map D.int)], .cel (bx μ b q1).length, q1, by rw [List.length_append]; omega, fun q2 => SqD.cel ?_, .inr ⟨_, rfl, ?_, ?_⟩, rfl, e1⟩
      · rw [bx_len, bx_other (by omega), List.getElem?_append_right (Nat.le_refl _), Nat.sub_self]
        rfl
      · rw [bx_len]
        omega
      · rw [bx_len, List.getElem?_append_right (Nat.le_refl _), Nat.sub_self]
        rfl
    · trivial
      exact Hold.mk ⟨μ, .tup (ns.map D.int), q1, hb, fun _ => SqD.tup, .inl rfl, rfl, rfl⟩
  rintro e m ⟨μ1, P, q, hb1, hsq, hP, rfl, rfl⟩
  have nlP := (hsq q).nl
  refine wS_cut (fun e m => e = [.d (.cel b), .d (.int dd), .d (.lst (T.map rowL)), .d (.ins 14 (mach n dd T wd rc)), .d (.lst (ns.map D.int)), .non, .d P, .d (.int n), .non, .non, .non, .non, .non, .non, .non, .non, .non, .non, .non, .non, .non] ∧ m = bx μ1 b q) ?_ ?_
  · trivial
    exact Hold.mk ⟨rfl, rfl⟩
  rintro e m ⟨rfl, rfl⟩
  -- what is made
  refine wS_cut (fun e m => ∃ (rc1 rc2 rc3 : D), e = [.d (.cel b), .d (.int dd), .d (.lst (T.map rowL)), .d (.ins 14 (mach n dd T wd rc)), .d (.lst (ns.map D.int)), .non, .d P, .d (.int n), .own (.lst [.ins 14 (mach n dd T (wordsD (sortW n ns)) rc1), .ins 14 (mach n dd T (wordsD (sortW n (List.replicate dd.toNat 0))) rc2), .ins 14 (mach n dd T (wordsD (buttW n ns)) rc3)]), .non, .non, .non, .non, .non, .non, .non, .non, .non, .non, .non, .non] ∧ m = bx μ1 b q) ?_ ?_
  · trivial
    refine ⟨nl2 rfl nlP, sort_w t ⟨hsq q, hnl, hns⟩ fun rc1 h1 => ?_⟩
    trivial
    refine silent_w t fun rc2 h2 => ?_
    trivial
    refine ⟨nl2 rfl nlP, butt_w t ⟨hsq q, hnl, hns⟩ fun rc3 h3 => ?_⟩
    trivial
    exact Hold.mk ⟨rc1, rc2, rc3, rfl, rfl⟩
  rintro e m ⟨rc1, rc2, rc3, rfl, rfl⟩
  refine wS_cut (fun e m => ∃ (W : List (List (Int × Int))) (q : Int × Int × Int), W.length = T.length ∧ OkW n W ∧ e = [.d (.cel b), .d (.int dd), .d (.lst (T.map rowL)), .d (.ins 14 (mach n dd T wd rc)), .d (.lst (ns.map D.int)), .non, .d P, .d (.int n), .own (.lst [.ins 14 (mach n dd T (wordsD (sortW n ns)) rc1), .ins 14 (mach n dd T (wordsD (sortW n (List.replicate dd.toNat 0))) rc2), .ins 14 (mach n dd T (wordsD (buttW n ns)) rc3)]), .d (.lst (W.map wrowL)), .non, .non, .non, .non, .non, .non, .non, .non, .non, .non, .non] ∧ m = bx μ1 b q) ?_ ?_
  · trivial
    refine words_w hb1 t.ok t.n1 (by omega) fun W q' h1 h2 => ⟨rfl, Hold.mk ⟨W, q', h1, h2, rfl, rfl⟩⟩
  rintro e m ⟨W, q, hWl, hW, rfl, rfl⟩
  -- handed
  refine wS_cut (fun e m => e = [.d (.cel b), .d (.int dd), .d (.lst (T.map rowL)), .d (.ins 14 (mach n dd T wd rc)), .d (.lst (ns.map D.int)), .non, .d P, .d (.int n), .own (.lst [.ins 14 (mach n dd T (wordsD (sortW n ns)) rc1), .ins 14 (mach n dd T (wordsD (sortW n (List.replicate dd.toNat 0))) rc2), .ins 14 (mach n dd T (wordsD (buttW n ns)) rc3)]), .d (.lst (W.map wrowL)), .d (.lst ((List.range W.length).map fun j => D.cel (μ1.length + j))), .non, .non, .non, .non, .non, .non, .non, .non, .non, .non] ∧ m = bx (μ1 ++ W.map wcell) b q) ?_ ?_
  · trivial
    refine ⟨_, _, _, rfl, ?_⟩
    show wN _ [.d (.cel b), .d (.int dd), .d (.lst (T.map rowL)), .d (.ins 14 (mach n dd T wd rc)), .d (.lst (ns.map D.int)), .non, .d P, .d (.int n), .own (.lst [.ins 14 (mach n dd T (wordsD (sortW n ns)) rc1), .ins 14 (mach n dd T (wordsD (sortW n (List.replicate dd.toNat 0))) rc2), .ins 14 (mach n dd T (wordsD (buttW n ns)) rc3)]), .d (.lst (W.map wrowL)), .non, .non, .non, .non, .non, .non, .non, .non, .non, .non, .non] _ _ _
    refine wLc (fun j acc e m => j ≤ W.length ∧ acc = ((List.range j).map fun j => D.cel (μ1.length + j)) ∧ e = [.d (.cel b), .d (.int dd), .d (.lst (T.map rowL)), .d (.ins 14 (mach n dd T wd rc)), .d (.lst (ns.map D.int)), .non, .d P, .d (.int n), .own (.lst [.ins 14 (mach n dd T (wordsD (sortW n ns)) rc1), .ins 14 (mach n dd T (wordsD (sortW n (List.replicate dd.toNat 0))) rc2), .ins 14 (mach n dd T (wordsD (buttW n ns)) rc3)]), .d (.lst (W.map wrowL)), .non, .non, .non, .non, .non, .non, .non, .non, .non, .non, .non] ∧ m = bx (μ1 ++ (W.take j).map wcell) b q) ⟨Nat.zero_le _, rfl, rfl, by simp⟩ ?_ ?_
    · rintro j d acc e m hj ⟨hjW, rfl, rfl, rfl⟩
      refine ⟨True.intro, ?_⟩
      have hjl := (List.getElem?_eq_some_iff.mp hj).1
      rw [List.length_map] at hjl
      rw [List.getElem?_map] at hj
      obtain ⟨r, hr, rfl⟩ := Option.map_eq_some_iff.mp hj
      have hrow := (hW r (mem_get hr)).1
      trivial
      refine ⟨_, _, _, rfl, ?_⟩
      refine wLc_list (ys := r.map fun p => D.lst [.int p.1, .int p.2]) True.intro (by rw [List.length_map]; omega) (by simp) (fun i w hi => ?_) ?_
      · rw [List.getElem?_map] at hi
        obtain ⟨p, hp, rfl⟩ := Option.map_eq_some_iff.mp hi
        refine ⟨_, by rw [List.getElem?_map, hp]; rfl, ?_⟩
        refine wG_n rfl ⟨rfl, ?_⟩
        trivial
        exact rfl
      · have hlen : (bx (μ1 ++ (W.take j).map wcell) b q).length = μ1.length + j := by
          rw [bx_len, List.length_append, List.length_map, List.length_take]
          omega
        refine ⟨⟨rfl, lt_line (by rw [List.length_map, List.length_range]; omega)⟩, Hold.mk ⟨hjl, ?_, rfl, ?_⟩⟩
        · rw [hlen, List.range_succ, List.map_append]
          rfl
        · rw [List.take_succ, hr]
          show bx (μ1 ++ (W.take j).map wcell) b q ++ [wcell r] = _
          rw [bx_app (by rw [List.length_append]; omega), List.append_assoc]
          simp
    · rintro acc e m ⟨_, rfl, rfl, rfl⟩
      rw [List.length_map]
      refine ⟨True.intro, rfl, Hold.mk ⟨rfl, by rw [List.take_length]⟩⟩
  rintro e m ⟨rfl, rfl⟩
  have hb2 : b < (μ1 ++ W.map wcell).length := by rw [List.length_append]; omega
  have hcel : ∀ (q : Int × Int × Int) (j : Nat) (r : List (Int × Int)), W[j]? = some r → (bx (μ1 ++ W.map wcell) b q)[μ1.length + j]? = some (wcell r) := fun q j r hr => by
    rw [bx_other (by omega), List.getElem?_append_right (by omega), Nat.add_sub_cancel_left, List.getElem?_map, hr]
    rfl
  refine wS_cut (fun e m => ∃ rc4, e = [.d (.cel b), .d (.int dd), .d (.lst (T.map rowL)), .d (.ins 14 (mach n dd T wd rc)), .d (.lst (ns.map D.int)), .non, .d P, .d (.int n), .own (.lst [.ins 14 (mach n dd T (wordsD (sortW n ns)) rc1), .ins 14 (mach n dd T (wordsD (sortW n (List.replicate dd.toNat 0))) rc2), .ins 14 (mach n dd T (wordsD (buttW n ns)) rc3), .ins 14 (mach n dd T (wordsD W) rc4)]), .d (.lst (W.map wrowL)), .d (.lst ((List.range W.length).map fun j => D.cel (μ1.length + j))), .non, .non, .non, .non, .non, .non, .non, .non, .non, .non] ∧ m = bx (μ1 ++ W.map wcell) b q) ?_ ?_
  · trivial
    refine with_w t rfl (cw_cel t.n1 t.d1 hW (by omega) (hcel q) ⟨rfl, rfl, fun rc4 h4 => ?_⟩)
    trivial
    refine ⟨_, _, _, rfl, app_ok (by simp), ?_⟩
    exact Hold.mk ⟨rc4, rfl, rfl⟩
  rintro e m ⟨rc4, rfl, rfl⟩
  obtain ⟨r0, hr0⟩ : ∃ r0, W[0]? = some r0 := ⟨_, List.getElem?_eq_getElem (by omega)⟩
  have hr0l := (hW r0 (mem_get hr0)).1
  refine wS_cut (fun e m => e = [.d (.cel b), .d (.int dd), .d (.lst (T.map rowL)), .d (.ins 14 (mach n dd T wd rc)), .d (.lst (ns.map D.int)), .non, .d P, .d (.int n), .own (.lst [.ins 14 (mach n dd T (wordsD (sortW n ns)) rc1), .ins 14 (mach n dd T (wordsD (sortW n (List.replicate dd.toNat 0))) rc2), .ins 14 (mach n dd T (wordsD (buttW n ns)) rc3), .ins 14 (mach n dd T (wordsD W) rc4)]), .d (.lst (W.map wrowL)), .d (.lst ((List.range W.length).map fun j => D.cel (μ1.length + j))), .d (.cel (μ1.length + 0)), .non, .non, .non, .non, .non, .non, .non, .non, .non] ∧ m = bx (μ1 ++ W.map wcell) b q) ?_ ?_
  · trivial
    refine ⟨.cel (μ1.length + 0), ix_seq rfl (atI_nat (j := 0) ?_), rfl, Hold.mk ⟨rfl, rfl⟩⟩
    rw [List.getElem?_map, List.getElem?_range (by omega)]
    rfl
  rintro e m ⟨rfl, rfl⟩
  -- the lists handed in are changed
  refine wS_cut (fun e m => ∃ μ2, b < μ2.length ∧ (P = .tup (ns.map D.int) ∨ ∃ c, P = .cel c ∧ c ≠ b ∧ μ2[c]? = some (.lst (ns.map D.int))) ∧ e = [.d (.cel b), .d (.int dd), .d (.lst (T.map rowL)), .d (.ins 14 (mach n dd T wd rc)), .d (.lst (ns.map D.int)), .non, .d P, .d (.int n), .own (.lst [.ins 14 (mach n dd T (wordsD (sortW n ns)) rc1), .ins 14 (mach n dd T (wordsD (sortW n (List.replicate dd.toNat 0))) rc2), .ins 14 (mach n dd T (wordsD (buttW n ns)) rc3), .ins 14 (mach n dd T (wordsD W) rc4)]), .d (.lst (W.map wrowL)), .d (.lst ((List.range W.length).map fun j => D.cel (μ1.length + j))), .d (.cel (μ1.length + 0)), .non, .non, .non, .non, .non, .non, .non, .non, .non] ∧ m = bx μ2 b q) ?_ ?_
  · trivial
    have hr0L : 0 < (r0.map fun p => D.lst [.int p.1, .int p.2]).length := by rw [List.length_map]; omega
    refine ⟨_, .lst ((r0.map fun p => D.lst [.int p.1, .int p.2]).set 0 (.lst [.int 5, .int 5])), hcel q 0 r0 hr0, rfl, ?_, ?_⟩
    · show (ixN _ 0).map _ = _
      rw [show ixN (r0.map fun p => D.lst [.int p.1, .int p.2]).length 0 = some 0 from ixN_zero hr0L]
      rfl
    · refine Hold.mk ⟨(μ1 ++ W.map wcell).set (μ1.length + 0) (.lst ((r0.map fun p => D.lst [.int p.1, .int p.2]).set 0 (.lst [.int 5, .int 5]))), by rw [List.length_set]; exact hb2, ?_, rfl, ?_⟩
      · rcases hP with h | ⟨c, h1, h2, h3⟩
        · exact .inl h
        · refine .inr ⟨c, h1, h2, ?_⟩
          have hc := (List.getElem?_eq_some_iff.mp h3).1
          rw [List.getElem?_set_ne (by omega), List.getElem?_append_left hc]
          exact h3
      · show (bx (μ1 ++ W.map wcell) b q).set _ _ = _
        unfold bx
        rw [List.set_comm _ _ (by omega)]
  rintro e m ⟨μ2, hb3, hP2, rfl, rfl⟩
  have nsL : 0 < (ns.map D.int).length := by rw [List.length_map]; omega
  refine wS_cut (fun e m => ∃ (μ2 : Mu) (q : Int × Int × Int), b < μ2.length ∧ e = [.d (.cel b), .d (.int dd), .d (.lst (T.map rowL)), .d (.ins 14 (mach n dd T wd rc)), .d (.lst (ns.map D.int)), .non, .d P, .d (.int n), .own (.lst [.ins 14 (mach n dd T (wordsD (sortW n ns)) rc1), .ins 14 (mach n dd T (wordsD (sortW n (List.replicate dd.toNat 0))) rc2), .ins 14 (mach n dd T (wordsD (buttW n ns)) rc3), .ins 14 (mach n dd T (wordsD W) rc4)]), .d (.lst (W.map wrowL)), .d (.lst ((List.range W.length).map fun j => D.cel (μ1.length + j))), .d (.cel (μ1.length + 0)), .non, .non, .non, .non, .non, .non, .non, .non, .non] ∧ m = bx μ2 b q) ?_ ?_
  · trivial
    rcases hP2 with rfl | ⟨c, rfl, h2, h3⟩
    · refine ⟨_, rfl, ?_⟩
      trivial
      exact Hold.mk ⟨μ2, q, hb3, rfl, rfl⟩
    · have h3' : (bx μ2 b q)[c]? = some (.lst (ns.map D.int)) := by rw [bx_other h2]; exact h3
      refine ⟨.ty "list", by unfold tagOf; dsimp only; rw [h3']; rfl, ?_⟩
      trivial
      refine ⟨_, .lst ((ns.map D.int).set 0 (.int 77)), h3', rfl, ?_, ?_⟩
      · show (ixN _ 0).map _ = _
        rw [show ixN (ns.map D.int).length 0 = some 0 from ixN_zero nsL]
        rfl
      · refine Hold.mk ⟨μ2.set c (.lst ((ns.map D.int).set 0 (.int 77))), q, by rw [List.length_set]; exact hb3, rfl, ?_⟩
        show (bx μ2 b q).set _ _ = _
        unfold bx
        rw [List.set_comm _ _ (Ne.symm h2)]
  rintro e m ⟨μ3, q, hb4, rfl, rfl⟩
  -- what is due
  refine wS_cut (fun e m => e = [.d (.cel b), .d (.int dd), .d (.lst (T.map rowL)), .d (.ins 14 (mach n dd T wd rc)), .d (.lst (ns.map D.int)), .non, .d P, .d (.int n), .own (.lst [.ins 14 (mach n dd T (wordsD (sortW n ns)) rc1), .ins 14 (mach n dd T (wordsD (sortW n (List.replicate dd.toNat 0))) rc2), .ins 14 (mach n dd T (wordsD (buttW n ns)) rc3), .ins 14 (mach n dd T (wordsD W) rc4)]), .d (.lst (W.map wrowL)), .d (.lst ((List.range W.length).map fun j => D.cel (μ1.length + j))), .d (.cel (μ1.length + 0)), .non, .d (.lst [wordsD (sortW n ns), wordsD (sortW n (List.replicate dd.toNat 0)), wordsD (buttW n ns), wordsD W]), .non, .non, .non, .non, .non, .non, .non] ∧ m = bx μ3 b q) ?_ ?_
  · trivial
    refine ⟨_, _, _, rfl, ?_⟩
    refine wLc_list (ys := ns.map fun i => .tup (List.replicate n.toNat (wordD (i, 0)))) True.intro (by rw [List.length_map]; omega) (by simp) (fun i w hi => ?_) ?_
    · rw [List.getElem?_map] at hi
      obtain ⟨p, hp, rfl⟩ := Option.map_eq_some_iff.mp hi
      refine ⟨_, by rw [List.getElem?_map, hp]; rfl, ?_⟩
      refine wG_n rfl ⟨rfl, ?_⟩
      trivial
      exact ⟨_, mul_tup1 (by omega), rfl, rfl, rfl, rfl⟩
    · trivial
      refine ⟨_, mul_tup1 (by omega), ?_⟩
      trivial
      refine ⟨_, mul_lst1 (by omega), ?_⟩
      trivial
      refine ⟨_, _, _, rfl, ?_⟩
      refine wLc_list (ys := ns.map fun i => .tup (List.replicate n.toNat (wordD (0, i)))) True.intro (by rw [List.length_map]; omega) (by simp) (fun i w hi => ?_) ?_
      · rw [List.getElem?_map] at hi
        obtain ⟨p, hp, rfl⟩ := Option.map_eq_some_iff.mp hi
        refine ⟨_, by rw [List.getElem?_map, hp]; rfl, ?_⟩
        refine wG_n rfl ⟨rfl, ?_⟩
        trivial
        exact ⟨_, mul_tup1 (by omega), rfl, rfl, rfl, rfl⟩
      · trivial
        refine ⟨_, _, _, rfl, ?_⟩
        refine wLc_list (ys := W.map wrowD) True.intro (by rw [List.length_map]; omega) (by simp) (fun i w hi => ?_) ?_
        · rw [List.getElem?_map] at hi
          obtain ⟨p, hp, rfl⟩ := Option.map_eq_some_iff.mp hi
          refine ⟨_, by rw [List.getElem?_map, hp]; rfl, ?_⟩
          refine wG_n rfl ⟨rfl, ?_⟩
          trivial
          exact rfl
        · trivial
          exact Hold.mk ⟨by rw [wordsD_zero n dd.toNat, wordsD_sort n ns, wordsD_butt n ns]; rfl, rfl⟩
  rintro e m ⟨rfl, rfl⟩
  -- shown alike
  have hnw : NcW n dd (sortW n ns) := ncw_sort (by omega) hnl hns
  have hnz : NcW n dd (sortW n (List.replicate dd.toNat 0)) := ncw_sort (by omega) (by rw [List.length_replicate]; omega) fun i hi => by rw [List.eq_of_mem_replicate hi]; omega
  have hnb : NcW n dd (buttW n ns) := ncw_butt (by omega) hnl hns
  have hno : NcW n dd W := ncw_ok (by omega) hW
  refine wS_cut (fun e m => ∃ x15 x16, e = [.d (.cel b), .d (.int dd), .d (.lst (T.map rowL)), .d (.ins 14 (mach n dd T wd rc)), .d (.lst (ns.map D.int)), .non, .d P, .d (.int n), .d (.lst [.ins 14 (mach n dd T (wordsD (sortW n ns)) rc1), .ins 14 (mach n dd T (wordsD (sortW n (List.replicate dd.toNat 0))) rc2), .ins 14 (mach n dd T (wordsD (buttW n ns)) rc3), .ins 14 (mach n dd T (wordsD W) rc4)]), .d (.lst (W.map wrowL)), .d (.lst ((List.range W.length).map fun j => D.cel (μ1.length + j))), .d (.cel (μ1.length + 0)), .non, .d (.lst [wordsD (sortW n ns), wordsD (sortW n (List.replicate dd.toNat 0)), wordsD (buttW n ns), wordsD W]), .non, x15, x16, .non, .non, .non, .non] ∧ m = bx μ3 b q) ?_ ?_
  · trivial
    refine ⟨_, _, _, _, _, _, _, rfl, rfl, rfl, ?_⟩
    refine wFor (fun j e m => ∃ x15 x16, e = [.d (.cel b), .d (.int dd), .d (.lst (T.map rowL)), .d (.ins 14 (mach n dd T wd rc)), .d (.lst (ns.map D.int)), .non, .d P, .d (.int n), .d (.lst [.ins 14 (mach n dd T (wordsD (sortW n ns)) rc1), .ins 14 (mach n dd T (wordsD (sortW n (List.replicate dd.toNat 0))) rc2), .ins 14 (mach n dd T (wordsD (buttW n ns)) rc3), .ins 14 (mach n dd T (wordsD W) rc4)]), .d (.lst (W.map wrowL)), .d (.lst ((List.range W.length).map fun j => D.cel (μ1.length + j))), .d (.cel (μ1.length + 0)), .non, .d (.lst [wordsD (sortW n ns), wordsD (sortW n (List.replicate dd.toNat 0)), wordsD (buttW n ns), wordsD W]), .non, x15, x16, .non, .non, .non, .non] ∧ m = bx μ3 b q) ⟨_, _, rfl, rfl⟩ ?_ ?_
    · rintro j d e m hj ⟨x15, x16, rfl, rfl⟩
      refine ⟨⟨True.intro, True.intro⟩, ?_⟩
      obtain ⟨W', rc', rfl, hW'⟩ : ∃ W' rc', d = .tup [.ins 14 (mach n dd T (wordsD W') rc'), wordsD W'] ∧ NcW n dd W' := by
        have hd := mem_get hj
        simp only [zipD, List.mem_cons, List.mem_nil_iff, or_false] at hd
        rcases hd with rfl | rfl | rfl | rfl
        · exact ⟨_, rc1, rfl, hnw⟩
        · exact ⟨_, rc2, rfl, hnz⟩
        · exact ⟨_, rc3, rfl, hnb⟩
        · exact ⟨_, rc4, rfl, hno⟩
      have np := nice_pair t hW'
      trivial
      refine ⟨_, repr_ok np (toPR_of (toP_pair T W')) (by decide) (by decide), ?_⟩
      trivial
      refine ⟨_, repr_ok np (toPR_of (toP_pair T W')) (by decide) (by decide), ?_⟩
      refine ⟨_, ne_same (str_shaped np.ok) rfl rfl, ?_⟩
      trivial
      exact Hold.mk ⟨_, _, rfl, rfl⟩
    · rintro e m ⟨x15, x16, rfl, rfl⟩
      exact ⟨⟨True.intro, True.intro⟩, Hold.mk ⟨_, _, rfl, rfl⟩⟩
  rintro e m ⟨x15, x16, rfl, rfl⟩
  -- equal machines
  refine wS_cut (fun e m => e = [.d (.cel b), .d (.int dd), .d (.lst (T.map rowL)), .d (.ins 14 (mach n dd T wd rc)), .d (.lst (ns.map D.int)), .non, .d P, .d (.int n), .d (.lst [.ins 14 (mach n dd T (wordsD (sortW n ns)) rc1), .ins 14 (mach n dd T (wordsD (sortW n (List.replicate dd.toNat 0))) rc2), .ins 14 (mach n dd T (wordsD (buttW n ns)) rc3), .ins 14 (mach n dd T (wordsD W) rc4)]), .d (.lst (W.map wrowL)), .d (.lst ((List.range W.length).map fun j => D.cel (μ1.length + j))), .d (.cel (μ1.length + 0)), .non, .d (.lst [wordsD (sortW n ns), wordsD (sortW n (List.replicate dd.toNat 0)), wordsD (buttW n ns), wordsD W]), .non, x15, x16, .non, .non, .non, .non] ∧ m = bx μ3 b q) ?_ ?_
  · trivial
    refine silent_w t fun rc5 h5 => ?_
    trivial
    refine ⟨_, _, rfl, rfl, ⟨rfl, rfl⟩, ?_⟩
    refine eq_w (toP_tables T) ((nice_tables t).shaped (by decide)) (toP_words _) ((nice_words hnz t.n1.2 t.d1.2).shaped (by decide)) ?_
    refine ⟨_, rfl, _, rfl, ?_⟩
    trivial
    have hde := ncw_def (n := n) (dd := dd) (by omega) (by omega)
    refine with_w t rfl (cw_none (by omega) (by omega) ⟨rfl, by rw [defW_eq]; rfl, fun rc6 h6 => ?_⟩)
    trivial
    have nle : noLoc (defW n dd) = true := by rw [defW_eq]; rfl
    have go : ∀ K' : Cell → Mu → Prop, (∀ rc7, noLoc rc7 = true → K' (.ins 14 (mach n dd T (defW n dd) rc7)) (bx μ3 b q)) → wJ m_Machine___init__ [.lst (T.map rowL), .non] (bx μ3 b q) K' (fun _ _ => False) := fun K' hK => by
      obtain ⟨n', rfl⟩ : ∃ n' : Nat, n = n' := ⟨n.toNat, by omega⟩
      exact init_w TOk.lst t.ok (by omega) t.len t.d1 rfl (cw_none (by omega) (by omega) ⟨rfl, nle, hK⟩)
    refine (go _ fun rc7 h7 => ?_).imp (fun c m h => h) (fun _ _ z => z.elim)
    refine ⟨⟨rfl, rfl⟩, _, _, rfl, rfl, ⟨rfl, rfl⟩, ?_⟩
    rw [defW_eq]
    refine eq_w (toP_tables T) ((nice_tables t).shaped (by decide)) (toP_words _) ((nice_words hde t.n1.2 t.d1.2).shaped (by decide)) ?_
    refine ⟨_, rfl, _, rfl, ?_⟩
    trivial
    exact Hold.mk ⟨rfl, rfl⟩
  rintro e m ⟨rfl, rfl⟩
  -- a place, an odd value
  refine wS_cut (fun e m => ∃ (a : Int) (q : Int × Int × Int), 0 ≤ a ∧ a < dd ∧ e = [.d (.cel b), .d (.int dd), .d (.lst (T.map rowL)), .d (.ins 14 (mach n dd T wd rc)), .d (.lst (ns.map D.int)), .non, .d P, .d (.int n), .d (.lst [.ins 14 (mach n dd T (wordsD (sortW n ns)) rc1), .ins 14 (mach n dd T (wordsD (sortW n (List.replicate dd.toNat 0))) rc2), .ins 14 (mach n dd T (wordsD (buttW n ns)) rc3), .ins 14 (mach n dd T (wordsD W) rc4)]), .d (.lst (W.map wrowL)), .d (.lst ((List.range W.length).map fun j => D.cel (μ1.length + j))), .d (.cel (μ1.length + 0)), .non, .d (.lst [wordsD (sortW n ns), wordsD (sortW n (List.replicate dd.toNat 0)), wordsD (buttW n ns), wordsD W]), .non, x15, x16, .d (.int a), .non, .non, .non] ∧ m = bx μ3 b q) ?_ ?_
  · trivial
    refine take_w hb4 (by omega) (by omega) fun a q' h0 h1 => ⟨rfl, Hold.mk ⟨a, q', h0, h1, rfl, rfl⟩⟩
  rintro e m ⟨a, q, ha0, ha1, rfl, rfl⟩
  refine wS_cut (fun e m => ∃ (o : D) (q : Int × Int × Int), OddOk o ∧ e = [.d (.cel b), .d (.int dd), .d (.lst (T.map rowL)), .d (.ins 14 (mach n dd T wd rc)), .d (.lst (ns.map D.int)), .non, .d P, .d (.int n), .d (.lst [.ins 14 (mach n dd T (wordsD (sortW n ns)) rc1), .ins 14 (mach n dd T (wordsD (sortW n (List.replicate dd.toNat 0))) rc2), .ins 14 (mach n dd T (wordsD (buttW n ns)) rc3), .ins 14 (mach n dd T (wordsD W) rc4)]), .d (.lst (W.map wrowL)), .d (.lst ((List.range W.length).map fun j => D.cel (μ1.length + j))), .d (.cel (μ1.length + 0)), .non, .d (.lst [wordsD (sortW n ns), wordsD (sortW n (List.replicate dd.toNat 0)), wordsD (buttW n ns), wordsD W]), .non, x15, x16, .d (.int a), .d o, .non, .non] ∧ m = bx μ3 b q) ?_ ?_
  · trivial
    refine pick_w (l := [.int (0 - 1), .bl true, .non, .str "0", .int (10 ^ 6 + 1), .tup [.int 0]]) hb4 (by simp) (by simp) (by decide) fun x hx q' => ?_
    have ho := odd_ok x hx
    exact ⟨odd_nl ho, Hold.mk ⟨x, q', ho, rfl, rfl⟩⟩
  rintro e m ⟨o, q, ho, rfl, rfl⟩
  -- what is refused
  have hnl2 : ns.length ≤ 12 := by omega
  have hL : ((ns.map D.int).length : Int) = dd := by rw [List.length_map]; exact hnl
  have hLn : (ns.map D.int).length ≤ 12 := by rw [List.length_map]; exact hnl2
  have hin := ints_nice hns
  generalize ns.map D.int = L at hL hLn hin
  have hoi : ∀ d ∈ L.take a.toNat ++ [o] ++ L.drop (a.toNat + 1), plainD d = true ∧ ∃ p, toP d = some p ∧ Nice 1 20 p := fun d hd => by
    rcases List.mem_append.mp hd with hd | hd
    · rcases List.mem_append.mp hd with hd | hd
      · exact ⟨(hin d (List.mem_of_mem_take hd)).1, (hin d (List.mem_of_mem_take hd)).2.2⟩
      · rw [List.mem_singleton.mp hd]
        exact ⟨ho.pl, ho.ni⟩
    · exact ⟨(hin d (List.mem_of_mem_drop hd)).1, (hin d (List.mem_of_mem_drop hd)).2.2⟩
  have hol : (L.take a.toNat ++ [o] ++ L.drop (a.toNat + 1)).length = L.length := by
    rw [List.length_append, List.length_append, List.length_take, List.length_drop, List.length_singleton]
    omega
  have hob : ¬ (((L.take a.toNat ++ [o] ++ L.drop (a.toNat + 1)).length : Int) = dd ∧ ((L.take a.toNat ++ [o] ++ L.drop (a.toNat + 1)).all (blw 1000001)) = true) := fun z => by
    have := List.all_eq_true.mp z.2 o (by simp)
    rw [ho.no] at this
    cases this
  have bad : ∀ v ∈ [D.non, .str (strRep "0" dd.toNat), .lst (L.drop 1), .lst (L ++ [.int 0]), .lst (L.take a.toNat ++ [o] ++ L.drop (a.toNat + 1)), .tup (L.take a.toNat ++ [o] ++ L.drop (a.toNat + 1)), .int 0], BadV n dd T wd rc v := fun v hv => by
    simp only [List.mem_cons, List.mem_nil_iff, or_false] at hv
    rcases hv with rfl | rfl | rfl | rfl | rfl | rfl | rfl
    · exact ⟨rfl, ⟨_, rfl, nice_non.mono (by decide) (by decide)⟩, fun m => cs_no rfl (fun l => ⟨(fun z => nomatch z), fun z => nomatch z⟩) ⟨rfl, rfl⟩⟩
    · exact ⟨rfl, ⟨_, rfl, (nice_zeros hdd).mono (by decide) (by decide)⟩, fun m => cs_no rfl (fun l => ⟨(fun z => nomatch z), fun z => nomatch z⟩) ⟨rfl, rfl⟩⟩
    · refine bad_seq (.inl rfl) (by rw [List.length_drop]; omega) (fun d hd => ⟨(hin d (List.mem_of_mem_drop hd)).1, (hin d (List.mem_of_mem_drop hd)).2.2⟩) fun z => ?_
      have := z.1
      rw [List.length_drop] at this
      omega
    · refine bad_seq (.inl rfl) (by rw [List.length_append, List.length_singleton]; omega) (fun d hd => ?_) fun z => ?_
      · rcases List.mem_append.mp hd with hd | hd
        · exact ⟨(hin d hd).1, (hin d hd).2.2⟩
        · rw [List.mem_singleton.mp hd]
          exact ⟨rfl, _, rfl, (nice_int (by decide)).mono (by decide) (by decide)⟩
      · have := z.1
        rw [List.length_append, List.length_singleton] at this
        omega
    · exact bad_seq (.inl rfl) (by omega) hoi hob
    · exact bad_seq (.inr rfl) (by omega) hoi hob
    · exact ⟨rfl, ⟨_, rfl, (nice_int (by decide)).mono (by decide) (by decide)⟩, fun m => cs_no rfl (fun l => ⟨(fun z => nomatch z), fun z => nomatch z⟩) ⟨rfl, rfl⟩⟩
  refine wS_cut (fun e m => ∃ x19, e = [.d (.cel b), .d (.int dd), .d (.lst (T.map rowL)), .d (.ins 14 (mach n dd T wd rc)), .d (.lst L), .non, .d P, .d (.int n), .d (.lst [.ins 14 (mach n dd T (wordsD (sortW n ns)) rc1), .ins 14 (mach n dd T (wordsD (sortW n (List.replicate dd.toNat 0))) rc2), .ins 14 (mach n dd T (wordsD (buttW n ns)) rc3), .ins 14 (mach n dd T (wordsD W) rc4)]), .d (.lst (W.map wrowL)), .d (.lst ((List.range W.length).map fun j => D.cel (μ1.length + j))), .d (.cel (μ1.length + 0)), .non, .d (.lst [wordsD (sortW n ns), wordsD (sortW n (List.replicate dd.toNat 0)), wordsD (buttW n ns), wordsD W]), .non, x15, x16, .d (.int a), .d o, x19, .non] ∧ m = bx μ3 b q) ?_ ?_
  · trivial
    refine ⟨_, mul_str (by refine ⟨by omega, by omega, by decide⟩), ?_⟩
    trivial
    refine ⟨_, add_lst (by simp; omega), ?_⟩
    trivial
    refine ⟨⟨nl1 (odd_nl ho), Nat.le_of_ble_eq_true rfl⟩, ?_⟩
    have lt1 : (L.take a.toNat).length ≤ 12 := by rw [List.length_take]; omega
    have ld1 : (L.drop (a.toNat + 1)).length ≤ 12 := by rw [List.length_drop]; omega
    have c1 : cutL L none (some a) = L.take a.toNat := cut_to ha0 (by omega)
    have c2 : cutL L (some (a + 1)) none = L.drop (a.toNat + 1) := by
      rw [cut_from (by omega) (by omega)]
      congr 1
      omega
    have c3 : cutL L (some 1) none = L.drop 1 := cut_from (by decide) (by omega)
    rw [c1, c3]
    refine ⟨_, add_lst (by rw [List.length_singleton]; omega), ?_⟩
    trivial
    rw [c2]
    refine ⟨_, add_lst (by rw [List.length_append, List.length_singleton]; omega), ?_⟩
    trivial
    refine ⟨⟨nl1 (odd_nl ho), Nat.le_of_ble_eq_true rfl⟩, ?_⟩
    rw [c1]
    refine ⟨_, add_lst (by rw [List.length_singleton]; omega), ?_⟩
    trivial
    rw [c2]
    refine ⟨_, add_lst (by rw [List.length_append, List.length_singleton]; omega), ?_⟩
    trivial
    refine ⟨_, _, _, rfl, ?_⟩
    refine wFor (fun j e m => ∃ x19, e = [.d (.cel b), .d (.int dd), .d (.lst (T.map rowL)), .d (.ins 14 (mach n dd T wd rc)), .d (.lst L), .non, .d P, .d (.int n), .d (.lst [.ins 14 (mach n dd T (wordsD (sortW n ns)) rc1), .ins 14 (mach n dd T (wordsD (sortW n (List.replicate dd.toNat 0))) rc2), .ins 14 (mach n dd T (wordsD (buttW n ns)) rc3), .ins 14 (mach n dd T (wordsD W) rc4)]), .d (.lst (W.map wrowL)), .d (.lst ((List.range W.length).map fun j => D.cel (μ1.length + j))), .d (.cel (μ1.length + 0)), .non, .d (.lst [wordsD (sortW n ns), wordsD (sortW n (List.replicate dd.toNat 0)), wordsD (buttW n ns), wordsD W]), .non, x15, x16, .d (.int a), .d o, x19, .non] ∧ m = bx μ3 b q) ⟨_, rfl, rfl⟩ ?_ ?_
    · rintro j v e m hj ⟨x19, rfl, rfl⟩
      refine ⟨True.intro, ?_⟩
      have hv := bad v (mem_get hj)
      have nlv := hv.nl
      obtain ⟨p, hp, np⟩ := hv.ni
      refine wG_n nlv ?_
      trivial
      refine wLc (fun j acc e m => acc = [] ∧ e = [.d (.cel b), .d (.int dd), .d (.lst (T.map rowL)), .d (.ins 14 (mach n dd T wd rc)), .d (.lst L), .non, .d P, .d (.int n), .d (.lst [.ins 14 (mach n dd T (wordsD (sortW n ns)) rc1), .ins 14 (mach n dd T (wordsD (sortW n (List.replicate dd.toNat 0))) rc2), .ins 14 (mach n dd T (wordsD (buttW n ns)) rc3), .ins 14 (mach n dd T (wordsD W) rc4)]), .d (.lst (W.map wrowL)), .d (.lst ((List.range W.length).map fun j => D.cel (μ1.length + j))), .d (.cel (μ1.length + 0)), .non, .d (.lst [wordsD (sortW n ns), wordsD (sortW n (List.replicate dd.toNat 0)), wordsD (buttW n ns), wordsD W]), .non, x15, x16, .d (.int a), .d o, .d v, .non] ∧ m = bx μ3 b q) ⟨rfl, rfl, rfl⟩ ?_ ?_
      · rintro j d acc e m hj ⟨rfl, rfl, rfl⟩
        obtain ⟨hj2, rfl⟩ := rngD_get hj
        refine ⟨True.intro, ?_⟩
        trivial
        refine ⟨nl3 rfl rfl nlv, ref_sorts (z := p.shown) (by omega) nlv (hv.cs _) (fun env => repr_ok np (toPR_of hp) (by decide) (by decide)) ?_⟩
        trivial
        refine ⟨_, repr_ok np (toPR_of hp) (by decide) (by decide), ?_⟩
        trivial
        refine ⟨_, ne_same (p := .tuple [.str "refused", .str p.shown]) (ref_shaped np.ok) rfl rfl, ?_⟩
        trivial
        exact Hold.mk ⟨rfl, rfl, rfl⟩
      · rintro acc e m ⟨rfl, rfl, rfl⟩
        refine ⟨True.intro, ?_⟩
        trivial
        exact Hold.mk ⟨_, rfl, rfl⟩
    · rintro e m ⟨x19, rfl, rfl⟩
      exact ⟨True.intro, Hold.mk ⟨_, rfl, rfl⟩⟩
  rintro e m ⟨x19, rfl, rfl⟩
  have hWlen : (W.map wrowL).length = W.length := by rw [List.length_map]
  have hWdd : (W.length : Int) = dd := by omega
  trivial
  refine ⟨_, add_lst (by omega), ?_⟩
  trivial
  refine ref_words t rfl (cw_len (by omega) SqD.lst (by rw [List.length_append]; omega) ⟨rfl, rfl⟩) ?_
  trivial
  refine ⟨_, eq_same (p := .tuple [.str "machine", .int (-2)]) (by decide +kernel) rfl rfl, ?_⟩
  trivial
  have c1 : cutL (W.map wrowL) none (some a) = (W.map wrowL).take a.toNat := cut_to ha0 (by omega)
  have c2 : cutL (W.map wrowL) (some (a + 1)) none = (W.map wrowL).drop (a.toNat + 1) := by
    rw [cut_from (by omega) (by omega)]
    congr 1
    omega
  obtain ⟨ra, hra⟩ : ∃ ra, W[a.toNat]? = some ra := ⟨_, List.getElem?_eq_getElem (by omega)⟩
  have hral := (hW ra (mem_get hra)).1
  have hat : atI (W.map wrowL) a = some (wrowL ra) := by
    have e : atI (W.map wrowL) ((a.toNat : Nat) : Int) = some (wrowL ra) := atI_nat (by rw [List.getElem?_map, hra]; rfl)
    rw [Int.toNat_of_nonneg ha0] at e
    exact e
  refine ⟨_, ix_seq rfl hat, ?_⟩
  trivial
  refine ⟨_, add_lst (l := ra.map wordD) (by rw [List.length_map, List.length_singleton]; omega), ?_⟩
  trivial
  have lt1 : ((W.map wrowL).take a.toNat).length = a.toNat := by rw [List.length_take, hWlen]; omega
  have ld1 : ((W.map wrowL).drop (a.toNat + 1)).length ≤ 12 := by rw [List.length_drop, hWlen]; omega
  rw [c1]
  refine ⟨_, add_lst (by rw [List.length_singleton]; omega), ?_⟩
  trivial
  rw [c2]
  refine ⟨_, add_lst (by rw [List.length_append, List.length_singleton]; omega), ?_⟩
  trivial
  have hbig : ((W.map wrowL).take a.toNat ++ [D.lst (ra.map wordD ++ [D.int 0])] ++ (W.map wrowL).drop (a.toNat + 1)).length = W.length := by
    rw [List.length_append, List.length_append, lt1, List.length_drop, hWlen, List.length_singleton]
    omega
  refine ref_words (at_ := dd + a) t rfl (cw_seq (c := a.toNat) (W := W) (by omega) (by omega) SqD.lst (by rw [hbig]; omega) (by rw [hbig]; omega) (fun j x hj hja => ?_) (fun x hx => ?_) (fun _ => ⟨by rw [Int.toNat_of_nonneg ha0], rfl⟩) (fun z => by rw [hbig] at z; omega)) ?_
  · rw [List.append_assoc, List.getElem?_append_left (by rw [lt1]; exact hja), List.getElem?_take_of_lt hja, List.getElem?_map] at hj
    obtain ⟨r, hr, rfl⟩ := Option.map_eq_some_iff.mp hj
    exact ⟨r, hr, okw_row hW (mem_get hr)⟩
  · rw [List.append_assoc, List.getElem?_append_right (by rw [lt1]; exact Nat.le_refl _), lt1, Nat.sub_self] at hx
    cases hx
    refine ⟨_, SqD.lst, ?_⟩
    rw [List.length_append, List.length_map, List.length_singleton]
    omega
  · trivial
    refine ⟨_, eq_same (p := .tuple [.str "machine", .int (dd + a)]) ?_ rfl rfl, rfl, k _⟩
    show ((PyData.strOk (Str.ofString "machine") && true) && decide (1 ≤ 64)) = true
    have e1 : PyData.strOk (Str.ofString "machine") = true := by decide +kernel
    rw [e1]
    rfl
theorem math (ns : List Int) (_ : ns.length ≤ 63) : ∃ μ, m_law [.rol (ns.map D.int)] [] = .ok (.bl true) μ := by
  have w : wF m_law [.rol (ns.map D.int)] [] (fun d _ => d = .bl true) (fun _ _ => False) := by
    refine wF_def rfl ?_
    unfold ms_law
    trivial
    refine wFor (fun j e m => ∃ x1, e = [.d (.rol (ns.map D.int)), x1]) ⟨_, rfl⟩ ?_ ?_
    · rintro j d e m hj ⟨x1, rfl⟩
      obtain ⟨hj3, rfl⟩ := rngD_get hj
      refine ⟨True.intro, ?_⟩
      trivial
      rw [Int.zero_add]
      refine box_w (by omega) fun q' => ?_
      trivial
      refine case_w (by rw [List.length_append]; simp) fun μ' => ?_
      trivial
      exact Hold.mk ⟨_, rfl⟩
    · rintro e m ⟨x1, rfl⟩
      refine ⟨True.intro, ?_⟩
      trivial
      rfl
  unfold wF at w
  cases e : m_law [.rol (ns.map D.int)] [] with
  | ok d μ =>
    rw [e] at w
    exact ⟨μ, by rw [show d = .bl true from w]⟩
  | _ =>
    rw [e] at w
    exact w.elim
end
end Lw
theorem PySem.Challenge.cw_hiddenfalls_k07_other_words_holds : PySem.Challenge.rw_hiddenfalls_k07_other_words.Holds :=
  Lw.holds Lw.math
