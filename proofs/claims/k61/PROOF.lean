import PyProof.Rows.All
import Wide.All
import OpenK.AllK
import Wide.FinOn
import HandS.ForMost
import HandS.Exc
import HandS.TryOnly
import HandS.ExcOwn
import HandS.WordsExc
import HandS.Flow
import HandS.TupAny
import HandS.Wide
import HandS.Deep
import HandS.TupLe
import HandS.Style
import HandS.HeadHook1
import HandS.ExcIs
import HandS.ExcField
import KE.KExcIs
import HandS.Lambda
import HandS.Conv
import HandS.IsInst
import HandS.RaiseMore
import HandS.Star
import HandS.Property
import HandS.Zip
import KE.GoesEnum
import HandS.Defaults
import HandS.Words
import HandS.Ends
import HandS.EndBits
import HandS.Head0
import HandS.Head1
import HandS.Head2
import HandS.HeadEnd
import HandS.HeadHook2
import KE.KExcSuper
import HandS.ExcInit
import HandS.EndTab
import HandS.Dict
import KE.KDflt
import PySem.Challenge.RW_ownseen_k61_fuses
set_option Elab.async false
set_option linter.all false
set_option maxRecDepth 100000
set_option maxHeartbeats 4000000
namespace DD
open PySem PySem.Spec PyProof.Rows L2

inductive D where
  | non
  | bl (b : Bool)
  | int (i : Int)
  | str (s : Str)
  | tup (xs : List D)
  | lst (xs : List D)
  | own (xs : List D)
  | bor (xs : List D)
  | dct (kvs : List (D × D))
  | ob (i : Nat)
  | exc (c : Str) (fs : List (Str × D))
  | scr (xs : List D)
deriving Inhabited
inductive Ob where
  | ins (c : Nat) (fs : List (Str × D))
  | arr (xs : List D)
  | tab (q : Str)
deriving Inhabited
abbrev Rho := List (Option D)
abbrev Sto := List Ob
structure Ex where
  c : Str
  fs : List (Str × D)
inductive Out (α : Type) where
  | ok (a : α) (r : Rho) (S : Sto)
  | exc (e : Ex) (r : Rho) (S : Sto)
  | no
abbrev M (α : Type) := Rho → Sto → Out α
def M.bind {α β : Type} (m : M α) (f : α → M β) : M β := fun r S => match m r S with
  | .ok a r' S' => f a r' S'
  | .exc e r' S' => .exc e r' S'
  | .no => .no
def M.ret {α : Type} (a : α) : M α := fun r S => .ok a r S
def M.fail {α : Type} : M α := fun _ _ => .no
instance : Monad M where
  pure := M.ret
  bind := M.bind
def lift {α : Type} : Option α → M α
  | some a => M.ret a
  | none => M.fail
def frzD : D → D
  | .own xs => .lst xs
  | d => d
def frz (m : M D) : M D := fun r S => match m r S with
  | .ok d r' S' => .ok (frzD d) r' S'
  | .exc e r' S' => .exc e r' S'
  | .no => .no

inductive Rt where
  | slot (i : Nat)
  | fld (k : Nat) (f : Str)
  | tmp (b : Bool)
structure Gh where
  G : Hp
  io : Nat → Addr
  W : Addr → Option Rt
structure Tb where
  cA : Nat → Addr
  xA : Str → Addr := fun _ => 0
  bg : Gh := ⟨fun _ => none, fun _ => 0, fun _ => none⟩
  bn : Nat := 0

def ExcAt (C a : Addr) (d : Option Addr) : Heap → Prop := fun h => ∃ oe vs, h.get? a = some oe ∧ Zc (.ref C) d oe ∧ oe.data = .fields vs
mutual
inductive IsF (K : PySem.W.Frag) (G : Hp) (io : Nat → Addr) (n : Nat) : V → D → Prop
  | non : IsF K G io n .non .non
  | bl (b : Bool) : IsF K G io n (.bl b) (.bl b)
  | int (i : Int) : IsF K G io n (.int i) (.int i)
  | str (s : Str) : IsF K G io n (.str s) (.str s)
  | lst {a : Addr} {vs : List V} {ds : List D} : G a = some (.lst vs) → IsFs K G io n vs ds → IsF K G io n (.ref a) (.lst ds)
  | scr {a : Addr} {vs : List V} {ds : List D} : SqL K G a vs → IsFs K G io n vs ds → IsF K G io n (.ref a) (.scr ds)
  | tup {a : Addr} {vs : List V} {ds : List D} : SqT K G a vs → IsFs K G io n vs ds → IsF K G io n (.ref a) (.tup ds)
  | ob {i : Nat} {a : Addr} : i < n → io i = a → IsF K G io n (.ref a) (.ob i)
  | opq {a : Addr} : IsF K G io n (.ref a) (.exc "" [("", .int a)])
  | dct {a : Addr} {kvs : List (Key × V)} : G a = some (.dK kvs) → IsF K G io n (.ref a) (.dct [])
  | exc {a : Addr} {c : Str} : c ≠ "" → G a = some (.ext (ExcAt (He.ga K c) a none)) → IsF K G io n (.ref a) (.exc c [])
  | excf {a d : Addr} {c : Str} {ns : List Str} {vs : List V} {ds : List D} {fs : List (Str × D)} : c ≠ "" → G a = some (.ext (ExcAt (He.ga K c) a (some d))) → G d = some (.xd (ns.zip vs)) → fs = ns.zip ds → ns.length = vs.length → IsFs K G io n vs ds → IsF K G io n (.ref a) (.exc c fs)
inductive IsFs (K : PySem.W.Frag) (G : Hp) (io : Nat → Addr) (n : Nat) : List V → List D → Prop
  | nil : IsFs K G io n [] []
  | cons {v : V} {d : D} {vs : List V} {ds : List D} : IsF K G io n v d → IsFs K G io n vs ds → IsFs K G io n (v :: vs) (d :: ds)
end
abbrev Sub (H H' : Hp) : Prop := ∀ a o, H a = some o → H' a = some o
theorem Sub.rd {H H' : Hp} {a : Addr} {u : HO} (e : Sub H H') (h : Rd H a u) : Rd H' a u := by
  rcases h with h | ⟨o, h⟩
  · exact .inl (e a _ h)
  · exact .inr ⟨o, e a _ h⟩
theorem Sub.sqL {K : PySem.W.Frag} {H H' : Hp} {a : Addr} {xs : List V} (e : Sub H H') (h : SqL K H a xs) : SqL K H' a xs := by
  rcases h with h | h
  · exact .inl (e.rd h)
  · exact .inr h
theorem Sub.sqT {K : PySem.W.Frag} {H H' : Hp} {a : Addr} {xs : List V} (e : Sub H H') (h : SqT K H a xs) : SqT K H' a xs := by
  rcases h with h | h
  · exact .inl (e.rd h)
  · exact .inr h
theorem Sub.refl (H : Hp) : Sub H H := fun _ _ h => h
theorem Sub.trans {H H1 H2 : Hp} (a : Sub H H1) (b : Sub H1 H2) : Sub H H2 := fun c o h => b c o (a c o h)
section
variable {K : PySem.W.Frag} {G G' : Hp} {io io' : Nat → Addr} {n n' : Nat}
mutual
theorem IsF.mono (hG : Sub G G') (hi : ∀ k, k < n → io' k = io k) (hn : n ≤ n') : ∀ {v : V} {d : D}, IsF K G io n v d → IsF K G' io' n' v d
  | _, _, .non => .non
  | _, _, .bl b => .bl b
  | _, _, .int i => .int i
  | _, _, .str s => .str s
  | _, _, .lst h hs => .lst (hG _ _ h) (IsFs.mono hG hi hn hs)
  | _, _, .scr h hs => .scr (hG.sqL h) (IsFs.mono hG hi hn hs)
  | _, _, .tup h hs => .tup (hG.sqT h) (IsFs.mono hG hi hn hs)
  | _, _, .ob h e => .ob (Nat.lt_of_lt_of_le h hn) ((hi _ h).trans e)
  | _, _, .opq => .opq
  | _, _, .dct h => .dct (hG _ _ h)
  | _, _, .exc h1 h2 => .exc h1 (hG _ _ h2)
  | _, _, .excf h1 h2 h3 h4 h5 hs => .excf h1 (hG _ _ h2) (hG _ _ h3) h4 h5 (IsFs.mono hG hi hn hs)
theorem IsFs.mono (hG : Sub G G') (hi : ∀ k, k < n → io' k = io k) (hn : n ≤ n') : ∀ {vs : List V} {ds : List D}, IsFs K G io n vs ds → IsFs K G' io' n' vs ds
  | _, _, .nil => .nil
  | _, _, .cons h hs => .cons (IsF.mono hG hi hn h) (IsFs.mono hG hi hn hs)
end
theorem IsFs.length : ∀ {vs : List V} {ds : List D}, IsFs K G io n vs ds → vs.length = ds.length
  | _, _, .nil => rfl
  | _, _, .cons _ hs => by simp [IsFs.length hs]
theorem IsFs.get : ∀ {vs : List V} {ds : List D} {i : Nat} {d : D}, IsFs K G io n vs ds → ds[i]? = some d → ∃ v, vs[i]? = some v ∧ IsF K G io n v d
  | _, _, _, _, .nil, e => by simp at e
  | _, _, 0, _, .cons h _, e => by simp at e; subst e; exact ⟨_, rfl, h⟩
  | _, _, i + 1, _, .cons _ hs, e => by
    obtain ⟨v, h1, h2⟩ := IsFs.get (i := i) hs (by simpa using e)
    exact ⟨v, by simpa using h1, h2⟩
theorem IsFs.getV : ∀ {vs : List V} {ds : List D} {i : Nat} {v : V}, IsFs K G io n vs ds → vs[i]? = some v → ∃ d, ds[i]? = some d ∧ IsF K G io n v d
  | _, _, _, _, .nil, e => by simp at e
  | _, _, 0, _, .cons h _, e => by simp at e; subst e; exact ⟨_, rfl, h⟩
  | _, _, i + 1, _, .cons _ hs, e => by
    obtain ⟨v, h1, h2⟩ := IsFs.getV (i := i) hs (by simpa using e)
    exact ⟨v, by simpa using h1, h2⟩
theorem IsFs.append : ∀ {vs : List V} {ds : List D} {vs' : List V} {ds' : List D}, IsFs K G io n vs ds → IsFs K G io n vs' ds' → IsFs K G io n (vs ++ vs') (ds ++ ds')
  | _, _, _, _, .nil, h => h
  | _, _, _, _, .cons h hs, h' => .cons h (IsFs.append hs h')
theorem IsFs.one {v : V} {d : D} (h : IsF K G io n v d) : IsFs K G io n [v] [d] := .cons h .nil
theorem IsFs.set {v : V} {d : D} (h : IsF K G io n v d) : ∀ {vs : List V} {ds : List D} (i : Nat), IsFs K G io n vs ds → IsFs K G io n (vs.set i v) (ds.set i d)
  | _, _, _, .nil => .nil
  | _, _, 0, .cons _ hs => .cons h hs
  | _, _, i + 1, .cons h1 hs => .cons h1 (IsFs.set h i hs)
theorem IsFs.take : ∀ {vs : List V} {ds : List D} (k : Nat), IsFs K G io n vs ds → IsFs K G io n (vs.take k) (ds.take k)
  | _, _, 0, _ => .nil
  | _, _, _ + 1, .nil => .nil
  | _, _, k + 1, .cons h hs => .cons h (IsFs.take k hs)
theorem IsFs.drop : ∀ {vs : List V} {ds : List D} (k : Nat), IsFs K G io n vs ds → IsFs K G io n (vs.drop k) (ds.drop k)
  | _, _, 0, h => h
  | _, _, _ + 1, .nil => .nil
  | _, _, k + 1, .cons _ hs => IsFs.drop k hs
theorem IsFs.repl {v : V} {d : D} (h : IsF K G io n v d) : ∀ k : Nat, IsFs K G io n (List.replicate k v) (List.replicate k d)
  | 0 => .nil
  | k + 1 => .cons h (IsFs.repl h k)
theorem IsFs.rep {vs : List V} {ds : List D} (h : IsFs K G io n vs ds) : ∀ k : Nat, IsFs K G io n (List.replicate k vs).flatten (List.replicate k ds).flatten
  | 0 => .nil
  | k + 1 => by
    rw [List.replicate_succ, List.replicate_succ, List.flatten_cons, List.flatten_cons]
    exact h.append (IsFs.rep h k)
theorem IsFs.rev {vs : List V} {ds : List D} (h : IsFs K G io n vs ds) : IsFs K G io n vs.reverse ds.reverse := by
  induction vs generalizing ds with
  | nil => cases h; exact .nil
  | cons v vs ih =>
    cases h with
    | cons h hs =>
      rw [List.reverse_cons, List.reverse_cons]
      exact (ih hs).append (.one h)
theorem IsFs.ints : ∀ ns : List Int, IsFs K G io n (ns.map V.int) (ns.map D.int)
  | [] => .nil
  | i :: r => .cons (.int i) (IsFs.ints r)
theorem IsFs.of_get : ∀ {vs : List V} {ds : List D}, vs.length = ds.length → (∀ (i : Nat) v d, vs[i]? = some v → ds[i]? = some d → IsF K G io n v d) → IsFs K G io n vs ds
  | [], [], _, _ => .nil
  | v :: vs, d :: ds, e, h => .cons (h 0 v d rfl rfl) (IsFs.of_get (by simpa using e) fun i v d e1 e2 => h (i + 1) v d (by simpa using e1) (by simpa using e2))
end

def IsV (K : PySem.W.Frag) (H : Hp) (g : Gh) (n : Nat) (v : V) : D → Prop
  | .own ds => ∃ a vs, v = .ref a ∧ H a = some (.lst vs) ∧ IsFs K g.G g.io n vs ds
  | .bor ds => ∃ a vs, v = .ref a ∧ H a = some (.lst vs) ∧ IsFs K g.G g.io n vs ds
  | d => IsF K g.G g.io n v d
def IsR (K : PySem.W.Frag) (rb : Bool) (H : Hp) (g : Gh) (n : Nat) (v : V) : D → Prop
  | .own ds => ∃ a vs, v = .ref a ∧ H a = some (.lst vs) ∧ IsFs K g.G g.io n vs ds ∧ g.G a = none ∧ g.W a = none ∧ ∀ k, k < n → g.io k ≠ a
  | .bor ds => ∃ a vs, v = .ref a ∧ H a = some (.lst vs) ∧ IsFs K g.G g.io n vs ds ∧ (∀ k, k < n → g.io k ≠ a) ∧ (g.G a = some (.lst vs) ∨ ∃ r, g.W a = some r ∧ (rb = true ∨ (∃ i, r = .slot i) ∨ r = .tmp true))
  | d => IsF K g.G g.io n v d
def IsP (K : PySem.W.Frag) (H : Hp) (g : Gh) (n : Nat) (v : V) : D → Prop
  | .bor ds => ∃ a vs, v = .ref a ∧ H a = some (.lst vs) ∧ IsFs K g.G g.io n vs ds ∧ (∀ k, k < n → g.io k ≠ a) ∧ (g.G a = some (.lst vs) ∨ g.W a = some (.tmp true))
  | d => IsF K g.G g.io n v d
inductive IsPs (K : PySem.W.Frag) (H : Hp) (g : Gh) (n : Nat) : List V → List D → Prop
  | nil : IsPs K H g n [] []
  | cons {v : V} {d : D} {vs : List V} {ds : List D} : IsP K H g n v d → IsPs K H g n vs ds → IsPs K H g n (v :: vs) (d :: ds)
def SlotR (K : PySem.W.Frag) (H : Hp) (g : Gh) (n : Nat) (r : Rt) (v : V) : D → Prop
  | .own ds => ∃ a vs, v = .ref a ∧ H a = some (.lst vs) ∧ IsFs K g.G g.io n vs ds ∧ g.W a = some r
  | d => IsF K g.G g.io n v d
def SlotP (K : PySem.W.Frag) (H : Hp) (g : Gh) (n : Nat) (r : Rt) (v : V) : D → Prop
  | .own ds => ∃ a vs, v = .ref a ∧ H a = some (.lst vs) ∧ IsFs K g.G g.io n vs ds ∧ g.W a = some r
  | d => IsP K H g n v d
inductive FldR0 (K : PySem.W.Frag) (H : Hp) (g : Gh) (n : Nat) (k : Nat) : List (Str × V) → List (Str × D) → Prop
  | nil : FldR0 K H g n k [] []
  | cons {f : Str} {v : V} {d : D} {vs : List (Str × V)} {ds : List (Str × D)} : SlotR K H g n (.fld k f) v d → FldR0 K H g n k vs ds → FldR0 K H g n k ((f, v) :: vs) ((f, d) :: ds)
def FldR (K : PySem.W.Frag) (H : Hp) (g : Gh) (n : Nat) (k : Nat) (vs : List (Str × V)) (ds : List (Str × D)) : Prop := FldR0 K H g n k vs ds ∧ (ds.map (·.1)).Nodup
def TabOk (K : PySem.W.Frag) (G : Hp) (io : Nat → Addr) (n : Nat) (ps : Array Value) (q : Str) : Prop := TriplesOk ps.toList ∧ ∀ (pos : Pos) (cv : Value), codeAmong pos ps.toList = some cv → ∃ c, cv = .ref c ∧ G c = some (LamX.CodeO c q)
theorem TabOk.mono {K : PySem.W.Frag} {G G' : Hp} {io io' : Nat → Addr} {n n' : Nat} {ps : Array Value} {q : Str} (hG : Sub G G') (hi : ∀ k, k < n → io' k = io k) (hn : n ≤ n') (h : TabOk K G io n ps q) : TabOk K G' io' n' ps q :=
  ⟨h.1, fun pos cv e => by
    obtain ⟨c, e1, e2⟩ := h.2 pos cv e
    exact ⟨c, e1, hG _ _ e2⟩⟩
def ObR (T : Tb) (K : PySem.W.Frag) (H : Hp) (g : Gh) (n : Nat) (k : Nat) : Ob → Prop
  | .ins c fs => ∃ dx vs, H (g.io k) = some (.ins (T.cA c) dx vs) ∧ FldR K H g n k vs fs
  | .arr ds => ∃ vs, H (g.io k) = some (.lst vs) ∧ IsFs K g.G g.io n vs ds
  | .tab q => ∃ ps, H (g.io k) = some (.tbl ps) ∧ TabOk K g.G g.io n ps q
structure Bse (T : Tb) (g : Gh) (n : Nat) : Prop where
  gG : Sub T.bg.G g.G
  gi : ∀ k, k < T.bn → g.io k = T.bg.io k
  gn : T.bn ≤ n
theorem Bse.step {T : Tb} {g g' : Gh} {n n' : Nat} (b : Bse T g n) (hG : Sub g.G g'.G) (hi : ∀ k, k < n → g'.io k = g.io k) (hn : n ≤ n') : Bse T g' n' :=
  ⟨b.gG.trans hG, fun k hk => (hi k (Nat.lt_of_lt_of_le hk b.gn)).trans (b.gi k hk), Nat.le_trans b.gn hn⟩
structure Rep (T : Tb) (K : PySem.W.Frag) (H : Hp) (g : Gh) (r : Rho) (S : Sto) (σ : L2.St) : Prop where
  sub : Sub g.G H
  len : r.length = σ.length
  slot : ∀ i d, r[i]? = some (some d) → ∃ v, σ[i]? = some (some v) ∧ SlotP K H g S.length (.slot i) v d
  obj : ∀ k o, S[k]? = some o → ObR T K H g S.length k o
  inj : ∀ j k, j < S.length → k < S.length → g.io j = g.io k → j = k
  apG : ∀ k, k < S.length → g.G (g.io k) = none
  apW : ∀ k, k < S.length → g.W (g.io k) = none
  gw : ∀ a r, g.W a = some r → g.G a = none
  wd : ∀ a r, g.W a = some r → ∃ o, H a = some o
  bse : Bse T g S.length
structure Stp (q sl : Bool) (H : Hp) (g : Gh) (n : Nat) (H' : Hp) (g' : Gh) (n' : Nat) : Prop where
  kp : ∀ a o, H a = some o → ((q = true ∧ (sl = true ∨ ∀ i, g.W a ≠ some (.slot i))) ∨ ((∀ k, k < n → g.io k ≠ a) ∧ ∀ r, g.W a = some r → (∃ b, r = .tmp b) ∨ (sl = true ∧ ∃ i, r = .slot i))) → H' a = some o
  dm : ∀ a o, H a = some o → ∃ o', H' a = some o'
  gm : Sub g.G g'.G
  im : ∀ k, k < n → g'.io k = g.io k
  nm : n ≤ n'
  nf : ∀ k, n ≤ k → k < n' → H (g'.io k) = none
  om : ∀ a r, g'.W a = some r → g.W a = some r ∨ (sl = false ∧ ∃ i, g.W a = some (.slot i)) ∨ H a = none
  fm : ∀ a o, g'.G a = some o → g.G a = some o ∨ (∃ r, g.W a = some r ∧ ∀ b, r ≠ .tmp b) ∨ H a = none
  tm : ∀ a b, g.W a = some (.tmp b) → g'.W a = some (.tmp b)
  wm : sl = true → ∀ a i, g.W a = some (.slot i) → g'.W a = some (.slot i) ∨ ∃ o, g'.G a = some o
theorem Stp.refl {q sl : Bool} {H : Hp} {g : Gh} {n : Nat} : Stp q sl H g n H g n :=
  ⟨fun _ _ h _ => h, fun _ o h => ⟨o, h⟩, Sub.refl _, fun _ _ => rfl, Nat.le_refl _, fun k h1 h2 => absurd (Nat.lt_of_lt_of_le h2 h1) (Nat.lt_irrefl _), fun _ _ h => .inl h, fun _ _ h => .inl h, fun _ _ h => h, fun _ _ _ h => .inl h⟩
section
variable {q q' sl : Bool} {H H1 H2 : Hp} {g g1 g2 : Gh} {n n1 n2 : Nat}
theorem Stp.back (a : Stp q sl H g n H1 g1 n1) {x : Addr} (h : H1 x = none) : H x = none := by
  cases e : H x with
  | none => rfl
  | some o =>
    obtain ⟨o', e'⟩ := a.dm x o e
    rw [h] at e'; cases e'
theorem Stp.notOb (a : Stp q sl H g n H1 g1 n1) {x : Addr} {o : HO} (hx : H x = some o) (h : ∀ k, k < n → g.io k ≠ x) : ∀ k, k < n1 → g1.io k ≠ x := fun k hk e => by
  by_cases hkn : k < n
  · exact h k hkn ((a.im k hkn).symm.trans e)
  · have z := a.nf k (Nat.le_of_not_lt hkn) hk
    rw [e, hx] at z; cases z
theorem Stp.trans (a : Stp q sl H g n H1 g1 n1) (b : Stp q' sl H1 g1 n1 H2 g2 n2) : Stp (q && q') sl H g n H2 g2 n2 where
  kp := fun x o hx hc => by
    have h1 : H1 x = some o := a.kp x o hx (hc.imp (fun z => ⟨(Bool.and_eq_true_iff.mp z.1).1, z.2⟩) id)
    refine b.kp x o h1 ?_
    rcases hc with ⟨hc, hc'⟩ | ⟨hc1, hc2⟩
    · refine .inl ⟨(Bool.and_eq_true_iff.mp hc).2, hc'.imp id fun hs i hi => ?_⟩
      rcases a.om x _ hi with z | ⟨_, j, z⟩ | z
      · exact hs i z
      · exact hs j z
      · rw [hx] at z; cases z
    · refine .inr ⟨a.notOb hx hc1, fun r hr => ?_⟩
      rcases a.om x r hr with z | ⟨z, i, zi⟩ | z
      · exact hc2 r z
      · rcases hc2 _ zi with ⟨_, w⟩ | w
        · cases w
        · have w := w.1
          rw [z] at w; cases w
      · rw [hx] at z; cases z
  dm := fun x o hx => by
    obtain ⟨o1, e1⟩ := a.dm x o hx
    exact b.dm x o1 e1
  gm := a.gm.trans b.gm
  im := fun k hk => (b.im k (Nat.lt_of_lt_of_le hk a.nm)).trans (a.im k hk)
  nm := Nat.le_trans a.nm b.nm
  nf := fun k h1 h2 => by
    by_cases hk : k < n1
    · rw [b.im k hk]; exact a.nf k h1 hk
    · exact a.back (b.nf k (Nat.le_of_not_lt hk) h2)
  om := fun x r hr => by
    rcases b.om x r hr with z | ⟨z, i, zi⟩ | z
    · exact a.om x r z
    · rcases a.om x _ zi with w | ⟨_, j, w⟩ | w
      · exact .inr (.inl ⟨z, i, w⟩)
      · exact .inr (.inl ⟨z, j, w⟩)
      · exact .inr (.inr w)
    · exact .inr (.inr (a.back z))
  fm := fun x o hr => by
    rcases b.fm x o hr with z | ⟨r, z⟩ | z
    · exact a.fm x o z
    · rcases a.om x r z.1 with w | ⟨_, j, w⟩ | w
      · exact .inr (.inl ⟨_, w, z.2⟩)
      · exact .inr (.inl ⟨_, w, fun _ e => by cases e⟩)
      · exact .inr (.inr w)
    · exact .inr (.inr (a.back z))
  tm := fun x y h => b.tm x y (a.tm x y h)
  wm := fun s x i h => by
    rcases a.wm s x i h with z | ⟨o, z⟩
    · exact b.wm s x i z
    · exact .inr ⟨o, b.gm x o z⟩
theorem Stp.weak (a : Stp q sl H g n H1 g1 n1) (hq : q' = true → q = true) : Stp q' sl H g n H1 g1 n1 :=
  ⟨fun x o hx hc => a.kp x o hx (hc.imp (fun z => ⟨hq z.1, z.2⟩) id), a.dm, a.gm, a.im, a.nm, a.nf, a.om, a.fm, a.tm, a.wm⟩
theorem Stp.stm (a : Stp q sl H g n H1 g1 n1) : Stp q false H g n H1 g1 n1 :=
  ⟨fun x o hx hc => a.kp x o hx (by
    rcases hc with ⟨z1, z2⟩ | ⟨z1, z2⟩
    · rcases z2 with z2 | z2
      · cases z2
      · exact .inl ⟨z1, .inr z2⟩
    · exact .inr ⟨z1, fun r hr => (z2 r hr).imp id fun w => by cases w.1⟩), a.dm, a.gm, a.im, a.nm, a.nf, fun x r hr => by
    rcases a.om x r hr with z | ⟨_, z⟩ | z
    · exact .inl z
    · exact .inr (.inl ⟨rfl, z⟩)
    · exact .inr (.inr z), a.fm, a.tm, fun z => by cases z⟩
theorem Stp.isF {K : PySem.W.Frag} {v : V} {d : D} (a : Stp q sl H g n H1 g1 n1) (h : IsF K g.G g.io n v d) : IsF K g1.G g1.io n1 v d := h.mono a.gm a.im a.nm
theorem Stp.isFs {K : PySem.W.Frag} {v : List V} {d : List D} (a : Stp q sl H g n H1 g1 n1) (h : IsFs K g.G g.io n v d) : IsFs K g1.G g1.io n1 v d := h.mono a.gm a.im a.nm
theorem IsR.isV {K : PySem.W.Frag} {rb : Bool} {v : V} : ∀ {d : D}, IsR K rb H g n v d → IsV K H g n v d
  | .own _, ⟨a, vs, e, h, hs, _⟩ => ⟨a, vs, e, h, hs⟩
  | .bor _, ⟨a, vs, e, h, hs, _⟩ => ⟨a, vs, e, h, hs⟩
  | .non, h => h
  | .bl _, h => h
  | .int _, h => h
  | .str _, h => h
  | .tup _, h => h
  | .lst _, h => h
  | .dct _, h => h
  | .ob _, h => h
  | .exc _ _, h => h
  | .scr _, h => h
theorem IsR.carry {K : PySem.W.Frag} {rb : Bool} {v : V} (hs1 : Sub g1.G H1) (st : Stp q true H g n H1 g1 n1) (hq : rb = false ∨ q = true) : ∀ {d : D}, IsR K rb H g n v d → IsV K H1 g1 n1 v d
  | .own _, ⟨a, vs, e, h, hs, h1, h2, h3⟩ => ⟨a, vs, e, st.kp a _ h (.inr ⟨h3, fun r hr => by rw [h2] at hr; cases hr⟩), st.isFs hs⟩
  | .bor _, ⟨a, vs, e, h, hs, h3, hw⟩ => by
    refine ⟨a, vs, e, ?_, st.isFs hs⟩
    rcases hw with hw | ⟨r, hr, hc⟩
    · exact hs1 _ _ (st.gm _ _ hw)
    · refine st.kp a _ h ?_
      rcases hq with z | z
      · refine .inr ⟨h3, fun r' hr' => ?_⟩
        rw [hr] at hr'; cases hr'
        rcases hc with w | w | w
        · rw [z] at w; cases w
        · exact .inr ⟨rfl, w⟩
        · exact .inl ⟨_, w⟩
      · exact .inl ⟨z, .inl rfl⟩
  | .non, h => st.isF h
  | .bl _, h => st.isF h
  | .int _, h => st.isF h
  | .str _, h => st.isF h
  | .tup _, h => st.isF h
  | .lst _, h => st.isF h
  | .dct _, h => st.isF h
  | .ob _, h => st.isF h
  | .exc _ _, h => st.isF h
  | .scr _, h => st.isF h
theorem IsR.carryR {K : PySem.W.Frag} {v : V} (hs1 : Sub g1.G H1) (st : Stp q true H g n H1 g1 n1) : ∀ {d : D}, IsR K false H g n v d → IsR K false H1 g1 n1 v d
  | .own _, ⟨a, vs, e, h, hs, h1, h2, h3⟩ => ⟨a, vs, e, st.kp a _ h (.inr ⟨h3, fun r hr => by rw [h2] at hr; cases hr⟩), st.isFs hs, (by
      cases e' : g1.G a with
      | none => rfl
      | some o =>
        rcases st.fm a o e' with z | ⟨r, z⟩ | z
        · rw [h1] at z; cases z
        · rw [h2] at z; cases z.1
        · rw [h] at z; cases z), (by
      cases e' : g1.W a with
      | none => rfl
      | some o =>
        rcases st.om a o e' with z | ⟨z, _⟩ | z
        · rw [h2] at z; cases z
        · cases z
        · rw [h] at z; cases z), st.notOb h h3⟩
  | .bor _, ⟨a, vs, e, h, hs, h3, hw⟩ => by
    have hH : H1 a = some (.lst vs) := by
      rcases hw with hw | ⟨r, hr, hc⟩
      · exact hs1 _ _ (st.gm _ _ hw)
      · refine st.kp a _ h (.inr ⟨h3, fun r' hr' => ?_⟩)
        rw [hr] at hr'; cases hr'
        rcases hc with w | w | w
        · cases w
        · exact .inr ⟨rfl, w⟩
        · exact .inl ⟨_, w⟩
    refine ⟨a, vs, e, hH, st.isFs hs, st.notOb h h3, ?_⟩
    rcases hw with hw | ⟨r, hr, hc⟩
    · exact .inl (st.gm _ _ hw)
    · rcases hc with w | ⟨i, w⟩ | w
      · cases w
      · subst w
        rcases st.wm rfl a i hr with z | ⟨o, z⟩
        · exact .inr ⟨_, z, .inr (.inl ⟨i, rfl⟩)⟩
        · have z' := hs1 _ _ z
          rw [hH] at z'
          cases z'
          exact .inl z
      · subst w
        exact .inr ⟨_, st.tm a _ hr, .inr (.inr rfl)⟩
  | .non, h => st.isF h
  | .bl _, h => st.isF h
  | .int _, h => st.isF h
  | .str _, h => st.isF h
  | .tup _, h => st.isF h
  | .lst _, h => st.isF h
  | .dct _, h => st.isF h
  | .ob _, h => st.isF h
  | .exc _ _, h => st.isF h
  | .scr _, h => st.isF h
end
section
variable {K : PySem.W.Frag} {H H' : Hp} {g g' : Gh} {n n' : Nat} {v : V}
structure Bst (H : Hp) (g : Gh) (n : Nat) (H' : Hp) (g' : Gh) (n' : Nat) : Prop where
  hB : ∀ a o, H a = some o → g.W a = some (.tmp true) → (∀ k, k < n → g.io k ≠ a) → H' a = some o ∧ g'.W a = some (.tmp true)
  hio : ∀ a o, H a = some o → (∀ k, k < n → g.io k ≠ a) → ∀ k, k < n' → g'.io k ≠ a
  hS : Sub g'.G H'
  hG : Sub g.G g'.G
  hi : ∀ k, k < n → g'.io k = g.io k
  hn : n ≤ n'
theorem Stp.bst {q sl : Bool} (hs : Sub g'.G H') (st : Stp q sl H g n H' g' n') : Bst H g n H' g' n' :=
  ⟨fun a o h hw hio => ⟨st.kp a o h (.inr ⟨hio, fun r hr => by rw [hw] at hr; cases hr; exact .inl ⟨_, rfl⟩⟩), st.tm a _ hw⟩, fun a o h hio => st.notOb h hio, hs, st.gm, st.im, st.nm⟩
theorem Bst.of (hs : Sub g'.G H') (e : ∀ a o, g.W a = some (.tmp true) → H a = some o → H' a = some o) (hW : ∀ a, g.W a = some (.tmp true) → g'.W a = some (.tmp true)) (hG : Sub g.G g'.G) (hi : ∀ k, k < n → g'.io k = g.io k) (hn : n ≤ n') (hio : ∀ k, n ≤ k → k < n' → H (g'.io k) = none) : Bst H g n H' g' n' :=
  ⟨fun a o h hw h3 => ⟨e a o hw h, hW a hw⟩, (fun a o h h3 k hk ek => by
    by_cases hkn : k < n
    · exact h3 k hkn ((hi k hkn).symm.trans ek)
    · have z := hio k (Nat.le_of_not_lt hkn) hk
      rw [ek, h] at z; cases z), hs, hG, hi, hn⟩
theorem noK {P : Prop} {k : Nat} (h1 : n ≤ k) (h2 : k < n) : P := absurd (Nat.lt_of_lt_of_le h2 h1) (Nat.lt_irrefl _)
theorem IsP.ofF : ∀ {d : D}, IsF K g.G g.io n v d → IsP K H g n v d
  | .own _, h => by cases h
  | .bor _, h => by cases h
  | .non, h => h
  | .bl _, h => h
  | .int _, h => h
  | .str _, h => h
  | .tup _, h => h
  | .lst _, h => h
  | .dct _, h => h
  | .ob _, h => h
  | .exc _ _, h => h
  | .scr _, h => h
theorem IsP.weak (b : Bst H g n H' g' n') : ∀ {d : D}, IsP K H g n v d → IsP K H' g' n' v d
  | .bor _, ⟨a, vs, e, h, hs, h3, hw⟩ => by
    have k3 := b.hio a _ h h3
    rcases hw with hw | hw
    · exact ⟨a, vs, e, b.hS _ _ (b.hG _ _ hw), hs.mono b.hG b.hi b.hn, k3, .inl (b.hG _ _ hw)⟩
    · obtain ⟨k1, k2⟩ := b.hB a _ h hw h3
      exact ⟨a, vs, e, k1, hs.mono b.hG b.hi b.hn, k3, .inr k2⟩
  | .own _, h => by cases h
  | .non, h => h.mono b.hG b.hi b.hn
  | .bl _, h => h.mono b.hG b.hi b.hn
  | .int _, h => h.mono b.hG b.hi b.hn
  | .str _, h => h.mono b.hG b.hi b.hn
  | .tup _, h => h.mono b.hG b.hi b.hn
  | .lst _, h => h.mono b.hG b.hi b.hn
  | .dct _, h => h.mono b.hG b.hi b.hn
  | .ob _, h => h.mono b.hG b.hi b.hn
  | .exc _ _, h => h.mono b.hG b.hi b.hn
  | .scr _, h => h.mono b.hG b.hi b.hn
theorem SlotP.weak {rt : Rt} (hH : ∀ a o, g.W a = some rt → H a = some o → H' a = some o) (hW : ∀ a, g.W a = some rt → g'.W a = some rt) (b : Bst H g n H' g' n') :
    ∀ {d : D}, SlotP K H g n rt v d → SlotP K H' g' n' rt v d
  | .own _, ⟨a, vs, e, h, hs, w⟩ => ⟨a, vs, e, hH a _ w h, hs.mono b.hG b.hi b.hn, hW a w⟩
  | .bor _, h => IsP.weak (d := .bor _) b h
  | .non, h => IsP.weak (d := .non) b h
  | .bl _, h => IsP.weak (d := .bl _) b h
  | .int _, h => IsP.weak (d := .int _) b h
  | .str _, h => IsP.weak (d := .str _) b h
  | .tup _, h => IsP.weak (d := .tup _) b h
  | .lst _, h => IsP.weak (d := .lst _) b h
  | .dct _, h => IsP.weak (d := .dct _) b h
  | .ob _, h => IsP.weak (d := .ob _) b h
  | .exc _ _, h => IsP.weak (d := .exc _ _) b h
  | .scr _, h => IsP.weak (d := .scr _) b h
theorem SlotP.ofP {rt : Rt} : ∀ {d : D}, IsP K H g n v d → SlotP K H g n rt v d
  | .own _, h => by cases h
  | .bor _, h => h
  | .non, h => h
  | .bl _, h => h
  | .int _, h => h
  | .str _, h => h
  | .tup _, h => h
  | .lst _, h => h
  | .dct _, h => h
  | .ob _, h => h
  | .exc _ _, h => h
  | .scr _, h => h
theorem SlotP.ofF {rt : Rt} {d : D} (h : IsF K g.G g.io n v d) : SlotP K H g n rt v d := SlotP.ofP (IsP.ofF h)
theorem IsPs.weak (b : Bst H g n H' g' n') : ∀ {vs : List V} {ds : List D}, IsPs K H g n vs ds → IsPs K H' g' n' vs ds
  | _, _, .nil => .nil
  | _, _, .cons h hs => .cons (h.weak b) (IsPs.weak b hs)
theorem IsPs.ofF : ∀ {vs : List V} {ds : List D}, IsFs K g.G g.io n vs ds → IsPs K H g n vs ds
  | _, _, .nil => .nil
  | _, _, .cons h hs => .cons (IsP.ofF h) (IsPs.ofF hs)
theorem IsPs.length : ∀ {vs : List V} {ds : List D}, IsPs K H g n vs ds → vs.length = ds.length
  | _, _, .nil => rfl
  | _, _, .cons _ hs => by simp [IsPs.length hs]
theorem IsPs.get : ∀ {vs : List V} {ds : List D} {i : Nat} {d : D}, IsPs K H g n vs ds → ds[i]? = some d → ∃ v, vs[i]? = some v ∧ IsP K H g n v d
  | _, _, _, _, .nil, e => by simp at e
  | _, _, 0, _, .cons h _, e => by simp at e; subst e; exact ⟨_, rfl, h⟩
  | _, _, i + 1, _, .cons _ hs, e => by
    obtain ⟨v, h1, h2⟩ := IsPs.get (i := i) hs (by simpa using e)
    exact ⟨v, by simpa using h1, h2⟩
theorem IsPs.of_get : ∀ {vs : List V} {ds : List D}, vs.length = ds.length → (∀ (i : Nat) v d, vs[i]? = some v → ds[i]? = some d → IsP K H g n v d) → IsPs K H g n vs ds
  | [], [], _, _ => .nil
  | v :: vs, d :: ds, e, h => .cons (h 0 v d rfl rfl) (IsPs.of_get (by simpa using e) fun i v d e1 e2 => h (i + 1) v d (by simpa using e1) (by simpa using e2))
end
end DD

set_option Elab.async false
set_option linter.all false
set_option maxRecDepth 100000
set_option maxHeartbeats 4000000
namespace DD
open PySem PySem.Spec PyProof.Rows L2

def FrO (H : Hp) (g : Gh) (v : V) (d : D) : Prop := ∀ xs, d = .own xs → ∀ a, v = .ref a → H a = none ∨ ∃ i, g.W a = some (.slot i)
def ExR (K : PySem.W.Frag) (H : Hp) (g : Gh) (n : Nat) (fs : List (Str × D)) (dd : Option Addr) : Prop :=
  (fs = [] ∧ dd = none) ∨ ∃ (d : Addr) (ns : List Str) (vs : List V) (ds : List D), dd = some d ∧ g.G d = some (.xd (ns.zip vs)) ∧ fs = ns.zip ds ∧ ns.length = vs.length ∧ IsFs K g.G g.io n vs ds
theorem ExR.mono {K : PySem.W.Frag} {H H' : Hp} {g g' : Gh} {n n' : Nat} {fs : List (Str × D)} {dd : Option Addr} (hG : Sub g.G g'.G) (hi : ∀ k, k < n → g'.io k = g.io k) (hn : n ≤ n') (h : ExR K H g n fs dd) : ExR K H' g' n' fs dd := by
  rcases h with h | ⟨d, ns, vs, ds, h1, h2, h3, h4, h5⟩
  · exact .inl h
  · exact .inr ⟨d, ns, vs, ds, h1, hG _ _ h2, h3, h4, h5.mono hG hi hn⟩
structure IsAs (K : PySem.W.Frag) (H0 : Hp) (g0 : Gh) (H : Hp) (g : Gh) (n : Nat) (vs : List V) (ds : List D) : Prop where
  len : vs.length = ds.length
  at_ : ∀ (k : Nat) v d, vs[k]? = some v → ds[k]? = some d → IsR K false H g n v d ∧ FrO H0 g0 v d
  ne : ∀ (j k : Nat) v x y, j < k → vs[j]? = some v → vs[k]? = some v → ds[j]? = some (.own x) → ds[k]? = some (.own y) → False
section
variable (T : Tb) (K : PySem.W.Frag)
def okE (q rb : Bool) (H : Hp) (g : Gh) (n : Nat) (σ : L2.St) (o : Out D) (Q : VK) (W : WX) : Prop := match o with
  | .ok d r S => ∀ v H' g', Rep T K H' g' r S σ → IsR K rb H' g' S.length v d → FrO H g v d → Stp q true H g n H' g' S.length → Q v H'
  | .exc e r S => ∀ H' g' dd, Rep T K H' g' r S σ → Stp q true H g n H' g' S.length → ExR K H' g' S.length e.fs dd → W (.ref (He.ga K e.c)) dd σ H'
  | .no => False
def okB (q : Bool) (H : Hp) (g : Gh) (n : Nat) (σ : L2.St) (o : Out Bool) (Q : Bool → Hp → Prop) (W : WX) : Prop := match o with
  | .ok b r S => ∀ H' g', Rep T K H' g' r S σ → Stp q true H g n H' g' S.length → Q b H'
  | .exc e r S => ∀ H' g' dd, Rep T K H' g' r S σ → Stp q true H g n H' g' S.length → ExR K H' g' S.length e.fs dd → W (.ref (He.ga K e.c)) dd σ H'
  | .no => False
def okA (q : Bool) (H : Hp) (g : Gh) (n : Nat) (σ : L2.St) (o : Out (List D)) (Q : List V → Hp → Prop) (W : WX) : Prop := match o with
  | .ok ds r S => ∀ vs H' g', Rep T K H' g' r S σ → IsAs K H g H' g' S.length vs ds → Stp q true H g n H' g' S.length → Q vs H'
  | .exc e r S => ∀ H' g' dd, Rep T K H' g' r S σ → Stp q true H g n H' g' S.length → ExR K H' g' S.length e.fs dd → W (.ref (He.ga K e.c)) dd σ H'
  | .no => False
def teOf (q rb : Bool) (m : M D) (W : WX) : TE := fun σ H Q => ∃ g r S, Rep T K H g r S σ ∧ okE T K q rb H g S.length σ (m r S) Q W
def ttOf (q : Bool) (m : M Bool) (W : WX) : TT := fun σ H Q => ∃ g r S, Rep T K H g r S σ ∧ okB T K q H g S.length σ (m r S) Q W
def taOf (q : Bool) (m : M (List D)) (W : WX) : TA := fun σ H Q => ∃ g r S, Rep T K H g r S σ ∧ okA T K q H g S.length σ (m r S) Q W
end
def DE (X : Cx) (T : Tb) (q rb : Bool) (e : Expr) (m : M D) : Prop := ∀ W, Takes X W → PE X e (teOf T X.K q rb m W)
def DT (X : Cx) (T : Tb) (q : Bool) (e : Expr) (m : M Bool) : Prop := ∀ W, Takes X W → PT X e (ttOf T X.K q m W)
def DA (X : Cx) (T : Tb) (q : Bool) (es : List Expr) (m : M (List D)) : Prop := ∀ W, Takes X W → PA X es (taOf T X.K q m W)

theorem peImp {X : Cx} {e : Expr} {t t' : TE} (h : PE X e t) (k : ∀ σ H Q, t' σ H Q → t σ H Q) : PE X e t' := ⟨fun pins s σ H Q I h' => h.run pins s σ H Q I (k σ H Q h')⟩
theorem ptImp {X : Cx} {e : Expr} {t t' : TT} (h : PT X e t) (k : ∀ σ H Q, t' σ H Q → t σ H Q) : PT X e t' := ⟨fun pins s σ H Q I h' => h.run pins s σ H Q I (k σ H Q h')⟩
theorem paImp {X : Cx} {e : List Expr} {t t' : TA} (h : PA X e t) (k : ∀ σ H Q, t' σ H Q → t σ H Q) : PA X e t' := ⟨fun pos pins s σ H Q I h' => h.run pos pins s σ H Q I (k σ H Q h')⟩

section
variable {T : Tb} {K : PySem.W.Frag} {q q' qa qb rb ra : Bool} {H H1 : Hp} {g g1 : Gh} {n n1 : Nat} {σ : L2.St} {W : WX} {r : Rho} {S : Sto}
theorem FrO.back {v : V} {d : D} (st : Stp q true H g n H1 g1 n1) (h : FrO H1 g1 v d) : FrO H g v d := fun xs e a ea => by
  rcases h xs e a ea with z | ⟨i, z⟩
  · exact .inl (st.back z)
  · rcases st.om a _ z with w | ⟨w, _⟩ | w
    · exact .inr ⟨i, w⟩
    · cases w
    · exact .inl w
theorem IsAs.back {K : PySem.W.Frag} {H2 : Hp} {g2 : Gh} {n2 : Nat} {vs : List V} {ds : List D} (st : Stp q true H g n H1 g1 n1) (h : IsAs K H1 g1 H2 g2 n2 vs ds) : IsAs K H g H2 g2 n2 vs ds :=
  ⟨h.len, fun k v d a b => ⟨(h.at_ k v d a b).1, (h.at_ k v d a b).2.back st⟩, h.ne⟩
theorem okE.after {o : Out D} {Q : VK} (st : Stp qa true H g n H1 g1 n1) (h : okE T K (qa && qb) rb H g n σ o Q W) : okE T K qb rb H1 g1 n1 σ o Q W := by
  cases o with
  | ok d r S => exact fun v H' g' a b c e => h v H' g' a b (c.back st) (st.trans e)
  | exc e r S => exact fun H' g' dd a b c => h H' g' dd a (st.trans b) c
  | no => exact h
theorem okB.after {o : Out Bool} {Q : Bool → Hp → Prop} (st : Stp qa true H g n H1 g1 n1) (h : okB T K (qa && qb) H g n σ o Q W) : okB T K qb H1 g1 n1 σ o Q W := by
  cases o with
  | ok d r S => exact fun H' g' a b => h H' g' a (st.trans b)
  | exc e r S => exact fun H' g' dd a b c => h H' g' dd a (st.trans b) c
  | no => exact h
theorem okA.after {o : Out (List D)} {Q : List V → Hp → Prop} (st : Stp qa true H g n H1 g1 n1) (h : okA T K (qa && qb) H g n σ o Q W) : okA T K qb H1 g1 n1 σ o Q W := by
  cases o with
  | ok d r S => exact fun v H' g' a b c => h v H' g' a (b.back st) (st.trans c)
  | exc e r S => exact fun H' g' dd a b c => h H' g' dd a (st.trans b) c
  | no => exact h
theorem okE.bindE {m : M D} {f : D → M D} {Q Q1 : VK} (h : okE T K (qa && qb) rb H g n σ (M.bind m f r S) Q W)
    (k : ∀ d r1 S1 v H1 g1, m r S = .ok d r1 S1 → Rep T K H1 g1 r1 S1 σ → IsR K ra H1 g1 S1.length v d → Stp qa true H g n H1 g1 S1.length → okE T K qb rb H1 g1 S1.length σ (f d r1 S1) Q W → Q1 v H1) : okE T K qa ra H g n σ (m r S) Q1 W := by
  unfold M.bind at h
  cases e : m r S with
  | ok d r1 S1 =>
    rw [e] at h
    exact fun v H' g' a b c st => k d r1 S1 v H' g' e a b st (okE.after st h)
  | exc x r1 S1 =>
    rw [e] at h
    exact fun H' g' dd a b c => h H' g' dd a (b.weak fun z => (Bool.and_eq_true_iff.mp z).1) c
  | no => rw [e] at h; exact h
theorem okB.bindE {m : M D} {f : D → M Bool} {Q : Bool → Hp → Prop} {Q1 : VK} (h : okB T K (qa && qb) H g n σ (M.bind m f r S) Q W)
    (k : ∀ d r1 S1 v H1 g1, m r S = .ok d r1 S1 → Rep T K H1 g1 r1 S1 σ → IsR K ra H1 g1 S1.length v d → Stp qa true H g n H1 g1 S1.length → okB T K qb H1 g1 S1.length σ (f d r1 S1) Q W → Q1 v H1) : okE T K qa ra H g n σ (m r S) Q1 W := by
  unfold M.bind at h
  cases e : m r S with
  | ok d r1 S1 =>
    rw [e] at h
    exact fun v H' g' a b c st => k d r1 S1 v H' g' e a b st (okB.after st h)
  | exc x r1 S1 =>
    rw [e] at h
    exact fun H' g' dd a b c => h H' g' dd a (b.weak fun z => (Bool.and_eq_true_iff.mp z).1) c
  | no => rw [e] at h; exact h
theorem okA.bindE {m : M D} {f : D → M (List D)} {Q : List V → Hp → Prop} {Q1 : VK} (h : okA T K (qa && qb) H g n σ (M.bind m f r S) Q W)
    (k : ∀ d r1 S1 v H1 g1, m r S = .ok d r1 S1 → Rep T K H1 g1 r1 S1 σ → IsR K ra H1 g1 S1.length v d → FrO H g v d → Stp qa true H g n H1 g1 S1.length → okA T K qb H1 g1 S1.length σ (f d r1 S1) Q W → Q1 v H1) : okE T K qa ra H g n σ (m r S) Q1 W := by
  unfold M.bind at h
  cases e : m r S with
  | ok d r1 S1 =>
    rw [e] at h
    exact fun v H' g' a b c st => k d r1 S1 v H' g' e a b c st (okA.after st h)
  | exc x r1 S1 =>
    rw [e] at h
    exact fun H' g' dd a b c => h H' g' dd a (b.weak fun z => (Bool.and_eq_true_iff.mp z).1) c
  | no => rw [e] at h; exact h
theorem okE.bindB {m : M Bool} {f : Bool → M D} {Q : VK} {Q1 : Bool → Hp → Prop} (h : okE T K (qa && qb) rb H g n σ (M.bind m f r S) Q W)
    (k : ∀ b r1 S1 H1 g1, m r S = .ok b r1 S1 → Rep T K H1 g1 r1 S1 σ → Stp qa true H g n H1 g1 S1.length → okE T K qb rb H1 g1 S1.length σ (f b r1 S1) Q W → Q1 b H1) : okB T K qa H g n σ (m r S) Q1 W := by
  unfold M.bind at h
  cases e : m r S with
  | ok d r1 S1 =>
    rw [e] at h
    exact fun H' g' a st => k d r1 S1 H' g' e a st (okE.after st h)
  | exc x r1 S1 =>
    rw [e] at h
    exact fun H' g' dd a b c => h H' g' dd a (b.weak fun z => (Bool.and_eq_true_iff.mp z).1) c
  | no => rw [e] at h; exact h
theorem okB.bindB {m : M Bool} {f : Bool → M Bool} {Q Q1 : Bool → Hp → Prop} (h : okB T K (qa && qb) H g n σ (M.bind m f r S) Q W)
    (k : ∀ b r1 S1 H1 g1, m r S = .ok b r1 S1 → Rep T K H1 g1 r1 S1 σ → Stp qa true H g n H1 g1 S1.length → okB T K qb H1 g1 S1.length σ (f b r1 S1) Q W → Q1 b H1) : okB T K qa H g n σ (m r S) Q1 W := by
  unfold M.bind at h
  cases e : m r S with
  | ok d r1 S1 =>
    rw [e] at h
    exact fun H' g' a st => k d r1 S1 H' g' e a st (okB.after st h)
  | exc x r1 S1 =>
    rw [e] at h
    exact fun H' g' dd a b c => h H' g' dd a (b.weak fun z => (Bool.and_eq_true_iff.mp z).1) c
  | no => rw [e] at h; exact h
theorem okE.bindA {m : M (List D)} {f : List D → M D} {Q : VK} {Q1 : List V → Hp → Prop} (h : okE T K (qa && qb) rb H g n σ (M.bind m f r S) Q W)
    (k : ∀ ds r1 S1 vs H1 g1, m r S = .ok ds r1 S1 → Rep T K H1 g1 r1 S1 σ → IsAs K H g H1 g1 S1.length vs ds → Stp qa true H g n H1 g1 S1.length → okE T K qb rb H1 g1 S1.length σ (f ds r1 S1) Q W → Q1 vs H1) : okA T K qa H g n σ (m r S) Q1 W := by
  unfold M.bind at h
  cases e : m r S with
  | ok d r1 S1 =>
    rw [e] at h
    exact fun v H' g' a b st => k d r1 S1 v H' g' e a b st (okE.after st h)
  | exc x r1 S1 =>
    rw [e] at h
    exact fun H' g' dd a b c => h H' g' dd a (b.weak fun z => (Bool.and_eq_true_iff.mp z).1) c
  | no => rw [e] at h; exact h
theorem okA.bindA {m : M (List D)} {f : List D → M (List D)} {Q Q1 : List V → Hp → Prop} (h : okA T K (qa && qb) H g n σ (M.bind m f r S) Q W)
    (k : ∀ ds r1 S1 vs H1 g1, m r S = .ok ds r1 S1 → Rep T K H1 g1 r1 S1 σ → IsAs K H g H1 g1 S1.length vs ds → Stp qa true H g n H1 g1 S1.length → okA T K qb H1 g1 S1.length σ (f ds r1 S1) Q W → Q1 vs H1) : okA T K qa H g n σ (m r S) Q1 W := by
  unfold M.bind at h
  cases e : m r S with
  | ok d r1 S1 =>
    rw [e] at h
    exact fun v H' g' a b st => k d r1 S1 v H' g' e a b st (okA.after st h)
  | exc x r1 S1 =>
    rw [e] at h
    exact fun H' g' dd a b c => h H' g' dd a (b.weak fun z => (Bool.and_eq_true_iff.mp z).1) c
  | no => rw [e] at h; exact h
theorem okE.flags {o : Out D} {Q : VK} (hq : qa = true → q = true) (h : okE T K qa true H g n σ o Q W) (hr : ∀ v d H' g' n', IsR K rb H' g' n' v d → IsR K true H' g' n' v d) : okE T K q rb H g n σ o Q W := by
  cases o with
  | ok d r S => exact fun v H' g' a b c e => h v H' g' a (hr _ _ _ _ _ b) c (e.weak hq)
  | exc x r S => exact fun H' g' dd a e c => h H' g' dd a (e.weak hq) c
  | no => exact h

theorem SlotR.weak {K : PySem.W.Frag} {H' : Hp} {g' : Gh} {rt : Rt} (hH : ∀ a o, g.W a = some rt → H a = some o → H' a = some o) (hW : ∀ a, g.W a = some rt → g'.W a = some rt) (hG : Sub g.G g'.G) (hi : ∀ k, k < n → g'.io k = g.io k) (hn : n ≤ n1) {v : V} :
    ∀ {d : D}, SlotR K H g n rt v d → SlotR K H' g' n1 rt v d
  | .own _, ⟨a, vs, e, h, hs, w⟩ => ⟨a, vs, e, hH a _ w h, hs.mono hG hi hn, hW a w⟩
  | .bor _, h => h.mono hG hi hn
  | .non, h => h.mono hG hi hn
  | .bl _, h => h.mono hG hi hn
  | .int _, h => h.mono hG hi hn
  | .str _, h => h.mono hG hi hn
  | .tup _, h => h.mono hG hi hn
  | .lst _, h => h.mono hG hi hn
  | .dct _, h => h.mono hG hi hn
  | .ob _, h => h.mono hG hi hn
  | .exc _ _, h => h.mono hG hi hn
  | .scr _, h => h.mono hG hi hn
theorem SlotR.ofF {K : PySem.W.Frag} {rt : Rt} {v : V} : ∀ {d : D}, IsF K g.G g.io n v d → SlotR K H g n rt v d
  | .own _, h => by cases h
  | .bor _, h => h
  | .non, h => h
  | .bl _, h => h
  | .int _, h => h
  | .str _, h => h
  | .tup _, h => h
  | .lst _, h => h
  | .dct _, h => h
  | .ob _, h => h
  | .exc _ _, h => h
  | .scr _, h => h
theorem IsR.ofF {K : PySem.W.Frag} {v : V} : ∀ {d : D}, IsF K g.G g.io n v d → IsR K rb H g n v d
  | .own _, h => by cases h
  | .bor _, h => by cases h
  | .non, h => h
  | .bl _, h => h
  | .int _, h => h
  | .str _, h => h
  | .tup _, h => h
  | .lst _, h => h
  | .dct _, h => h
  | .ob _, h => h
  | .exc _ _, h => h
  | .scr _, h => h
theorem IsV.ofF {K : PySem.W.Frag} {v : V} : ∀ {d : D}, IsF K g.G g.io n v d → IsV K H g n v d
  | .own _, h => by cases h
  | .bor _, h => by cases h
  | .non, h => h
  | .bl _, h => h
  | .int _, h => h
  | .str _, h => h
  | .tup _, h => h
  | .lst _, h => h
  | .dct _, h => h
  | .ob _, h => h
  | .exc _ _, h => h
  | .scr _, h => h
theorem FrO.ofF {K : PySem.W.Frag} {G : Hp} {io : Nat → Addr} {v : V} {d : D} (h : IsF K G io n v d) : FrO H g1 v d := fun xs e a _ => by subst e; cases h
theorem FldR0.weak {K : PySem.W.Frag} {H' : Hp} {g' : Gh} {k : Nat} (hH : ∀ a o f, g.W a = some (.fld k f) → H a = some o → H' a = some o) (hW : ∀ a f, g.W a = some (.fld k f) → g'.W a = some (.fld k f)) (hG : Sub g.G g'.G) (hi : ∀ k, k < n → g'.io k = g.io k) (hn : n ≤ n1) :
    ∀ {vs : List (Str × V)} {ds : List (Str × D)}, FldR0 K H g n k vs ds → FldR0 K H' g' n1 k vs ds
  | _, _, .nil => .nil
  | _, _, .cons h hs => .cons (h.weak (fun a o => hH a o _) (fun a => hW a _) hG hi hn) (FldR0.weak hH hW hG hi hn hs)
theorem FldR.weak {K : PySem.W.Frag} {H' : Hp} {g' : Gh} {k : Nat} (hH : ∀ a o f, g.W a = some (.fld k f) → H a = some o → H' a = some o) (hW : ∀ a f, g.W a = some (.fld k f) → g'.W a = some (.fld k f)) (hG : Sub g.G g'.G) (hi : ∀ k, k < n → g'.io k = g.io k) (hn : n ≤ n1)
    {vs : List (Str × V)} {ds : List (Str × D)} (h : FldR K H g n k vs ds) : FldR K H' g' n1 k vs ds := ⟨h.1.weak hH hW hG hi hn, h.2⟩
theorem Rep.grow {H' : Hp} (R : Rep T K H g r S σ) (e : Sub H H') : Rep T K H' g r S σ where
  sub := R.sub.trans e
  len := R.len
  slot := fun i d hd => by
    obtain ⟨v, h1, h2⟩ := R.slot i d hd
    exact ⟨v, h1, h2.weak (fun a o _ => e a o) (fun _ h => h) (Bst.of (R.sub.trans e) (fun a o _ => e a o) (fun _ h => h) (Sub.refl _) (fun _ _ => rfl) (Nat.le_refl _) fun _ => noK)⟩
  obj := fun k o ho => by
    have h := R.obj k o ho
    cases o with
    | ins c fs =>
      obtain ⟨dx, vs, h1, h2⟩ := h
      exact ⟨dx, vs, e _ _ h1, h2.weak (fun a o _ _ => e a o) (fun _ _ h => h) (Sub.refl _) (fun _ _ => rfl) (Nat.le_refl _)⟩
    | arr ds =>
      obtain ⟨vs, h1, h2⟩ := h
      exact ⟨vs, e _ _ h1, h2⟩
    | tab ds =>
      obtain ⟨vs, h1, h2⟩ := h
      exact ⟨vs, e _ _ h1, h2⟩
  inj := R.inj
  apG := R.apG
  apW := R.apW
  gw := R.gw
  wd := fun a rt h => by
    obtain ⟨o, q⟩ := R.wd a rt h
    exact ⟨o, e a o q⟩
  bse := R.bse
theorem Rep.obH (R : Rep T K H g r S σ) {k : Nat} (hk : k < S.length) : ∃ o, H (g.io k) = some o := by
  have h := R.obj k _ (List.getElem?_eq_getElem hk)
  cases e : S[k] with
  | ins c fs => rw [e] at h; obtain ⟨_, _, h, _⟩ := h; exact ⟨_, h⟩
  | arr ds => rw [e] at h; obtain ⟨_, h, _⟩ := h; exact ⟨_, h⟩
  | tab ds => rw [e] at h; obtain ⟨_, h, _⟩ := h; exact ⟨_, h⟩
theorem Rep.freeze {p : Addr} {o : HO} (R : Rep T K H g r S σ) (hp : H p = some o) (hG : g.G p = none) (hW : g.W p = none) (hi : ∀ k, k < S.length → g.io k ≠ p) : Rep T K H { g with G := upd g.G p o } r S σ := by
  have sub : Sub g.G (upd g.G p o) := fun a u h => by
    rw [upd_ne (ne_of_none h hG)]; exact h
  have hsub : Sub (upd g.G p o) H := fun a u h => by
    by_cases e : a = p
    · subst e
      rw [upd_same] at h; cases h; exact hp
    · exact R.sub a u (by rw [upd_ne e] at h; exact h)
  refine ⟨hsub, R.len, fun i d hd => ?_, fun k ob ho => ?_, R.inj, fun k hk => ?_, R.apW, fun a rt h => ?_, R.wd, R.bse.step sub (fun _ _ => rfl) (Nat.le_refl _)⟩
  · obtain ⟨v, h1, h2⟩ := R.slot i d hd
    exact ⟨v, h1, h2.weak (g := g) (g' := { g with G := upd g.G p o }) (fun _ _ _ h => h) (fun _ h => h) (Bst.of hsub (fun _ _ _ h => h) (fun _ h => h) sub (fun _ _ => rfl) (Nat.le_refl _) fun _ => noK)⟩
  · have h := R.obj k ob ho
    cases ob with
    | ins c fs =>
      obtain ⟨dx, vs, h1, h2⟩ := h
      exact ⟨dx, vs, h1, h2.weak (g := g) (g' := { g with G := upd g.G p o }) (fun _ _ _ _ h => h) (fun _ _ h => h) sub (fun _ _ => rfl) (Nat.le_refl _)⟩
    | arr ds =>
      obtain ⟨vs, h1, h2⟩ := h
      exact ⟨vs, h1, h2.mono sub (fun _ _ => rfl) (Nat.le_refl _)⟩
    | tab ds =>
      obtain ⟨vs, h1, h2⟩ := h
      exact ⟨vs, h1, h2.mono sub (fun _ _ => rfl) (Nat.le_refl _)⟩
  · show upd g.G p o (g.io k) = none
    rw [upd_ne (hi k hk)]; exact R.apG k hk
  · show upd g.G p o a = none
    have ne : a ≠ p := fun e => by rw [e, hW] at h; cases h
    rw [upd_ne ne]; exact R.gw a rt h
theorem Stp.grow {H' : Hp} (e : Sub H H') : Stp q true H g n H' g n :=
  ⟨fun a o h _ => e a o h, fun a o h => ⟨o, e a o h⟩, Sub.refl _, fun _ _ => rfl, Nat.le_refl _, fun k h1 h2 => absurd (Nat.lt_of_lt_of_le h2 h1) (Nat.lt_irrefl _), fun _ _ h => .inl h, fun _ _ h => .inl h, fun _ _ h => h, fun _ _ _ h => .inl h⟩
theorem sub_new {H : Hp} {p : Addr} {o : HO} (hp : H p = none) : Sub H (upd H p o) := fun a u h => by
  rw [upd_ne (ne_of_none h hp)]; exact h
theorem Rep.neI (R : Rep T K H g r S σ) {a : Addr} {rt : Rt} (h : g.W a = some rt) : ∀ k, k < S.length → g.io k ≠ a := fun k hk e => by
  have z := R.apW k hk
  rw [e, h] at z; cases z
theorem Rep.newG (R : Rep T K H g r S σ) {p : Addr} (hp : H p = none) : g.G p = none := by
  cases e : g.G p with
  | none => rfl
  | some o => have z := R.sub p o e; rw [hp] at z; cases z
theorem Rep.newW (R : Rep T K H g r S σ) {p : Addr} (hp : H p = none) : g.W p = none := by
  cases e : g.W p with
  | none => rfl
  | some o => obtain ⟨u, z⟩ := R.wd p o e; rw [hp] at z; cases z
theorem Rep.newI (R : Rep T K H g r S σ) {p : Addr} (hp : H p = none) : ∀ k, k < S.length → g.io k ≠ p := fun k hk e => by
  obtain ⟨u, z⟩ := R.obH hk; rw [e, hp] at z; cases z
theorem finOwn (R : Rep T K H g r S σ) {p : Addr} {vs : List V} {ds : List D} (hp : H p = none) (hs : IsFs K g.G g.io S.length vs ds) :
    Rep T K (upd H p (.lst vs)) g r S σ ∧ IsR K rb (upd H p (.lst vs)) g S.length (.ref p) (.own ds) ∧ FrO H g (.ref p) (.own ds) ∧ Stp q true H g S.length (upd H p (.lst vs)) g S.length :=
  ⟨R.grow (sub_new hp), ⟨p, vs, rfl, upd_same, hs, R.newG hp, R.newW hp, R.newI hp⟩, fun _ _ a e => by cases e; exact .inl hp, Stp.grow (sub_new hp)⟩
theorem finFrz (R : Rep T K H g r S σ) {p : Addr} {o : HO} (hp : H p = none) :
    Rep T K (upd H p o) { g with G := upd g.G p o } r S σ ∧ Stp q true H g S.length (upd H p o) { g with G := upd g.G p o } S.length := by
  have hG := R.newG hp
  refine ⟨(R.grow (sub_new hp)).freeze upd_same hG (R.newW hp) (R.newI hp), ⟨fun a u h _ => sub_new hp a u h, fun a u h => ⟨u, sub_new hp a u h⟩, sub_new hG, fun _ _ => rfl, Nat.le_refl _, fun k h1 h2 => absurd (Nat.lt_of_lt_of_le h2 h1) (Nat.lt_irrefl _), fun _ _ h => .inl h, fun a u h => ?_, fun _ _ h => h, fun _ _ _ h => .inl h⟩⟩
  by_cases e : a = p
  · subst e; exact .inr (.inr hp)
  · exact .inl (by have h' : upd g.G p o a = some u := h; rw [upd_ne e] at h'; exact h')
theorem finTup (R : Rep T K H g r S σ) {p : Addr} {vs : List V} {ds : List D} (hp : H p = none) (hs : IsFs K g.G g.io S.length vs ds) :
    Rep T K (upd H p (.tup vs)) { g with G := upd g.G p (.tup vs) } r S σ ∧ IsF K (upd g.G p (.tup vs)) g.io S.length (.ref p) (.tup ds) ∧ Stp q true H g S.length (upd H p (.tup vs)) { g with G := upd g.G p (.tup vs) } S.length := by
  obtain ⟨a, b⟩ := finFrz (q := q) (o := .tup vs) R hp
  exact ⟨a, .tup (SqT.of upd_same) (b.isFs hs), b⟩
theorem finLst (R : Rep T K H1 g1 r S σ) (st : Stp q true H g n H1 g1 S.length) {v : V} {ds : List D} (h : IsR K rb H1 g1 S.length v (.own ds)) (fo : FrO H g v (.own ds)) :
    ∃ g2, Rep T K H1 g2 r S σ ∧ IsF K g2.G g2.io S.length v (.lst ds) ∧ Stp q true H g n H1 g2 S.length := by
  obtain ⟨a, vs, rfl, h1, hs, hG, hW, hi⟩ := h
  have sub : Sub g1.G (upd g1.G a (.lst vs)) := sub_new hG
  refine ⟨_, R.freeze h1 hG hW hi, .lst upd_same (hs.mono sub (fun _ _ => rfl) (Nat.le_refl _)), ⟨st.kp, st.dm, st.gm.trans sub, st.im, st.nm, st.nf, st.om, fun x o hx => ?_, st.tm, fun z x i h => by
    rcases st.wm z x i h with w | ⟨o, w⟩
    · exact .inl w
    · exact .inr ⟨o, sub _ _ w⟩⟩⟩
  by_cases e : x = a
  · subst e
    rcases fo ds rfl x rfl with z | ⟨i, z⟩
    · exact .inr (.inr z)
    · exact .inr (.inl ⟨_, z, fun _ e => by cases e⟩)
  · exact st.fm x o (by have h' : upd g1.G a (.lst vs) x = some o := hx; rw [upd_ne e] at h'; exact h')
end

section
variable {X : Cx} {T : Tb} {q rb : Bool} {e : Expr} {m : M D}
theorem okE.frz {K : PySem.W.Frag} {H : Hp} {g : Gh} {n : Nat} {σ : L2.St} {W : WX} {r : Rho} {S : Sto} {Q : VK} (h : okE T K q rb H g n σ (frz m r S) Q W) : okE T K q rb H g n σ (m r S) Q W := by
  unfold DD.frz at h
  cases e : m r S with
  | exc x r1 S1 => rw [e] at h; exact h
  | no => rw [e] at h; exact h
  | ok d r1 S1 =>
    rw [e] at h
    cases d with
    | own ds =>
      intro v H' g' R is fo st
      obtain ⟨g2, R2, is2, st2⟩ := finLst R st is fo
      exact h v H' g2 R2 (IsR.ofF is2) (FrO.ofF is2) st2
    | _ => exact h
theorem de_frz (h : DE X T q rb e m) : DE X T q rb e (frz m) := fun W tk => peImp (h W tk) fun σ H Q ⟨g, r, S, R, k⟩ => ⟨g, r, S, R, k.frz⟩
end
end DD

set_option Elab.async false
set_option linter.all false
set_option maxRecDepth 100000
set_option maxHeartbeats 4000000
namespace DD
open PySem PySem.Spec PyProof.Rows L2

def lim : Nat := 1000000
theorem lim_le {n : Nat} (h : n ≤ lim) : n ≤ sizeLine := Nat.le_trans h (by decide)
theorem lim_lt {n : Nat} (h : n ≤ lim) : n < sizeLine := Nat.lt_of_le_of_lt h (by decide)
theorem lim_63 {n : Nat} (h : n ≤ lim) : n < 2 ^ 63 := Nat.lt_of_le_of_lt h (by decide)

def KQ (T : Tb) (K : PySem.W.Frag) (H : Hp) (g : Gh) (r : Rho) (S : Sto) (σ : L2.St) (d : D) (Q : VK) : Prop :=
  ∀ v' H' g', Rep T K H' g' r S σ → IsR K false H' g' S.length v' d → FrO H g v' d → Stp true true H g S.length H' g' S.length → Q v' H'
section
variable {T : Tb} {K : PySem.W.Frag} {H : Hp} {g : Gh} {r : Rho} {S : Sto} {σ : L2.St} {Q : VK}
theorem KQ.f {d : D} {v : V} (k : KQ T K H g r S σ d Q) (R : Rep T K H g r S σ) (h : IsF K g.G g.io S.length v d) : Q v H := k v H g R (IsR.ofF h) (FrO.ofF h) Stp.refl
theorem KQ.own {ds : List D} {vs : List V} {p : Addr} (k : KQ T K H g r S σ (.own ds) Q) (R : Rep T K H g r S σ) (hp : H p = none) (h : IsFs K g.G g.io S.length vs ds) : Q (.ref p) (upd H p (.lst vs)) := by
  obtain ⟨a, b, c, d⟩ := finOwn (q := true) (rb := false) R hp h
  exact k _ _ _ a b c d
theorem KQ.tup {ds : List D} {vs : List V} {p : Addr} (k : KQ T K H g r S σ (.tup ds) Q) (R : Rep T K H g r S σ) (hp : H p = none) (h : IsFs K g.G g.io S.length vs ds) : Q (.ref p) (upd H p (.tup vs)) := by
  obtain ⟨a, b, c⟩ := finTup (q := true) R hp h
  exact k _ _ _ a (IsR.ofF b) (FrO.ofF b) c
theorem KQ.of {o : Option D} {d : D} {W : WX} (e : o = some d) (h : okE T K true false H g S.length σ (lift o r S) Q W) : KQ T K H g r S σ d Q := by
  subst e; exact h
end
def rOf (T : Tb) (K : PySem.W.Frag) (F : D → D → Option D) : R2 := fun x y H Q => ∃ g r S σ0 dx dy d, Rep T K H g r S σ0 ∧ IsV K H g S.length x dx ∧ IsV K H g S.length y dy ∧ F dx dy = some d ∧ KQ T K H g r S σ0 d Q
def rOf1 (T : Tb) (K : PySem.W.Frag) (F : D → Option D) : V → Hp → VK → Prop := fun x H Q => ∃ g r S σ0 dx d, Rep T K H g r S σ0 ∧ IsV K H g S.length x dx ∧ F dx = some d ∧ KQ T K H g r S σ0 d Q

def varF (i : Nat) : M D := fun r S => match r[i]? with
  | some (some (.own xs)) => .ok (.lst xs) (r.set i (some (.lst xs))) S
  | some (some d) => .ok d r S
  | _ => .no
def varB (i : Nat) : M D := fun r S => match r[i]? with
  | some (some (.own xs)) => .ok (.bor xs) r S
  | some (some d) => .ok d r S
  | _ => .no
def varM (i : Nat) : M D := fun r S => match r[i]? with
  | some (some (.own xs)) => .ok (.own xs) (r.set i none) S
  | some (some d) => .ok d r S
  | _ => .no
section
variable {T : Tb} {K : PySem.W.Frag} {H : Hp} {g : Gh} {r : Rho} {S : Sto} {σ : L2.St}
def unW (g : Gh) (a : Addr) : Gh := { g with W := fun b => if b = a then none else g.W b }
theorem Stp.frzSlot {q : Bool} {H : Hp} {a : Addr} {n i : Nat} {vs : List V} (hW : g.W a = some (.slot i)) (hG : g.G a = none) : Stp q true H g n H { unW g a with G := upd g.G a (.lst vs) } n :=
  ⟨fun _ _ h _ => h, fun _ o h => ⟨o, h⟩, sub_new hG, fun _ _ => rfl, Nat.le_refl _, fun k h1 h2 => absurd (Nat.lt_of_lt_of_le h2 h1) (Nat.lt_irrefl _), fun b rt h => by
    have h' : (if b = a then none else g.W b) = some rt := h
    split at h'
    · cases h'
    · exact .inl h', fun b o h => by
    have h' : upd g.G a (.lst vs) b = some o := h
    by_cases e : b = a
    · subst e; exact .inr (.inl ⟨_, hW, fun _ z => by cases z⟩)
    · rw [upd_ne e] at h'; exact .inl h', fun b x h => by
    show (if b = a then none else g.W b) = some (.tmp x)
    have hne : b ≠ a := fun e => by rw [e, hW] at h; cases h
    rw [if_neg hne]; exact h, fun _ b k h => by
    by_cases e : b = a
    · subst e; exact .inr ⟨_, upd_same⟩
    · refine .inl ?_
      show (if b = a then none else g.W b) = some (.slot k)
      rw [if_neg e]; exact h⟩
theorem Rep.drop (R : Rep T K H g r S σ) {i : Nat} {a : Addr} (hW : g.W a = some (.slot i)) : Rep T K H (unW g a) (r.set i none) S σ := by
  have wne : ∀ {b rt}, rt ≠ .slot i → g.W b = some rt → (unW g a).W b = some rt := fun {b rt} hn h => by
    show (if b = a then none else g.W b) = some rt
    rw [if_neg (fun e => by rw [e, hW] at h; cases h; exact hn rfl)]; exact h
  have wof : ∀ {b rt}, (unW g a).W b = some rt → g.W b = some rt := fun {b rt} h => by
    have h' : (if b = a then none else g.W b) = some rt := h
    split at h'
    · cases h'
    · exact h'
  refine ⟨R.sub, by rw [List.length_set]; exact R.len, fun j d hd => ?_, fun k o ho => ?_, R.inj, R.apG, fun k hk => ?_, fun b rt h => R.gw b rt (wof h), fun b rt h => R.wd b rt (wof h), R.bse.step (Sub.refl _) (fun _ _ => rfl) (Nat.le_refl _)⟩
  · have hji : j ≠ i := fun e => by
      subst e
      by_cases hl : j < r.length
      · rw [List.getElem?_set_self hl] at hd; cases hd
      · rw [List.getElem?_eq_none (by simpa using hl)] at hd; cases hd
    rw [List.getElem?_set_ne (Ne.symm hji)] at hd
    obtain ⟨v, h1, h2⟩ := R.slot j d hd
    exact ⟨v, h1, h2.weak (g := g) (g' := unW g a) (fun _ _ _ h => h) (fun b => wne fun e => by injection e with e; exact hji e) (Bst.of R.sub (fun _ _ _ h => h) (fun b => wne fun e => by cases e) (Sub.refl _) (fun _ _ => rfl) (Nat.le_refl _) fun _ => noK)⟩
  · have h := R.obj k o ho
    cases o with
    | ins c fs =>
      obtain ⟨dx, vs, h1, h2⟩ := h
      exact ⟨dx, vs, h1, h2.weak (g := g) (g' := unW g a) (fun _ _ _ _ h => h) (fun b f => wne fun e => by cases e) (Sub.refl _) (fun _ _ => rfl) (Nat.le_refl _)⟩
    | arr ds => exact h
    | tab ds => exact h
  · show (if g.io k = a then none else g.W (g.io k)) = none
    split
    · rfl
    · exact R.apW k hk
theorem Rep.tell (R : Rep T K H g r S σ) {i : Nat} {v : V} {d : D} (hv : σ[i]? = some (some v)) (h : SlotP K H g S.length (.slot i) v d) : Rep T K H g (r.set i (some d)) S σ := by
  refine ⟨R.sub, by rw [List.length_set]; exact R.len, fun j e he => ?_, R.obj, R.inj, R.apG, R.apW, R.gw, R.wd, R.bse.step (Sub.refl _) (fun _ _ => rfl) (Nat.le_refl _)⟩
  by_cases hj : j = i
  · subst hj
    by_cases hl : j < r.length
    · rw [List.getElem?_set_self hl] at he
      cases he
      exact ⟨v, hv, h⟩
    · rw [List.getElem?_eq_none (by simpa using hl)] at he; cases he
  · rw [List.getElem?_set_ne (Ne.symm hj)] at he
    exact R.slot j e he
theorem unW_same {a : Addr} : (unW g a).W a = none := by show (if a = a then none else g.W a) = none; rw [if_pos rfl]
end
section
variable {X : Cx} {T : Tb} {i : Nat} {x : Str} {pos : Pos}
theorem SlotR.plain {K : PySem.W.Frag} {H : Hp} {g : Gh} {n : Nat} {rt : Rt} {v : V} : ∀ {d : D}, (∀ xs, d ≠ .own xs) → SlotR K H g n rt v d → IsF K g.G g.io n v d
  | .own xs, h, _ => absurd rfl (h xs)
  | .bor _, _, h => h
  | .non, _, h => h
  | .bl _, _, h => h
  | .int _, _, h => h
  | .str _, _, h => h
  | .tup _, _, h => h
  | .lst _, _, h => h
  | .dct _, _, h => h
  | .ob _, _, h => h
  | .exc _ _, _, h => h
  | .scr _, _, h => h
theorem SlotP.res {K : PySem.W.Frag} {H : Hp} {g : Gh} {n : Nat} {rt : Rt} {v : V} : ∀ {d : D}, (∀ xs, d ≠ .own xs) → SlotP K H g n rt v d → IsR K false H g n v d
  | .own xs, h, _ => absurd rfl (h xs)
  | .bor _, _, ⟨a, vs, e, h, hs, h3, hw⟩ => ⟨a, vs, e, h, hs, h3, hw.imp id fun hw => ⟨_, hw, .inr (.inr rfl)⟩⟩
  | .non, _, h => h
  | .bl _, _, h => h
  | .int _, _, h => h
  | .str _, _, h => h
  | .tup _, _, h => h
  | .lst _, _, h => h
  | .dct _, _, h => h
  | .ob _, _, h => h
  | .exc _ _, _, h => h
  | .scr _, _, h => h
theorem FrO.non {H : Hp} {g : Gh} {v : V} {d : D} (h : ∀ xs, d ≠ .own xs) : FrO H g v d := fun xs e => absurd e (h xs)
theorem de_varF (hN : X.N[i]? = some x) (hv : Vis X.env.scope x) (hd : (x == ("__debug__" : Str)) = false) (hc : (x == ("__classdict__" : Str)) = false) : DE X T true false (.Name x pos) (varF i) := fun W tk =>
  peImp (pe_var hN hv hd hc) fun σ H Q ⟨g, r, S, R, k⟩ => by
    unfold varF at k
    cases e : r[i]? with
    | none => rw [e] at k; exact k.elim
    | some o =>
      cases o with
      | none => rw [e] at k; exact k.elim
      | some d =>
        obtain ⟨v, hσ, hs⟩ := R.slot i d e
        refine ⟨v, hσ, ?_⟩
        rw [e] at k
        by_cases ho : ∃ xs, d = .own xs
        · obtain ⟨xs, rfl⟩ := ho
          obtain ⟨a, vs, rfl, h1, h2, hW⟩ := hs
          have hG := R.gw a _ hW
          have R2 := (R.drop hW).freeze (o := .lst vs) h1 hG unW_same (R.neI hW)
          have is2 : IsF X.K (upd g.G a (.lst vs)) g.io S.length (.ref a) (.lst xs) := .lst upd_same (h2.mono (sub_new hG) (fun _ _ => rfl) (Nat.le_refl _))
          have R3 := R2.tell hσ (SlotP.ofF is2)
          rw [List.set_set] at R3
          exact k _ H _ R3 (IsR.ofF is2) (FrO.ofF is2) (Stp.frzSlot hW hG)
        · have hs' := SlotP.res (fun xs e => ho ⟨xs, e⟩) hs
          have fo := FrO.non (H := H) (g := g) (v := v) (fun xs e => ho ⟨xs, e⟩)
          cases d with
          | own xs => exact absurd ⟨xs, rfl⟩ ho
          | _ => exact k v H g R hs' fo Stp.refl
theorem de_varB (hN : X.N[i]? = some x) (hv : Vis X.env.scope x) (hd : (x == ("__debug__" : Str)) = false) (hc : (x == ("__classdict__" : Str)) = false) : DE X T true false (.Name x pos) (varB i) := fun W tk =>
  peImp (pe_var hN hv hd hc) fun σ H Q ⟨g, r, S, R, k⟩ => by
    unfold varB at k
    cases e : r[i]? with
    | none => rw [e] at k; exact k.elim
    | some o =>
      cases o with
      | none => rw [e] at k; exact k.elim
      | some d =>
        obtain ⟨v, hσ, hs⟩ := R.slot i d e
        refine ⟨v, hσ, ?_⟩
        rw [e] at k
        by_cases ho : ∃ xs, d = .own xs
        · obtain ⟨xs, rfl⟩ := ho
          obtain ⟨a, vs, rfl, h1, h2, hW⟩ := hs
          exact k _ H g R ⟨a, vs, rfl, h1, h2, R.neI hW, .inr ⟨_, hW, .inr (.inl ⟨i, rfl⟩)⟩⟩ (fun xs e => by cases e) Stp.refl
        · have hs' := SlotP.res (fun xs e => ho ⟨xs, e⟩) hs
          have fo := FrO.non (H := H) (g := g) (v := v) (fun xs e => ho ⟨xs, e⟩)
          cases d with
          | own xs => exact absurd ⟨xs, rfl⟩ ho
          | _ => exact k v H g R hs' fo Stp.refl
theorem de_const {d : D} {v : V} {e : Expr} (h : PE X e (tC v)) (hc : ∀ (G : Hp) (io : Nat → Addr) (n : Nat), IsF X.K G io n v d) : DE X T true false e (M.ret d) := fun W tk =>
  peImp h fun σ H Q ⟨g, r, S, R, k⟩ => k v H g R (IsR.ofF (hc _ _ _)) (FrO.ofF (hc g.G g.io 0)) Stp.refl
theorem de_int {i : Int} {j : Nat} : DE X T true false (.Constant (.int i) j pos) (M.ret (.int i)) := de_const pe_int fun _ _ _ => .int i
theorem de_bl {b : Bool} {j : Nat} : DE X T true false (.Constant (.bool b) j pos) (M.ret (.bl b)) := de_const pe_bl fun _ _ _ => .bl b
theorem de_non {j : Nat} : DE X T true false (.Constant .none j pos) (M.ret .non) := de_const pe_non fun _ _ _ => .non
theorem de_str {s : Str} {j : Nat} : DE X T true false (.Constant (.str s) j pos) (M.ret (.str s)) := de_const pe_str fun _ _ _ => .str s
structure GlobC (K : PySem.W.Frag) (mg : Str → Option Value) (x : Str) (d : D) : Prop where
  at_ : ∃ (u : Value) (v : V), mg x = some u ∧ RelV v u ∧ IsF K (fun _ => none) (fun _ => 0) 0 v d
theorem de_glob {d : D} (hg : Gl X x) (h : GlobC X.K X.mg x d) (hd : (x == ("__debug__" : Str)) = false) : DE X T true false (.Name x pos) (M.ret d) := by
  obtain ⟨u, v, hm, rv, is⟩ := h.at_
  exact de_const (pe_glob hg hm rv hd) fun _ _ _ => is.mono (fun _ _ h => by cases h) (fun _ h => absurd h (Nat.not_lt_zero _)) (Nat.zero_le _)
end

def mBin (F : D → D → Option D) (ma mb : M D) : M D := M.bind ma fun x => M.bind mb fun y => lift (F x y)
def mUn (F : D → Option D) (ma : M D) : M D := M.bind ma fun x => lift (F x)
section
variable {X : Cx} {T : Tb} {qa qb ra rb : Bool} {a b c : Expr} {ma mb mc : M D} {pos : Pos} {F F' : D → D → Option D}
theorem lift_none {K : PySem.W.Frag} {H : Hp} {g : Gh} {n : Nat} {σ : L2.St} {Q : VK} {W : WX} {r : Rho} {S : Sto} {q rb : Bool} {o : Option D} (h : okE T K q rb H g n σ (lift o r S) Q W) : ∃ d, o = some d := by
  cases o with
  | none => exact h.elim
  | some d => exact ⟨d, rfl⟩
theorem tOpOf {r2 : R2} {W : WX} {σ : L2.St} {H : Hp} {Q : VK} (hq : ra = false ∨ qb = true) (h : teOf T X.K (qa && (qb && true)) false (mBin F ma mb) W σ H Q) :
    tOp (rOf T X.K F) (teOf T X.K qa ra ma W) (teOf T X.K qb rb mb W) σ H Q := by
  obtain ⟨g, r, S, R, k⟩ := h
  refine ⟨g, r, S, R, okE.bindE (qb := qb && true) k fun d1 r1 S1 v1 H1 g1 _ R1 is1 st1 k1 => ?_⟩
  refine ⟨g1, r1, S1, R1, okE.bindE (qb := true) k1 fun d2 r2 S2 v2 H2 g2 _ R2 is2 st2 k2 => ?_⟩
  obtain ⟨d, hd⟩ := lift_none k2
  exact ⟨g2, r2, S2, σ, d1, d2, d, R2, is1.carry R2.sub st2 hq, is2.isV, hd, KQ.of hd k2⟩
theorem de_bin {op : Operator} (ho : OpR X (binaryOp op) (rOf T X.K F)) (ha : DE X T qa ra a ma) (hb : DE X T qb rb b mb) (hq : ra = false ∨ qb = true) : DE X T (qa && (qb && true)) false (.BinOp a op b pos) (mBin F ma mb) := fun W tk =>
  peImp (pe_op ho (ha W tk) (hb W tk)) fun σ H Q h => tOpOf (r2 := rOf T X.K F) hq h
theorem de_cmp {op : CmpOp} (ho : OpR X (compareOp op) (rOf T X.K F)) (ha : DE X T qa ra a ma) (hb : DE X T qb rb b mb) (hq : ra = false ∨ qb = true) (hm : behindInMarks op b = false) : DE X T (qa && (qb && true)) false (.Compare a [op] [b] pos) (mBin F ma mb) := fun W tk =>
  peImp (pe_cmpR ho (ha W tk) (hb W tk) hm) fun σ H Q h => tOpOf (r2 := rOf T X.K F) hq h
theorem de_un {op : UnaryOp} {F1 : D → Option D} (ho : UnR X (unaryOp op) (rOf1 T X.K F1)) (ha : DE X T qa ra a ma) : DE X T (qa && true) false (.UnaryOp op a pos) (mUn F1 ma) := fun W tk =>
  peImp (pe_un ho (ha W tk)) fun σ H Q ⟨g, r, S, R, k⟩ => by
    refine ⟨g, r, S, R, okE.bindE (qb := true) k fun d1 r1 S1 v1 H1 g1 _ R1 is1 st1 k1 => ?_⟩
    obtain ⟨d, hd⟩ := lift_none k1
    exact ⟨g1, r1, S1, σ, d1, d, R1, is1.isV, hd, KQ.of hd k1⟩
end

def listD : D → Option (List D)
  | .lst xs => some xs
  | .own xs => some xs
  | .bor xs => some xs
  | _ => none
def seqD : D → Option (List D)
  | .lst xs => some xs
  | .own xs => some xs
  | .bor xs => some xs
  | .tup xs => some xs
  | _ => none
def addD : D → D → Option D
  | .int i, .int j => some (.int (i + j))
  | .str a, .str b => if a.length + b.length ≤ lim then some (.str (a ++ b)) else none
  | .tup xs, .tup ys => if xs.length + ys.length ≤ lim then some (.tup (xs ++ ys)) else none
  | x, y => match listD x, listD y with
    | some xs, some ys => if xs.length + ys.length ≤ lim then some (.own (xs ++ ys)) else none
    | _, _ => none
def subD : D → D → Option D
  | .int i, .int j => some (.int (i - j))
  | _, _ => none
def mulOk (i j : Int) : Bool := (decide (-(2 ^ 64) < i ∧ i < 2 ^ 64) || decide (-(2 ^ 64) < j ∧ j < 2 ^ 64)) || decide (i.natAbs.log2 + j.natAbs.log2 < 1000000)
def mulD : D → D → Option D
  | .int i, .int j => if mulOk i j then some (.int (i * j)) else none
  | x, .int k => match listD x with
    | some xs => if xs.length * k.toNat ≤ lim ∧ -(2 ^ 63) ≤ k ∧ k < 2 ^ 63 then some (.own (List.replicate k.toNat xs).flatten) else none
    | none => none
  | _, _ => none
def divOk (j : Int) : Bool := decide (0 < j ∧ j.natAbs.log2 < 9000)
def divD : D → D → Option D
  | .int i, .int j => if divOk j then some (.int (i / j)) else none
  | _, _ => none
def modD : D → D → Option D
  | .int i, .int j => if 0 < j then some (.int (i % j)) else none
  | _, _ => none
def powOk (i j : Int) : Bool := decide (0 ≤ j ∧ j ≤ 1000000 ∧ i.natAbs < 2 ^ 64)
def powD : D → D → Option D
  | .int i, .int j => if powOk i j then some (.int (i ^ j.toNat)) else none
  | _, _ => none
def negD : D → Option D
  | .int i => some (.int (-i))
  | _ => none
section
variable {X : Cx} {T : Tb}
theorem listD_V {K : PySem.W.Frag} {H : Hp} {g : Gh} {n : Nat} {v : V} {xs : List D} (hs : Sub g.G H) : ∀ {d : D}, listD d = some xs → IsV K H g n v d → ∃ a vs, v = .ref a ∧ H a = some (.lst vs) ∧ IsFs K g.G g.io n vs xs
  | .lst _, e, h => by
    cases e; cases h with
    | lst h1 h2 => exact ⟨_, _, rfl, hs _ _ h1, h2⟩
  | .own _, e, h => by cases e; exact h
  | .bor _, e, h => by cases e; exact h
  | .non, e, _ => by cases e
  | .bl _, e, _ => by cases e
  | .int _, e, _ => by cases e
  | .str _, e, _ => by cases e
  | .tup _, e, _ => by cases e
  | .dct _, e, _ => by cases e
  | .ob _, e, _ => by cases e
  | .exc _ _, e, _ => by cases e
  | .scr _, e, _ => by cases e
theorem op_addD : OpR X (binaryOp .Add) (rOf T X.K addD) := by
  intro pins s σ H x y v u Q I rx ry ⟨g, r, S, σ0, dx, dy, d, R, ix, iy, hF, k⟩
  unfold addD at hF
  split at hF
  · cases ix; cases iy
    exact op_add pins s σ H _ _ v u Q I rx ry ⟨_, _, rfl, rfl, by cases hF; exact k.f R (.int _)⟩
  · cases ix; cases iy
    split at hF
    · rename_i hl
      exact op_add_str pins s σ H _ _ v u Q I rx ry ⟨_, _, rfl, rfl, lim_le hl, by cases hF; exact k.f R (.str _)⟩
    · cases hF
  · split at hF
    · rename_i xs ys hl
      cases hF
      cases ix with
      | tup h1 hs1 =>
        cases iy with
        | tup h2 hs2 =>
          rename_i a as b bs
          refine op_catA pins s σ H _ _ v u Q I rx ry ⟨a, b, as, bs, rfl, rfl, R.sub.sqT h1, R.sub.sqT h2, by rw [hs1.length, hs2.length]; exact lim_le hl, fun e => ?_, fun e1 e => ?_, fun e1 e2 p hp => k.tup R hp (hs1.append hs2)⟩
          · subst e
            have e0 : xs = [] := List.length_eq_zero_iff.mp hs1.length.symm
            subst e0
            exact k.f R (.tup h2 hs2)
          · subst e
            have e0 : ys = [] := List.length_eq_zero_iff.mp hs2.length.symm
            subst e0
            rw [List.append_nil] at k
            exact k.f R (.tup h1 hs1)
    · cases hF
  · split at hF
    · rename_i xs ys e1 e2
      split at hF
      · rename_i hl
        cases hF
        obtain ⟨l, vs, rfl, h1, hs1⟩ := listD_V R.sub e1 ix
        obtain ⟨b, ws, rfl, h2, hs2⟩ := listD_V R.sub e2 iy
        exact op_cat pins s σ H _ _ v u Q I rx ry ⟨l, b, vs, ws, rfl, rfl, h1, h2, by rw [hs1.length, hs2.length]; exact lim_le hl, fun p hp => k.own R hp (hs1.append hs2)⟩
      · cases hF
    · cases hF
theorem op_subD : OpR X (binaryOp .Sub) (rOf T X.K subD) := by
  intro pins s σ H x y v u Q I rx ry ⟨g, r, S, σ0, dx, dy, d, R, ix, iy, hF, k⟩
  unfold subD at hF
  split at hF
  · cases ix; cases iy
    exact op_sub pins s σ H _ _ v u Q I rx ry ⟨_, _, rfl, rfl, by cases hF; exact k.f R (.int _)⟩
  · cases hF
end
end DD

set_option Elab.async false
set_option linter.all false
set_option maxRecDepth 100000
set_option maxHeartbeats 4000000
namespace DD
open PySem PySem.Spec PyProof.Rows L2

section
variable {X : Cx} {T : Tb}
theorem op_mulD : OpR X (binaryOp .Mult) (rOf T X.K mulD) := by
  intro pins s σ H x y v u Q I rx ry ⟨g, r, S, σ0, dx, dy, d, R, ix, iy, hF, k⟩
  unfold mulD at hF
  split at hF
  · cases ix; cases iy
    split at hF
    · rename_i hl
      unfold mulOk at hl
      rw [Bool.or_eq_true] at hl
      rcases hl with hl | hl
      · refine op_mul pins s σ H _ _ v u Q I rx ry ⟨_, _, rfl, rfl, ?_, by cases hF; exact k.f R (.int _)⟩
        rw [Bool.or_eq_true, decide_eq_true_eq, decide_eq_true_eq] at hl
        exact hl
      · exact op_mulW pins s σ H _ _ v u Q I rx ry ⟨_, _, rfl, rfl, by rw [decide_eq_true_eq] at hl; exact hl, by cases hF; exact k.f R (.int _)⟩
    · cases hF
  · cases iy
    split at hF
    · rename_i xs e1
      split at hF
      · rename_i hl
        cases hF
        obtain ⟨l, vs, rfl, h1, hs1⟩ := listD_V R.sub e1 ix
        exact op_rep pins s σ H _ _ v u Q I rx ry ⟨l, _, vs, rfl, rfl, h1, hl.2.1, hl.2.2, by rw [hs1.length]; exact lim_le hl.1, fun p hp => k.own R hp (hs1.rep _)⟩
      · cases hF
    · cases hF
  · cases hF
theorem op_divD : OpR X (binaryOp .FloorDiv) (rOf T X.K divD) := by
  intro pins s σ H x y v u Q I rx ry ⟨g, r, S, σ0, dx, dy, d, R, ix, iy, hF, k⟩
  unfold divD at hF
  split at hF
  · cases ix; cases iy
    split at hF
    · rename_i hl
      exact op_fdivW pins s σ H _ _ v u Q I rx ry ⟨_, _, rfl, rfl, by simp only [mulOk, divOk, powOk, decide_eq_true_eq] at hl; exact hl, by cases hF; exact k.f R (.int _)⟩
    · cases hF
  · cases hF
theorem op_modD : OpR X (binaryOp .Mod) (rOf T X.K modD) := by
  intro pins s σ H x y v u Q I rx ry ⟨g, r, S, σ0, dx, dy, d, R, ix, iy, hF, k⟩
  unfold modD at hF
  split at hF
  · cases ix; cases iy
    split at hF
    · rename_i hl
      exact op_mod pins s σ H _ _ v u Q I rx ry ⟨_, _, rfl, rfl, hl, by cases hF; exact k.f R (.int _)⟩
    · cases hF
  · cases hF
theorem op_powD : OpR X (binaryOp .Pow) (rOf T X.K powD) := by
  intro pins s σ H x y v u Q I rx ry ⟨g, r, S, σ0, dx, dy, d, R, ix, iy, hF, k⟩
  unfold powD at hF
  split at hF
  · cases ix; cases iy
    split at hF
    · rename_i hl
      exact op_pow pins s σ H _ _ v u Q I rx ry ⟨_, _, rfl, rfl, by simp only [mulOk, divOk, powOk, decide_eq_true_eq] at hl; exact hl, by cases hF; exact k.f R (.int _)⟩
    · cases hF
  · cases hF
theorem un_negD : UnR X (unaryOp .USub) (rOf1 T X.K negD) := by
  intro pins s σ H x v Q I rx ⟨g, r, S, σ0, dx, d, R, ix, hF, k⟩
  unfold negD at hF
  split at hF
  · cases ix
    exact un_neg pins s σ H _ v Q I rx ⟨_, rfl, by cases hF; exact k.f R (.int _)⟩
  · cases hF
end

mutual
def toP : D → Option PyData
  | .non => some .none
  | .bl b => some (.bool b)
  | .int i => some (.int i)
  | .str s => some (.str s)
  | .tup xs => (toPs xs).map .tuple
  | .lst xs => (toPs xs).map .list
  | .own xs => (toPs xs).map .list
  | .bor xs => (toPs xs).map .list
  | .dct _ => none
  | .ob _ => none
  | .exc _ _ => none
  | .scr _ => none
def toPs : List D → Option (List PyData)
  | [] => some []
  | x :: xs => match toP x, toPs xs with
    | some p, some ps => some (p :: ps)
    | _, _ => none
end
section
variable {K : PySem.W.Frag} {G H : Hp} {io : Nat → Addr} {n : Nat}
mutual
theorem IsF.dp (hs : Sub G H) : ∀ {v : V} {d : D} {p : PyData}, IsF K G io n v d → toP d = some p → Dp K H v p
  | _, _, _, .non, e => by simp only [toP] at e; cases e; exact .non
  | _, _, _, .bl b, e => by simp only [toP] at e; cases e; exact .bl b
  | _, _, _, .int i, e => by simp only [toP] at e; cases e; exact .int i
  | _, _, _, .str s, e => by simp only [toP] at e; cases e; exact .str s
  | _, _, _, .lst h h2, e => by
    simp only [toP] at e
    obtain ⟨ps, e1, e2⟩ := Option.map_eq_some_iff.mp e
    subst e2
    exact .lst (SqL.of (hs _ _ h)) (IsFs.dp hs h2 e1)
  | _, _, _, .tup h h2, e => by
    simp only [toP] at e
    obtain ⟨ps, e1, e2⟩ := Option.map_eq_some_iff.mp e
    subst e2
    exact .tup (hs.sqT h) (IsFs.dp hs h2 e1)
  | _, _, _, .scr _ _, e => by simp only [toP] at e; cases e
  | _, _, _, .ob _ _, e => by simp only [toP] at e; cases e
theorem IsFs.dp (hs : Sub G H) : ∀ {vs : List V} {ds : List D} {ps : List PyData}, IsFs K G io n vs ds → toPs ds = some ps → DpAll K H vs ps
  | _, _, _, .nil, e => by simp only [toPs] at e; cases e; exact .nil
  | _, _, _, .cons (d := d) (ds := ds) h h2, e => by
    simp only [toPs] at e
    cases e1 : toP d with
    | none => rw [e1] at e; cases e
    | some p =>
      cases e2 : toPs ds with
      | none => rw [e1, e2] at e; cases e
      | some ps =>
        rw [e1, e2] at e
        cases e
        exact .cons (IsF.dp hs h e1) (IsFs.dp hs h2 e2)
end
theorem IsV.dp {g : Gh} {v : V} {p : PyData} (hs : Sub g.G H) : ∀ {d : D}, IsV K H g n v d → toP d = some p → Dp K H v p
  | .own xs, ⟨a, vs, e, h, h2⟩, q => by
    simp only [toP] at q
    obtain ⟨ps, e1, e2⟩ := Option.map_eq_some_iff.mp q
    subst e2 e
    exact .lst (SqL.of h) (h2.dp hs e1)
  | .bor xs, ⟨a, vs, e, h, h2⟩, q => by
    simp only [toP] at q
    obtain ⟨ps, e1, e2⟩ := Option.map_eq_some_iff.mp q
    subst e2 e
    exact .lst (SqL.of h) (h2.dp hs e1)
  | .non, h, q => IsF.dp hs h q
  | .bl _, h, q => IsF.dp hs h q
  | .int _, h, q => IsF.dp hs h q
  | .str _, h, q => IsF.dp hs h q
  | .tup _, h, q => IsF.dp hs h q
  | .lst _, h, q => IsF.dp hs h q
  | .dct _, h, q => IsF.dp hs h q
  | .ob _, h, q => IsF.dp hs h q
  | .exc _ _, h, q => IsF.dp hs h q
  | .scr _, h, q => IsF.dp hs h q
end

def eqB (x y : D) : Option Bool := match toP x, toP y with
  | some p, some q => if SeqAt.shaped p && SeqAt.shaped q then some (PyData.eqv p q) else none
  | _, _ => none
def eqD (x y : D) : Option D := (eqB x y).map .bl
def neD (x y : D) : Option D := (eqB x y).map fun b => .bl (!b)
def intsD : List D → Option (List Int)
  | [] => some []
  | .int i :: r => (intsD r).map (i :: ·)
  | _ => none
def ltB : D → D → Option Bool
  | .int i, .int j => some (decide (i < j))
  | .str a, .str b => some (decide (a.cps.toList < b.cps.toList))
  | .tup xs, .tup ys => match intsD xs, intsD ys with
    | some ns, some ms => some (HT.lexLt ns ms)
    | _, _ => none
  | _, _ => none
def leB : D → D → Option Bool
  | .int i, .int j => some (decide (i ≤ j))
  | .str a, .str b => some (!decide (b.cps.toList < a.cps.toList))
  | _, _ => none
def gtB : D → D → Option Bool
  | .int i, .int j => some (decide (j < i))
  | .str a, .str b => some (decide (b.cps.toList < a.cps.toList))
  | _, _ => none
def geB : D → D → Option Bool
  | .int i, .int j => some (decide (j ≤ i))
  | .str a, .str b => some (!decide (a.cps.toList < b.cps.toList))
  | _, _ => none
def ltD (x y : D) : Option D := (ltB x y).map .bl
def leD (x y : D) : Option D := (leB x y).map .bl
def gtD (x y : D) : Option D := (gtB x y).map .bl
def geD (x y : D) : Option D := (geB x y).map .bl
def isNonD : D → Bool
  | .non => true
  | _ => false
def isB : D → D → Option Bool
  | x, .non => some (isNonD x)
  | .bl a, .bl b => some (decide (a = b))
  | _, _ => none
def isD (x y : D) : Option D := (isB x y).map .bl
def isNotD (x y : D) : Option D := (isB x y).map fun b => .bl (!b)
def flatD : D → Bool
  | .non => true
  | .bl _ => true
  | .int _ => true
  | .str _ => true
  | _ => false
def eqFlat : D → D → Bool
  | .non, .non => true
  | .bl a, .bl b => a == b
  | .bl a, .int b => (if a then 1 else 0) == b
  | .int a, .bl b => a == (if b then 1 else 0)
  | .int a, .int b => a == b
  | .str a, .str b => a == b
  | _, _ => false
def inB : D → D → Option Bool
  | .str a, .str b => some (!(Builtin.Str.occurrences b a 0 b.length 1).isEmpty)
  | x, y => match seqD y with
    | some ds => if flatD x && ds.all flatD then some (ds.any fun z => eqFlat z x) else match toP x, toP y with
      | some p, some (.list qs) => if SeqAt.shaped p && SeqAt.shaped (.list qs) then some (qs.any fun z => PyData.eqv z p) else none
      | _, _ => none
    | none => none
def inD (x y : D) : Option D := (inB x y).map .bl
def notInD (x y : D) : Option D := (inB x y).map fun b => .bl (!b)
section
variable {X : Cx} {T : Tb}
theorem eqB_dp {K : PySem.W.Frag} {H : Hp} {g : Gh} {n : Nat} {x y : V} {dx dy : D} {b : Bool} (hs : Sub g.G H) (ix : IsV K H g n x dx) (iy : IsV K H g n y dy) (e : eqB dx dy = some b) :
    ∃ p q, Dp K H x p ∧ Dp K H y q ∧ SeqAt.shaped p = true ∧ SeqAt.shaped q = true ∧ PyData.eqv p q = b := by
  unfold eqB at e
  split at e
  · rename_i p q e1 e2
    split at e
    · rename_i h
      cases e
      exact ⟨p, q, ix.dp hs e1, iy.dp hs e2, (Bool.and_eq_true_iff.mp h).1, (Bool.and_eq_true_iff.mp h).2, rfl⟩
    · cases e
  · cases e
theorem op_eqDD (hu : X.A.units + 64 < cLine) : OpR X (compareOp .Eq) (rOf T X.K eqD) := by
  intro pins s σ H x y v u Q I rx ry ⟨g, r, S, σ0, dx, dy, d, R, ix, iy, hF, k⟩
  obtain ⟨b, e, rfl⟩ := Option.map_eq_some_iff.mp hF
  obtain ⟨p, q, h1, h2, h3, h4, rfl⟩ := eqB_dp R.sub ix iy e
  exact op_eqD hu pins s σ H _ _ v u Q I rx ry ⟨p, q, h1, h2, h3, h4, k.f R (.bl _)⟩
theorem op_neDD (hu : X.A.units + 64 < cLine) : OpR X (compareOp .NotEq) (rOf T X.K neD) := by
  intro pins s σ H x y v u Q I rx ry ⟨g, r, S, σ0, dx, dy, d, R, ix, iy, hF, k⟩
  obtain ⟨b, e, rfl⟩ := Option.map_eq_some_iff.mp hF
  obtain ⟨p, q, h1, h2, h3, h4, rfl⟩ := eqB_dp R.sub ix iy e
  exact op_neD hu pins s σ H _ _ v u Q I rx ry ⟨p, q, h1, h2, h3, h4, k.f R (.bl _)⟩
theorem intsD_V {K : PySem.W.Frag} {G : Hp} {io : Nat → Addr} {n : Nat} : ∀ {ds : List D} {vs : List V} {ns : List Int}, intsD ds = some ns → IsFs K G io n vs ds → vs = ns.map V.int
  | [], _, _, e, h => by cases e; cases h; rfl
  | .int i :: r, _, _, e, h => by
    simp only [intsD] at e
    obtain ⟨ms, e1, rfl⟩ := Option.map_eq_some_iff.mp e
    cases h with
    | cons h1 h2 =>
      cases h1
      rw [intsD_V e1 h2]; rfl
  | .non :: _, _, _, e, _ => by cases e
  | .bl _ :: _, _, _, e, _ => by cases e
  | .str _ :: _, _, _, e, _ => by cases e
  | .tup _ :: _, _, _, e, _ => by cases e
  | .lst _ :: _, _, _, e, _ => by cases e
  | .own _ :: _, _, _, e, _ => by cases e
  | .bor _ :: _, _, _, e, _ => by cases e
  | .dct _ :: _, _, _, e, _ => by cases e
  | .ob _ :: _, _, _, e, _ => by cases e
  | .exc _ _ :: _, _, _, e, _ => by cases e
  | .scr _ :: _, _, _, e, _ => by cases e
theorem op_ltD (hu : X.A.units < cLine) : OpR X (compareOp .Lt) (rOf T X.K ltD) := by
  intro pins s σ H x y v u Q I rx ry ⟨g, r, S, σ0, dx, dy, d, R, ix, iy, hF, k⟩
  obtain ⟨b, e, rfl⟩ := Option.map_eq_some_iff.mp hF
  unfold ltB at e
  split at e
  · cases ix; cases iy; cases e
    exact op_lt pins s σ H _ _ v u Q I rx ry ⟨_, _, rfl, rfl, k.f R (.bl _)⟩
  · cases ix; cases iy; cases e
    exact op_lt_str pins s σ H _ _ v u Q I rx ry ⟨_, _, rfl, rfl, k.f R (.bl _)⟩
  · split at e
    · rename_i ns ms e1 e2
      cases e
      cases ix with
      | tup h1 hs1 =>
        cases iy with
        | tup h2 hs2 =>
          have q1 := intsD_V e1 hs1
          have q2 := intsD_V e2 hs2
          subst q1 q2
          exact op_ltT hu pins s σ H _ _ v u Q I rx ry ⟨_, _, ns, ms, rfl, rfl, R.sub.sqT h1, R.sub.sqT h2, k.f R (.bl _)⟩
    · cases e
  · cases e
theorem op_leD : OpR X (compareOp .LtE) (rOf T X.K leD) := by
  intro pins s σ H x y v u Q I rx ry ⟨g, r, S, σ0, dx, dy, d, R, ix, iy, hF, k⟩
  obtain ⟨b, e, rfl⟩ := Option.map_eq_some_iff.mp hF
  unfold leB at e
  split at e
  · cases ix; cases iy; cases e
    exact op_le pins s σ H _ _ v u Q I rx ry ⟨_, _, rfl, rfl, k.f R (.bl _)⟩
  · cases ix; cases iy; cases e
    exact op_le_str pins s σ H _ _ v u Q I rx ry ⟨_, _, rfl, rfl, k.f R (.bl _)⟩
  · cases e
theorem op_gtD : OpR X (compareOp .Gt) (rOf T X.K gtD) := by
  intro pins s σ H x y v u Q I rx ry ⟨g, r, S, σ0, dx, dy, d, R, ix, iy, hF, k⟩
  obtain ⟨b, e, rfl⟩ := Option.map_eq_some_iff.mp hF
  unfold gtB at e
  split at e
  · cases ix; cases iy; cases e
    exact op_gt pins s σ H _ _ v u Q I rx ry ⟨_, _, rfl, rfl, k.f R (.bl _)⟩
  · cases ix; cases iy; cases e
    exact op_gt_str pins s σ H _ _ v u Q I rx ry ⟨_, _, rfl, rfl, k.f R (.bl _)⟩
  · cases e
theorem op_geD : OpR X (compareOp .GtE) (rOf T X.K geD) := by
  intro pins s σ H x y v u Q I rx ry ⟨g, r, S, σ0, dx, dy, d, R, ix, iy, hF, k⟩
  obtain ⟨b, e, rfl⟩ := Option.map_eq_some_iff.mp hF
  unfold geB at e
  split at e
  · cases ix; cases iy; cases e
    exact op_ge pins s σ H _ _ v u Q I rx ry ⟨_, _, rfl, rfl, k.f R (.bl _)⟩
  · cases ix; cases iy; cases e
    exact op_ge_str pins s σ H _ _ v u Q I rx ry ⟨_, _, rfl, rfl, k.f R (.bl _)⟩
  · cases e
theorem isNonD_V {K : PySem.W.Frag} {H : Hp} {g : Gh} {n : Nat} {v : V} : ∀ {d : D}, IsV K H g n v d → decide (v = .non) = isNonD d
  | .own _, ⟨a, vs, e, _⟩ => by subst e; rfl
  | .bor _, ⟨a, vs, e, _⟩ => by subst e; rfl
  | .non, h => by cases h; rfl
  | .bl _, h => by cases h; rfl
  | .int _, h => by cases h; rfl
  | .str _, h => by cases h; rfl
  | .tup _, h => by cases h; rfl
  | .lst _, h => by cases h; rfl
  | .dct _, h => by cases h; rfl
  | .ob _, h => by cases h; rfl
  | .exc _ _, h => by cases h <;> rfl
  | .scr _, h => by cases h; rfl
theorem op_isDD : OpR X (compareOp .Is) (rOf T X.K isD) := by
  intro pins s σ H x y v u Q I rx ry ⟨g, r, S, σ0, dx, dy, d, R, ix, iy, hF, k⟩
  obtain ⟨b, e, rfl⟩ := Option.map_eq_some_iff.mp hF
  unfold isB at e
  split at e
  · cases iy; cases e
    exact op_isN pins s σ H _ _ v u Q I rx ry ⟨rfl, by rw [isNonD_V ix]; exact k.f R (.bl _)⟩
  · cases ix; cases iy; cases e
    exact op_is_bl pins s σ H _ _ v u Q I rx ry ⟨_, _, rfl, rfl, k.f R (.bl _)⟩
  · cases e
theorem op_isNotDD : OpR X (compareOp .IsNot) (rOf T X.K isNotD) := by
  intro pins s σ H x y v u Q I rx ry ⟨g, r, S, σ0, dx, dy, d, R, ix, iy, hF, k⟩
  obtain ⟨b, e, rfl⟩ := Option.map_eq_some_iff.mp hF
  unfold isB at e
  split at e
  · cases iy; cases e
    exact op_notN pins s σ H _ _ v u Q I rx ry ⟨rfl, by rw [isNonD_V ix]; exact k.f R (.bl _)⟩
  · cases ix; cases iy; cases e
    exact op_isnot_bl pins s σ H _ _ v u Q I rx ry ⟨_, _, rfl, rfl, k.f R (.bl _)⟩
  · cases e
theorem flat_V {K : PySem.W.Frag} {H : Hp} {g : Gh} {n : Nat} {v : V} : ∀ {d : D}, IsV K H g n v d → flatD d = true → flatV v = true
  | .non, h, _ => by cases h; rfl
  | .bl _, h, _ => by cases h; rfl
  | .int _, h, _ => by cases h; rfl
  | .str _, h, _ => by cases h; rfl
  | .own _, _, e => by cases e
  | .bor _, _, e => by cases e
  | .tup _, _, e => by cases e
  | .lst _, _, e => by cases e
  | .dct _, _, e => by cases e
  | .ob _, _, e => by cases e
  | .exc _ _, _, e => by cases e
  | .scr _, _, e => by cases e
theorem eqFlat_V {K : PySem.W.Frag} {H : Hp} {g : Gh} {n : Nat} {v w : V} {d e : D} (h1 : IsV K H g n v d) (h2 : IsV K H g n w e) (f1 : flatD d = true) (f2 : flatD e = true) : eqV v w = eqFlat d e := by
  cases d <;> first | (cases f1; done) | (cases h1; cases e <;> first | (cases f2; done) | (cases h2; rfl))
theorem inV_of {K : PySem.W.Frag} {H : Hp} {g : Gh} {n : Nat} {v : V} {d : D} (hx : IsV K H g n v d) (fx : flatD d = true) : ∀ {vs : List V} {ds : List D}, IsFs K g.G g.io n vs ds → ds.all flatD = true → vs.all flatV = true ∧ inV v vs = ds.any fun z => eqFlat z d
  | _, _, .nil, _ => ⟨rfl, rfl⟩
  | _, _, .cons h hs, e => by
    rw [List.all_cons, Bool.and_eq_true_iff] at e
    obtain ⟨i1, i2⟩ := inV_of hx fx hs e.2
    have hv := IsV.ofF (H := H) (g := g) h
    refine ⟨by rw [List.all_cons, flat_V hv e.1, i1]; rfl, ?_⟩
    show (_ :: _).any _ = _
    rw [List.any_cons, List.any_cons, eqFlat_V hv hx e.1 fx]
    have i3 : List.any _ (fun y => eqV y v) = _ := i2
    rw [i3]
theorem seqD_V {K : PySem.W.Frag} {H : Hp} {g : Gh} {n : Nat} {v : V} {xs : List D} (hs : Sub g.G H) {d : D} (e : seqD d = some xs) (h : IsV K H g n v d) : ∃ a vs, v = .ref a ∧ (SqL K H a vs ∨ SqT K H a vs) ∧ IsFs K g.G g.io n vs xs := by
  cases d with
  | lst ys =>
    cases e
    obtain ⟨a, vs, e1, e2, e3⟩ := listD_V hs (d := .lst xs) rfl h
    exact ⟨a, vs, e1, .inl (SqL.of e2), e3⟩
  | own ys =>
    cases e
    obtain ⟨a, vs, e1, e2, e3⟩ := h
    exact ⟨a, vs, e1, .inl (SqL.of e2), e3⟩
  | bor ys =>
    cases e
    obtain ⟨a, vs, e1, e2, e3⟩ := h
    exact ⟨a, vs, e1, .inl (SqL.of e2), e3⟩
  | tup ys =>
    cases e
    cases h with
    | tup h1 h2 => exact ⟨_, _, rfl, .inr (hs.sqT h1), h2⟩
  | _ => cases e
theorem op_inDD (hu : X.A.units + 65 < cLine) : OpR X (compareOp .In) (rOf T X.K inD) := by
  intro pins s σ H x y v u Q I rx ry ⟨g, r, S, σ0, dx, dy, d, R, ix, iy, hF, k⟩
  obtain ⟨b, e, rfl⟩ := Option.map_eq_some_iff.mp hF
  unfold inB at e
  split at e
  · cases ix; cases iy; cases e
    exact op_in_str pins s σ H _ _ v u Q I rx ry ⟨_, _, rfl, rfl, k.f R (.bl _)⟩
  · split at e
    · rename_i ds es
      split at e
      · rename_i hf
        obtain ⟨f1, f2⟩ := Bool.and_eq_true_iff.mp hf
        cases e
        obtain ⟨a, vs, rfl, h1, h2⟩ := seqD_V R.sub es iy
        obtain ⟨i1, i2⟩ := inV_of ix f1 h2 f2
        exact op_in_seq pins s σ H _ _ v u Q I rx ry ⟨a, vs, rfl, h1, flat_V ix f1, i1, by rw [i2]; exact k.f R (.bl _)⟩
      · split at e
        · rename_i p qs e1 e2
          split at e
          · rename_i hh
            cases e
            exact op_inD hu pins s σ H _ _ v u Q I rx ry ⟨p, qs, ix.dp R.sub e1, iy.dp R.sub e2, (Bool.and_eq_true_iff.mp hh).1, (Bool.and_eq_true_iff.mp hh).2, k.f R (.bl _)⟩
          · cases e
        · cases e
    · cases e
theorem op_notInDD (hu : X.A.units + 65 < cLine) : OpR X (compareOp .NotIn) (rOf T X.K notInD) := by
  intro pins s σ H x y v u Q I rx ry ⟨g, r, S, σ0, dx, dy, d, R, ix, iy, hF, k⟩
  obtain ⟨b, e, rfl⟩ := Option.map_eq_some_iff.mp hF
  unfold inB at e
  split at e
  · cases ix; cases iy; cases e
    exact op_notIn_str pins s σ H _ _ v u Q I rx ry ⟨_, _, rfl, rfl, k.f R (.bl _)⟩
  · split at e
    · rename_i ds es
      split at e
      · rename_i hf
        obtain ⟨f1, f2⟩ := Bool.and_eq_true_iff.mp hf
        cases e
        obtain ⟨a, vs, rfl, h1, h2⟩ := seqD_V R.sub es iy
        obtain ⟨i1, i2⟩ := inV_of ix f1 h2 f2
        exact op_notIn_seq pins s σ H _ _ v u Q I rx ry ⟨a, vs, rfl, h1, flat_V ix f1, i1, by rw [i2]; exact k.f R (.bl _)⟩
      · split at e
        · rename_i p qs e1 e2
          split at e
          · rename_i hh
            cases e
            exact op_notInD hu pins s σ H _ _ v u Q I rx ry ⟨p, qs, ix.dp R.sub e1, iy.dp R.sub e2, (Bool.and_eq_true_iff.mp hh).1, (Bool.and_eq_true_iff.mp hh).2, k.f R (.bl _)⟩
          · cases e
        · cases e
    · cases e
end

def truthD : D → Option Bool
  | .non => some false
  | .bl b => some b
  | .int i => some (i != 0)
  | .str s => if s.length ≤ lim then some ((s.length : Int) != 0) else none
  | .tup xs => some (!xs.isEmpty)
  | .lst xs => some (!xs.isEmpty)
  | .own xs => some (!xs.isEmpty)
  | .bor xs => some (!xs.isEmpty)
  | _ => none
theorem IsFs.emp {K : PySem.W.Frag} {G : Hp} {io : Nat → Addr} {n : Nat} {vs : List V} {ds : List D} (h : IsFs K G io n vs ds) : ds.isEmpty = vs.isEmpty := by cases h <;> rfl
theorem truth_V {K : PySem.W.Frag} {H : Hp} {g : Gh} {n : Nat} {v : V} {b : Bool} (hs : Sub g.G H) {d : D} (e : truthD d = some b) (h : IsV K H g n v d) : TruV K v H b := by
  cases d with
  | non => cases h; cases e; rfl
  | bl c => cases h; cases e; rfl
  | int i => cases h; cases e; rfl
  | str x =>
    cases h
    simp only [truthD] at e
    split at e
    · rename_i hl
      cases e
      exact ⟨lim_le hl, rfl⟩
    · cases e
  | tup xs =>
    cases e
    cases h with
    | tup h1 h2 => exact .inr (.inl ⟨_, hs.sqT h1, by rw [h2.emp]⟩)
  | lst xs =>
    cases e
    cases h with
    | lst h1 h2 => exact .inl ⟨_, SqL.of (hs _ _ h1), by rw [h2.emp]⟩
  | own xs =>
    cases e
    obtain ⟨a, vs, rfl, h1, h2⟩ := h
    exact .inl ⟨_, SqL.of h1, by rw [h2.emp]⟩
  | bor xs =>
    cases e
    obtain ⟨a, vs, rfl, h1, h2⟩ := h
    exact .inl ⟨_, SqL.of h1, by rw [h2.emp]⟩
  | dct _ => cases e
  | ob _ => cases e
  | exc _ _ => cases e
  | scr _ => cases e
def DW (X : Cx) (T : Tb) (q : Bool) (e : Expr) (m : M Bool) : Prop := ∀ W, Takes X W → PW X e (ttOf T X.K q m W)
def mTru (m : M D) : M Bool := M.bind m fun x => lift (truthD x)
def mNot (m : M Bool) : M Bool := M.bind m fun b => M.ret (!b)
def mAnd (a b : M Bool) : M Bool := M.bind a fun x => if x then b else M.ret false
def mOr (a b : M Bool) : M Bool := M.bind a fun x => if x then M.ret true else b
def mIfE (c : M Bool) (a b : M D) : M D := M.bind c fun x => if x then a else b
def mAndV (a b : M D) : M D := M.bind a fun x => M.bind (lift (truthD x)) fun t => if t then b else M.ret x
def mOrV (a b : M D) : M D := M.bind a fun x => M.bind (lift (truthD x)) fun t => if t then M.ret x else b
def mNotV (a : M D) : M D := M.bind a fun x => M.bind (lift (truthD x)) fun t => M.ret (.bl (!t))
section
variable {X : Cx} {T : Tb} {q qa qb qc ra rb : Bool} {a b c e : Expr} {ma mb : M D} {ta tb tc : M Bool} {pos : Pos} {rest : List Expr}
theorem pwImp {X : Cx} {e : Expr} {t t' : TT} (h : PW X e t) (k : ∀ σ H Q, t' σ H Q → t σ H Q) : PW X e t' := ⟨fun wh pins s σ H Q I h' => h.run wh pins s σ H Q I (k σ H Q h')⟩
theorem DW.dt (h : DW X T q e ta) : DT X T q e ta := fun W tk => (h W tk).pt
theorem okB.lift {K : PySem.W.Frag} {H : Hp} {g : Gh} {n : Nat} {σ : L2.St} {Q : Bool → Hp → Prop} {W : WX} {r : Rho} {S : Sto} {o : Option Bool} (h : okB T K q H g n σ (DD.lift o r S) Q W) : ∃ b, o = some b ∧ ∀ H' g', Rep T K H' g' r S σ → Stp q true H g n H' g' S.length → Q b H' := by
  cases o with
  | none => exact h.elim
  | some b => exact ⟨b, rfl, h⟩
theorem dt_val (he : ∀ whole, isTrue e X.env whole = (do let v ← whole; standAt e.pos; holding [v] (truthy v))) (h : DE X T qa ra e ma) : DT X T (qa && true) e (mTru ma) := fun W tk =>
  ptImp (pt_truth (h W tk) he) fun σ H Q ⟨g, r, S, R, k⟩ => by
    refine ⟨g, r, S, R, okB.bindE (qb := true) k fun d1 r1 S1 v1 H1 g1 _ R1 is1 st1 k1 => ?_⟩
    obtain ⟨b, hb, k2⟩ := k1.lift
    exact ⟨b, truth_V R1.sub hb is1.isV, k2 H1 g1 R1 Stp.refl⟩
theorem tTestOf {F : D → D → Option D} {W : WX} {σ : L2.St} {H : Hp} {Q : Bool → Hp → Prop} (hq : ra = false ∨ qb = true) (h : ttOf T X.K (qa && (qb && true)) (mTru (mBin F ma mb)) W σ H Q) (hF : ∀ x y d, F x y = some d → ∃ k, d = .bl k) :
    tTest (tOp (rOf T X.K F) (teOf T X.K qa ra ma W) (teOf T X.K qb rb mb W)) σ H Q := by
  obtain ⟨g, r, S, R, k⟩ := h
  have k' : okB T X.K (qa && (qb && true)) H g S.length σ (M.bind ma (fun x => M.bind mb fun y => M.bind (DD.lift (F x y)) fun z => DD.lift (truthD z)) r S) Q W := by
    have e : ∀ r S, M.bind ma (fun x => M.bind mb fun y => M.bind (DD.lift (F x y)) fun z => DD.lift (truthD z)) r S = mTru (mBin F ma mb) r S := fun r S => by
      unfold mTru mBin M.bind
      cases ma r S with
      | ok d r1 S1 => dsimp only; cases mb r1 S1 <;> rfl
      | exc x r1 S1 => rfl
      | no => rfl
    rw [e]; exact k
  refine ⟨g, r, S, R, okB.bindE (qb := qb && true) k' fun d1 r1 S1 v1 H1 g1 _ R1 is1 st1 k1 => ?_⟩
  refine ⟨g1, r1, S1, R1, okB.bindE (qb := true) k1 fun d2 r2 S2 v2 H2 g2 _ R2 is2 st2 k2 => ?_⟩
  cases hd : F d1 d2 with
  | none => rw [hd] at k2; exact k2.elim
  | some d =>
    obtain ⟨kb, rfl⟩ := hF _ _ _ hd
    rw [hd] at k2
    refine ⟨g2, r2, S2, σ, d1, d2, _, R2, is1.carry R2.sub st2 hq, is2.isV, hd, fun v' H' g' R' is' _ st' => ?_⟩
    cases is'
    exact ⟨kb, rfl, k2 H' g' R' st'⟩
theorem dt_cmp {F : D → D → Option D} {op : CmpOp} (ho : OpR X (compareOp op) (rOf T X.K F)) (hF : ∀ x y d, F x y = some d → ∃ k, d = .bl k) (ha : DE X T qa ra a ma) (hb : DE X T qb rb b mb) (hq : ra = false ∨ qb = true) (hm : behindInMarks op b = false) : DT X T (qa && (qb && true)) (.Compare a [op] [b] pos) (mTru (mBin F ma mb)) := fun W tk =>
  ptImp (pt_cmpR ho (ha W tk) (hb W tk) hm) fun σ H Q h => tTestOf hq h hF
theorem dt_not (h : DT X T qa a ta) : DT X T (qa && true) (.UnaryOp .Not a pos) (mNot ta) := fun W tk =>
  ptImp (pt_not (h W tk)) fun σ H Q ⟨g, r, S, R, k⟩ => ⟨g, r, S, R, okB.bindB (qb := true) k fun b1 r1 S1 H1 g1 _ R1 st1 k1 => k1 H1 g1 R1 Stp.refl⟩
theorem dw_and1 (h : DT X T qa a ta) : DW X T qa (.BoolOp .And [a] pos) ta := fun W tk => pw_and1 (h W tk)
theorem dw_or1 (h : DT X T qa a ta) : DW X T qa (.BoolOp .Or [a] pos) ta := fun W tk => pw_or1 (h W tk)
theorem dw_and (ha : DT X T qa a ta) (hb : DW X T qb (.BoolOp .And (b :: rest) pos) tb) : DW X T (qa && qb) (.BoolOp .And (a :: b :: rest) pos) (mAnd ta tb) := fun W tk =>
  pwImp (pw_and (ha W tk) (hb W tk)) fun σ H Q ⟨g, r, S, R, k⟩ => by
    refine ⟨g, r, S, R, okB.bindB (qb := qb) k fun b1 r1 S1 H1 g1 _ R1 st1 k1 => ?_⟩
    cases b1 with
    | true => exact (if_pos rfl).mpr ⟨g1, r1, S1, R1, k1⟩
    | false => exact (if_neg Bool.false_ne_true).mpr (k1 H1 g1 R1 Stp.refl)
theorem dw_or (ha : DT X T qa a ta) (hb : DW X T qb (.BoolOp .Or (b :: rest) pos) tb) : DW X T (qa && qb) (.BoolOp .Or (a :: b :: rest) pos) (mOr ta tb) := fun W tk =>
  pwImp (pw_or (ha W tk) (hb W tk)) fun σ H Q ⟨g, r, S, R, k⟩ => by
    refine ⟨g, r, S, R, okB.bindB (qb := qb) k fun b1 r1 S1 H1 g1 _ R1 st1 k1 => ?_⟩
    cases b1 with
    | true => exact (if_pos rfl).mpr (k1 H1 g1 R1 Stp.refl)
    | false => exact (if_neg Bool.false_ne_true).mpr ⟨g1, r1, S1, R1, k1⟩
theorem IsR.wk {K : PySem.W.Frag} {H : Hp} {g : Gh} {n : Nat} {v : V} (hrab : ra = true → rb = true) : ∀ {d : D}, IsR K ra H g n v d → IsR K rb H g n v d
  | .bor _, ⟨a, vs, e, h, hs, h3, hw⟩ => ⟨a, vs, e, h, hs, h3, hw.imp id fun ⟨r, h1, h2⟩ => ⟨r, h1, h2.imp hrab id⟩⟩
  | .own _, h => h
  | .non, h => h
  | .bl _, h => h
  | .int _, h => h
  | .str _, h => h
  | .tup _, h => h
  | .lst _, h => h
  | .dct _, h => h
  | .ob _, h => h
  | .exc _ _, h => h
  | .scr _, h => h
theorem de_ifE (hc : DT X T qc c tc) (ha : DE X T qa ra a ma) (hb : DE X T qb rb b mb) : DE X T (qc && (qa && qb)) (ra || rb) (.IfExp c a b pos) (mIfE tc ma mb) := fun W tk =>
  peImp (pe_ifExp (hc W tk) (ha W tk) (hb W tk)) fun σ H Q ⟨g, r, S, R, k⟩ => by
    refine ⟨g, r, S, R, okE.bindB (qb := qa && qb) k fun b1 r1 S1 H1 g1 _ R1 st1 k1 => ?_⟩
    cases b1 with
    | true =>
      refine (if_pos rfl).mpr ⟨g1, r1, S1, R1, ?_⟩
      have k2 : okE T X.K (qa && qb) (ra || rb) H1 g1 S1.length σ (ma r1 S1) Q W := k1
      cases e : ma r1 S1 with
      | ok d r2 S2 => rw [e] at k2; exact fun v H' g' x y z w => k2 v H' g' x (y.wk (fun h => by rw [h]; rfl)) z (w.weak fun h => (Bool.and_eq_true_iff.mp h).1)
      | exc x r2 S2 => rw [e] at k2; exact fun H' g' dd x y z => k2 H' g' dd x (y.weak fun h => (Bool.and_eq_true_iff.mp h).1) z
      | no => rw [e] at k2; exact k2
    | false =>
      refine (if_neg Bool.false_ne_true).mpr ⟨g1, r1, S1, R1, ?_⟩
      have k2 : okE T X.K (qa && qb) (ra || rb) H1 g1 S1.length σ (mb r1 S1) Q W := k1
      cases e : mb r1 S1 with
      | ok d r2 S2 => rw [e] at k2; exact fun v H' g' x y z w => k2 v H' g' x (y.wk (fun h => by rw [h, Bool.or_true])) z (w.weak fun h => (Bool.and_eq_true_iff.mp h).2)
      | exc x r2 S2 => rw [e] at k2; exact fun H' g' dd x y z => k2 H' g' dd x (y.weak fun h => (Bool.and_eq_true_iff.mp h).2) z
      | no => rw [e] at k2; exact k2
theorem de_one {op : BoolOp} (h : DE X T qa ra a ma) : DE X T qa ra (.BoolOp op [a] pos) ma := fun W tk => pe_one (h W tk)
end
end DD

set_option Elab.async false
set_option linter.all false
set_option maxRecDepth 100000
set_option maxHeartbeats 4000000
namespace DD
open PySem PySem.Spec PyProof.Rows L2

def nst : Expr → Bool
  | .Starred _ _ => false
  | _ => true
theorem starC {e : Expr} {es : List Expr} {env : Env} (h : nst e = true) : starEach (e :: es) env = (false, eval e env) :: starEach es env := by
  cases e <;> first | rfl | (cases h)
theorem starAny {pos : Pos} {env : Env} : ∀ {es : List Expr}, es.all nst = true → (backTo pos (starEach es env)).any (·.1) = false
  | [], _ => rfl
  | e :: es, h => by
    rw [List.all_cons, Bool.and_eq_true_iff] at h
    rw [starC h.1]
    show (false || (backTo pos (starEach es env)).any (·.1)) = false
    rw [starAny h.2]; rfl

def NoSl (g : Gh) : Prop := ∀ a i, g.W a ≠ some (.slot i)
def noSl (g : Gh) : Gh := { g with W := fun a => match g.W a with
  | some (.slot _) => some (.tmp true)
  | x => x }
def mNil : M (List D) := M.ret []
def mCons (a : M D) (b : M (List D)) : M (List D) := M.bind a fun x => M.bind b fun xs => M.ret (x :: xs)
def frO : D → Bool
  | .own _ => false
  | .bor _ => false
  | _ => true
def arO : D → Bool
  | .own _ => false
  | _ => true
section
variable {X : Cx} {T : Tb} {qa qb ra rb : Bool} {e : Expr} {es : List Expr} {ma : M D} {mb : M (List D)} {pos : Pos}
theorem IsAs.nil {K : PySem.W.Frag} {H0 H : Hp} {g0 g : Gh} {n : Nat} : IsAs K H0 g0 H g n [] [] := ⟨rfl, fun k v d a => by simp at a, fun j k v x y _ a => by simp at a⟩
theorem da_nil : DA X T true [] mNil := fun W tk => paImp pa_nil fun σ H Q ⟨g, r, S, R, k⟩ => k [] H g R .nil Stp.refl
theorem IsR.isF {K : PySem.W.Frag} {H : Hp} {g : Gh} {n : Nat} {v : V} {d : D} (h : IsR K ra H g n v d) (h1 : frO d = true) : IsF K g.G g.io n v d := by
  cases d with
  | own xs => cases h1
  | bor xs => cases h1
  | _ => exact h
theorem IsR.isP {K : PySem.W.Frag} {H : Hp} {g : Gh} {n : Nat} {v : V} {d : D} (h : IsR K false H g n v d) (h1 : arO d = true) : IsP K H (noSl g) n v d := by
  cases d with
  | own xs => cases h1
  | bor xs =>
    obtain ⟨a, vs, e, h, hs, h3, hw⟩ := h
    refine ⟨a, vs, e, h, hs, h3, ?_⟩
    rcases hw with hw | ⟨r, hr, hc⟩
    · exact .inl hw
    · refine .inr ?_
      show (match g.W a with | some (.slot _) => some (Rt.tmp true) | x => x) = some (.tmp true)
      rcases hc with z | ⟨i, z⟩ | z
      · cases z
      · subst z
        rw [hr]
      · subst z
        rw [hr]
  | _ => exact h
theorem IsAs.tail {K : PySem.W.Frag} {H0 H : Hp} {g0 g : Gh} {n : Nat} {v : V} {d : D} {vs : List V} {ds : List D} (h : IsAs K H0 g0 H g n (v :: vs) (d :: ds)) : IsAs K H0 g0 H g n vs ds :=
  ⟨by simpa using h.len, fun k w x a b => h.at_ (k + 1) w x (by simpa using a) (by simpa using b), fun j k w x y hjk a b c e => h.ne (j + 1) (k + 1) w x y (by omega) (by simpa using a) (by simpa using b) (by simpa using c) (by simpa using e)⟩
theorem IsAs.isFs {K : PySem.W.Frag} {H0 H : Hp} {g0 g : Gh} {n : Nat} : ∀ {vs : List V} {ds : List D}, IsAs K H0 g0 H g n vs ds → ds.all frO = true → IsFs K g.G g.io n vs ds
  | [], [], _, _ => .nil
  | v :: vs, d :: ds, h, f => by
    rw [List.all_cons, Bool.and_eq_true_iff] at f
    exact .cons ((h.at_ 0 v d rfl rfl).1.isF f.1) (IsAs.isFs h.tail f.2)
  | [], d :: ds, h, _ => by have z := h.len; simp at z
  | v :: vs, [], h, _ => by have z := h.len; simp at z
theorem IsAs.isPs {K : PySem.W.Frag} {H0 H : Hp} {g0 g : Gh} {n : Nat} : ∀ {vs : List V} {ds : List D}, IsAs K H0 g0 H g n vs ds → ds.all arO = true → IsPs K H (noSl g) n vs ds
  | [], [], _, _ => .nil
  | v :: vs, d :: ds, h, f => by
    rw [List.all_cons, Bool.and_eq_true_iff] at f
    exact .cons ((h.at_ 0 v d rfl rfl).1.isP f.1) (IsAs.isPs h.tail f.2)
  | [], d :: ds, h, _ => by have z := h.len; simp at z
  | v :: vs, [], h, _ => by have z := h.len; simp at z
theorem IsAs.ofFs {K : PySem.W.Frag} {H0 H : Hp} {g0 g : Gh} {n : Nat} {vs : List V} {ds : List D} (h : IsFs K g.G g.io n vs ds) : IsAs K H0 g0 H g n vs ds := by
  refine ⟨h.length, fun k v d a b => ?_, fun j k v x y _ a b c d => ?_⟩
  · obtain ⟨w, e, f⟩ := h.get b
    rw [a] at e; cases e
    exact ⟨IsR.ofF f, FrO.ofF f⟩
  · obtain ⟨w, e, f⟩ := h.get c
    cases f
theorem IsAs.carry {K : PySem.W.Frag} {H0 H H1 : Hp} {g0 g g1 : Gh} {n n1 : Nat} {q : Bool} {vs : List V} {ds : List D} (hs1 : Sub g1.G H1) (st : Stp q true H g n H1 g1 n1) (h : IsAs K H0 g0 H g n vs ds) : IsAs K H0 g0 H1 g1 n1 vs ds :=
  ⟨h.len, fun k v d a b => ⟨(h.at_ k v d a b).1.carryR hs1 st, (h.at_ k v d a b).2⟩, h.ne⟩
theorem IsAs.cons {K : PySem.W.Frag} {H0 H1 H2 : Hp} {g0 g1 g2 : Gh} {n n1 n2 : Nat} {q q0 : Bool} {v : V} {d : D} {vs : List V} {ds : List D} (h : IsR K false H1 g1 n1 v d) (fo : FrO H0 g0 v d) (hs2 : Sub g2.G H2) (st : Stp q true H1 g1 n1 H2 g2 n2) (hs : IsAs K H1 g1 H2 g2 n2 vs ds) (st0 : Stp q0 true H0 g0 n H1 g1 n1) : IsAs K H0 g0 H2 g2 n2 (v :: vs) (d :: ds) := by
  refine ⟨by simp [hs.len], fun k w x a b => ?_, fun j k w x y hjk a b c e => ?_⟩
  · cases k with
    | zero => simp at a b; subst a b; exact ⟨h.carryR hs2 st, fo⟩
    | succ k => exact (hs.back st0).at_ k w x (by simpa using a) (by simpa using b)
  · cases k with
    | zero => exact absurd hjk (Nat.not_lt_zero _)
    | succ k =>
      cases j with
      | succ j => exact hs.ne j k w x y (by omega) (by simpa using a) (by simpa using b) (by simpa using c) (by simpa using e)
      | zero =>
        simp at a c
        subst a c
        obtain ⟨l, us, e1, h1, h2, h3, h4, h5⟩ := h
        rcases (hs.at_ k _ _ (by simpa using b) (by simpa using e)).2 y rfl l e1 with z | ⟨i, z⟩
        · rw [h1] at z; cases z
        · rw [h4] at z; cases z
theorem IsAs.app {K : PySem.W.Frag} {H0 H : Hp} {g0 g : Gh} {n : Nat} {vs ws : List V} {ds es : List D} (h : IsFs K g.G g.io n vs ds) (hs : IsAs K H0 g0 H g n ws es) : IsAs K H0 g0 H g n (vs ++ ws) (ds ++ es) := by
  have a := IsAs.ofFs (H0 := H0) (g0 := g0) (H := H) h
  have no : ∀ (k : Nat) x, ds[k]? ≠ some (.own x) := fun k x e => by
    obtain ⟨w, _, f⟩ := h.get e
    cases f
  refine ⟨by simp [h.length, hs.len], fun k v d e1 e2 => ?_, fun j k v x y hjk e1 e2 e3 e4 => ?_⟩
  · by_cases hk : k < vs.length
    · rw [List.getElem?_append_left hk] at e1
      rw [List.getElem?_append_left (by rw [← h.length]; exact hk)] at e2
      exact a.at_ k v d e1 e2
    · have hk' := Nat.le_of_not_lt hk
      rw [List.getElem?_append_right hk'] at e1
      rw [List.getElem?_append_right (by rw [← h.length]; exact hk'), ← h.length] at e2
      exact hs.at_ _ v d e1 e2
  · have side : ∀ {k : Nat} {x}, (ds ++ es)[k]? = some (.own x) → vs.length ≤ k ∧ es[k - vs.length]? = some (.own x) := fun {k x} e => by
      by_cases hk : k < ds.length
      · rw [List.getElem?_append_left hk] at e
        exact absurd e (no k x)
      · have hk' := Nat.le_of_not_lt hk
        rw [List.getElem?_append_right hk'] at e
        rw [h.length]; exact ⟨hk', e⟩
    obtain ⟨l1, f1⟩ := side e3
    obtain ⟨l2, f2⟩ := side e4
    rw [List.getElem?_append_right l1] at e1
    rw [List.getElem?_append_right l2] at e2
    exact hs.ne _ _ v x y (by omega) e1 e2 f1 f2
theorem da_cons (ha : DE X T qa false e ma) (hb : DA X T qb es mb) (hn : nst e = true) : DA X T (qa && (qb && true)) (e :: es) (mCons ma mb) := fun W tk =>
  paImp (pa_cons (ha W tk) (hb W tk) (starC hn)) fun σ H Q ⟨g, r, S, R, k⟩ => by
    refine ⟨g, r, S, R, okA.bindE (qb := qb && true) k fun d1 r1 S1 v1 H1 g1 e1 R1 is1 fo1 st1 k1 => ?_⟩
    refine ⟨g1, r1, S1, R1, okA.bindA (qb := true) k1 fun ds r2 S2 vs H2 g2 e2 R2 is2 st2 k3 => ?_⟩
    have em : mCons ma mb r S = .ok (d1 :: ds) r2 S2 := by
      unfold mCons M.bind
      rw [e1]
      simp only
      rw [e2]; rfl
    rw [em] at k
    exact k (v1 :: vs) H2 g2 R2 (IsAs.cons is1 fo1 R2.sub st2 is2 st1) (by rw [Bool.and_true]; exact st1.trans st2)
def mTup (m : M (List D)) : M D := M.bind m fun xs => if xs.all frO = true ∧ xs.length ≤ lim then M.ret (.tup xs) else M.fail
def mLst (m : M (List D)) : M D := M.bind m fun xs => if xs.all frO = true ∧ xs.length ≤ lim then M.ret (.own xs) else M.fail
theorem de_tup {x1} (h : DA X T qa es mb) : DE X T (qa && true) false (.Tuple es x1 pos) (mTup mb) := fun W tk =>
  peImp (pe_tup (h W tk)) fun σ H Q ⟨g, r, S, R, k⟩ => by
    refine ⟨g, r, S, R, okE.bindA (qb := true) k fun ds r1 S1 vs H1 g1 _ R1 is1 st1 k1 => ?_⟩
    split at k1
    · rename_i hl
      have is2 := is1.isFs hl.1
      refine ⟨by rw [is2.length]; exact lim_le hl.2, fun p hp => ?_⟩
      obtain ⟨a, b, c⟩ := finTup (q := true) R1 hp is2
      exact k1 _ _ _ a (IsR.ofF b) (FrO.ofF b) c
    · exact k1.elim
theorem de_lst (h : DA X T qa es mb) : DE X T (qa && true) false (.List es pos) (mLst mb) := fun W tk =>
  peImp (pe_lst (h W tk)) fun σ H Q ⟨g, r, S, R, k⟩ => by
    refine ⟨g, r, S, R, okE.bindA (qb := true) k fun ds r1 S1 vs H1 g1 _ R1 is1 st1 k1 => ?_⟩
    split at k1
    · rename_i hl
      have is2 := is1.isFs hl.1
      refine ⟨by rw [is2.length]; exact lim_le hl.2, fun p hp => ?_⟩
      obtain ⟨a, b, c, d⟩ := finOwn (q := true) (rb := false) R1 hp is2
      exact k1 _ _ _ a b c d
    · exact k1.elim
def mArr (m : M (List D)) : M D := M.bind m fun xs => if xs.all frO = true ∧ xs.length ≤ lim then (fun r S => .ok (.ob S.length) r (S ++ [.arr xs])) else M.fail
def mStar (a : M D) (b : M (List D)) : M (List D) := M.bind a fun x => match seqD x with
  | some ys => M.bind b fun xs => M.ret (ys ++ xs)
  | none => M.fail
theorem da_star {sp : Pos} (ha : DE X T qa ra e ma) (hb : DA X T qb es mb) : DA X T (qa && (qb && true)) (.Starred e sp :: es) (mStar ma mb) := fun W tk =>
  paImp (StX.pa_star (ha W tk) (hb W tk)) fun σ H Q ⟨g, r, S, R, k⟩ => by
    refine ⟨g, r, S, R, okA.bindE (qb := qb && true) k fun d1 r1 S1 v1 H1 g1 e1 R1 is1 _ st1 k1 => ?_⟩
    cases es : seqD d1 with
    | none => rw [es] at k1; exact k1.elim
    | some ys =>
      simp only [es] at k1
      obtain ⟨a, vs, e2, h2, h3⟩ := seqD_V R1.sub es (is1.isV)
      refine ⟨a, vs, e2, h2.symm, ?_⟩
      refine ⟨g1, r1, S1, R1, okA.bindA (qb := true) k1 fun ds r2 S2 ws H2 g2 e2 R2 is2 st2 k3 => ?_⟩
      have em : mStar ma mb r S = .ok (ys ++ ds) r2 S2 := by
        unfold mStar M.bind
        rw [e1]
        simp only [es]
        rw [e2]; rfl
      rw [em] at k
      exact k (vs ++ ws) H2 g2 R2 (IsAs.app (st2.isFs h3) (is2.back st1)) (by rw [Bool.and_true]; exact st1.trans st2)
end

def idxD : D → D → Option D
  | .str s, .int i => if s.length ≤ lim then (atI s.cps.toList i).map fun c => .str ⟨#[c]⟩ else none
  | x, .int i => match seqD x with
    | some xs => atI xs i
    | none => none
  | _, _ => none
def cutG {α : Type} (xs : List α) (lo hi : Option Int) : List α := (xs.drop (HT.sIx xs.length 0 lo)).take (HT.sIx xs.length xs.length hi - HT.sIx xs.length 0 lo)
def sliceD (lo hi : Option Int) : D → Option D
  | .str s => if s.length ≤ lim then some (.str (cutS s lo hi)) else none
  | .tup xs => some (.tup (cutG xs lo hi))
  | .lst xs => some (.own (cutG xs lo hi))
  | .own xs => some (.own (cutG xs lo hi))
  | .bor xs => some (.own (cutG xs lo hi))
  | .scr xs => some (.own (cutG xs lo hi))
  | _ => none
theorem IsFs.cut {K : PySem.W.Frag} {G : Hp} {io : Nat → Addr} {n : Nat} {vs : List V} {ds : List D} (h : IsFs K G io n vs ds) (lo hi : Option Int) : IsFs K G io n (cutV vs lo hi) (cutG ds lo hi) := by
  unfold cutV cutG
  rw [h.length]
  exact (h.drop _).take _
theorem IsFs.atI {K : PySem.W.Frag} {G : Hp} {io : Nat → Addr} {n : Nat} {vs : List V} {ds : List D} {i : Int} {d : D} (h : IsFs K G io n vs ds) (e : atI ds i = some d) : ∃ v, L2.atI vs i = some v ∧ IsF K G io n v d := by
  unfold L2.atI at e ⊢
  rw [h.length]
  cases e1 : ixN ds.length i with
  | none => rw [e1] at e; cases e
  | some j =>
    rw [e1] at e
    exact h.get e
theorem cutG_all {α : Type} {xs : List α} {lo hi : Option Int} (h : HT.sIx xs.length 0 lo = 0 ∧ HT.sIx xs.length xs.length hi = xs.length) : cutG xs lo hi = xs := by
  unfold cutG
  rw [h.1, h.2, List.drop_zero, Nat.sub_zero, List.take_length]
section
variable {X : Cx} {T : Tb} {qa qb qc ra rb rc : Bool} {a b : Expr} {ma mb mc : M D} {pos : Pos}
theorem ix_D : IxR X (rOf T X.K idxD) := by
  intro value slice pins s σ H x y v u Q I rx ry ⟨g, r, S, σ0, dx, dy, d, R, ix, iy, hF, k⟩ hs
  unfold idxD at hF
  split at hF
  · cases ix; cases iy
    split at hF
    · rename_i hl
      obtain ⟨c, e1, e2⟩ := Option.map_eq_some_iff.mp hF
      subst e2
      exact ix_seq value slice pins s σ H _ _ v u Q I rx ry (.inr (.inr ⟨_, _, c, rfl, rfl, lim_le hl, e1, k.f R (.str _)⟩)) hs
    · cases hF
  · cases iy
    split at hF
    · rename_i xs e1
      obtain ⟨p, vs, rfl, h1, h2⟩ := seqD_V R.sub e1 ix
      obtain ⟨z, e3, e4⟩ := h2.atI hF
      refine ix_seq value slice pins s σ H _ _ v u Q I rx ry ?_ hs
      rcases h1 with h1 | h1
      · exact .inl ⟨p, vs, _, z, rfl, rfl, h1, e3, k.f R e4⟩
      · exact .inr (.inl ⟨p, vs, _, z, rfl, rfl, h1, e3, k.f R e4⟩)
    · cases hF
  · cases hF
theorem de_ix (ha : DE X T qa ra a ma) (hb : DE X T qb rb b mb) (hq : ra = false ∨ qb = true) (hs : PlainIx b) : DE X T (qa && (qb && true)) false (.Subscript a b pos) (mBin idxD ma mb) := fun W tk =>
  peImp (pe_ix ix_D (ha W tk) (hb W tk) hs) fun σ H Q h => tOpOf (r2 := rOf T X.K idxD) hq h
def rSlD (T : Tb) (K : PySem.W.Frag) : V → Option Int → Option Int → Hp → VK → Prop := fun x lo hi H Q => ∃ g r S σ0 dx d, Rep T K H g r S σ0 ∧ IsV K H g S.length x dx ∧ sliceD lo hi dx = some d ∧ KQ T K H g r S σ0 d Q
theorem sl_D : SlR X (rSlD T X.K) := by
  intro pins s σ H x v vl vu lo hi sl Q I rx hs pl pu ⟨g, r, S, σ0, dx, d, R, ix, hF, k⟩
  have go : ∀ {a vs ds}, x = .ref a → SqL X.K H a vs → IsFs X.K g.G g.io S.length vs ds → d = .own (cutG ds lo hi) → ∃ T id, typeLookup (.type T) "__getitem__" = pure (some (.builtin id)) ∧ s.TypeIs v T ∧ wpAny (model X.prog X.w) X.A (getItem v (.ref sl)) (EP X pins σ Q) X.xe s := by
    rintro a vs ds rfl h1 h2 rfl
    exact sl_list pins s σ H _ v vl vu lo hi sl Q I rx hs pl pu ⟨a, vs, rfl, h1, fun p hp => k.own R hp (h2.cut lo hi)⟩
  cases dx with
  | str z =>
    cases ix
    simp only [sliceD] at hF
    split at hF
    · rename_i hl
      cases hF
      exact sl_str pins s σ H _ v vl vu lo hi sl Q I rx hs pl pu ⟨z, rfl, lim_le hl, k.f R (.str _)⟩
    · cases hF
  | tup ds =>
    cases hF
    cases ix with
    | tup h1 h2 =>
      rename_i a vs
      refine sl_tupA pins s σ H _ v vl vu lo hi sl Q I rx hs pl pu ⟨a, vs, rfl, R.sub.sqT h1, fun e => ?_, fun e p hp => k.tup R hp (h2.cut lo hi)⟩
      rw [h2.length] at e
      rw [cutG_all e] at k
      exact k.f R (.tup h1 h2)
  | lst ds =>
    cases hF
    cases ix with
    | lst h1 h2 => exact go rfl (SqL.of (R.sub _ _ h1)) h2 rfl
  | own ds =>
    cases hF
    obtain ⟨a, vs, e, h1, h2⟩ := ix
    exact go e (SqL.of h1) h2 rfl
  | bor ds =>
    cases hF
    obtain ⟨a, vs, e, h1, h2⟩ := ix
    exact go e (SqL.of h1) h2 rfl
  | scr ds =>
    cases hF
    cases ix with
    | scr h1 h2 => exact go rfl (R.sub.sqL h1) h2 rfl
  | non => cases hF
  | bl _ => cases hF
  | int _ => cases hF
  | dct _ => cases hF
  | ob _ => cases hF
  | exc _ _ => cases hF
def DO (X : Cx) (T : Tb) (q : Bool) (e : Option Expr) (m : M (Option Int)) : Prop := ∀ W, Takes X W → ∃ t : TO, PO X e t ∧ ∀ σ H g r S (Q : Option Int → Hp → Prop), Rep T X.K H g r S σ →
  (match m r S with
    | .ok o r1 S1 => ∀ H1 g1, Rep T X.K H1 g1 r1 S1 σ → Stp q true H g S.length H1 g1 S1.length → Q o H1
    | .exc e r S' => ∀ H' g' dd, Rep T X.K H' g' r S' σ → Stp q true H g S.length H' g' S'.length → ExR X.K H' g' S'.length e.fs dd → W (.ref (He.ga X.K e.c)) dd σ H'
    | .no => False) → t σ H Q
def mPart (m : M D) : M (Option Int) := M.bind m fun x => match x with
  | .int i => M.ret (some i)
  | _ => M.fail
theorem do_none : DO X T true none (M.ret none) := fun W tk => ⟨_, po_none, fun σ H g r S Q R k => k H g R Stp.refl⟩
theorem do_some (h : DE X T qa ra a ma) : DO X T qa (some a) (mPart ma) := fun W tk => ⟨_, po_some (h W tk), fun σ H g r S Q R k => by
  refine ⟨g, r, S, R, ?_⟩
  unfold mPart M.bind at k
  cases e : ma r S with
  | ok d r1 S1 =>
    rw [e] at k
    intro v H' g' R' is' _ st'
    cases d with
    | int i => cases is'; exact ⟨i, rfl, k H' g' R' st'⟩
    | _ => exact k.elim
  | exc x r1 S1 => rw [e] at k; exact k
  | no => rw [e] at k; exact k⟩
def mSl (ma : M D) (ml mh : M (Option Int)) : M D := M.bind ma fun x => M.bind ml fun lo => M.bind mh fun hi => lift (sliceD lo hi x)
theorem okE.bindO {K : PySem.W.Frag} {H : Hp} {g : Gh} {n : Nat} {σ : L2.St} {Q : VK} {W : WX} {r : Rho} {S : Sto} {m : M (Option Int)} {f : Option Int → M D} (h : okE T K (qa && qb) rb H g n σ (M.bind m f r S) Q W) :
    match m r S with
    | .ok o r1 S1 => ∀ H1 g1, Stp qa true H g n H1 g1 S1.length → okE T K qb rb H1 g1 S1.length σ (f o r1 S1) Q W
    | .exc e r S' => ∀ H' g' dd, Rep T K H' g' r S' σ → Stp qa true H g n H' g' S'.length → ExR K H' g' S'.length e.fs dd → W (.ref (He.ga K e.c)) dd σ H'
    | .no => False := by
  unfold M.bind at h
  cases e : m r S with
  | ok d r1 S1 => rw [e] at h; exact fun H1 g1 st => okE.after st h
  | exc x r1 S1 =>
    rw [e] at h
    exact fun H' g' dd a b c => h H' g' dd a (b.weak fun z => (Bool.and_eq_true_iff.mp z).1) c
  | no => rw [e] at h; exact h
theorem de_slice {lo hi : Option Expr} {ml mh : M (Option Int)} {p2 : Pos} (ha : DE X T qa ra a ma) (hl : DO X T qb lo ml) (hh : DO X T qc hi mh) (hq : ra = false ∨ (qb && qc) = true) : DE X T (qa && (qb && (qc && true))) false (.Subscript a (.Slice lo hi none p2) pos) (mSl ma ml mh) := fun W tk => by
  obtain ⟨tl, pl, kl⟩ := hl W tk
  obtain ⟨th, ph, kh⟩ := hh W tk
  refine peImp (pe_slice (sl_D (T := T)) (ha W tk) pl ph) fun σ H Q ⟨g, r, S, R, k⟩ => ?_
  refine ⟨g, r, S, R, okE.bindE (qb := qb && (qc && true)) k fun d1 r1 S1 v1 H1 g1 _ R1 is1 st1 k1 => ?_⟩
  refine kl σ H1 g1 r1 S1 _ R1 ?_
  have z := okE.bindO k1
  cases e : ml r1 S1 with
  | ok o r2 S2 =>
    rw [e] at z
    intro H2 g2 R2 st2
    refine kh σ H2 g2 r2 S2 _ R2 ?_
    have z2 := okE.bindO (z H2 g2 st2)
    cases e2 : mh r2 S2 with
    | ok o2 r3 S3 =>
      rw [e2] at z2
      intro H3 g3 R3 st3
      have k3 := z2 H3 g3 st3
      obtain ⟨d, hd⟩ := lift_none k3
      refine ⟨g3, r3, S3, σ, d1, d, R3, is1.carry R3.sub (st2.trans st3) hq, hd, KQ.of hd k3⟩
    | exc x r3 S3 => rw [e2] at z2; exact z2
    | no => rw [e2] at z2; exact z2
  | exc x r2 S2 => rw [e] at z; exact z
  | no => rw [e] at z; exact z
end

def rC1 (T : Tb) (K : PySem.W.Frag) (F : D → Option D) : List V → Hp → VK → Prop := fun xs H Q => ∃ x, xs = [x] ∧ rOf1 T K F x H Q
def rC2 (T : Tb) (K : PySem.W.Frag) (F : D → D → Option D) : List V → Hp → VK → Prop := fun xs H Q => ∃ x y, xs = [x, y] ∧ rOf T K F x y H Q
section
variable {X : Cx} {T : Tb} {qa qb ra rb : Bool} {a b e : Expr} {ma mb : M D} {p pos : Pos} {F : D → Option D} {F2 : D → D → Option D} {x : Str} {id : String}
theorem tCB1 {W : WX} {σ : L2.St} {H : Hp} {Q : VK} (h : teOf T X.K (qa && true) false (mUn F ma) W σ H Q) : tCB (rC1 T X.K F) (tCons (teOf T X.K qa ra ma W) tNil) σ H Q := by
  obtain ⟨g, r, S, R, k⟩ := h
  refine ⟨g, r, S, R, okE.bindE (qb := true) k fun d1 r1 S1 v1 H1 g1 _ R1 is1 st1 k1 => ?_⟩
  obtain ⟨d, hd⟩ := lift_none k1
  exact ⟨v1, rfl, g1, r1, S1, σ, d1, d, R1, is1.isV, hd, KQ.of hd k1⟩
theorem de_b1 (hc : CallR X (.builtin id) (rC1 T X.K F)) (hg : Gl X x) (hm : X.mg x = none) (hv : bootBuiltins x = some (.builtin id)) (hne : x ≠ "__name__") (hd : (x == ("__debug__" : Str)) = false) (ha : DE X T qa ra e ma) (hn : nst e = true) :
    DE X T (qa && true) false (.Call (.Name x p) [e] [] pos) (mUn F ma) := fun W tk =>
  peImp (pe_callB hc hg hm hv (pa_cons (ha W tk) pa_nil (starC hn)) hne hd (starC hn) rfl) fun σ H Q h => tCB1 h
theorem de_t1 (hc : CallR X (.type id) (rC1 T X.K F)) (hg : Gl X x) (hm : X.mg x = none) (hv : bootBuiltins x = some (.type id)) (hne : x ≠ "__name__") (hd : (x == ("__debug__" : Str)) = false) (ha : DE X T qa ra e ma) (hn : nst e = true) :
    DE X T (qa && true) false (.Call (.Name x p) [e] [] pos) (mUn F ma) := fun W tk =>
  peImp (pe_callTy hc hg hm hv (pa_cons (ha W tk) pa_nil (starC hn)) hne hd (starC hn) rfl) fun σ H Q h => tCB1 h
theorem de_b2 (hc : CallR X (.builtin id) (rC2 T X.K F2)) (hg : Gl X x) (hm : X.mg x = none) (hv : bootBuiltins x = some (.builtin id)) (hne : x ≠ "__name__") (hd : (x == ("__debug__" : Str)) = false) (ha : DE X T qa ra a ma) (hb : DE X T qb rb b mb) (hq : ra = false ∨ qb = true) (hn : nst a = true) (hn2 : nst b = true) :
    DE X T (qa && (qb && true)) false (.Call (.Name x p) [a, b] [] pos) (mBin F2 ma mb) := fun W tk =>
  peImp (pe_callB hc hg hm hv (pa_cons (ha W tk) (pa_cons (hb W tk) pa_nil (starC hn2)) (starC hn)) hne hd (starC hn) (starAny (by simp [hn2]))) fun σ H Q ⟨g, r, S, R, k⟩ => by
    refine ⟨g, r, S, R, okE.bindE (qb := qb && true) k fun d1 r1 S1 v1 H1 g1 _ R1 is1 st1 k1 => ?_⟩
    refine ⟨g1, r1, S1, R1, okE.bindE (qb := true) k1 fun d2 r2 S2 v2 H2 g2 _ R2 is2 st2 k2 => ?_⟩
    obtain ⟨d, hd⟩ := lift_none k2
    exact ⟨v1, v2, rfl, g2, r2, S2, σ, d1, d2, d, R2, is1.carry R2.sub st2 hq, is2.isV, hd, KQ.of hd k2⟩
end
def lenD : D → Option D
  | .str s => if s.length ≤ lim then some (.int s.length) else none
  | .scr xs => some (.int xs.length)
  | x => (seqD x).map fun xs => .int xs.length
def listOfD (x : D) : Option D := (seqD x).map .own
def tupOfD (x : D) : Option D := (seqD x).map .tup
def intOfD : D → Option D
  | .int i => some (.int i)
  | .bl b => some (.int (if b then 1 else 0))
  | _ => none
def boolOfD : D → Option D
  | .int i => some (.bl (i != 0))
  | .bl b => some (.bl b)
  | _ => none
def absD : D → Option D
  | .int i => some (.int (if i < 0 then -i else i))
  | _ => none
def max2D : D → D → Option D
  | .int i, .int j => some (.int (if j > i then j else i))
  | _, _ => none
def min2D : D → D → Option D
  | .int i, .int j => some (.int (if j < i then j else i))
  | _, _ => none
def boolsD : List D → Option (List Bool)
  | [] => some []
  | .bl b :: r => (boolsD r).map (b :: ·)
  | _ => none
def allD (x : D) : Option D := match listD x with
  | some xs => (boolsD xs).map fun bs => .bl (bs.all id)
  | none => none
def anyD (x : D) : Option D := match listD x with
  | some xs => (boolsD xs).map fun bs => .bl (bs.any id)
  | none => none
def strOfD : D → Option D
  | .int i => if i.natAbs.log2 < 1920 then some (.str (toString i)) else none
  | .str s => some (.str s)
  | _ => none
def reprD (x : D) : Option D := match toP x with
  | some p => if p.showable && !p.hasDict && decide (p.depth ≤ 40) && decide (p.shown.length ≤ sizeLine) then some (.str p.shown) else none
  | none => none
section
variable {X : Cx} {T : Tb}
theorem cb_len : CallR X (.builtin "len") (rC1 T X.K lenD) := by
  intro pins s σ H xs us Q I r ⟨x, e, g, ρ, S, σ0, dx, d, R, ix, hF, k⟩
  subst e
  unfold lenD at hF
  split at hF
  · cases ix
    split at hF
    · rename_i hl
      cases hF
      exact call_len_str pins s σ H _ us Q I r ⟨_, rfl, lim_le hl, k.f R (.int _)⟩
    · cases hF
  · cases hF
    cases ix with
    | scr h1 h2 => exact call_len_seq pins s σ H _ us Q I r ⟨_, _, rfl, .inl (R.sub.sqL h1), by rw [h2.length]; exact k.f R (.int _)⟩
  · obtain ⟨ds, e1, e2⟩ := Option.map_eq_some_iff.mp hF
    subst e2
    obtain ⟨p, vs, rfl, h1, h2⟩ := seqD_V R.sub e1 ix
    exact call_len_seq pins s σ H _ us Q I r ⟨p, vs, rfl, h1, by rw [h2.length]; exact k.f R (.int _)⟩
theorem cb_list : CallR X (.type "list") (rC1 T X.K listOfD) := by
  intro pins s σ H xs us Q I r ⟨x, e, g, ρ, S, σ0, dx, d, R, ix, hF, k⟩
  subst e
  obtain ⟨ds, e1, e2⟩ := Option.map_eq_some_iff.mp hF
  subst e2
  obtain ⟨p, vs, rfl, h1, h2⟩ := seqD_V R.sub e1 ix
  exact call_list_of pins s σ H _ us Q I r ⟨p, vs, rfl, h1, fun l hl => k.own R hl h2⟩
theorem cb_tuple : CallR X (.type "tuple") (rC1 T X.K tupOfD) := by
  intro pins s σ H xs us Q I r ⟨x, e, g, ρ, S, σ0, dx, d, R, ix, hF, k⟩
  subst e
  obtain ⟨ds, e1, e2⟩ := Option.map_eq_some_iff.mp hF
  subst e2
  have go : ∀ {a vs}, x = .ref a → SqL X.K H a vs → IsFs X.K g.G g.io S.length vs ds → wpAny (model X.prog X.w) X.A (call (.type "tuple") us) (EP X pins σ Q) X.xe s := by
    rintro a vs rfl h1 h2
    exact call_tuple_of pins s σ H _ us Q I r ⟨a, vs, rfl, .inl ⟨h1, fun l hl => k.tup R hl h2⟩⟩
  cases dx with
  | tup xs =>
    cases e1
    cases ix with
    | tup h1 h2 => exact call_tuple_of pins s σ H _ us Q I r ⟨_, _, rfl, .inr ⟨R.sub.sqT h1, k.f R (.tup h1 h2)⟩⟩
  | lst xs =>
    cases e1
    cases ix with
    | lst h1 h2 => exact go rfl (SqL.of (R.sub _ _ h1)) h2
  | own xs =>
    cases e1
    obtain ⟨a, vs, e, h1, h2⟩ := ix
    exact go e (SqL.of h1) h2
  | bor xs =>
    cases e1
    obtain ⟨a, vs, e, h1, h2⟩ := ix
    exact go e (SqL.of h1) h2
  | _ => cases e1
theorem cb_int : CallR X (.type "int") (rC1 T X.K intOfD) := by
  intro pins s σ H xs us Q I r ⟨x, e, g, ρ, S, σ0, dx, d, R, ix, hF, k⟩
  subst e
  unfold intOfD at hF
  split at hF
  · cases ix; cases hF
    exact call_int1 pins s σ H _ us Q I r (.inl ⟨_, rfl, k.f R (.int _)⟩)
  · cases ix; cases hF
    exact call_int1 pins s σ H _ us Q I r (.inr ⟨_, rfl, k.f R (.int _)⟩)
  · cases hF
theorem cb_bool : CallR X (.type "bool") (rC1 T X.K boolOfD) := by
  intro pins s σ H xs us Q I r ⟨x, e, g, ρ, S, σ0, dx, d, R, ix, hF, k⟩
  subst e
  unfold boolOfD at hF
  split at hF
  · cases ix; cases hF
    exact call_bool1 pins s σ H _ us Q I r (.inl ⟨_, rfl, k.f R (.bl _)⟩)
  · cases ix; cases hF
    exact call_bool1 pins s σ H _ us Q I r (.inr ⟨_, rfl, k.f R (.bl _)⟩)
  · cases hF
theorem cb_abs : CallR X (.builtin "abs") (rC1 T X.K absD) := by
  intro pins s σ H xs us Q I r ⟨x, e, g, ρ, S, σ0, dx, d, R, ix, hF, k⟩
  subst e
  unfold absD at hF
  split at hF
  · cases ix; cases hF
    exact call_abs pins s σ H _ us Q I r ⟨_, rfl, k.f R (.int _)⟩
  · cases hF
theorem cb_max2 (hc : X.calm = true) : CallR X (.builtin "max") (rC2 T X.K max2D) := by
  intro pins s σ H xs us Q I r ⟨x, y, e, g, ρ, S, σ0, dx, dy, d, R, ix, iy, hF, k⟩
  subst e
  unfold max2D at hF
  split at hF
  · cases ix; cases iy; cases hF
    exact call_max2 hc pins s σ H _ us Q I r ⟨_, _, rfl, k.f R (.int _)⟩
  · cases hF
theorem cb_min2 (hc : X.calm = true) : CallR X (.builtin "min") (rC2 T X.K min2D) := by
  intro pins s σ H xs us Q I r ⟨x, y, e, g, ρ, S, σ0, dx, dy, d, R, ix, iy, hF, k⟩
  subst e
  unfold min2D at hF
  split at hF
  · cases ix; cases iy; cases hF
    exact call_min2 hc pins s σ H _ us Q I r ⟨_, _, rfl, k.f R (.int _)⟩
  · cases hF
theorem boolsD_V {K : PySem.W.Frag} {G : Hp} {io : Nat → Addr} {n : Nat} : ∀ {ds : List D} {vs : List V} {bs : List Bool}, boolsD ds = some bs → IsFs K G io n vs ds → vs = bs.map V.bl
  | [], _, _, e, h => by cases e; cases h; rfl
  | .bl b :: r, _, _, e, h => by
    simp only [boolsD] at e
    obtain ⟨ms, e1, rfl⟩ := Option.map_eq_some_iff.mp e
    cases h with
    | cons h1 h2 =>
      cases h1
      rw [boolsD_V e1 h2]; rfl
  | .non :: _, _, _, e, _ => by cases e
  | .int _ :: _, _, _, e, _ => by cases e
  | .str _ :: _, _, _, e, _ => by cases e
  | .tup _ :: _, _, _, e, _ => by cases e
  | .lst _ :: _, _, _, e, _ => by cases e
  | .own _ :: _, _, _, e, _ => by cases e
  | .bor _ :: _, _, _, e, _ => by cases e
  | .dct _ :: _, _, _, e, _ => by cases e
  | .ob _ :: _, _, _, e, _ => by cases e
  | .exc _ _ :: _, _, _, e, _ => by cases e
  | .scr _ :: _, _, _, e, _ => by cases e
theorem cb_all (hc : X.calm = true) : CallR X (.builtin "all") (rC1 T X.K allD) := by
  intro pins s σ H xs us Q I r ⟨x, e, g, ρ, S, σ0, dx, d, R, ix, hF, k⟩
  subst e
  unfold allD at hF
  split at hF
  · rename_i ds e1
    obtain ⟨bs, e2, e3⟩ := Option.map_eq_some_iff.mp hF
    subst e3
    obtain ⟨a, vs, rfl, h1, h2⟩ := listD_V R.sub e1 ix
    have q := boolsD_V e2 h2
    subst q
    exact cr_all hc pins s σ H _ us Q I r ⟨a, bs, rfl, SqL.of h1, k.f R (.bl _)⟩
  · cases hF
theorem cb_any (hc : X.calm = true) : CallR X (.builtin "any") (rC1 T X.K anyD) := by
  intro pins s σ H xs us Q I r ⟨x, e, g, ρ, S, σ0, dx, d, R, ix, hF, k⟩
  subst e
  unfold anyD at hF
  split at hF
  · rename_i ds e1
    obtain ⟨bs, e2, e3⟩ := Option.map_eq_some_iff.mp hF
    subst e3
    obtain ⟨a, vs, rfl, h1, h2⟩ := listD_V R.sub e1 ix
    have q := boolsD_V e2 h2
    subst q
    exact cr_any hc pins s σ H _ us Q I r ⟨a, bs, rfl, SqL.of h1, k.f R (.bl _)⟩
  · cases hF
theorem cb_str : CallR X (.type "str") (rC1 T X.K strOfD) := by
  intro pins s σ H xs us Q I r ⟨x, e, g, ρ, S, σ0, dx, d, R, ix, hF, k⟩
  subst e
  unfold strOfD at hF
  split at hF
  · cases ix
    split at hF
    · rename_i hl
      cases hF
      exact call_str_int pins s σ H _ us Q I r ⟨_, rfl, hl, k.f R (.str _)⟩
    · cases hF
  · cases ix; cases hF
    exact SkE.call_str_str pins s σ H _ us Q I r ⟨_, rfl, k.f R (.str _)⟩
  · cases hF
theorem cb_repr (hg : X.A.guards = some []) (hu : X.A.units + 64 < cLine) : CallR X (.builtin "repr") (rC1 T X.K reprD) := by
  intro pins s σ H xs us Q I r ⟨x, e, g, ρ, S, σ0, dx, d, R, ix, hF, k⟩
  subst e
  unfold reprD at hF
  split at hF
  · rename_i p e1
    split at hF
    · rename_i hh
      cases hF
      simp only [Bool.and_eq_true, decide_eq_true_eq, Bool.not_eq_true'] at hh
      obtain ⟨⟨⟨h1, h2⟩, h3⟩, h4⟩ := hh
      have dp := ix.dp R.sub e1
      cases r with
      | cons rx rn =>
        rename_i u us'
        cases rn
        have fin : ∀ (h' : Heap) (u' : Tok) (tk : Nat), (∀ b o, s.heap.get? b = some o → h'.get? b = some o) → EP X pins σ Q (.str p.shown u') { s with heap := h', toks := tk } := fun h' u' tk hk => ⟨.str _, H, I.kept hk, ⟨_, rfl⟩, k.f R (.str _)⟩
        obtain ⟨as, rd⟩ := dp.reads I p x u rx
        cases rd with
        | none => exact PySem.P.repr_of_none (by rw [← show (PyData.none).shown = ("None" : Str) by simp only [PyData.shown]]; exact fin s.heap _ _ fun _ _ z => z)
        | bool b => exact PySem.P.repr_of_bool (by
            have z := fin s.heap s.toks (s.toks + 1) fun _ _ z => z
            have e0 : (PyData.bool b).shown = (if b then "True" else "False" : Str) := by simp only [PyData.shown]
            rw [e0] at z
            cases b <;> exact z)
        | int i t => exact PySem.P.repr_of_int (by simpa [PyData.showable] using h1) (by
            have z := fin s.heap s.toks (s.toks + 1) fun _ _ z => z
            have e0 : (PyData.int i).shown = ((toString i : String) : Str) := by simp only [PyData.shown]
            rw [e0] at z
            exact z)
        | str y t =>
          have e0 : (PyData.str y).shown = reprText y := by simp only [PyData.shown]
          rw [e0] at h4 fin
          exact PySem.P.repr_of_str (fin s.heap s.toks (s.toks + 1) fun _ _ z => z) h4
        | list a1 a2 a3 a4 =>
          exact repr_of_reads' (h₀ := s.heap) (Reads.list a1 a2 a3 a4) h1 (fun z => by rw [h2] at z; cases z) hg (by omega) (fun _ _ z => z) (fun h' u' tk hk => fin h' u' tk hk) h4
        | tuple a1 a2 a3 a4 =>
          exact repr_of_reads' (h₀ := s.heap) (Reads.tuple a1 a2 a3 a4) h1 (fun z => by rw [h2] at z; cases z) hg (by omega) (fun _ _ z => z) (fun h' u' tk hk => fin h' u' tk hk) h4
        | dict a1 a2 a3 a4 a5 => simp [PyData.hasDict] at h2
    · cases hF
  · cases hF
end
end DD

set_option Elab.async false
set_option linter.all false
set_option maxRecDepth 100000
set_option maxHeartbeats 4000000
namespace DD
open PySem PySem.Spec PyProof.Rows L2

abbrev Fn := List D → Sto → Out D
def backW (g g' : Gh) : Gh := { g' with W := fun a => match g.W a with
  | some (.slot i) => some (.slot i)
  | _ => g'.W a }
theorem noSl_eq {g : Gh} {a : Addr} : (noSl g).W a = match g.W a with
    | some (.slot _) => some (.tmp true)
    | x => x := rfl
theorem noSl_slot {g : Gh} {a : Addr} {i : Nat} (h : g.W a = some (.slot i)) : (noSl g).W a = some (.tmp true) := by rw [noSl_eq, h]
theorem noSl_else {g : Gh} {a : Addr} (h : ∀ i, g.W a ≠ some (.slot i)) : (noSl g).W a = g.W a := by
  rw [noSl_eq]
  cases e : g.W a with
  | none => rfl
  | some x =>
    cases x with
    | slot i => exact absurd e (h i)
    | fld k f => rfl
    | tmp b => rfl
theorem noSl_fld {g : Gh} {a : Addr} {k : Nat} {f : Str} (h : g.W a = some (.fld k f)) : (noSl g).W a = some (.fld k f) := by rw [noSl_eq, h]
theorem noSl_tmp {g : Gh} {a : Addr} {b : Bool} (h : g.W a = some (.tmp b)) : (noSl g).W a = some (.tmp b) := by rw [noSl_eq, h]
theorem noSl_of {g : Gh} {a : Addr} {r : Rt} (h : (noSl g).W a = some r) : (g.W a = some r ∧ ∀ i, r ≠ .slot i) ∨ (r = .tmp true ∧ ∃ i, g.W a = some (.slot i)) := by
  rw [noSl_eq] at h
  cases e : g.W a with
  | none => rw [e] at h; cases h
  | some x =>
    rw [e] at h
    cases x with
    | slot i => cases h; exact .inr ⟨rfl, i, rfl⟩
    | fld k f => cases h; exact .inl ⟨rfl, fun i z => by cases z⟩
    | tmp b => cases h; exact .inl ⟨rfl, fun i z => by cases z⟩
theorem noSl_some {g : Gh} {a : Addr} {r : Rt} (h : (noSl g).W a = some r) : ∃ x, g.W a = some x := by
  rcases noSl_of h with z | ⟨_, i, z⟩
  · exact ⟨_, z.1⟩
  · exact ⟨_, z⟩
theorem noSl_no (g : Gh) : NoSl (noSl g) := fun a i h => by
  rcases noSl_of h with z | ⟨z, _⟩
  · exact z.2 i rfl
  · cases z
theorem backW_slot {g g' : Gh} {a : Addr} {i : Nat} (h : g.W a = some (.slot i)) : (backW g g').W a = some (.slot i) := by
  show (match g.W a with | some (.slot i) => some (Rt.slot i) | _ => g'.W a) = _
  rw [h]
theorem backW_else {g g' : Gh} {a : Addr} (h : ∀ i, g.W a ≠ some (.slot i)) : (backW g g').W a = g'.W a := by
  show (match g.W a with | some (.slot i) => some (Rt.slot i) | _ => g'.W a) = _
  cases e : g.W a with
  | none => rfl
  | some x =>
    cases x with
    | slot i => exact absurd e (h i)
    | fld k f => rfl
    | tmp b => rfl
theorem backW_of {g g' : Gh} {a : Addr} {r : Rt} (h : (backW g g').W a = some r) : (∃ i, r = .slot i ∧ g.W a = some (.slot i)) ∨ (g'.W a = some r ∧ ∀ i, g.W a ≠ some (.slot i)) := by
  by_cases e : ∃ i, g.W a = some (.slot i)
  · obtain ⟨i, e⟩ := e
    rw [backW_slot e] at h
    cases h
    exact .inl ⟨i, rfl, e⟩
  · have ne : ∀ i, g.W a ≠ some (.slot i) := fun i z => e ⟨i, z⟩
    rw [backW_else ne] at h
    exact .inr ⟨h, ne⟩
section
variable (T : Tb) (K : PySem.W.Frag)
def okF (q : Bool) (H : Hp) (g : Gh) (n : Nat) (o : Out D) (Q : VK) (E : XK) : Prop := match o with
  | .ok d r S => ∀ v H' g', Rep T K H' g' [] S [] → NoSl g' → IsR K false H' g' S.length v d → FrO H g v d → Stp q true H g n H' g' S.length → Q v H'
  | .exc e r S => ∀ H' g' dd, Rep T K H' g' [] S [] → NoSl g' → Stp q true H g n H' g' S.length → ExR K H' g' S.length e.fs dd → E (.ref (He.ga K e.c)) dd H'
  | .no => False
def spD (q : Bool) (φ : Fn) (np : Nat) (vs : List V) (H : Hp) (Q : VK) (E : XK) : Prop := ∃ g ds S, Rep T K H g [] S [] ∧ NoSl g ∧ IsPs K H g S.length vs ds ∧ ds.length = np ∧ okF T K q H g S.length (φ ds S) Q E
end
def callM (φ : Fn) (ds : List D) : M D := fun r S => match φ ds S with
  | .ok (.bor _) _ _ => .no
  | .ok d _ S' => .ok d r S'
  | .exc e _ S' => .exc e r S'
  | .no => .no
section
variable {T : Tb} {K : PySem.W.Frag} {q : Bool} {H H' : Hp} {g g' : Gh} {r : Rho} {S S' : Sto} {σ : L2.St} {n' : Nat}
theorem Rep.inn (R : Rep T K H g r S σ) : Rep T K H (noSl g) [] S [] where
  sub := R.sub
  len := rfl
  slot := fun i d h => by simp at h
  obj := fun k o ho => by
    have h := R.obj k o ho
    cases o with
    | ins c fs =>
      obtain ⟨dx, vs, h1, h2⟩ := h
      exact ⟨dx, vs, h1, h2.weak (g := g) (g' := noSl g) (fun _ _ _ _ h => h) (fun _ _ h => noSl_fld h) (Sub.refl _) (fun _ _ => rfl) (Nat.le_refl _)⟩
    | arr ds => exact h
    | tab ds => exact h
  inj := R.inj
  apG := R.apG
  apW := fun k hk => by
    have z := R.apW k hk
    show (noSl g).W (g.io k) = none
    rw [noSl_eq, z]
  gw := fun a rt h => by
    obtain ⟨x, hx⟩ := noSl_some h
    exact R.gw a x hx
  wd := fun a rt h => by
    obtain ⟨x, hx⟩ := noSl_some h
    exact R.wd a x hx
  bse := R.bse.step (Sub.refl _) (fun _ _ => rfl) (Nat.le_refl _)
theorem noslot (st : Stp q true H (noSl g) S.length H' g' n') {a : Addr} {x : Rt} (h : g'.W a = some x) (hx : x ≠ .tmp true) : ∀ i, g.W a ≠ some (.slot i) := fun i e => by
  have z := st.tm a true (noSl_slot e)
  rw [h] at z
  cases z
  exact hx rfl
theorem Stp.out (R : Rep T K H g r S σ) (st : Stp q true H (noSl g) S.length H' g' n') : Stp q true H g S.length H' (backW g g') n' where
  kp := fun a o ho hc => by
    rcases hc with ⟨z, _⟩ | ⟨z1, z2⟩
    · exact st.kp a o ho (.inl ⟨z, .inl rfl⟩)
    · refine st.kp a o ho (.inr ⟨z1, fun r hr => ?_⟩)
      rcases noSl_of hr with ⟨w, w2⟩ | ⟨w, _⟩
      · rcases z2 r w with e | ⟨_, i, e⟩
        · exact .inl e
        · exact absurd e (w2 i)
      · exact .inl ⟨_, w⟩
  dm := st.dm
  gm := st.gm
  im := st.im
  nm := st.nm
  nf := st.nf
  om := fun a x hx => by
    rcases backW_of hx with ⟨i, e, z⟩ | ⟨z, ns⟩
    · subst e; exact .inl z
    · rcases st.om a x z with w | ⟨w, _⟩ | w
      · rw [noSl_else ns] at w; exact .inl w
      · cases w
      · exact .inr (.inr w)
  fm := fun a o ho => by
    rcases st.fm a o ho with w | ⟨x, w, w2⟩ | w
    · exact .inl w
    · rcases noSl_of w with ⟨z, _⟩ | ⟨z, _⟩
      · exact .inr (.inl ⟨x, z, w2⟩)
      · exact absurd z (w2 true)
    · exact .inr (.inr w)
  tm := fun a b h => by
    rw [backW_else (fun i z => by rw [h] at z; cases z)]
    exact st.tm a b (noSl_tmp h)
  wm := fun _ a i h => .inl (backW_slot h)
theorem Rep.outSub (R : Rep T K H g r S σ) (R' : Rep T K H' g' [] S' []) (st : Stp q true H (noSl g) S.length H' g' S'.length) : Sub (backW g g').G H' := R'.sub
theorem Rep.out (R : Rep T K H g r S σ) (R' : Rep T K H' g' [] S' []) (st : Stp q true H (noSl g) S.length H' g' S'.length) : Rep T K H' (backW g g') r S' σ where
  sub := R'.sub
  len := R.len
  slot := fun i d hd => by
    obtain ⟨v, h1, h2⟩ := R.slot i d hd
    exact ⟨v, h1, h2.weak (g := g) (g' := backW g g') (fun a o hw ho => st.kp a o ho (.inr ⟨R.neI hw, fun r hr => by rw [noSl_slot hw] at hr; cases hr; exact .inl ⟨_, rfl⟩⟩)) (fun a hw => backW_slot hw) (Bst.of (Rep.outSub R R' st) (fun a o hw ho => st.kp a o ho (.inr ⟨R.neI hw, fun r hr => by rw [noSl_tmp hw] at hr; cases hr; exact .inl ⟨_, rfl⟩⟩)) (fun a hw => (Stp.out R st).tm a _ hw) st.gm st.im st.nm st.nf)⟩
  obj := fun k o ho => by
    have h := R'.obj k o ho
    cases o with
    | ins c fs =>
      obtain ⟨dx, vs, h1, h2⟩ := h
      exact ⟨dx, vs, h1, h2.weak (g := g') (g' := backW g g') (fun _ _ _ _ h => h) (fun a f h => (backW_else (noslot st h fun z => by cases z)).trans h) (Sub.refl _) (fun _ _ => rfl) (Nat.le_refl _)⟩
    | arr ds => exact h
    | tab ds => exact h
  inj := R'.inj
  apG := R'.apG
  apW := fun k hk => by
    cases e : (backW g g').W (g'.io k) with
    | none => exact e
    | some x =>
      rcases backW_of e with ⟨i, _, z⟩ | ⟨z, _⟩
      · by_cases hkn : k < S.length
        · have w := R.apW k hkn
          have q : g'.io k = g.io k := st.im k hkn
          rw [← q, z] at w; cases w
        · have w := st.nf k (Nat.le_of_not_lt hkn) hk
          obtain ⟨o, q⟩ := R.wd _ _ z
          rw [w] at q; cases q
      · have w := R'.apW k hk
        rw [z] at w; cases w
  gw := fun a rt h => by
    rcases backW_of h with ⟨i, _, z⟩ | ⟨z, _⟩
    · cases e : g'.G a with
      | none => exact e
      | some o =>
        rcases st.fm a o e with w | ⟨r, w, w2⟩ | w
        · have q := R.gw a _ z
          have w' : g.G a = some o := w
          rw [q] at w'; cases w'
        · rw [noSl_slot z] at w; cases w; exact absurd rfl (w2 true)
        · obtain ⟨o, q⟩ := R.wd _ _ z
          rw [w] at q; cases q
    · exact R'.gw a rt z
  wd := fun a rt h => by
    rcases backW_of h with ⟨i, _, z⟩ | ⟨z, _⟩
    · obtain ⟨o, q⟩ := R.wd _ _ z
      exact st.dm a o q
    · exact R'.wd a rt z
  bse := R.bse.step st.gm st.im st.nm
theorem IsR.out (R : Rep T K H g r S σ) (st : Stp q true H (noSl g) S.length H' g' n') {v : V} {d : D} (h : IsR K false H' g' n' v d) (fo : FrO H (noSl g) v d) (nb : ∀ xs, d ≠ .bor xs) : IsR K false H' (backW g g') n' v d ∧ FrO H g v d := by
  have fr : ∀ xs, d = .own xs → ∀ a, v = .ref a → H a = none := fun xs e a ea => by
    rcases fo xs e a ea with z | ⟨i, z⟩
    · exact z
    · exact absurd z (noSl_no g a i)
  refine ⟨?_, fun xs e a ea => .inl (fr xs e a ea)⟩
  cases d with
  | own xs =>
    obtain ⟨a, vs, e, h1, h2, h3, h4, h5⟩ := h
    have z := fr xs rfl a e
    exact ⟨a, vs, e, h1, h2, h3, (backW_else fun i w => by obtain ⟨o, q⟩ := R.wd a _ w; rw [z] at q; cases q).trans h4, h5⟩
  | bor xs => exact absurd rfl (nb xs)
  | _ => exact h
theorem okF_of {φ : Fn} {ds : List D} {Q : VK} {W : WX} (R : Rep T K H g r S σ) (k : okE T K q false H g S.length σ (callM φ ds r S) Q W) : okF T K q H (noSl g) S.length (φ ds S) Q (fun cls d H' => W cls d σ H') := by
  unfold callM at k
  cases e : φ ds S with
  | ok d r1 S1 =>
    rw [e] at k
    intro v H' g' R' nb is fo st
    by_cases hb : ∃ xs, d = .bor xs
    · obtain ⟨xs, rfl⟩ := hb
      exact k.elim
    · obtain ⟨i1, i2⟩ := IsR.out R st is fo fun xs e => hb ⟨xs, e⟩
      cases d with
      | bor xs => exact absurd ⟨xs, rfl⟩ hb
      | _ => exact k v H' (backW g g') (R.out R' st) i1 i2 (Stp.out R st)
  | exc x r1 S1 =>
    rw [e] at k
    intro H' g' dd R' nb st ex
    exact k H' (backW g g') dd (R.out R' st) (Stp.out R st) (ex.mono (g := g') (g' := backW g g') (Sub.refl _) (fun _ _ => rfl) (Nat.le_refl _))
  | no => rw [e] at k; exact k
end

structure FnG (P : Program) (w : World) (T : Tb) (K : PySem.W.Frag) (mg : Str → Option Value) (base : Heap) (q : Bool) (k : Nat) (f : Addr) (fd : FuncData) (ps : List Str) (φ : Fn) : Prop where
  run : ∀ (A : Around) (outer : List Env) (s : Shared) (H : Hp) (args : Args) (us : List Value) (vs : List V) (Q : VK) (E : XK), Room k A → A.guards = some [] → Env0 P w K mg base A outer s H → BindsTo s fd args (ps.zip us) → Vals vs us → spD T K q φ ps.length vs H Q E →
    codeAny (model P w) A (.call (.ref f) args) (CR (L2.CX P w) outer P w H s Q E) s
inductive Src where
  | p (i : Nat)
  | k (j : Nat)
  | d (j : Nat)
def src1 {α : Type} (us ws ds : List α) : Src → Option α
  | .p i => us[i]?
  | .k j => ws[j]?
  | .d j => ds[j]?
def arr {α : Type} (us ws ds : List α) : List Src → Option (List α)
  | [] => some []
  | s :: r => match src1 us ws ds s, arr us ws ds r with
    | some x, some xs => some (x :: xs)
    | _, _ => none
structure BindA (K : PySem.W.Frag) (fd : FuncData) (ps : List Str) (n : Nat) (ks : List Str) (src : List Src) (dds : List D) : Prop where
  ex : ∃ dv : List V, ∃ du : List Value, Vals dv du ∧ IsFs K (fun _ => none) (fun _ => 0) 0 dv dds ∧ ∀ (s : Shared) (us ws : List Value) (xs : List Value), K.In s.heap → us.length = n → ws.length = ks.length → arr us ws du src = some xs → BindsTo s fd ⟨us, ks.zip ws⟩ (ps.zip xs)
theorem arr_rel {α β : Type} {P : α → β → Prop} {us ws ds : List α} {us' ws' ds' : List β} (h1 : ∀ (i : Nat) x, us[i]? = some x → ∃ y, us'[i]? = some y ∧ P x y) (h2 : ∀ (i : Nat) x, ws[i]? = some x → ∃ y, ws'[i]? = some y ∧ P x y) (h3 : ∀ (i : Nat) x, ds[i]? = some x → ∃ y, ds'[i]? = some y ∧ P x y) :
    ∀ {src : List Src} {xs : List α}, arr us ws ds src = some xs → ∃ ys, arr us' ws' ds' src = some ys ∧ xs.length = ys.length ∧ ∀ (i : Nat) x y, xs[i]? = some x → ys[i]? = some y → P x y
  | [], _, e => by cases e; exact ⟨[], rfl, rfl, fun i x y h => by simp at h⟩
  | s :: r, xs, e => by
    simp only [arr] at e
    cases er : arr us ws ds r with
    | none => rw [er] at e; cases hs : src1 us ws ds s <;> (rw [hs] at e; cases e)
    | some zs =>
      obtain ⟨ys, e1, e2, e3⟩ := arr_rel h1 h2 h3 er
      cases hs : src1 us ws ds s with
      | none => rw [hs] at e; cases e
      | some x =>
        rw [hs, er] at e
        cases e
        have go : ∃ y, src1 us' ws' ds' s = some y ∧ P x y := by
          cases s with
          | p i => exact h1 i x hs
          | k i => exact h2 i x hs
          | d i => exact h3 i x hs
        obtain ⟨y, q1, q2⟩ := go
        refine ⟨y :: ys, by simp only [arr]; rw [q1, e1], by simp [e2], fun i a b ha hb => ?_⟩
        cases i with
        | zero => simp at ha hb; subst ha hb; exact q2
        | succ i => exact e3 i a b (by simpa using ha) (by simpa using hb)
theorem vals_of_get : ∀ {vs : List V} {us : List Value}, vs.length = us.length → (∀ (i : Nat) x y, vs[i]? = some x → us[i]? = some y → RelV x y) → Vals vs us
  | [], [], _, _ => .nil
  | v :: vs, u :: us, e, h => .cons (h 0 v u rfl rfl) (vals_of_get (by simpa using e) fun i x y a b => h (i + 1) x y (by simpa using a) (by simpa using b))
section
variable {X : Cx} {T : Tb} {q : Bool} {k n : Nat} {f : Addr} {fd : FuncData} {ps ks : List Str} {φ : Fn} {W : WX} {src : List Src} {dds : List D}
theorem runG {pins : List (Addr × Obj)} {σ : L2.St} {H : Hp} {s : Shared} {Q : VK} {us ws : List Value} {vs zs : List V} {ds es xs : List D} {g : Gh} {r : Rho} {S : Sto} (F : FnG X.prog X.w T X.K X.mg X.base q k f fd ps φ) (hr : Room k X.A) (hgd : X.A.guards = some []) (tk : Takes X W)
    (hb : BindA X.K fd ps n ks src dds) (I : Inv X pins σ H s) (ru : Vals vs us) (rw_ : Vals zs ws) (R : Rep T X.K H g r S σ) (h1 : IsPs X.K H (noSl g) S.length vs ds) (h2 : IsPs X.K H (noSl g) S.length zs es) (hn : ds.length = n) (hk : es.length = ks.length) (ha : arr ds es dds src = some xs) (hl : xs.length = ps.length)
    (hq : okE T X.K q false H g S.length σ (callM φ xs r S) Q W) : wpAny (model X.prog X.w) X.A (call (.ref f) us (ks.zip ws)) (EP X pins σ Q) X.xe s := by
  obtain ⟨dv, du, b1, b2, b3⟩ := hb.ex
  have b2' : IsPs X.K H (noSl g) S.length dv dds := IsPs.ofF (b2.mono (fun _ _ h => by cases h) (fun _ h => absurd h (Nat.not_lt_zero _)) (Nat.zero_le _))
  obtain ⟨ys, a1, a2, a3⟩ := arr_rel (P := fun d v => IsP X.K H (noSl g) S.length v d) (us' := vs) (ws' := zs) (ds' := dv) (fun i x e => h1.get e) (fun i x e => h2.get e) (fun i x e => b2'.get e) ha
  obtain ⟨ts, c1, c2, c3⟩ := arr_rel (P := RelV) (us' := us) (ws' := ws) (ds' := du) (fun i x e => Vals.get ru e) (fun i x e => Vals.get rw_ e) (fun i x e => Vals.get b1 e) a1
  have hv : Vals ys ts := vals_of_get c2 c3
  have hf : IsPs X.K H (noSl g) S.length ys xs := .of_get a2.symm fun i v d e1 e2 => a3 i d v e2 e1
  have hBind : BindsTo s fd ⟨us, ks.zip ws⟩ (ps.zip ts) := b3 s us ws ts I.kIn (by rw [← ru.length, h1.length]; exact hn) (by rw [← rw_.length, h2.length]; exact hk) c1
  have hsp : spD T X.K q φ ps.length ys H Q (fun cls d H' => W cls d σ H') := ⟨noSl g, xs, S, R.inn, noSl_no g, hf, hl, okF_of R hq⟩
  refine wpAny_call (codeAny_mono (F.run X.A X.stack s H ⟨us, ks.zip ws⟩ ts ys Q _ hr hgd I.env0 hBind hv hsp) fun o s' hz => ?_)
  cases o with
  | error e => exact tk e s' (XE.of_call I (fun _ _ _ h => h) hz)
  | ok fl =>
    cases fl with
    | ret u => exact I.after hz
    | next => exact False.elim hz
    | brk => exact False.elim hz
    | cont => exact False.elim hz
end
end DD

set_option Elab.async false
set_option linter.all false
set_option maxRecDepth 100000
set_option maxHeartbeats 4000000
namespace DD
open PySem PySem.Spec PyProof.Rows L2

def kwNames : List Keyword → Option (List Str)
  | [] => some []
  | ⟨some x, _, _⟩ :: r => (kwNames r).map (x :: ·)
  | ⟨none, _, _⟩ :: _ => none
theorem kw_facts {env : Env} {pos : Pos} : ∀ {kws : List Keyword} {ks : List Str}, kwNames kws = some ks →
    (backToKw pos (keywordEach kws env)).all (·.1.isSome) = true ∧ (backToKw pos (keywordEach kws env)).filterMap (·.1) = ks ∧ (backToKw pos (keywordEach kws env)).any (·.1.isNone) = false
  | [], _, h => by cases h; exact ⟨rfl, rfl, rfl⟩
  | ⟨some x, e, p⟩ :: r, ks, h => by
    simp only [kwNames] at h
    obtain ⟨l, h1, rfl⟩ := Option.map_eq_some_iff.mp h
    obtain ⟨a, b, c⟩ := kw_facts (env := env) (pos := pos) h1
    refine ⟨?_, ?_, ?_⟩
    · show (true && (backToKw pos (keywordEach r env)).all (·.1.isSome)) = true
      rw [a]; rfl
    · show x :: (backToKw pos (keywordEach r env)).filterMap (·.1) = x :: l
      rw [b]
    · show (false || (backToKw pos (keywordEach r env)).any (·.1.isNone)) = false
      rw [c]; rfl
  | ⟨none, _, _⟩ :: _, _, h => by cases h
def DK (X : Cx) (T : Tb) (q : Bool) (es : List Keyword) (m : M (List D)) : Prop := ∀ W, Takes X W → PK X es (taOf T X.K q m W)
theorem pkImp {X : Cx} {e : List Keyword} {t t' : TA} (h : PK X e t) (k : ∀ σ H Q, t' σ H Q → t σ H Q) : PK X e t' := ⟨fun pos pins s σ H Q I h' => h.run pos pins s σ H Q I (k σ H Q h')⟩
section
variable {X : Cx} {T : Tb} {qa qb qf ra rb : Bool} {e : Expr} {es : List Expr} {kws : List Keyword} {ma : M D} {mb mk : M (List D)} {pos p apos : Pos} {nm : Option Str}
theorem dk_nil : DK X T true [] mNil := fun W tk => pkImp pk_nil fun σ H Q ⟨g, r, S, R, k⟩ => k [] H g R .nil Stp.refl
theorem dk_cons (ha : DE X T qa false e ma) (hb : DK X T qb kws mb) : DK X T (qa && (qb && true)) (⟨nm, e, p⟩ :: kws) (mCons ma mb) := fun W tk =>
  pkImp (pk_cons (ha W tk) (hb W tk)) fun σ H Q ⟨g, r, S, R, k⟩ => by
    refine ⟨g, r, S, R, okA.bindE (qb := qb && true) k fun d1 r1 S1 v1 H1 g1 e1 R1 is1 fo1 st1 k1 => ?_⟩
    refine ⟨g1, r1, S1, R1, okA.bindA (qb := true) k1 fun ds r2 S2 vs H2 g2 e2 R2 is2 st2 k3 => ?_⟩
    have em : mCons ma mb r S = .ok (d1 :: ds) r2 S2 := by
      unfold mCons M.bind
      rw [e1]
      simp only
      rw [e2]; rfl
    rw [em] at k
    exact k (v1 :: vs) H2 g2 R2 (IsAs.cons is1 fo1 R2.sub st2 is2 st1) (by rw [Bool.and_true]; exact st1.trans st2)
theorem okE.wkq {K : PySem.W.Frag} {H : Hp} {g : Gh} {n : Nat} {σ : L2.St} {q q' : Bool} {o : Out D} {Q : VK} {W : WX} (h : okE T K q rb H g n σ o Q W) (hq : q = true → q' = true) : okE T K q' rb H g n σ o Q W := by
  cases o with
  | ok d r S => exact fun v H' g' a b c e => h v H' g' a b c (e.weak hq)
  | exc e r S => exact fun H' g' dd a b c => h H' g' dd a (b.weak hq) c
  | no => exact h
def mArgs (ma mk : M (List D)) (f : List D → List D → M D) : M D := M.bind ma fun ds => M.bind mk fun es => f ds es
theorem runCall {ks : List Str} {first : List Value} {fv : Value} {W : WX} {pins : List (Addr × Obj)} {s : Shared} {σ : L2.St} {H : Hp} {Q : VK} {g : Gh} {r : Rho} {S : Sto} {f : List D → List D → M D} (ha : DA X T qa es mb) (hk : DK X T qb kws mk) (tk : Takes X W) (hkp : PySem.W.keepIn X.K fv = true) (hes : es.all nst = true) (hks : kwNames kws = some ks)
    (I : Inv X pins σ H s) (R : Rep T X.K H g r S σ) (k : okE T X.K (qa && (qb && qf)) false H g S.length σ (mArgs mb mk f r S) Q W)
    (hc : ∀ us ws vs zs ds es' s2 H2 g2 r2 S2, Inv X pins σ H2 s2 → Vals vs us → Vals zs ws → Rep T X.K H2 g2 r2 S2 σ → IsAs X.K H g H2 g2 S2.length vs ds → IsAs X.K H g H2 g2 S2.length zs es' → Stp (qa && qb) true H g S.length H2 g2 S2.length → zs.length = ks.length → okE T X.K qf false H2 g2 S2.length σ (f ds es' r2 S2) Q W → ds.length = es.length →
      wpAny (model X.prog X.w) X.A (call fv (first ++ us) (ks.zip ws)) (EP X pins σ Q) X.xe s2)
    (hlen : ∀ r S ds r' S', mb r S = .ok ds r' S' → ds.length = es.length) (hlen2 : ∀ r S ds r' S', mk r S = .ok ds r' S' → ds.length = ks.length) (h0 : es = [] → mb = mNil) :
    wpAny (model X.prog X.w) X.A (callWith pos fv first (backTo pos (starEach es X.env)) (backToKw pos (keywordEach kws X.env))) (EP X pins σ Q) X.xe s := by
  obtain ⟨f1, f2, f3⟩ := kw_facts (env := X.env) (pos := pos) hks
  cases es with
  | nil =>
    have e0 := h0 rfl
    subst e0
    refine PySem.W.callWith_KW0 (h₀ := X.base) I.ok.mod.kin hkp f1 ?_ (by rw [f3]; rfl)
    have kk : okE T X.K (qb && qf) false H g S.length σ (M.bind mk (fun es => f [] es) r S) Q W := okE.wkq k fun h => (Bool.and_eq_true_iff.mp h).2
    have main : taOf T X.K qb mk W σ H fun zs H2 => ∃ es' g2 r2 S2, Rep T X.K H2 g2 r2 S2 σ ∧ IsAs X.K H g H2 g2 S2.length zs es' ∧ Stp qb true H g S.length H2 g2 S2.length ∧ zs.length = ks.length ∧ okE T X.K qf false H2 g2 S2.length σ (f [] es' r2 S2) Q W :=
      ⟨g, r, S, R, okE.bindA (qb := qf) kk fun es' r2 S2 zs H2 g2 e2 R2 is2 st2 k2 => ⟨es', g2, r2, S2, R2, is2, st2, by rw [is2.len]; exact hlen2 _ _ _ _ _ e2, k2⟩⟩
    refine thn ((hk W tk).run pos pins s σ H _ I main) fun ws s2 ⟨zs, H2, I2, rz, es', g2, r2, S2, R2, i2, st, hz, k2⟩ => ⟨I2.kIn, ?_⟩
    rw [f2]
    exact hc [] ws [] zs [] es' s2 H2 g2 r2 S2 I2 .nil rz R2 IsAs.nil i2 (st.weak fun h => (Bool.and_eq_true_iff.mp h).2) hz k2 rfl
  | cons e es =>
    rw [List.all_cons, Bool.and_eq_true_iff] at hes
    have main : taOf T X.K qa mb W σ H (fun vs H1 => taOf T X.K qb mk W σ H1 fun zs H2 => ∃ ds es' g2 r2 S2, Rep T X.K H2 g2 r2 S2 σ ∧ IsAs X.K H g H2 g2 S2.length vs ds ∧ IsAs X.K H g H2 g2 S2.length zs es' ∧ Stp (qa && qb) true H g S.length H2 g2 S2.length ∧ zs.length = ks.length ∧ okE T X.K qf false H2 g2 S2.length σ (f ds es' r2 S2) Q W ∧ ds.length = (e :: es).length) := by
      refine ⟨g, r, S, R, okE.bindA (qb := qb && qf) k fun ds r1 S1 vs H1 g1 e1 R1 is1 st1 k1 => ?_⟩
      refine ⟨g1, r1, S1, R1, okE.bindA (qb := qf) k1 fun es' r2 S2 zs H2 g2 e2 R2 is2 st2 k2 => ?_⟩
      exact ⟨ds, es', g2, r2, S2, R2, is1.carry R2.sub st2, is2.back st1, st1.trans st2, by rw [is2.len]; exact hlen2 _ _ _ _ _ e2, k2, hlen _ _ _ _ _ e1⟩
    refine PySem.W.callWith_KW (h₀ := X.base) I.ok.mod.kin hkp f1 (thn ((ha W tk).run pos pins s σ H _ I main) fun us s1 ⟨vs, H1, I1, ru, q1⟩ => ?_) (by rw [f3, starC hes.1]; show ((false || (backTo pos (starEach es X.env)).any (·.1)) || false) = false; rw [starAny hes.2]; rfl) (starC hes.1)
    refine thn ((hk W tk).run pos pins s1 σ H1 _ I1 q1) fun ws s2 ⟨zs, H2, I2, rz, ds, es', g2, r2, S2, R2, i1, i2, st, hz, k2, hd⟩ => ⟨I2.kIn, ?_⟩
    rw [f2]
    exact hc us ws vs zs ds es' s2 H2 g2 r2 S2 I2 ru rz R2 i1 i2 st hz k2 hd

def arrM (src : List Src) (dds : List D) (np : Nat) (ds es : List D) (f : List D → M D) : M D := match arr ds es dds src with
  | some xs => if xs.length = np ∧ ds.all arO = true ∧ es.all arO = true then f xs else M.fail
  | none => M.fail
def mCall (φ : Fn) (src : List Src) (dds : List D) (np : Nat) (ma mk : M (List D)) : M D := mArgs ma mk fun ds es => arrM src dds np ds es (callM φ)
section
variable {k n : Nat} {f : Addr} {fd : FuncData} {ps ks : List Str} {φ : Fn} {src : List Src} {dds : List D} {x : Str}
def LenA (es : List Expr) (m : M (List D)) : Prop := (∀ r S ds r' S', m r S = .ok ds r' S' → ds.length = es.length) ∧ (es = [] → m = mNil)
def LenK (ks : List Str) (m : M (List D)) : Prop := ∀ r S ds r' S', m r S = .ok ds r' S' → ds.length = ks.length
theorem LenA.nil : LenA [] mNil := ⟨fun r S ds r' S' h => by cases h; rfl, fun _ => rfl⟩
theorem bind_ok {α β : Type} {m : M α} {g : α → M β} {r r' : Rho} {S S' : Sto} {b : β} (h : M.bind m g r S = .ok b r' S') : ∃ a r1 S1, m r S = .ok a r1 S1 ∧ g a r1 S1 = .ok b r' S' := by
  unfold M.bind at h
  cases e : m r S with
  | ok a r1 S1 => rw [e] at h; exact ⟨a, r1, S1, rfl, h⟩
  | exc x r1 S1 => rw [e] at h; cases h
  | no => rw [e] at h; cases h
theorem mCons_len {ma : M D} {mb : M (List D)} {n : Nat} (h : ∀ r S ds r' S', mb r S = .ok ds r' S' → ds.length = n) : ∀ r S ds r' S', mCons ma mb r S = .ok ds r' S' → ds.length = n + 1 := fun r S ds r' S' e => by
  obtain ⟨a, r1, S1, _, e2⟩ := bind_ok e
  have fin : ∀ {x : D}, M.bind mb (fun xs => M.ret (x :: xs)) r1 S1 = .ok ds r' S' → ds.length = n + 1 := fun {x} q => by
    obtain ⟨xs, r2, S2, q1, q2⟩ := bind_ok q
    cases q2
    rw [List.length_cons, h _ _ _ _ _ q1]
  cases a <;> first | exact fin e2 | (cases e2)
theorem LenA.cons (h : LenA es mb) : LenA (e :: es) (mCons ma mb) := ⟨mCons_len h.1, fun h => by cases h⟩
theorem LenK.nil : LenK [] mNil := fun r S ds r' S' h => by cases h; rfl
theorem LenK.cons {y : Str} (h : LenK ks mk) : LenK (y :: ks) (mCons ma mk) := mCons_len h
theorem arrM_ok {K : PySem.W.Frag} {H : Hp} {g : Gh} {n0 : Nat} {σ : L2.St} {Q : VK} {W : WX} {r : Rho} {S : Sto} {np : Nat} {ds es : List D} {f : List D → M D} (h : okE T K qf false H g n0 σ (arrM src dds np ds es f r S) Q W) : ∃ xs, arr ds es dds src = some xs ∧ xs.length = np ∧ (ds.all arO = true ∧ es.all arO = true) ∧ okE T K qf false H g n0 σ (f xs r S) Q W := by
  unfold arrM at h
  cases e1 : arr ds es dds src with
  | none => rw [e1] at h; exact h.elim
  | some xs =>
    rw [e1] at h
    simp only at h
    by_cases hl : xs.length = np ∧ ds.all arO = true ∧ es.all arO = true
    · rw [if_pos hl] at h
      exact ⟨xs, rfl, hl.1, hl.2, h⟩
    · rw [if_neg hl] at h
      exact h.elim
theorem de_call (F : FnG X.prog X.w T X.K X.mg X.base qf k f fd ps φ) (hr : Room k X.A) (hgd : X.A.guards = some []) (hg : Gl X x) (hm : X.mg x = some (.ref f)) (hkp : PySem.W.keepIn X.K (.ref f) = true) (hb : BindA X.K fd ps es.length ks src dds) (hdb : (x == ("__debug__" : Str)) = false)
    (ha : DA X T qa es mb) (hk : DK X T qb kws mk) (hes : es.all nst = true) (hks : kwNames kws = some ks) (hl : LenA es mb) (hl2 : LenK ks mk) :
    DE X T (qa && (qb && qf)) false (.Call (.Name x p) es kws pos) (mCall φ src dds ps.length mb mk) := fun W tk => by
  refine ⟨fun pins s σ H Q I ⟨g, r, S, R, q⟩ => ?_⟩
  refine wpAny_Call_Name_kw (ld_glob I hg hm ?_ hdb)
  refine runCall (first := []) ha hk tk hkp hes hks I R q (fun us ws vs zs ds es' s2 H2 g2 r2 S2 I2 ru rz R2 i1 i2 _ hz q2 hd => ?_) hl.1 hl2 hl.2
  obtain ⟨xs, e1, e2, e3, q3⟩ := arrM_ok q2
  exact runG F hr hgd tk hb I2 ru rz R2 (i1.isPs e3.1) (i2.isPs e3.2) hd (by rw [← i2.len]; exact hz) e1 e2 q3
structure MethOk (X : Cx) (T : Tb) (q : Bool) (m : Str) (n : Nat) (ks : List Str) (c : Nat) (φ : Fn) (src : List Src) (dds : List D) (np : Nat) : Prop where
  ex : ∃ (k : Nat) (f : Addr) (fd : FuncData) (ps : List Str), Cls X.K (T.cA c) ∧ Meth X.K (T.cA c) m f ∧ FnG X.prog X.w T X.K X.mg X.base q k f fd ps φ ∧ Room k X.A ∧ BindA X.K fd ps (n + 1) ks src dds ∧ ps.length = np
structure MI where
  fn : Fn
  src : List Src
  dds : List D
  np : Nat
def mMeth (m : Str) (mt : Nat → Option MI) (mo : M D) (ma mk : M (List D)) : M D := M.bind (frz mo) fun x => match x with
  | .ob j => fun r S => match S[j]? with
    | some (.ins c fs) => match mt c, fs.lookup m with
      | some i, none => mArgs ma mk (fun ds es => arrM i.src i.dds i.np (.ob j :: ds) es (callM i.fn)) r S
      | _, _ => .no
    | _ => .no
  | _ => M.fail
theorem FldR0.lookup {K : PySem.W.Frag} {H : Hp} {g : Gh} {n0 j : Nat} {fn : Str} : ∀ {vs : List (Str × V)} {ds : List (Str × D)}, FldR0 K H g n0 j vs ds → (∀ d, ds.lookup fn = some d → ∃ v, vs.lookup fn = some v ∧ SlotR K H g n0 (.fld j fn) v d) ∧ (ds.lookup fn = none → vs.lookup fn = none)
  | _, _, .nil => ⟨fun d h => (by cases h), fun _ => rfl⟩
  | _, _, .cons (f := f) (v := v) (d := d) (vs := vs) (ds := ds) h hs => by
    obtain ⟨a, b⟩ := FldR0.lookup (fn := fn) hs
    by_cases e : (fn == f) = true
    · have ef : fn = f := by simpa using e
      subst ef
      refine ⟨fun d' hd => ?_, fun hd => ?_⟩
      · rw [List.lookup_cons_self] at hd
        cases hd
        exact ⟨v, List.lookup_cons_self, h⟩
      · rw [List.lookup_cons_self] at hd; cases hd
    · have ef : (fn == f) = false := by simpa using e
      refine ⟨fun d' hd => ?_, fun hd => ?_⟩
      · rw [List.lookup_cons, ef] at hd
        obtain ⟨v', h1, h2⟩ := a d' hd
        exact ⟨v', by rw [List.lookup_cons, ef]; exact h1, h2⟩
      · rw [List.lookup_cons, ef] at hd
        rw [List.lookup_cons, ef]
        exact b hd
def MForm (X : Cx) (o : Expr) (m : Str) (apos : Pos) (es : List Expr) (kws : List Keyword) (pos : Pos) : Prop := ∃ pl : Sem Bool, eval (.Call (.Attribute o m apos) es kws pos) X.env = (do
  let ov ← eval o X.env
  standAt apos.atName
  let (f, first) ← holding [ov] (getMethod ov m pl)
  callWith pos f first (backTo pos (starEach es X.env)) (backToKw pos (keywordEach kws X.env)))
theorem de_meth {o : Expr} {mo : M D} {qo ro : Bool} {m : Str} {mt : Nat → Option MI} (ho : DE X T qo ro o mo) (hM : ∀ c i, mt c = some i → MethOk X T qf m es.length ks c i.fn i.src i.dds i.np) (hgd : X.A.guards = some [])
    (ha : DA X T qa es mb) (hk : DK X T qb kws mk) (hes : es.all nst = true) (hks : kwNames kws = some ks) (hl : LenA es mb) (hl2 : LenK ks mk) (hf : MForm X o m apos es kws pos) :
    DE X T (qo && (qa && (qb && qf))) false (.Call (.Attribute o m apos) es kws pos) (mMeth m mt mo mb mk) := fun W tk => by
  obtain ⟨pl, hform⟩ := hf
  refine ⟨fun pins s σ H Q I ⟨g, r, S, R, q⟩ => ?_⟩
  refine PySem.W.methodCall_KW (pl := pl) (thn ((de_frz ho W tk).run pins s σ H _ I ⟨g, r, S, R, okE.bindE (qb := qa && (qb && qf)) q fun d r1 S1 v H1 g1 e1 R1 is1 st1 k1 => (show ∃ d g1 r1 S1, Rep T X.K H1 g1 r1 S1 σ ∧ IsR X.K ro H1 g1 S1.length v d ∧ okE T X.K (qa && (qb && qf)) false H1 g1 S1.length σ ((match d with
      | .ob j => fun r S => match S[j]? with
        | some (.ins c fs) => match mt c, fs.lookup m with
          | some i, none => mArgs mb mk (fun ds es => arrM i.src i.dds i.np (.ob j :: ds) es (callM i.fn)) r S
          | _, _ => .no
        | _ => .no
      | _ => M.fail : M D) r1 S1) Q W from ⟨d, g1, r1, S1, R1, is1, k1⟩)⟩) fun u s1 ⟨v, H1, I1, rv, d, g1, r1, S1, R1, is1, k1⟩ => ?_) hform
  cases d with
  | ob j =>
    cases is1 with
    | ob hj hio =>
      rename_i a
      obtain rfl : u = Value.ref a := rv
      simp only at k1
      cases es1 : S1[j]? with
      | none => rw [es1] at k1; exact k1.elim
      | some ob =>
        rw [es1] at k1
        cases ob with
        | arr ds => exact k1.elim
        | tab ds => exact k1.elim
        | ins c fs =>
          simp only at k1
          cases em : mt c with
          | none => rw [em] at k1; exact k1.elim
          | some i =>
            cases el : fs.lookup m with
            | some z => rw [em, el] at k1; exact k1.elim
            | none =>
              rw [em, el] at k1
              obtain ⟨k, f, fd, ps, c1, c2, c3, c4, c5, c6⟩ := (hM c i em).ex
              obtain ⟨dx, vs, hH, hF⟩ := R1.obj j _ es1
              rw [hio] at hH
              refine getmeth_ok I1 hH c1 c2 ((FldR0.lookup hF.1).2 el) ?_
              refine runCall (first := [.ref a]) ha hk tk c2.kp hes hks I1 R1 k1 (fun us ws vs zs ds es' s2 H2 g2 r2 S2 I2 ru rz R2 i1 i2 st hz q2 hd => ?_) hl.1 hl2 hl.2
              obtain ⟨xs, e1, e2, e3, q3⟩ := arrM_ok q2
              have e4 : ds.all arO = true := by simpa [arO] using e3.1
              have ia : IsF X.K g2.G g2.io S2.length (.ref a) (.ob j) := st.isF (.ob hj hio)
              exact runG (us := .ref a :: us) (vs := .ref a :: vs) (ds := .ob j :: ds) c3 c4 hgd tk c5 I2 (.cons rfl ru) rz R2 (.cons (IsP.ofF (g := noSl g2) ia) (i1.isPs e4)) (i2.isPs e3.2) (by rw [List.length_cons, hd]) (by rw [← i2.len]; exact hz) e1 (by rw [e2, c6]) q3
  | _ => exact k1.elim
end
end
end DD

set_option Elab.async false
set_option linter.all false
set_option maxRecDepth 100000
set_option maxHeartbeats 4000000
namespace DD
open PySem PySem.Spec PyProof.Rows L2

def withIo (g : Gh) (n : Nat) (x : Addr) : Gh := { g with io := fun k => if k = n then x else g.io k }
section
variable {T : Tb} {K : PySem.W.Frag} {H : Hp} {g : Gh} {r : Rho} {S : Sto} {σ : L2.St} {q : Bool}
theorem withIo_old {n k : Nat} {x : Addr} (h : k < n) : (withIo g n x).io k = g.io k := by
  show (if k = n then x else g.io k) = g.io k
  rw [if_neg (Nat.ne_of_lt h)]
theorem withIo_new {n : Nat} {x : Addr} : (withIo g n x).io n = x := by
  show (if n = n then x else g.io n) = x
  rw [if_pos rfl]
theorem Rep.add {H' : Hp} {x : Addr} {o : Ob} (R : Rep T K H g r S σ) (e : Sub H H') (hx : H x = none) (ho : ObR T K H' (withIo g S.length x) (S.length + 1) S.length o) : Rep T K H' (withIo g S.length x) r (S ++ [o]) σ where
  sub := R.sub.trans e
  len := R.len
  slot := fun i d hd => by
    obtain ⟨v, h1, h2⟩ := R.slot i d hd
    exact ⟨v, h1, h2.weak (g := g) (g' := withIo g S.length x) (fun a o _ => e a o) (fun _ h => h) (Bst.of (R.sub.trans e) (fun a o _ => e a o) (fun _ h => h) (Sub.refl _) (fun k hk => withIo_old hk) (by rw [List.length_append]; exact Nat.le_add_right _ _) fun k k1 k2 => by
      have e2 : k = S.length := by
        rw [List.length_append] at k2
        have : k < S.length + 1 := k2
        omega
      subst e2
      rw [withIo_new]; exact hx)⟩
  obj := fun k ob hk => by
    have hl : (S ++ [o]).length = S.length + 1 := by rw [List.length_append]; rfl
    by_cases hkl : k < S.length
    · rw [List.getElem?_append_left hkl] at hk
      have h := R.obj k ob hk
      cases ob with
      | ins c fs =>
        obtain ⟨dx, vs, h1, h2⟩ := h
        exact ⟨dx, vs, by rw [withIo_old hkl]; exact e _ _ h1, h2.weak (g := g) (g' := withIo g S.length x) (fun a o _ _ => e a o) (fun _ _ h => h) (Sub.refl _) (fun k hk => withIo_old hk) (by rw [hl]; exact Nat.le_succ _)⟩
      | arr ds =>
        obtain ⟨vs, h1, h2⟩ := h
        exact ⟨vs, by rw [withIo_old hkl]; exact e _ _ h1, h2.mono (Sub.refl _) (fun k hk => withIo_old hk) (by rw [hl]; exact Nat.le_succ _)⟩
      | tab ds =>
        obtain ⟨vs, h1, h2⟩ := h
        exact ⟨vs, by rw [withIo_old hkl]; exact e _ _ h1, h2.mono (Sub.refl _) (fun k hk => withIo_old hk) (by rw [hl]; exact Nat.le_succ _)⟩
    · have e1 : k = S.length := by
        have := (List.getElem?_eq_some_iff.mp hk).1
        rw [hl] at this
        omega
      subst e1
      rw [List.getElem?_append_right (Nat.le_refl _), Nat.sub_self] at hk
      cases hk
      rw [hl]; exact ho
  inj := fun j k hj hk ejk => by
    have hl : (S ++ [o]).length = S.length + 1 := by rw [List.length_append]; rfl
    rw [hl] at hj hk
    have old : ∀ j, j < S.length → (withIo g S.length x).io j ≠ x := fun j hj z => by
      rw [withIo_old hj] at z
      exact R.newI hx j hj z
    by_cases h1 : j < S.length <;> by_cases h2 : k < S.length
    · rw [withIo_old h1, withIo_old h2] at ejk; exact R.inj j k h1 h2 ejk
    · have e2 : k = S.length := by omega
      subst e2
      rw [withIo_new] at ejk
      exact absurd ejk (old j h1)
    · have e2 : j = S.length := by omega
      subst e2
      rw [withIo_new] at ejk
      exact absurd ejk.symm (old k h2)
    · omega
  apG := fun k hk => by
    have hl : (S ++ [o]).length = S.length + 1 := by rw [List.length_append]; rfl
    rw [hl] at hk
    by_cases h1 : k < S.length
    · rw [withIo_old h1]; exact R.apG k h1
    · have e2 : k = S.length := by omega
      subst e2
      rw [withIo_new]; exact R.newG hx
  apW := fun k hk => by
    have hl : (S ++ [o]).length = S.length + 1 := by rw [List.length_append]; rfl
    rw [hl] at hk
    by_cases h1 : k < S.length
    · rw [withIo_old h1]; exact R.apW k h1
    · have e2 : k = S.length := by omega
      subst e2
      rw [withIo_new]; exact R.newW hx
  gw := R.gw
  wd := fun a rt h => by
    obtain ⟨o, q⟩ := R.wd a rt h
    exact ⟨o, e a o q⟩
  bse := R.bse.step (Sub.refl _) (fun k hk => withIo_old hk) (by rw [List.length_append]; exact Nat.le_add_right _ _)
theorem Stp.add {H' : Hp} {x : Addr} {n : Nat} (e : Sub H H') (hx : H x = none) : Stp q true H g n H' (withIo g n x) (n + 1) :=
  ⟨fun a o h _ => e a o h, fun a o h => ⟨o, e a o h⟩, Sub.refl _, fun k hk => withIo_old hk, Nat.le_succ _, fun k h1 h2 => by
    have e2 : k = n := by omega
    subst e2
    rw [withIo_new]; exact hx, fun _ _ h => .inl h, fun _ _ h => .inl h, fun _ _ h => h, fun _ _ _ h => .inl h⟩
theorem sub_made {x dx C : Addr} (h1 : H x = none) (h2 : H dx = none) (hne : dx ≠ x) : Sub H (upd (upd H dx (.own x)) x (.ins C dx [])) := fun a o h => by
  rw [upd_ne (ne_of_none h h1), upd_ne (ne_of_none h h2)]; exact h
end
def mkM (c : Nat) (f : M D) : M D := fun r S => match f r (S ++ [.ins c []]) with
  | .ok .non r' S' => .ok (.ob S.length) r' S'
  | .ok _ _ _ => .no
  | .exc e r' S' => .exc e r' S'
  | .no => .no
def mMake (c : Nat) (φ : Fn) (src : List Src) (dds : List D) (np : Nat) (ma mk : M (List D)) : M D := mArgs ma mk fun ds es r S => mkM c (arrM src dds np (.ob S.length :: ds) es (callM φ)) r S
section
variable {X : Cx} {T : Tb} {qa qb qf ra rb : Bool} {e : Expr} {es : List Expr} {kws : List Keyword} {ma : M D} {mb mk : M (List D)} {pos p apos : Pos}
variable {k n : Nat} {f : Addr} {fd : FuncData} {ps ks : List Str} {φ : Fn} {src : List Src} {dds : List D} {x : Str} {c : Nat}
theorem de_make (M_ : Mk X.K (T.cA c) f) (F : FnG X.prog X.w T X.K X.mg X.base qf k f fd ps φ) (hr : Room (k + 1) X.A) (hgd : X.A.guards = some []) (hg : Gl X x) (hm : X.mg x = some (.ref (T.cA c))) (hb : BindA X.K fd ps (es.length + 1) ks src dds) (hdb : (x == ("__debug__" : Str)) = false)
    (ha : DA X T qa es mb) (hk : DK X T qb kws mk) (hes : es.all nst = true) (hks : kwNames kws = some ks) (hl : LenA es mb) (hl2 : LenK ks mk) :
    DE X T (qa && (qb && qf)) false (.Call (.Name x p) es kws pos) (mMake c φ src dds ps.length mb mk) := fun W tk => by
  refine ⟨fun pins s σ H Q I ⟨g, r, S, R, q⟩ => ?_⟩
  refine wpAny_Call_Name_kw (ld_glob I hg hm ?_ hdb)
  refine runCall (first := []) ha hk tk M_.kp hes hks I R q (fun us ws vs zs ds es' s2 H2 g2 r2 S2 I2 ru rz R2 i1 i2 _ hz q2 hd => ?_) hl.1 hl2 hl.2
  show wpAny (model X.prog X.w) X.A (call (.ref (T.cA c)) us (ks.zip ws)) (EP X pins σ Q) X.xe s2
  obtain ⟨ax, eax⟩ : ∃ a, a = s2.heap.objs.size + 1 := ⟨_, rfl⟩
  obtain ⟨dx, edx⟩ : ∃ a, a = s2.heap.objs.size := ⟨_, rfl⟩
  have hx : H2 ax = none := I2.hok.fresh (by rw [eax]; exact Nat.le_succ _)
  have hdx : H2 dx = none := I2.hok.fresh (by rw [edx]; exact Nat.le_refl _)
  have hne : dx ≠ ax := by rw [eax, edx]; exact Nat.ne_of_lt (Nat.lt_succ_self _)
  have sb := sub_made (C := T.cA c) hx hdx hne
  have R3 : Rep T X.K (upd (upd H2 dx (.own ax)) ax (.ins (T.cA c) dx [])) (withIo g2 S2.length ax) r2 (S2 ++ [.ins c []]) σ :=
    R2.add sb hx ⟨dx, [], by rw [withIo_new]; exact upd_same, .nil, List.nodup_nil⟩
  have st3 : Stp qf true H2 g2 S2.length (upd (upd H2 dx (.own ax)) ax (.ins (T.cA c) dx [])) (withIo g2 S2.length ax) (S2 ++ [Ob.ins c []]).length := by
    rw [List.length_append]; exact Stp.add sb hx
  have I3 := Inv.made (C := T.cA c) I2
  rw [← eax, ← edx] at I3
  have q3 : okE T X.K qf false (upd (upd H2 dx (.own ax)) ax (.ins (T.cA c) dx [])) (withIo g2 S2.length ax) (S2 ++ [Ob.ins c []]).length σ (arrM src dds ps.length (.ob S2.length :: ds) es' (callM φ) r2 (S2 ++ [.ins c []])) (fun v H' => v = .non ∧ Q (.ref ax) H') W := by
    unfold mkM at q2
    cases e : arrM src dds ps.length (.ob S2.length :: ds) es' (callM φ) r2 (S2 ++ [.ins c []]) with
    | ok d r4 S4 =>
      rw [e] at q2
      cases d with
      | non =>
        intro v H' g' R' is' fo' st'
        cases is'
        refine ⟨rfl, q2 (.ref ax) H' g' R' (.ob ?_ ?_) (fun xs e => by cases e) (by have z := st3.trans st'; rwa [Bool.and_self] at z)⟩
        · have := st'.nm; rw [List.length_append] at this; exact this
        · rw [st'.im S2.length (by rw [List.length_append]; exact Nat.lt_succ_self _)]; exact withIo_new
      | _ => exact q2.elim
    | exc y r4 S4 =>
      rw [e] at q2
      exact fun H' g' dd R' st' ex => q2 H' g' dd R' (by have z := st3.trans st'; rwa [Bool.and_self] at z) ex
    | no => rw [e] at q2; exact q2
  obtain ⟨xs, e1, e2, e5, q4⟩ := arrM_ok q3
  have e6 : ds.all arO = true := by simpa [arO] using e5.1
  obtain ⟨dv, du, b1, b2, b3⟩ := hb.ex
  have up : ∀ {vs ds}, IsPs X.K H2 (noSl g2) S2.length vs ds → IsPs X.K (upd (upd H2 dx (.own ax)) ax (.ins (T.cA c) dx [])) (noSl (withIo g2 S2.length ax)) (S2 ++ [Ob.ins c []]).length vs ds := fun h => IsPs.weak (Bst.of (g := noSl g2) (g' := noSl (withIo g2 S2.length ax)) R3.sub (fun a o _ => sb a o) (fun a hw => hw) st3.gm st3.im st3.nm st3.nf) h
  have b2' : IsPs X.K (upd (upd H2 dx (.own ax)) ax (.ins (T.cA c) dx [])) (noSl (withIo g2 S2.length ax)) (S2 ++ [Ob.ins c []]).length dv dds := IsPs.ofF (b2.mono (fun _ _ h => by cases h) (fun _ h => absurd h (Nat.not_lt_zero _)) (Nat.zero_le _))
  have i1' : IsPs X.K (upd (upd H2 dx (.own ax)) ax (.ins (T.cA c) dx [])) (noSl (withIo g2 S2.length ax)) (S2 ++ [Ob.ins c []]).length (.ref ax :: vs) (.ob S2.length :: ds) := .cons (IsP.ofF (.ob (by rw [List.length_append]; exact Nat.lt_succ_self _) withIo_new)) (up (i1.isPs e6))
  obtain ⟨ys, a1, a2, a3⟩ := arr_rel (P := fun d v => IsP X.K (upd (upd H2 dx (.own ax)) ax (.ins (T.cA c) dx [])) (noSl (withIo g2 S2.length ax)) (S2 ++ [Ob.ins c []]).length v d) (us' := V.ref ax :: vs) (ws' := zs) (ds' := dv) (fun i x e => i1'.get e) (fun i x e => (up (i2.isPs e5.2)).get e) (fun i x e => b2'.get e) e1
  obtain ⟨ts, c1, c2, c3⟩ := arr_rel (P := RelV) (us' := Value.ref ax :: us) (ws' := ws) (ds' := du) (fun i x e => Vals.get (Paired.cons (show RelV (V.ref ax) (Value.ref ax) from rfl) ru) e) (fun i x e => Vals.get rz e) (fun i x e => Vals.get b1 e) a1
  have hv : Vals ys ts := vals_of_get c2 c3
  have hf : IsPs X.K (upd (upd H2 dx (.own ax)) ax (.ins (T.cA c) dx [])) (noSl (withIo g2 S2.length ax)) (S2 ++ [Ob.ins c []]).length ys xs := .of_get a2.symm fun i v d e1 e2 => a3 i d v e2 e1
  have lu : (Value.ref ax :: us).length = es.length + 1 := by rw [List.length_cons, ← ru.length, i1.len, hd]
  have hBind : ∀ s3 : Shared, X.K.In s3.heap → BindsTo s3 fd ⟨Value.ref ax :: us, ks.zip ws⟩ (ps.zip ts) := fun s3 h3 => b3 s3 (Value.ref ax :: us) ws ts h3 lu (by rw [← rz.length]; exact hz) c1
  have hsp : spD T X.K qf φ ps.length ys (upd (upd H2 dx (.own ax)) ax (.ins (T.cA c) dx [])) (fun v H' => v = .non ∧ Q (.ref ax) H') (fun cls d H' => W cls d σ H') := ⟨noSl _, xs, _, R3.inn, noSl_no _, hf, e2, okF_of R3 q4⟩
  have hgd2 : (X.A.under (.builtin "type.__call__" ⟨.ref (T.cA c) :: us, ks.zip ws⟩)).guards = some [] := by
    first | exact hgd | (simp [Around.under, Code.guards, Code.isGuard, guardIds, pushGuards, hgd])
  subst eax edx
  refine wpAny_call (make_map (f := f) I2.kIn M_.makes M_.init (beq_iff_eq.mp M_.fn) (codeAny_mono (F.run _ X.stack _ _ ⟨Value.ref (s2.heap.objs.size + 1) :: us, ks.zip ws⟩ ts ys _ _ (hr.make (T.cA c) us (ks.zip ws)) hgd2
    (I3.env0.make (T.cA c) us (ks.zip ws)) (hBind _ I3.kIn) hv hsp) fun o s' hq' => ?_))
  cases o with
  | error e => exact tk e s' (XE.of_call I3 (fun _ _ _ h => h) hq')
  | ok fl =>
    cases fl with
    | ret u =>
      obtain ⟨v, H', I4, rv, ev, q5⟩ := I3.after hq'
      subst ev
      exact ⟨rv, ⟨V.ref (s2.heap.objs.size + 1), H', I4, rfl, q5⟩⟩
    | next => exact False.elim hq'
    | brk => exact False.elim hq'
    | cont => exact False.elim hq'
end

structure FldOk (K : PySem.W.Frag) (T : Tb) (isf : Nat → Str → Bool) : Prop where
  ex : ∀ c f, isf c f = true → Cls K (T.cA c) ∧ NoAttr K (T.cA c) f
def fldAt (isf : Nat → Str → Bool) (f : Str) (k : Nat) (S : Sto) : Option (Nat × List (Str × D) × D) := match S[k]? with
  | some (.ins c fs) => if isf c f then (fs.lookup f).map fun d => (c, fs, d) else none
  | _ => none
def putFD (f : Str) (v : D) : List (Str × D) → List (Str × D)
  | [] => [(f, v)]
  | (g, x) :: r => if g = f then (g, v) :: r else (g, x) :: putFD f v r
def fldF (isf : Nat → Str → Bool) (f : Str) (mo : M D) : M D := M.bind (frz mo) fun x => match x with
  | .ob k => fun r S => match fldAt isf f k S with
    | some (c, fs, .own xs) => .ok (.lst xs) r (S.set k (.ins c (putFD f (.lst xs) fs)))
    | some (_, _, d) => .ok d r S
    | none => .no
  | _ => M.fail
def fldB (isf : Nat → Str → Bool) (f : Str) (mo : M D) : M D := M.bind (frz mo) fun x => match x with
  | .ob k => fun r S => match fldAt isf f k S with
    | some (_, _, .own xs) => .ok (.bor xs) r S
    | some (_, _, d) => .ok d r S
    | none => .no
  | _ => M.fail
section
variable {T : Tb} {K : PySem.W.Frag} {H : Hp} {g : Gh} {r : Rho} {S : Sto} {σ : L2.St} {isf : Nat → Str → Bool} {f : Str} {k : Nat}
theorem fldAt_some {c : Nat} {fs : List (Str × D)} {d : D} (h : fldAt isf f k S = some (c, fs, d)) : S[k]? = some (.ins c fs) ∧ isf c f = true ∧ fs.lookup f = some d := by
  unfold fldAt at h
  cases e : S[k]? with
  | none => rw [e] at h; cases h
  | some o =>
    rw [e] at h
    cases o with
    | arr xs => cases h
    | tab xs => cases h
    | ins c' fs' =>
      simp only at h
      split at h
      · rename_i hi
        obtain ⟨d', h1, h2⟩ := Option.map_eq_some_iff.mp h
        cases h2
        exact ⟨rfl, hi, h1⟩
      · cases h
theorem FldR0.names {n j : Nat} : ∀ {vs : List (Str × V)} {ds : List (Str × D)}, FldR0 K H g n j vs ds → vs.map (·.1) = ds.map (·.1)
  | _, _, .nil => rfl
  | _, _, .cons _ hs => by rw [List.map_cons, List.map_cons, FldR0.names hs]
theorem FldR0.len {n j : Nat} {vs : List (Str × V)} {ds : List (Str × D)} (h : FldR0 K H g n j vs ds) : vs.length = ds.length := by
  have e := congrArg List.length h.names
  rw [List.length_map, List.length_map] at e
  exact e
theorem FldR0.off {H' : Hp} {g' : Gh} {n n' j : Nat} {h : Str} (hH : ∀ a o f, f ≠ h → g.W a = some (.fld j f) → H a = some o → H' a = some o) (hW : ∀ a f, f ≠ h → g.W a = some (.fld j f) → g'.W a = some (.fld j f)) (hG : Sub g.G g'.G) (hi : ∀ k, k < n → g'.io k = g.io k) (hn : n ≤ n') :
    ∀ {vs : List (Str × V)} {ds : List (Str × D)}, h ∉ ds.map (·.1) → FldR0 K H g n j vs ds → FldR0 K H' g' n' j vs ds := by
  intro vs ds hm q
  induction q with
  | nil => exact .nil
  | cons q1 q2 ih =>
    rename_i f v d vs ds
    have hm' : h ≠ f ∧ h ∉ ds.map (·.1) := by
      rw [List.map_cons, List.mem_cons, not_or] at hm
      exact hm
    exact .cons (q1.weak (fun a o => hH a o f (Ne.symm hm'.1)) (fun a => hW a f (Ne.symm hm'.1)) hG hi hn) (ih hm'.2)
theorem putFD_names (f : Str) (d : D) : ∀ ds : List (Str × D), (putFD f d ds).map (·.1) = if f ∈ ds.map (·.1) then ds.map (·.1) else ds.map (·.1) ++ [f]
  | [] => by simp [putFD]
  | (h, x) :: r => by
    unfold putFD
    by_cases e : h = f
    · subst e
      rw [if_pos rfl]
      simp
    · rw [if_neg e, List.map_cons, putFD_names f d r]
      have ne : f ≠ h := fun z => e z.symm
      by_cases hm : f ∈ r.map (·.1)
      · rw [if_pos hm, if_pos (by simp only [List.map_cons, List.mem_cons]; exact .inr hm)]; rfl
      · rw [if_neg hm, if_neg (by simp only [List.map_cons, List.mem_cons, not_or]; exact ⟨ne, hm⟩)]; rfl
theorem putFD_nodup {f : Str} {d : D} {ds : List (Str × D)} (h : (ds.map (·.1)).Nodup) : ((putFD f d ds).map (·.1)).Nodup := by
  rw [putFD_names]
  split
  · exact h
  · rename_i hm
    rw [List.nodup_append]
    refine ⟨h, by simp, fun a ha b hb e => ?_⟩
    simp at hb
    subst hb e
    exact hm ha
theorem FldR0.put {H' : Hp} {g' : Gh} {n n' j : Nat} {f : Str} {v : V} {d : D} (hH : ∀ a o h, h ≠ f → g.W a = some (.fld j h) → H a = some o → H' a = some o) (hW : ∀ a h, h ≠ f → g.W a = some (.fld j h) → g'.W a = some (.fld j h)) (hG : Sub g.G g'.G) (hi : ∀ k, k < n → g'.io k = g.io k) (hn : n ≤ n')
    (hd : SlotR K H' g' n' (.fld j f) v d) : ∀ {vs : List (Str × V)} {ds : List (Str × D)}, FldR0 K H g n j vs ds → (ds.map (·.1)).Nodup → FldR0 K H' g' n' j (putF f v vs) (putFD f d ds)
  | _, _, .nil, _ => .cons hd .nil
  | _, _, .cons (f := h) (v := v1) (d := d1) (vs := vs) (ds := ds) hh hs, nd => by
    have nd' : h ∉ ds.map (·.1) ∧ (ds.map (·.1)).Nodup := by simpa using nd
    unfold putFD putF
    by_cases e : h = f
    · subst e
      rw [if_pos rfl, if_pos rfl]
      exact .cons hd (FldR0.off hH hW hG hi hn nd'.1 hs)
    · rw [if_neg e, if_neg e]
      exact .cons (hh.weak (fun a o => hH a o h e) (fun a => hW a h e) hG hi hn) (FldR0.put hH hW hG hi hn hd hs nd'.2)
theorem putF_same {f : Str} {v : V} : ∀ {vs : List (Str × V)}, vs.lookup f = some v → putF f v vs = vs
  | [], h => by cases h
  | (h, x) :: r, e => by
    unfold putF
    by_cases eh : h = f
    · subst eh
      rw [if_pos rfl]
      rw [List.lookup_cons_self] at e
      cases e; rfl
    · rw [if_neg eh]
      have ef : (f == h) = false := by simpa using fun z => eh z.symm
      rw [List.lookup_cons, ef] at e
      rw [putF_same e]
theorem Rep.frzFld {c : Nat} {fs : List (Str × D)} {xs : List D} (R : Rep T K H g r S σ) (h1 : S[k]? = some (.ins c fs)) (h2 : fs.lookup f = some (.own xs)) :
    ∃ v g2, IsF K g2.G g2.io S.length v (.lst xs) ∧ (∃ dx vs, H (g.io k) = some (.ins (T.cA c) dx vs) ∧ vs.lookup f = some v) ∧ Rep T K H g2 r (S.set k (.ins c (putFD f (.lst xs) fs))) σ ∧ Stp true true H g S.length H g2 S.length := by
  obtain ⟨dx, vs, hH, hF, nd⟩ := R.obj k _ h1
  obtain ⟨v, hv, hs⟩ := (FldR0.lookup hF).1 _ h2
  obtain ⟨a, ws, rfl, ha, hsx, hW⟩ := hs
  have hG := R.gw a _ hW
  have sub : Sub g.G (upd g.G a (.lst ws)) := sub_new hG
  have hkl : k < S.length := (List.getElem?_eq_some_iff.mp h1).1
  obtain ⟨g2, eg⟩ : ∃ g2 : Gh, g2 = { unW g a with G := upd g.G a (.lst ws) } := ⟨_, rfl⟩
  have gG : g2.G = upd g.G a (.lst ws) := by rw [eg]
  have gI : g2.io = g.io := by rw [eg]; rfl
  have gW : ∀ b, g2.W b = if b = a then none else g.W b := fun b => by rw [eg]; rfl
  have wne : ∀ {b rt}, rt ≠ .fld k f → g.W b = some rt → g2.W b = some rt := fun {b rt} hn h => by
    rw [gW, if_neg (fun e => by rw [e, hW] at h; cases h; exact hn rfl)]; exact h
  have wof : ∀ {b rt}, g2.W b = some rt → g.W b = some rt := fun {b rt} h => by
    rw [gW] at h
    split at h
    · cases h
    · exact h
  have is2 : IsF K g2.G g2.io S.length (.ref a) (.lst xs) := .lst (by rw [gG]; exact upd_same) (hsx.mono (by rw [gG]; exact sub) (fun k _ => by rw [gI]) (Nat.le_refl _))
  have hS : (S.set k (.ins c (putFD f (.lst xs) fs))).length = S.length := List.length_set
  have hsub2 : Sub g2.G H := fun b u h => by
    rw [gG] at h
    by_cases e : b = a
    · subst e; rw [upd_same] at h; cases h; exact ha
    · rw [upd_ne e] at h; exact R.sub b u h
  refine ⟨.ref a, g2, is2, ⟨dx, vs, hH, hv⟩, ?_, ?_⟩
  · refine ⟨hsub2, R.len, fun i d hd => ?_, fun j o hj => ?_, ?_, ?_, ?_, ?_, ?_, by rw [hS]; exact R.bse.step (by rw [gG]; exact sub) (fun k _ => by rw [gI]) (Nat.le_refl _)⟩
    · obtain ⟨v, q1, q2⟩ := R.slot i d hd
      rw [hS]
      exact ⟨v, q1, q2.weak (fun _ _ _ h => h) (fun b => wne fun e => by cases e) (Bst.of hsub2 (fun _ _ _ h => h) (fun b => wne fun e => by cases e) (by rw [gG]; exact sub) (fun k _ => by rw [gI]) (Nat.le_refl _) fun _ => noK)⟩
    · rw [hS]
      by_cases hjk : j = k
      · subst hjk
        rw [List.getElem?_set_self hkl] at hj
        cases hj
        refine ⟨dx, vs, by rw [gI]; exact hH, ?_, putFD_nodup nd⟩
        have z := FldR0.put (K := K) (H := H) (H' := H) (g := g) (g' := g2) (n := S.length) (n' := S.length) (j := j) (f := f) (v := .ref a) (d := .lst xs) (fun _ _ _ _ _ h => h) (fun b h hne => wne fun e => by injection e with _ e; exact hne e) (by rw [gG]; exact sub) (fun k _ => by rw [gI]) (Nat.le_refl _) (SlotR.ofF is2) hF nd
        rw [putF_same hv] at z
        exact z
      · rw [List.getElem?_set_ne (Ne.symm hjk)] at hj
        have q := R.obj j o hj
        cases o with
        | ins c' fs' =>
          obtain ⟨dx', vs', q1, q2⟩ := q
          exact ⟨dx', vs', by rw [gI]; exact q1, q2.weak (fun _ _ _ _ h => h) (fun b f' => wne fun e => by injection e with e _; exact hjk e) (by rw [gG]; exact sub) (fun k _ => by rw [gI]) (Nat.le_refl _)⟩
        | arr ds =>
          obtain ⟨vs', q1, q2⟩ := q
          exact ⟨vs', by rw [gI]; exact q1, q2.mono (by rw [gG]; exact sub) (fun k _ => by rw [gI]) (Nat.le_refl _)⟩
        | tab ds =>
          obtain ⟨vs', q1, q2⟩ := q
          exact ⟨vs', by rw [gI]; exact q1, q2.mono (by rw [gG]; exact sub) (fun k _ => by rw [gI]) (Nat.le_refl _)⟩
    · rw [hS, gI]; exact R.inj
    · rw [hS, gI, gG]
      intro j hj
      rw [upd_ne (R.neI hW j hj)]; exact R.apG j hj
    · rw [hS, gI]
      intro j hj
      rw [gW]
      split
      · rfl
      · exact R.apW j hj
    · intro b rt h
      rw [gG]
      have hb : b ≠ a := fun e => by rw [gW, if_pos e] at h; cases h
      rw [upd_ne hb]; exact R.gw b rt (wof h)
    · exact fun b rt h => R.wd b rt (wof h)
  · refine ⟨fun _ _ h _ => h, fun _ o h => ⟨o, h⟩, by rw [gG]; exact sub, fun k _ => by rw [gI], Nat.le_refl _, fun k h1 h2 => absurd (Nat.lt_of_lt_of_le h2 h1) (Nat.lt_irrefl _), fun b rt h => .inl (wof h), fun b o h => ?_, fun b x h => wne (fun e => by cases e) h, fun _ b i h => .inl (wne (fun e => by cases e) h)⟩
    rw [gG] at h
    by_cases e : b = a
    · subst e; exact .inr (.inl ⟨_, hW, fun _ e => by cases e⟩)
    · rw [upd_ne e] at h; exact .inl h
end
section
variable {X : Cx} {T : Tb} {qo ro : Bool} {o : Expr} {mo : M D} {isf : Nat → Str → Bool} {f : Str} {pos : Pos}
theorem de_fldF (hI : FldOk X.K T isf) (ho : DE X T qo ro o mo) (hb : attributeBase o f X.env (eval o X.env) = eval o X.env) : DE X T (qo && true) false (.Attribute o f pos) (fldF isf f mo) := fun W tk =>
  peImp (pe_fld (de_frz ho W tk) hb) fun σ H Q ⟨g, r, S, R, k⟩ => by
    refine ⟨g, r, S, R, okE.bindE (qb := true) k fun d1 r1 S1 v1 H1 g1 e1 R1 is1 st1 k1 => ?_⟩
    cases d1 with
    | ob j =>
      cases is1 with
      | ob hj hio =>
        rename_i a
        simp only at k1
        cases ef : fldAt isf f j S1 with
        | none => rw [ef] at k1; exact k1.elim
        | some z =>
          obtain ⟨c, fs, d⟩ := z
          rw [ef] at k1
          obtain ⟨f1, f2, f3⟩ := fldAt_some ef
          obtain ⟨cl, na⟩ := hI.ex c f f2
          by_cases hown : ∃ xs, d = .own xs
          · obtain ⟨xs, rfl⟩ := hown
            obtain ⟨v, g2, is2, ⟨dx, vs, hH, hv⟩, R2, st2⟩ := R1.frzFld f1 f3
            rw [hio] at hH
            refine ⟨a, T.cA c, dx, vs, v, rfl, hH, cl, na, hv, ?_⟩
            refine k1 v H1 g2 R2 (IsR.ofF ?_) (fun xs e => by cases e) ?_
            · rw [List.length_set]; exact is2
            · rw [List.length_set]; exact st2
          · obtain ⟨dx, vs, hH, hF, nd⟩ := R1.obj j _ f1
            obtain ⟨v, hv, hs⟩ := (FldR0.lookup hF).1 _ f3
            rw [hio] at hH
            refine ⟨a, T.cA c, dx, vs, v, rfl, hH, cl, na, hv, ?_⟩
            have hs' := SlotR.plain (fun xs e => hown ⟨xs, e⟩) hs
            cases d with
            | own xs => exact absurd ⟨xs, rfl⟩ hown
            | _ => exact k1 v H1 g1 R1 (IsR.ofF hs') (FrO.ofF hs') Stp.refl
    | _ => exact k1.elim
theorem de_fldB (hI : FldOk X.K T isf) (ho : DE X T qo ro o mo) (hb : attributeBase o f X.env (eval o X.env) = eval o X.env) : DE X T (qo && true) true (.Attribute o f pos) (fldB isf f mo) := fun W tk =>
  peImp (pe_fld (de_frz ho W tk) hb) fun σ H Q ⟨g, r, S, R, k⟩ => by
    refine ⟨g, r, S, R, okE.bindE (qb := true) k fun d1 r1 S1 v1 H1 g1 e1 R1 is1 st1 k1 => ?_⟩
    cases d1 with
    | ob j =>
      cases is1 with
      | ob hj hio =>
        rename_i a
        simp only at k1
        cases ef : fldAt isf f j S1 with
        | none => rw [ef] at k1; exact k1.elim
        | some z =>
          obtain ⟨c, fs, d⟩ := z
          rw [ef] at k1
          obtain ⟨f1, f2, f3⟩ := fldAt_some ef
          obtain ⟨cl, na⟩ := hI.ex c f f2
          obtain ⟨dx, vs, hH, hF, nd⟩ := R1.obj j _ f1
          obtain ⟨v, hv, hs⟩ := (FldR0.lookup hF).1 _ f3
          rw [hio] at hH
          refine ⟨a, T.cA c, dx, vs, v, rfl, hH, cl, na, hv, ?_⟩
          by_cases hown : ∃ xs, d = .own xs
          · obtain ⟨xs, rfl⟩ := hown
            obtain ⟨b, ws, rfl, hb, hsx, hW⟩ := hs
            exact k1 _ H1 g1 R1 ⟨b, ws, rfl, hb, hsx, R1.neI hW, .inr ⟨_, hW, .inl rfl⟩⟩ (fun xs e => by cases e) Stp.refl
          · have hs' := SlotR.plain (fun xs e => hown ⟨xs, e⟩) hs
            cases d with
            | own xs => exact absurd ⟨xs, rfl⟩ hown
            | _ => exact k1 v H1 g1 R1 (IsR.ofF hs') (FrO.ofF hs') Stp.refl
    | _ => exact k1.elim
end
end DD

set_option Elab.async false
set_option linter.all false
set_option maxRecDepth 100000
set_option maxHeartbeats 4000000
namespace DD
open PySem PySem.Spec PyProof.Rows L2

def mChain (F F' : D → D → Option D) (ma mb mc : M D) : M D := M.bind ma fun x => M.bind mb fun y => M.bind (lift (F x y)) fun z => match z with
  | .bl true => M.bind mc fun w => lift (F' y w)
  | .bl false => M.ret (.bl false)
  | _ => M.fail
section
variable {X : Cx} {T : Tb} {q qa qb qc ra rb rc : Bool} {a b c e : Expr} {ma mb mc : M D} {pos : Pos} {rest : List Expr}
theorem okE.lift {K : PySem.W.Frag} {H : Hp} {g : Gh} {n : Nat} {σ : L2.St} {Q : VK} {W : WX} {r : Rho} {S : Sto} {β : Type} {o : Option β} {f : β → M D} (h : okE T K q rb H g n σ (M.bind (DD.lift o) f r S) Q W) : ∃ b, o = some b ∧ okE T K q rb H g n σ (f b r S) Q W := by
  cases o with
  | none => exact h.elim
  | some b => exact ⟨b, rfl, h⟩
theorem okE.wkr {K : PySem.W.Frag} {H : Hp} {g : Gh} {n : Nat} {σ : L2.St} {Q : VK} {W : WX} {o : Out D} (h : okE T K q rb H g n σ o Q W) (hr : ra = true → rb = true) : okE T K q ra H g n σ o Q W := by
  cases o with
  | ok d r S => exact fun v H' g' a b c e => h v H' g' a (b.wk hr) c e
  | exc e r S => exact h
  | no => exact h
theorem bind_at {α β : Type} {m : M α} {f : α → M β} {r r1 : Rho} {S S1 : Sto} {d : α} (e : m r S = .ok d r1 S1) : M.bind m f r S = f d r1 S1 := by
  unfold M.bind; rw [e]
theorem de_andV (ha : DE X T qa ra a ma) (hb : DE X T qb rb (.BoolOp .And (b :: rest) pos) mb) : DE X T (qa && qb) (ra || rb) (.BoolOp .And (a :: b :: rest) pos) (mAndV ma mb) := fun W tk =>
  peImp (pe_andT (ha W tk) (hb W tk)) fun σ H Q ⟨g, r, S, R, k⟩ => by
    refine ⟨g, r, S, R, ?_⟩
    unfold mAndV at k
    cases e : ma r S with
    | exc x r1 S1 =>
      unfold M.bind at k; rw [e] at k
      exact fun H' g' dd a b c => k H' g' dd a (b.weak fun z => (Bool.and_eq_true_iff.mp z).1) c
    | no => unfold M.bind at k; rw [e] at k; exact k.elim
    | ok d1 r1 S1 =>
      rw [bind_at e] at k
      obtain ⟨t, ht, k2⟩ := k.lift
      intro v1 H1 g1 R1 is1 fo1 st1
      refine ⟨t, truth_V R1.sub ht is1.isV, ?_⟩
      cases t with
      | true =>
        rw [if_pos rfl] at k2 ⊢
        exact ⟨g1, r1, S1, R1, okE.wkr (okE.after st1 k2) fun z => by rw [z, Bool.or_true]⟩
      | false =>
        rw [if_neg Bool.false_ne_true] at k2 ⊢
        exact k2 v1 H1 g1 R1 (is1.wk fun z => by rw [z, Bool.true_or]) fo1 (st1.weak fun z => (Bool.and_eq_true_iff.mp z).1)
theorem de_orV (ha : DE X T qa ra a ma) (hb : DE X T qb rb (.BoolOp .Or (b :: rest) pos) mb) : DE X T (qa && qb) (ra || rb) (.BoolOp .Or (a :: b :: rest) pos) (mOrV ma mb) := fun W tk =>
  peImp (pe_orT (ha W tk) (hb W tk)) fun σ H Q ⟨g, r, S, R, k⟩ => by
    refine ⟨g, r, S, R, ?_⟩
    unfold mOrV at k
    cases e : ma r S with
    | exc x r1 S1 =>
      unfold M.bind at k; rw [e] at k
      exact fun H' g' dd a b c => k H' g' dd a (b.weak fun z => (Bool.and_eq_true_iff.mp z).1) c
    | no => unfold M.bind at k; rw [e] at k; exact k.elim
    | ok d1 r1 S1 =>
      rw [bind_at e] at k
      obtain ⟨t, ht, k2⟩ := k.lift
      intro v1 H1 g1 R1 is1 fo1 st1
      refine ⟨t, truth_V R1.sub ht is1.isV, ?_⟩
      cases t with
      | false =>
        rw [if_neg Bool.false_ne_true] at k2 ⊢
        exact ⟨g1, r1, S1, R1, okE.wkr (okE.after st1 k2) fun z => by rw [z, Bool.or_true]⟩
      | true =>
        rw [if_pos rfl] at k2 ⊢
        exact k2 v1 H1 g1 R1 (is1.wk fun z => by rw [z, Bool.true_or]) fo1 (st1.weak fun z => (Bool.and_eq_true_iff.mp z).1)
theorem de_notV (ha : DE X T qa ra a ma) : DE X T (qa && true) false (.UnaryOp .Not a pos) (mNotV ma) := fun W tk =>
  peImp (pe_notT (ha W tk)) fun σ H Q ⟨g, r, S, R, k⟩ => by
    refine ⟨g, r, S, R, okE.bindE (qb := true) k fun d1 r1 S1 v1 H1 g1 _ R1 is1 st1 k1 => ?_⟩
    obtain ⟨t, ht, k2⟩ := k1.lift
    exact ⟨t, truth_V R1.sub ht is1.isV, k2 (.bl (!t)) H1 g1 R1 (.bl _) (FrO.non fun xs e => by cases e) Stp.refl⟩
theorem tChainOf {F F' : D → D → Option D} {W : WX} {σ : L2.St} {H : Hp} {Q : VK} {g : Gh} {r : Rho} {S : Sto} (R : Rep T X.K H g r S σ) (hq : ra = false ∨ qb = true) (hq2 : rb = false ∨ qc = true) (k : okE T X.K (qa && (qb && (true && (qc && true)))) false H g S.length σ (mChain F F' ma mb mc r S) Q W) :
    tChain (rOf T X.K F) (rOf T X.K F') (teOf T X.K qa ra ma W) (teOf T X.K qb rb mb W) (teOf T X.K qc rc mc W) σ H Q := by
  refine ⟨g, r, S, R, okE.bindE (qb := qb && (true && (qc && true))) k fun d1 r1 S1 v1 H1 g1 _ R1 is1 st1 k1 => ?_⟩
  refine ⟨g1, r1, S1, R1, okE.bindE (qb := true && (qc && true)) k1 fun d2 r2 S2 v2 H2 g2 _ R2 is2 st2 k2 => ?_⟩
  obtain ⟨d, hd, k3⟩ := k2.lift
  refine ⟨g2, r2, S2, σ, d1, d2, d, R2, is1.carry R2.sub st2 hq, is2.isV, hd, fun v' H' g' R' is' _ st' => ?_⟩
  have k4 := okE.after st' k3
  cases d with
  | bl kb =>
    cases is'
    refine ⟨kb, rfl, ?_⟩
    cases kb with
    | false =>
      rw [if_neg Bool.false_ne_true]
      exact k4 (.bl false) H' g' R' (.bl _) (FrO.non fun xs e => by cases e) Stp.refl
    | true =>
      rw [if_pos rfl]
      refine ⟨g', r2, S2, R', okE.bindE (qb := true) k4 fun d3 r3 S3 v3 H3 g3 _ R3 is3 st3 k5 => ?_⟩
      obtain ⟨d', hd'⟩ := lift_none k5
      exact ⟨g3, r3, S3, σ, d2, d3, d', R3, is2.carry R3.sub (st'.trans st3) (by simpa using hq2), is3.isV, hd', KQ.of hd' k5⟩
  | _ => exact k4.elim
theorem de_chain {F F' : D → D → Option D} {op op' : CmpOp} (ho : OpR X (compareOp op) (rOf T X.K F)) (ho' : OpR X (compareOp op') (rOf T X.K F')) (ha : DE X T qa ra a ma) (hb : DE X T qb rb b mb) (hc : DE X T qc rc c mc) (hq : ra = false ∨ qb = true) (hq2 : rb = false ∨ qc = true)
    (hm : lastMarks [op, op'] [b, c] = false) : DE X T (qa && (qb && (true && (qc && true)))) false (.Compare a [op, op'] [b, c] pos) (mChain F F' ma mb mc) := fun W tk =>
  peImp (pe_chain ho ho' (ha W tk) (hb W tk) (hc W tk) hm) fun σ H Q ⟨g, r, S, R, k⟩ => tChainOf R hq hq2 k
def blM (m : M D) : Prop := ∀ r S d r' S', m r S = .ok d r' S' → ∃ b, d = .bl b
theorem dt_chain {F F' : D → D → Option D} {op op' : CmpOp} (ho : OpR X (compareOp op) (rOf T X.K F)) (ho' : OpR X (compareOp op') (rOf T X.K F')) (hF : ∀ x y d, F' x y = some d → ∃ k, d = .bl k) (ha : DE X T qa ra a ma) (hb : DE X T qb rb b mb) (hc : DE X T qc rc c mc) (hq : ra = false ∨ qb = true) (hq2 : rb = false ∨ qc = true)
    (hm : lastMarks [op, op'] [b, c] = false) : DT X T (qa && (qb && (true && (qc && true)))) (.Compare a [op, op'] [b, c] pos) (mTru (mChain F F' ma mb mc)) := fun W tk =>
  ptImp (pt_chain ho ho' (ha W tk) (hb W tk) (hc W tk) hm) fun σ H Q ⟨g, r, S, R, k⟩ => by
    refine tChainOf (W := W) R hq hq2 ?_
    unfold mTru at k
    cases e : mChain F F' ma mb mc r S with
    | exc x r1 S1 => unfold M.bind at k; rw [e] at k; exact k
    | no => unfold M.bind at k; rw [e] at k; exact k
    | ok d r1 S1 =>
      rw [bind_at e] at k
      obtain ⟨t, ht, k2⟩ := k.lift
      have hb : ∃ k, d = .bl k := by
        unfold mChain at e
        obtain ⟨x, r2, S2, _, e⟩ := bind_ok e
        obtain ⟨y, r3, S3, _, e⟩ := bind_ok e
        obtain ⟨z, r4, S4, e3, e⟩ := bind_ok e
        cases z with
        | bl kb =>
          cases kb with
          | false => cases e; exact ⟨_, rfl⟩
          | true =>
            obtain ⟨w, r5, S5, _, e⟩ := bind_ok e
            cases ef : F' y w with
            | none => rw [ef] at e; cases e
            | some d' => rw [ef] at e; cases e; exact hF _ _ _ ef
        | _ => cases e
      obtain ⟨kb, rfl⟩ := hb
      cases ht
      intro v H' g' R' is' _ st'
      cases is'
      exact ⟨_, rfl, k2 H' g' R' st'⟩
end

theorem Rep.box {T : Tb} {K : PySem.W.Frag} {H : Hp} {g : Gh} {r : Rho} {S : Sto} {σ : L2.St} {p : Addr} {vs : List V} {ds : List D} (R : Rep T K H g r S σ) (hp : H p = none) (h : IsFs K g.G g.io S.length vs ds) :
    Rep T K (upd H p (.lst vs)) (withIo g S.length p) r (S ++ [.arr ds]) σ ∧ Stp true true H g S.length (upd H p (.lst vs)) (withIo g S.length p) (S ++ [Ob.arr ds]).length ∧ IsF K (withIo g S.length p).G (withIo g S.length p).io (S ++ [Ob.arr ds]).length (.ref p) (.ob S.length) := by
  have sb := sub_new (o := .lst vs) hp
  refine ⟨R.add sb hp ⟨vs, by rw [withIo_new]; exact upd_same, h.mono (Sub.refl _) (fun k hk => withIo_old hk) (Nat.le_succ _)⟩, ?_, .ob ?_ withIo_new⟩
  · rw [List.length_append]; exact Stp.add sb hp
  · rw [List.length_append]; exact Nat.lt_succ_self _
section
variable {X : Cx} {T : Tb} {q qa qb ra rb : Bool} {a b e : Expr} {es : List Expr} {ma mo : M D} {mb : M (List D)} {pos : Pos}
theorem de_arr (h : DA X T qa es mb) : DE X T (qa && true) false (.List es pos) (mArr mb) := fun W tk =>
  peImp (pe_lst (h W tk)) fun σ H Q ⟨g, r, S, R, k⟩ => by
    refine ⟨g, r, S, R, okE.bindA (qb := true) k fun ds r1 S1 vs H1 g1 _ R1 is1 st1 k1 => ?_⟩
    split at k1
    · rename_i hl
      have is2 := is1.isFs hl.1
      refine ⟨by rw [is2.length]; exact lim_le hl.2, fun p hp => ?_⟩
      obtain ⟨a, b, c⟩ := R1.box hp is2
      exact k1 _ _ _ a (IsR.ofF c) (FrO.ofF c) b
    · exact k1.elim
def rOfS (T : Tb) (K : PySem.W.Frag) (F : Sto → D → D → Option D) : R2 := fun x y H Q => ∃ g r S σ0 dx dy d, Rep T K H g r S σ0 ∧ IsV K H g S.length x dx ∧ IsV K H g S.length y dy ∧ F S dx dy = some d ∧ KQ T K H g r S σ0 d Q
def mBinS (F : Sto → D → D → Option D) (ma mb : M D) : M D := M.bind ma fun x => M.bind mb fun y => fun r S => lift (F S x y) r S
def arrAt (S : Sto) (k : Nat) : Option (List D) := match S[k]? with
  | some (.arr xs) => some xs
  | _ => none
def idxS (S : Sto) : D → D → Option D
  | .ob k, .int i => (arrAt S k).bind fun xs => atI xs i
  | x, y => idxD x y
theorem arrAt_some {S : Sto} {k : Nat} {xs : List D} (h : arrAt S k = some xs) : S[k]? = some (.arr xs) := by
  unfold arrAt at h
  split at h
  · rename_i e; rw [e]; cases h; rfl
  · cases h
theorem ix_S : IxR X (rOfS T X.K idxS) := by
  intro value slice pins s σ H x y v u Q I rx ry ⟨g, r, S, σ0, dx, dy, d, R, ix, iy, hF, k⟩ hs
  unfold idxS at hF
  split at hF
  · rename_i k' i
    cases ix with
    | ob hk hio =>
      cases iy
      obtain ⟨xs, e1, e2⟩ := Option.bind_eq_some_iff.mp hF
      obtain ⟨vs, h1, h2⟩ := R.obj _ _ (arrAt_some e1)
      obtain ⟨z, e3, e4⟩ := h2.atI e2
      rw [hio] at h1
      exact ix_seq value slice pins s σ H _ _ v u Q I rx ry (.inl ⟨_, vs, _, z, rfl, rfl, SqL.of h1, e3, k.f R e4⟩) hs
  · exact ix_D value slice pins s σ H x y v u Q I rx ry ⟨g, r, S, σ0, dx, dy, d, R, ix, iy, hF, k⟩ hs
theorem de_ixS {mc : M D} (ha : DE X T qa ra a ma) (hb : DE X T qb rb b mc) (hq : ra = false ∨ qb = true) (hs : PlainIx b) : DE X T (qa && (qb && true)) false (.Subscript a b pos) (mBinS idxS ma mc) := fun W tk =>
  peImp (pe_ix ix_S (ha W tk) (hb W tk) hs) fun σ H Q ⟨g, r, S, R, k⟩ => by
    refine ⟨g, r, S, R, okE.bindE (qb := qb && true) k fun d1 r1 S1 v1 H1 g1 _ R1 is1 st1 k1 => ?_⟩
    refine ⟨g1, r1, S1, R1, okE.bindE (qb := true) k1 fun d2 r2 S2 v2 H2 g2 _ R2 is2 st2 k2 => ?_⟩
    obtain ⟨d, hd⟩ := lift_none k2
    exact ⟨g2, r2, S2, σ, d1, d2, d, R2, is1.carry R2.sub st2 hq, is2.isV, hd, KQ.of hd k2⟩

def noX {α : Type} (m : M α) : M α := fun r S => match m r S with
  | .exc _ _ _ => .no
  | o => o
theorem okE.noX {K : PySem.W.Frag} {H : Hp} {g : Gh} {n : Nat} {σ : L2.St} {Q : VK} {W W' : WX} {m : M D} {r : Rho} {S : Sto} (h : okE T K q rb H g n σ (DD.noX m r S) Q W) : okE T K q rb H g n σ (m r S) Q W' := by
  unfold DD.noX at h
  cases e : m r S with
  | ok d r1 S1 => rw [e] at h; exact h
  | exc x r1 S1 => rw [e] at h; exact h.elim
  | no => rw [e] at h; exact h
theorem xe0 {X : Cx} {u : Value} {s : Shared} (h : XE X (fun _ _ _ _ => False) u s) : False := by
  obtain ⟨a, B, sI, ps, σ, H, cls, d, h1, h2, h3, h4, h5, h6, h7, h8, z⟩ := h
  exact z

structure PropG (X : Cx) (T : Tb) (q : Bool) (f : Str) (c : Nat) (φ : Fn) : Prop where
  ex : ∃ (k : Nat) (p g : Addr) (fd : FuncData), Cls X.K (T.cA c) ∧ PropOf X.K (T.cA c) f p g ∧ FnG X.prog X.w T X.K X.mg X.base q k g fd ["self"] φ ∧ Room (k + 1) X.A ∧ BindA X.K fd ["self"] 1 [] [.p 0] []
def mProp (pt : Nat → Option Fn) (mo : M D) : M D := M.bind (frz mo) fun x => match x with
  | .ob j => fun r S => match S[j]? with
    | some (.ins c _) => match pt c with
      | some φ => noX (callM φ [.ob j]) r S
      | none => .no
    | _ => .no
  | _ => M.fail
theorem de_prop {o : Expr} {f : Str} {qo ro qf : Bool} {pt : Nat → Option Fn} (ho : DE X T qo ro o mo) (hM : ∀ c φ, pt c = some φ → PropG X T qf f c φ) (hgd : X.A.guards = some []) (hab : attributeBase o f X.env (eval o X.env) = eval o X.env) :
    DE X T (qo && qf) false (.Attribute o f pos) (mProp pt mo) := fun W tk => by
  refine ⟨fun pins s σ H Q I ⟨g, r, S, R, q⟩ => ?_⟩
  refine attr_of hab (thn ((de_frz ho W tk).run pins s σ H _ I ⟨g, r, S, R, okE.bindE (qb := qf) q fun d r1 S1 v H1 g1 e1 R1 is1 st1 k1 => (show ∃ d g1 r1 S1, Rep T X.K H1 g1 r1 S1 σ ∧ IsR X.K ro H1 g1 S1.length v d ∧ okE T X.K qf false H1 g1 S1.length σ ((match d with
      | .ob j => fun r S => match S[j]? with
        | some (.ins c _) => match pt c with
          | some φ => noX (callM φ [.ob j]) r S
          | none => .no
        | _ => .no
      | _ => M.fail : M D) r1 S1) Q W from ⟨d, g1, r1, S1, R1, is1, k1⟩)⟩) fun u s1 ⟨v, H1, I1, rv, d, g1, r1, S1, R1, is1, k1⟩ => ?_)
  cases d with
  | ob j =>
    cases is1 with
    | ob hj hio =>
      rename_i a
      obtain rfl : u = Value.ref a := rv
      simp only at k1
      cases es1 : S1[j]? with
      | none => rw [es1] at k1; exact k1.elim
      | some ob =>
        rw [es1] at k1
        cases ob with
        | arr ds => exact k1.elim
        | tab ds => exact k1.elim
        | ins c fs =>
          simp only at k1
          cases em : pt c with
          | none => rw [em] at k1; exact k1.elim
          | some φ =>
            rw [em] at k1
            obtain ⟨k, p, gf, fd, cl, hp, F, hr, hb⟩ := (hM c φ em).ex
            obtain ⟨dx, vs, hH, hF⟩ := R1.obj j _ es1
            rw [hio] at hH
            obtain ⟨mA, O, _, _, _, _⟩ := ins_get I1.hok hH
            obtain ⟨od, J, _⟩ := O.look
            obtain ⟨rest, hrec⟩ := hp.rec_
            have I2 := I1.tok (s1.toks + 1)
            have hcl : (PySem.W.clsIn X.K (T.cA c)).isSome = true := by
              obtain ⟨cd, z, _⟩ := PySem.W.any_some cl.hd
              simp only [z, Option.isSome_some]
            obtain ⟨dv, du, _, _, b3⟩ := hb.ex
            have hBind := b3 { s1 with toks := s1.toks + 1 } [.ref a] [] [.ref a] I2.kIn rfl rfl rfl
            have ia : IsPs X.K H1 (noSl g1) S1.length [.ref a] [.ob j] := .cons (IsP.ofF (g := noSl g1) (.ob hj hio)) .nil
            have hsp : spD T X.K qf φ ["self"].length [.ref a] H1 Q (fun _ _ _ => False) := ⟨noSl g1, [.ob j], S1, R1.inn, noSl_no g1, ia, rfl, okF_of (W := fun _ _ _ _ => False) R1 k1.noX⟩
            refine PySem.W.get_bind I1.kIn J (PySem.W.plainGet_of (cl.get f)).1 (PySem.W.findObj_data hcl hp.at_ hp.get hp.tak) (PySem.W.plainGet_of (cl.get f)).2 ?_
            refine wpAny_call (PySem.W.prop_get (s := { s1 with toks := s1.toks + 1 }) I1.kIn hrec ?_)
            refine codeAny_mono (F.run X.A.in1 X.stack _ H1 ⟨[.ref a], []⟩ [.ref a] [.ref a] Q _ hr.in1 hgd I2.env0.in1 hBind (.cons rfl .nil) hsp) fun o s' hz => ?_
            cases o with
            | error er => exact (xe0 (XE.of_call I2 (fun _ _ _ h => h) hz)).elim
            | ok fl =>
              cases fl with
              | ret w =>
                obtain ⟨y, H2, I3, ry, qy⟩ := I2.after hz
                show wpAny (model X.prog X.w) X.A (handedOut w) (EP X pins σ Q) X.xe s'
                rw [PySem.W.handedOut_of (handed_of ry)]
                exact wpAny_pure ⟨y, H2, I3, ry, qy⟩
              | next => exact False.elim hz
              | brk => exact False.elim hz
              | cont => exact False.elim hz
  | _ => exact k1.elim
end
end DD

set_option Elab.async false
set_option linter.all false
set_option maxRecDepth 100000
set_option maxHeartbeats 4000000
namespace DD
open PySem PySem.Spec PyProof.Rows L2

inductive Ty where
  | b (n : String)
  | c (i : Nat)
  | x (n : Str)
deriving DecidableEq
def vT (T : Tb) : Ty → Value
  | .b n => .type n
  | .c i => .ref (T.cA i)
  | .x n => .ref (T.xA n)
def vV (T : Tb) : Ty → V
  | .b n => .ty n
  | .c i => .ref (T.cA i)
  | .x n => .ref (T.xA n)
theorem vClsV (T : Tb) : ∀ t : Ty, ClsV (vV T t) (vT T t)
  | .b n => .ty n
  | .c i => .own _
  | .x n => .own _
def obTy : Ob → Option Ty
  | .ins c _ => some (.c c)
  | .arr _ => some (.b "list")
  | .tab _ => none
def tyD (S : Sto) : D → Option Ty
  | .non => some (.b "NoneType")
  | .bl _ => some (.b "bool")
  | .int _ => some (.b "int")
  | .str _ => some (.b "str")
  | .tup _ => some (.b "tuple")
  | .lst _ => some (.b "list")
  | .own _ => some (.b "list")
  | .bor _ => some (.b "list")
  | .scr _ => some (.b "list")
  | .ob k => (S[k]?).bind obTy
  | .exc c _ => if c = "" then none else some (.x c)
  | .dct _ => some (.b "dict")
structure OwnT (K : PySem.W.Frag) (C : Addr) : Prop where
  cl : Cls K C
  ha : PySem.W.findIn K (.ref C) "__class__" = some (some (.builtin "object.__class__"))
  hn : PySem.W.specialIn K (.builtin "object.__class__") "__get__" = some (some (.builtin "getset_descriptor.__get__"))
  htk : PySem.W.takesIn K (.builtin "object.__class__") = some true
  hm : PySem.W.mroIn K C (.type "object") = some true
structure XcC (K : PySem.W.Frag) (C : Addr) : Prop where
  ex : L2.ExcC K C
  cl : (PySem.W.clsIn K C).isSome = true
def TyZ (K : PySem.W.Frag) (H : Hp) (x : V) (t : Value) : Prop := TyX K H x t ∨ ∃ (a C : Addr) (d : Option Addr), x = .ref a ∧ t = .ref C ∧ XcC K C ∧ H a = some (.ext (ExcAt C a d)) ∧ (d = none ∨ ∃ dd fs, d = some dd ∧ H dd = some (.xd fs))
theorem tyZ_kit {X : Cx} {pins : List (Addr × Obj)} {σ : L2.St} {H : Hp} {s : Shared} {x : V} {u t : Value} (I : Inv X pins σ H s) (rx : RelV x u) (ty : TyZ X.K H x t) : ∃ P : Heap → Prop, PySem.W.KitX X.K u t P ∧ P s.heap ∧ u ≠ .builtin "__main__.__loader__#opaque" := by
  rcases ty with ty | ⟨a, C, d, rfl, rfl, c, ha, hd⟩
  · exact kit_of I rx ty
  · cases (show u = Value.ref a from rx)
    obtain ⟨⟨oe, vs, h1, hz, hv⟩, _⟩ := (show ObjOk X.prog X.w H s.heap a (.ext (ExcAt C a d)) from I.hok a _ ha)
    have nc : PySem.W.notCls oe = true := by unfold PySem.W.notCls; rw [hv] <;> rfl
    rcases hd with rfl | ⟨dd, fs, rfl, hx⟩
    · exact ⟨_, PySem.W.kitx_exc (ox := oe) (od := none) c.cl c.ex.hg c.ex.hk c.ex.hs c.ex.ha c.ex.hn c.ex.ht c.ex.hm, ⟨h1, hz.1, nc, by rw [hz.2]; trivial⟩, fun z => nomatch z⟩
    · obtain ⟨mA, hns, _⟩ := (show ObjOk X.prog X.w H s.heap dd (.xd fs) from I.hok dd _ hx)
      obtain ⟨od, ho, _⟩ := lookIn_ns hns
      exact ⟨_, PySem.W.kitx_exc (ox := oe) (od := some od) c.cl c.ex.hg c.ex.hk c.ex.hs c.ex.ha c.ex.hn c.ex.ht c.ex.hm, ⟨h1, hz.1, nc, by rw [hz.2]; exact ho⟩, fun z => nomatch z⟩
def zIsi (K : PySem.W.Frag) : List V → Hp → VK → Prop := fun xs H Q => ∃ (x c : V) (t u : Value) (b : Bool), xs = [x, c] ∧ ClsV c u ∧ TyZ K H x t ∧ PySem.W.kitOne K t u = some b ∧ Q (.bl b) H
def zIsiT (K : PySem.W.Frag) : List V → Hp → VK → Prop := fun xs H Q => ∃ (x : V) (tp : Addr) (cs : List V) (t : Value) (us : List Value) (b : Bool), xs = [x, .ref tp] ∧ H tp = some (.tup cs) ∧ Paired ClsV cs us ∧ TyZ K H x t ∧ PySem.W.kitAny K t us = some b ∧ Q (.bl b) H
theorem call_isz {X : Cx} : CallR X (.builtin "isinstance") (zIsi X.K) := fun pins s σ H xs us Q I r ⟨x, c, t, u, b, e, k, ty, e1, q⟩ => by
  subst e
  obtain ⟨w1, w2, rfl, r1, r2⟩ := vals2 r
  cases k.eq r2
  obtain ⟨P, kx, p, ne⟩ := tyZ_kit I r1 ty
  exact PySem.W.kia_one kx I.kIn p e1 ne fun tk => ⟨.bl b, _, I.tok tk, rfl, q⟩
theorem call_iszT {X : Cx} : CallR X (.builtin "isinstance") (zIsiT X.K) := fun pins s σ H xs us Q I r ⟨x, tp, cs, t, ws, b, e, ht, k, ty, e1, q⟩ => by
  subst e
  obtain ⟨w1, w2, rfl, r1, r2⟩ := vals2 r
  cases (show w2 = Value.ref tp from r2)
  obtain ⟨P, kx, p, ne⟩ := tyZ_kit I r1 ty
  obtain ⟨_, its, vls, ⟨oc, od, dt, sl⟩, g1, g2, n, g3⟩ := (show ObjOk X.prog X.w H s.heap tp (.tup cs) from I.hok tp _ ht)
  cases ClsV.all k vls
  simp only at g2 g3
  cases g2
  cases g3
  exact PySem.W.kia_tup kx I.kIn p g1 e1 ne fun tk => ⟨.bl b, _, I.tok tk, rfl, q⟩
structure KitOk (K : PySem.W.Frag) (T : Tb) (isub : Ty → Ty → Option Bool) : Prop where
  one : ∀ a b r, isub a b = some r → PySem.W.kitOne K (vT T a) (vT T b) = some r
  own : ∀ c b r, isub (.c c) b = some r → OwnT K (T.cA c)
  exc : ∀ c b r, isub (.x c) b = some r → T.xA c = He.ga K c ∧ XcC K (He.ga K c)
def isAny (isub : Ty → Ty → Option Bool) (t : Ty) : List Ty → Option Bool
  | [] => some false
  | c :: r => match isub t c with
    | some true => some true
    | some false => isAny isub t r
    | none => none
theorem SqL.ty {K : PySem.W.Frag} {H : Hp} {a : Addr} {vs : List V} (h : SqL K H a vs) : TyX K H (.ref a) (.type "list") := by
  rcases h with (h | ⟨o, h⟩) | ⟨o, its, n, h1, h2, _⟩
  · exact .base (.lst h)
  · exact .base (.frz h)
  · exact .kList h1 h2
theorem SqT.ty {K : PySem.W.Frag} {H : Hp} {a : Addr} {vs : List V} (h : SqT K H a vs) : TyX K H (.ref a) (.type "tuple") := by
  rcases h with (h | ⟨o, h⟩) | ⟨o, its, n, h1, h2, _⟩
  · exact .base (.tup h)
  · exact .fTuple h
  · exact .kTuple h1 h2
section
variable {T : Tb} {K : PySem.W.Frag} {H : Hp} {g : Gh} {r : Rho} {S : Sto} {σ : L2.St} {isub : Ty → Ty → Option Bool}
theorem tyX (R : Rep T K H g r S σ) {x : V} {t : Ty} : ∀ {d : D}, tyD S d = some t → (∀ c, t = .c c → OwnT K (T.cA c)) → (∀ c, t = .x c → T.xA c = He.ga K c ∧ XcC K (He.ga K c)) → IsV K H g S.length x d → TyZ K H x (vT T t)
  | .non, e, _, _, h => by cases e; cases h; exact .inl <| .base .non
  | .bl _, e, _, _, h => by cases e; cases h; exact .inl <| .base (.bl _)
  | .int _, e, _, _, h => by cases e; cases h; exact .inl <| .base (.int _)
  | .str _, e, _, _, h => by cases e; cases h; exact .inl <| .base (.str _)
  | .tup _, e, _, _, h => by
    cases e; cases h with
    | tup h1 h2 => exact .inl <| SqT.ty (R.sub.sqT h1)
  | .lst _, e, _, _, h => by
    cases e; cases h with
    | lst h1 h2 => exact .inl <| .base (.lst (R.sub _ _ h1))
  | .scr _, e, _, _, h => by
    cases e; cases h with
    | scr h1 h2 => exact .inl <| SqL.ty (R.sub.sqL h1)
  | .own _, e, _, _, h => by
    cases e
    obtain ⟨a, vs, rfl, h1, _⟩ := h
    exact .inl <| .base (.lst h1)
  | .bor _, e, _, _, h => by
    cases e
    obtain ⟨a, vs, rfl, h1, _⟩ := h
    exact .inl <| .base (.lst h1)
  | .ob k, e, hc, _, h => by
    cases h with
    | ob h1 h2 =>
      obtain ⟨o, eS, eo⟩ := Option.bind_eq_some_iff.mp e
      have q := R.obj k _ eS
      cases o with
      | ins c fs =>
        obtain ⟨dx, vs, q1, q2⟩ := q
        rw [h2] at q1
        cases eo
        have o := hc c rfl
        exact .inl <| .base (.ins q1 o.cl o.ha o.hn o.htk o.hm)
      | arr ds =>
        obtain ⟨vs, q1, q2⟩ := q
        rw [h2] at q1
        cases eo
        exact .inl <| .base (.lst q1)
      | tab q => cases eo
  | .dct _, e, _, _, h => by
    cases e; cases h with
    | dct h1 => exact .inl <| .base (.dK (R.sub _ _ h1))
  | .exc c fs, e, _, hx, h => by
    simp only [tyD] at e
    split at e
    · cases e
    · rename_i hc
      cases e
      obtain ⟨e1, e2⟩ := hx c rfl
      show TyZ K H x (.ref (T.xA c))
      rw [e1]
      cases h with
      | opq => exact absurd rfl hc
      | exc h1 h2 => exact .inr ⟨_, _, _, rfl, rfl, e2, R.sub _ _ h2, .inl rfl⟩
      | excf h1 h2 h3 h4 h5 h6 => exact .inr ⟨_, _, _, rfl, rfl, e2, R.sub _ _ h2, .inr ⟨_, _, rfl, R.sub _ _ h3⟩⟩
theorem isAny_kit (hk : KitOk K T isub) {t : Ty} : ∀ {cs : List Ty} {b : Bool}, isAny isub t cs = some b → PySem.W.kitAny K (vT T t) (cs.map (vT T)) = some b
  | [], _, e => by cases e; rfl
  | c :: r, b, e => by
    unfold isAny at e
    cases e1 : isub t c with
    | none => rw [e1] at e; cases e
    | some y =>
      rw [e1] at e
      have h1 := hk.one _ _ _ e1
      cases y with
      | true =>
        cases e
        exact kitAny_cons h1 (fun z => by cases z) fun _ => rfl
      | false => exact kitAny_cons h1 (fun _ => isAny_kit hk e) fun z => by cases z
theorem isAny_exc (hk : KitOk K T isub) {t : Ty} : ∀ {cs : List Ty} {b : Bool}, cs ≠ [] → isAny isub t cs = some b → ∀ c, t = .x c → T.xA c = He.ga K c ∧ XcC K (He.ga K c)
  | [], _, h, _ => absurd rfl h
  | x :: r, b, _, e => fun c ec => by
    unfold isAny at e
    cases e1 : isub t x with
    | none => rw [e1] at e; cases e
    | some y => subst ec; exact hk.exc _ _ _ e1
theorem isAny_own (hk : KitOk K T isub) {t : Ty} : ∀ {cs : List Ty} {b : Bool}, cs ≠ [] → isAny isub t cs = some b → ∀ c, t = .c c → OwnT K (T.cA c)
  | [], _, h, _ => absurd rfl h
  | x :: r, b, _, e => fun c ec => by
    unfold isAny at e
    cases e1 : isub t x with
    | none => rw [e1] at e; cases e
    | some y => subst ec; exact hk.own _ _ _ e1
end
def mIsi (isub : Ty → Ty → Option Bool) (cs : List Ty) (mo : M D) : M D := M.bind mo fun x => fun r S => lift ((tyD S x).bind fun t => (isAny isub t cs).map .bl) r S
section
variable {X : Cx} {T : Tb} {q ra : Bool} {e ce : Expr} {ces : List Expr} {cs : List Ty} {c : Ty} {mo : M D} {p pos tp : Pos} {isub : Ty → Ty → Option Bool}
def TyE (X : Cx) (T : Tb) (e : Expr) (t : Ty) : Prop := PE X e (tC (vV T t))
inductive TyEs (X : Cx) (T : Tb) : List Expr → List Ty → Prop
  | nil : TyEs X T [] []
  | cons {e : Expr} {t : Ty} {es : List Expr} {ts : List Ty} : TyE X T e t → nst e = true → TyEs X T es ts → TyEs X T (e :: es) (t :: ts)
def taC (vs : List V) : TA := fun _ H Q => Q vs H
theorem TyEs.pa : ∀ {es : List Expr} {ts : List Ty}, TyEs X T es ts → PA X es (taC (ts.map (vV T)))
  | _, _, .nil => paImp pa_nil fun _ _ _ h => h
  | _, _, .cons h hn hs => paImp (pa_cons h hs.pa (starC hn)) fun _ _ _ h => h
theorem paired_cls (T : Tb) : ∀ ts : List Ty, Paired ClsV (ts.map (vV T)) (ts.map (vT T))
  | [] => .nil
  | t :: ts => .cons (vClsV T t) (paired_cls T ts)
theorem de_isi1 (hk : KitOk X.K T isub) (hg : Gl X "isinstance") (hm : X.mg "isinstance" = none) (ho : DE X T q ra e mo) (hc : TyE X T ce c) (h1 : nst e = true) (h2 : nst ce = true) :
    DE X T (q && true) false (.Call (.Name "isinstance" p) [e, ce] [] pos) (mIsi isub [c] mo) := fun W tk =>
  peImp (pe_callB call_isz hg hm (by decide +kernel) (pa_cons (ho W tk) (pa_cons hc pa_nil (starC h2)) (starC h1)) (by decide) (by decide) (starC h1) (starAny (by simp [h2]))) fun σ H Q ⟨g, r, S, R, k⟩ => by
    refine ⟨g, r, S, R, okE.bindE (qb := true) k fun d1 r1 S1 v1 H1 g1 _ R1 is1 st1 k1 => ?_⟩
    obtain ⟨d, hd⟩ := lift_none k1
    obtain ⟨t, e1, e2⟩ := Option.bind_eq_some_iff.mp hd
    obtain ⟨b, e3, e4⟩ := Option.map_eq_some_iff.mp e2
    subst e4
    have e5 : isub t c = some b := by
      unfold isAny at e3
      cases e6 : isub t c with
      | none => rw [e6] at e3; cases e3
      | some y => rw [e6] at e3; cases y <;> (cases e3; rfl)
    refine ⟨v1, vV T c, vT T t, vT T c, b, rfl, vClsV T c, tyX R1 e1 (fun c' ec => by subst ec; exact hk.own _ _ _ e5) (fun c' ec => by subst ec; exact hk.exc _ _ _ e5) is1.isV, hk.one _ _ _ e5, (KQ.of hd k1).f R1 (.bl _)⟩
theorem de_isiT {x1} (hk : KitOk X.K T isub) (hg : Gl X "isinstance") (hm : X.mg "isinstance" = none) (ho : DE X T q ra e mo) (hc : TyEs X T ces cs) (hne : cs ≠ []) (h1 : nst e = true) (hl : cs.length ≤ lim) :
    DE X T (q && true) false (.Call (.Name "isinstance" p) [e, .Tuple ces x1 tp] [] pos) (mIsi isub cs mo) := fun W tk =>
  peImp (pe_callB call_iszT hg hm (by decide +kernel) (pa_cons (ho W tk) (pa_cons (pe_tup hc.pa) pa_nil (starC rfl)) (starC h1)) (by decide) (by decide) (starC h1) (starAny rfl)) fun σ H Q ⟨g, r, S, R, k⟩ => by
    refine ⟨g, r, S, R, okE.bindE (qb := true) k fun d1 r1 S1 v1 H1 g1 _ R1 is1 st1 k1 => ?_⟩
    obtain ⟨d, hd⟩ := lift_none k1
    obtain ⟨t, e1, e2⟩ := Option.bind_eq_some_iff.mp hd
    obtain ⟨b, e3, e4⟩ := Option.map_eq_some_iff.mp e2
    subst e4
    refine ⟨by rw [List.length_map]; exact lim_le hl, fun tpa hp => ?_⟩
    have sb := sub_new (o := .tup (cs.map (vV T))) hp
    have R2 := R1.grow sb
    have st2 : Stp true true H1 g1 S1.length (upd H1 tpa (.tup (cs.map (vV T)))) g1 S1.length := Stp.grow sb
    have k2 := KQ.of hd (okE.after (qb := true) st2 k1)
    exact ⟨v1, tpa, cs.map (vV T), vT T t, cs.map (vT T), b, rfl, upd_same, paired_cls T cs, tyX R2 e1 (isAny_own hk hne e3) (isAny_exc hk hne e3) (is1.carry R2.sub st2 (.inr rfl)), isAny_kit hk e3, k2.f R2 (.bl _)⟩
end
end DD

set_option Elab.async false
set_option linter.all false
set_option maxRecDepth 100000
set_option maxHeartbeats 4000000
namespace DD
open PySem PySem.Spec PyProof.Rows L2

def ItOk (T : Tb) (K : PySem.W.Frag) (fl : Bool) (J : It) (H1 : Hp) (g1 : Gh) (n1 : Nat) (ds : List D) : Prop :=
  ∀ (H : Hp) (g : Gh) (r : Rho) (S : Sto) (σ : L2.St), Rep T K H g r S σ → Stp fl fl H1 g1 n1 H g S.length → ∀ i : Nat,
    (ds.length ≤ i → J.stop i H) ∧ ∀ d, ds[i]? = some d → J.go i H ∧ ∀ x H', J.yld i H x H' → ∃ g', Rep T K H' g' r S σ ∧ IsF K g'.G g'.io S.length x d ∧ Stp true true H g S.length H' g' S.length
def okI (T : Tb) (K : PySem.W.Frag) (q fl : Bool) (H : Hp) (g : Gh) (n : Nat) (σ : L2.St) (o : Out (List D)) (Q : It → Hp → Prop) (W : WX) : Prop := match o with
  | .ok ds r S => ∀ J H' g', Rep T K H' g' r S σ → Stp q true H g n H' g' S.length → ItOk T K fl J H' g' S.length ds → Q J H'
  | .exc e r S => ∀ H' g' dd, Rep T K H' g' r S σ → Stp q true H g n H' g' S.length → ExR K H' g' S.length e.fs dd → W (.ref (He.ga K e.c)) dd σ H'
  | .no => False
def tiOf (T : Tb) (K : PySem.W.Frag) (q fl : Bool) (m : M (List D)) (W : WX) : TI := fun σ H Q => ∃ g r S, Rep T K H g r S σ ∧ okI T K q fl H g S.length σ (m r S) Q W
def DI (X : Cx) (T : Tb) (q fl : Bool) (tg e : Expr) (m : M (List D)) : Prop := ∀ W, Takes X W → PI X tg e (tiOf T X.K q fl m W)
theorem piImp {X : Cx} {tg e : Expr} {t t' : TI} (h : PI X tg e t) (k : ∀ σ H Q, t' σ H Q → t σ H Q) : PI X tg e t' := ⟨fun pins s σ H R I h' => h.run pins s σ H R I (k σ H R h')⟩
theorem ItOk.wk {T : Tb} {K : PySem.W.Frag} {fl : Bool} {J : It} {H1 : Hp} {g1 : Gh} {n1 : Nat} {ds : List D} (h : ItOk T K false J H1 g1 n1 ds) : ItOk T K fl J H1 g1 n1 ds := fun H g r S σ R st => h H g r S σ R (st.stm.weak fun z => by cases z)

def iAny (K : PySem.W.Frag) (te : TE) : TI := fun σ H R => te σ H fun x H1 => (∃ a xs, x = .ref a ∧ SqL K H1 a xs ∧ R (Itl K a) H1) ∨ (∃ a xs, x = .ref a ∧ SqT K H1 a xs ∧ R (Itt K a) H1) ∨ ∃ z, x = .str z ∧ R (Its z) H1
section
variable {X : Cx} {T : Tb} {q qa qb fl ra rb : Bool} {e tg a b : Expr} {m ma mb : M D} {pos p : Pos}
theorem pi_any {te : TE} (hl : PE X e te) : PI X tg e (iAny X.K te) := by
  refine ⟨fun pins s σ H R J h => thn (hl.run pins s σ H _ J h) fun u s1 ⟨x, H1, J1, ru, qx⟩ => ?_⟩
  rcases qx with ⟨a, xs, rfl, sq, qr⟩ | ⟨a, xs, rfl, sq, qr⟩ | ⟨z, rfl, qr⟩
  · obtain rfl : u = Value.ref a := ru
    obtain ⟨its, _, pl, _⟩ := J1.list sq
    exact wpAny_pyIter_list pl.isList (pi_one (tk := s1.toks) J1 _ (turn_list a _) ⟨_, Heap.get?_push_size _ rfl, rfl, rfl⟩ qr)
  · obtain rfl : u = Value.ref a := ru
    obtain ⟨its, _, pt, _⟩ := J1.tuple sq
    exact wpAny_pyIter_tuple (show s1.heap.IsTuple a its.toArray from pt) (pi_one (tk := s1.toks) J1 _ (turn_tuple a _) ⟨_, Heap.get?_push_size _ rfl, rfl, rfl⟩ qr)
  · obtain ⟨t, rfl⟩ := ru
    cases asc : z.cps.all (· < 128)
    · exact wpAny_pyIter_wide asc (pi_one (tk := s1.toks) J1 _ (turn_str _ z t "str_iterator" (.inr rfl)) ⟨_, Heap.get?_push_size _ rfl, rfl, rfl⟩ qr)
    · exact wpAny_pyIter_ascii asc (pi_one (tk := s1.toks) J1 _ (turn_str _ z t "str_ascii_iterator" (.inl rfl)) ⟨_, Heap.get?_push_size _ rfl, rfl, rfl⟩ qr)
end
def itemsD : D → Option (List D)
  | .str s => some (s.cps.toList.map fun c => .str ⟨#[c]⟩)
  | .scr xs => some xs
  | x => seqD x
def mIter (fl : Bool) (m : M D) : M (List D) := M.bind m fun x => match x with
  | .bor xs => if fl then M.ret xs else M.fail
  | x => lift (itemsD x)
section
variable {T : Tb} {K : PySem.W.Frag} {H H1 : Hp} {g g1 : Gh} {r : Rho} {S : Sto} {σ : L2.St} {n1 : Nat} {fl : Bool} {ds : List D} {vs : List V}
theorem itok_list {a : Addr} (h : ∀ H g n, Stp fl fl H1 g1 n1 H g n → Sub g.G H → SqL K H a vs) (hs : IsFs K g1.G g1.io n1 vs ds) : ItOk T K fl (Itl K a) H1 g1 n1 ds := fun H g r S σ R st i => by
  have sq := h H g _ st R.sub
  refine ⟨fun hi => ⟨vs, sq, by rw [hs.length]; exact hi⟩, fun d hd => ?_⟩
  obtain ⟨v, hv, hf⟩ := hs.get hd
  refine ⟨⟨vs, v, sq, hv⟩, fun x H' ⟨e1, e2⟩ => ?_⟩
  subst e1
  have ex := e2 vs sq
  rw [hv] at ex
  cases ex
  exact ⟨g, R, st.isF hf, Stp.refl⟩
theorem itok_tup {a : Addr} (h : ∀ H g n, Stp fl fl H1 g1 n1 H g n → Sub g.G H → SqT K H a vs) (hs : IsFs K g1.G g1.io n1 vs ds) : ItOk T K fl (Itt K a) H1 g1 n1 ds := fun H g r S σ R st i => by
  have sq := h H g _ st R.sub
  refine ⟨fun hi => ⟨vs, sq, by rw [hs.length]; exact hi⟩, fun d hd => ?_⟩
  obtain ⟨v, hv, hf⟩ := hs.get hd
  refine ⟨⟨vs, v, sq, hv⟩, fun x H' ⟨e1, e2⟩ => ?_⟩
  subst e1
  have ex := e2 vs sq
  rw [hv] at ex
  cases ex
  exact ⟨g, R, st.isF hf, Stp.refl⟩
theorem itok_str {z : Str} : ItOk T K fl (Its z) H1 g1 n1 (z.cps.toList.map fun c => .str ⟨#[c]⟩) := fun H g r S σ R st i => by
  refine ⟨fun hi => ?_, fun d hd => ?_⟩
  · rw [List.length_map, Array.length_toList] at hi
    exact hi
  · rw [List.getElem?_map] at hd
    obtain ⟨c, h1, h2⟩ := Option.map_eq_some_iff.mp hd
    subst h2
    have hl := (List.getElem?_eq_some_iff.mp h1).1
    rw [Array.length_toList] at hl
    refine ⟨hl, fun x H' ⟨e1, c', e2, e3⟩ => ?_⟩
    subst e1 e3
    have e4 : z.cps[i]? = some c := by rw [← Array.getElem?_toList]; exact h1
    rw [e4] at e2
    cases e2
    exact ⟨g, R, .str _, Stp.refl⟩
theorem itok_D {v : V} (R : Rep T K H1 g1 r S σ) (q : fl = false ∨ True) : ∀ {d : D}, IsR K rb H1 g1 S.length v d → itemsD d = some ds → (∀ xs, d = .bor xs → fl = true) →
    (∃ a xs, v = .ref a ∧ SqL K H1 a xs ∧ ItOk T K fl (Itl K a) H1 g1 S.length ds) ∨ (∃ a xs, v = .ref a ∧ SqT K H1 a xs ∧ ItOk T K fl (Itt K a) H1 g1 S.length ds) ∨ ∃ z, v = .str z ∧ ItOk T K fl (Its z) H1 g1 S.length ds
  | .str z, h, e, _ => by
    cases h; cases e
    exact .inr (.inr ⟨z, rfl, itok_str⟩)
  | .scr xs, h, e, _ => by
    cases e; cases h with
    | scr h1 h2 => exact .inl ⟨_, _, rfl, R.sub.sqL h1, itok_list (fun H g n st sb => sb.sqL (st.gm.sqL h1)) h2⟩
  | .lst xs, h, e, _ => by
    cases e; cases h with
    | lst h1 h2 => exact .inl ⟨_, _, rfl, SqL.of (R.sub _ _ h1), itok_list (fun H g n st sb => SqL.of (sb _ _ (st.gm _ _ h1))) h2⟩
  | .tup xs, h, e, _ => by
    cases e; cases h with
    | tup h1 h2 => exact .inr (.inl ⟨_, _, rfl, R.sub.sqT h1, itok_tup (fun H g n st sb => sb.sqT (st.gm.sqT h1)) h2⟩)
  | .own xs, h, e, _ => by
    cases e
    obtain ⟨a, vs, rfl, h1, h2, h3, h4, h5⟩ := h
    exact .inl ⟨_, _, rfl, SqL.of h1, itok_list (fun H g n st sb => SqL.of (st.kp _ _ h1 (.inr ⟨h5, fun r hr => by rw [h4] at hr; cases hr⟩))) h2⟩
  | .bor xs, h, e, hf => by
    cases e
    have ef := hf _ rfl
    subst ef
    obtain ⟨a, vs, rfl, h1, h2, h3, h4⟩ := h
    exact .inl ⟨_, _, rfl, SqL.of h1, itok_list (fun H g n st sb => SqL.of (st.kp _ _ h1 (.inl ⟨rfl, .inl rfl⟩))) h2⟩
  | .non, _, e, _ => by cases e
  | .bl _, _, e, _ => by cases e
  | .int _, _, e, _ => by cases e
  | .dct _, _, e, _ => by cases e
  | .ob _, _, e, _ => by cases e
  | .exc _ _, _, e, _ => by cases e
end
section
variable {X : Cx} {T : Tb} {q qa qb fl ra rb : Bool} {e tg a b : Expr} {m ma mb : M D} {pos p : Pos}
theorem mIter_ok {fl : Bool} {d : D} {r : Rho} {S : Sto} {K : PySem.W.Frag} {H : Hp} {g : Gh} {n : Nat} {σ : L2.St} {Q : It → Hp → Prop} {W : WX} (h : okI T K q fl H g n σ ((match d with
  | .bor xs => if fl then M.ret xs else M.fail
  | x => lift (itemsD x) : M (List D)) r S) Q W) : ∃ ds, itemsD d = some ds ∧ (∀ xs, d = .bor xs → fl = true) ∧ ∀ J H' g', Rep T K H' g' r S σ → Stp q true H g n H' g' S.length → ItOk T K fl J H' g' S.length ds → Q J H' := by
  have go : ∀ {o : Option (List D)}, okI T K q fl H g n σ (lift o r S) Q W → ∃ ds, o = some ds ∧ ∀ J H' g', Rep T K H' g' r S σ → Stp q true H g n H' g' S.length → ItOk T K fl J H' g' S.length ds → Q J H' := fun {o} z => by
    cases o with
    | none => exact z.elim
    | some ds => exact ⟨ds, rfl, z⟩
  cases d with
  | bor xs =>
    cases fl with
    | true => exact ⟨xs, rfl, fun _ _ => rfl, h⟩
    | false => exact h.elim
  | _ =>
    obtain ⟨ds, e1, e2⟩ := go h
    exact ⟨ds, e1, (fun xs z => by cases z), e2⟩
theorem okI.bindE {K : PySem.W.Frag} {H : Hp} {g : Gh} {n : Nat} {σ : L2.St} {W : WX} {r : Rho} {S : Sto} {m : M D} {f : D → M (List D)} {Q : It → Hp → Prop} {Q1 : VK} (h : okI T K (qa && qb) fl H g n σ (M.bind m f r S) Q W)
    (k : ∀ d r1 S1 v H1 g1, m r S = .ok d r1 S1 → Rep T K H1 g1 r1 S1 σ → IsR K ra H1 g1 S1.length v d → Stp qa true H g n H1 g1 S1.length → okI T K qb fl H1 g1 S1.length σ (f d r1 S1) Q W → Q1 v H1) : okE T K qa ra H g n σ (m r S) Q1 W := by
  unfold M.bind at h
  cases e : m r S with
  | ok d r1 S1 =>
    rw [e] at h
    refine fun v H' g' a b c st => k d r1 S1 v H' g' e a b st ?_
    simp only at h
    cases e2 : f d r1 S1 with
    | ok ds r2 S2 => rw [e2] at h; exact fun J H2 g2 a2 b2 c2 => h J H2 g2 a2 (st.trans b2) c2
    | exc x r2 S2 => rw [e2] at h; exact fun H2 g2 dd a2 b2 c2 => h H2 g2 dd a2 (st.trans b2) c2
    | no => rw [e2] at h; exact h
  | exc x r1 S1 =>
    rw [e] at h
    exact fun H' g' dd a b c => h H' g' dd a (b.weak fun z => (Bool.and_eq_true_iff.mp z).1) c
  | no => rw [e] at h; exact h
theorem di_any (h : DE X T qa ra e m) : DI X T (qa && true) fl tg e (mIter fl m) := fun W tk =>
  piImp (pi_any (h W tk)) fun σ H Q ⟨g, r, S, R, k⟩ => by
    refine ⟨g, r, S, R, okI.bindE (qb := true) k fun d1 r1 S1 v1 H1 g1 _ R1 is1 st1 k1 => ?_⟩
    obtain ⟨ds, e1, e2, e3⟩ := mIter_ok k1
    rcases itok_D R1 (.inr trivial) is1 e1 e2 with ⟨a, xs, e4, e5, e6⟩ | ⟨a, xs, e4, e5, e6⟩ | ⟨z, e4, e6⟩
    · exact .inl ⟨a, xs, e4, e5, e3 _ H1 g1 R1 Stp.refl e6⟩
    · exact .inr (.inl ⟨a, xs, e4, e5, e3 _ H1 g1 R1 Stp.refl e6⟩)
    · exact .inr (.inr ⟨z, e4, e3 _ H1 g1 R1 Stp.refl e6⟩)
def mIterV (i : Nat) : M (List D) := fun r S => match r[i]? with
  | some (some (.bor xs)) => .ok xs r S
  | _ => mIter false (varF i) r S
theorem di_name {i : Nat} {x : Str} (hN : X.N[i]? = some x) (hv : Vis X.env.scope x) (hd : (x == ("__debug__" : Str)) = false) (hc : (x == ("__classdict__" : Str)) = false) : DI X T true fl tg (.Name x pos) (mIterV i) := fun W tk => by
  refine ⟨fun pins s σ H Q I ⟨g, r, S, R, k⟩ => ?_⟩
  unfold mIterV at k
  by_cases hb : ∃ xs, r[i]? = some (some (.bor xs))
  · obtain ⟨xs, hb⟩ := hb
    rw [hb] at k
    obtain ⟨v, hσ, a, vs, rfl, h1, h2, h3, h4⟩ := R.slot i _ hb
    refine (pi_any (pe_var hN hv hd hc)).run pins s σ H Q I ⟨.ref a, hσ, .inl ⟨a, vs, rfl, SqL.of h1, k _ H g R Stp.refl ?_⟩⟩
    refine itok_list (fun H' g' n st sb => SqL.of ?_) h2
    rcases h4 with h4 | h4
    · exact sb _ _ (st.gm _ _ h4)
    · exact st.kp _ _ h1 (.inr ⟨h3, fun r hr => by rw [h4] at hr; cases hr; exact .inl ⟨_, rfl⟩⟩)
  · have k2 : okI T X.K true fl H g S.length σ (mIter false (varF i) r S) Q W := by
      split at k
      · rename_i xs e; exact absurd ⟨xs, e⟩ hb
      · exact k
    have k3 : okI T X.K true false H g S.length σ (mIter false (varF i) r S) Q W := by
      cases e : mIter false (varF i) r S with
      | ok ds r1 S1 => rw [e] at k2; exact fun J H' g' a b c => k2 J H' g' a b c.wk
      | exc x r1 S1 => rw [e] at k2; exact k2
      | no => rw [e] at k2; exact k2
    exact (di_any (fl := false) (de_varF hN hv hd hc) W tk).run pins s σ H Q I ⟨g, r, S, R, k3⟩

def ups (lo : Int) (n : Nat) : List D := (List.range n).map fun k : Nat => .int (lo + (k : Int))
def rng1 : List D → Option (List D)
  | [.int j] => if -(2 ^ 62) ≤ j ∧ j < 2 ^ 62 then some (ups 0 j.toNat) else none
  | _ => none
def rng2 : List D → Option (List D)
  | [.int i, .int j] => if (-(2 ^ 62) ≤ i ∧ i < 2 ^ 62) ∧ -(2 ^ 62) ≤ j ∧ j < 2 ^ 62 then some (ups i (j - i).toNat) else none
  | _ => none
theorem rng1_some {ds xs : List D} (h : rng1 ds = some xs) : ∃ j : Int, ds = [.int j] ∧ -(2 ^ 62) ≤ j ∧ j < 2 ^ 62 ∧ xs = ups 0 j.toNat := by
  unfold rng1 at h
  split at h
  · split at h
    · rename_i hj; cases h; exact ⟨_, rfl, hj.1, hj.2, rfl⟩
    · cases h
  · cases h
theorem rng2_some {ds xs : List D} (h : rng2 ds = some xs) : ∃ i j : Int, ds = [.int i, .int j] ∧ (-(2 ^ 62) ≤ i ∧ i < 2 ^ 62 ∧ -(2 ^ 62) ≤ j ∧ j < 2 ^ 62) ∧ xs = ups i (j - i).toNat := by
  unfold rng2 at h
  split at h
  · split at h
    · rename_i hj; cases h; exact ⟨_, _, rfl, ⟨hj.1.1, hj.1.2, hj.2.1, hj.2.2⟩, rfl⟩
    · cases h
  · cases h
def mRng1 (m : M (List D)) : M (List D) := M.bind m fun ds => lift (rng1 ds)
def mRng2 (m : M (List D)) : M (List D) := M.bind m fun ds => lift (rng2 ds)
theorem okI.lift {K : PySem.W.Frag} {H : Hp} {g : Gh} {n : Nat} {σ : L2.St} {W : WX} {r : Rho} {S : Sto} {Q : It → Hp → Prop} {o : Option (List D)} (z : okI T K q fl H g n σ (DD.lift o r S) Q W) : ∃ ds, o = some ds ∧ ∀ J H' g', Rep T K H' g' r S σ → Stp q true H g n H' g' S.length → ItOk T K fl J H' g' S.length ds → Q J H' := by
  cases o with
  | none => exact z.elim
  | some ds => exact ⟨ds, rfl, z⟩
theorem itok_rng {K : PySem.W.Frag} {H1 : Hp} {g1 : Gh} {n1 : Nat} {lo : Int} {n : Nat} : ItOk T K fl (Itr lo n) H1 g1 n1 (ups lo n) := fun H g r S σ R st i => by
  unfold ups
  refine ⟨fun hi => by
    rw [List.length_map, List.length_range] at hi
    exact hi, fun d hd => ?_⟩
  rw [List.getElem?_map] at hd
  obtain ⟨k, h1, h2⟩ := Option.map_eq_some_iff.mp hd
  have hl : i < n := by simpa using (List.getElem?_eq_some_iff.mp h1).1
  rw [List.getElem?_range hl] at h1
  cases h1
  subst h2
  refine ⟨hl, fun x H' ⟨e1, e2⟩ => ?_⟩
  subst e1 e2
  exact ⟨g, R, .int _, Stp.refl⟩
theorem okI.bindA {K : PySem.W.Frag} {H : Hp} {g : Gh} {n : Nat} {σ : L2.St} {W : WX} {r : Rho} {S : Sto} {m : M (List D)} {f : List D → M (List D)} {Q : It → Hp → Prop} {Q1 : List V → Hp → Prop} (h : okI T K (qa && qb) fl H g n σ (M.bind m f r S) Q W)
    (k : ∀ ds r1 S1 vs H1 g1, m r S = .ok ds r1 S1 → Rep T K H1 g1 r1 S1 σ → IsAs K H g H1 g1 S1.length vs ds → Stp qa true H g n H1 g1 S1.length → okI T K qb fl H1 g1 S1.length σ (f ds r1 S1) Q W → Q1 vs H1) : okA T K qa H g n σ (m r S) Q1 W := by
  unfold M.bind at h
  cases e : m r S with
  | ok d r1 S1 =>
    rw [e] at h
    refine fun v H' g' a b st => k d r1 S1 v H' g' e a b st ?_
    simp only at h
    cases e2 : f d r1 S1 with
    | ok ds r2 S2 => rw [e2] at h; exact fun J H2 g2 a2 b2 c2 => h J H2 g2 a2 (st.trans b2) c2
    | exc x r2 S2 => rw [e2] at h; exact fun H2 g2 dd a2 b2 c2 => h H2 g2 dd a2 (st.trans b2) c2
    | no => rw [e2] at h; exact h
  | exc x r1 S1 =>
    rw [e] at h
    exact fun H' g' dd a b c => h H' g' dd a (b.weak fun z => (Bool.and_eq_true_iff.mp z).1) c
  | no => rw [e] at h; exact h
theorem IsAs.int1 {K : PySem.W.Frag} {H0 H : Hp} {g0 g : Gh} {n : Nat} {vs : List V} {i : Int} (h : IsAs K H0 g0 H g n vs [.int i]) : vs = [.int i] := by
  match vs, h.len with
  | [v], _ =>
    have z := (h.at_ 0 v _ rfl rfl).1
    cases z
    rfl
theorem IsAs.int2 {K : PySem.W.Frag} {H0 H : Hp} {g0 g : Gh} {n : Nat} {vs : List V} {i j : Int} (h : IsAs K H0 g0 H g n vs [.int i, .int j]) : vs = [.int i, .int j] := by
  match vs, h.len with
  | [v, w], _ =>
    have z := (h.at_ 0 v _ rfl rfl).1
    have y := (h.at_ 1 w _ rfl rfl).1
    cases z
    cases y
    rfl
theorem di_rng1 {mm : M (List D)} (hg : Gl X "range") (hm : X.mg "range" = none) (ha : DA X T qa [a] mm) (hn : nst a = true) : DI X T (qa && true) fl tg (.Call (.Name "range" p) [a] [] pos) (mRng1 mm) := fun W tk =>
  piImp (pi_range1 hg hm (ha W tk) (starC hn)) fun σ H Q ⟨g, r, S, R, k⟩ => by
    refine ⟨g, r, S, R, okI.bindA (qb := true) k fun ds r1 S1 vs H1 g1 _ R1 is1 st1 k1 => ?_⟩
    obtain ⟨xs, e1, k2⟩ := k1.lift
    obtain ⟨j, rfl, h1, h2, rfl⟩ := rng1_some e1
    have ev := is1.int1
    subst ev
    exact ⟨j, rfl, h1, h2, k2 _ H1 g1 R1 Stp.refl itok_rng⟩
theorem di_rng2 {mm : M (List D)} (hg : Gl X "range") (hm : X.mg "range" = none) (ha : DA X T qa [a, b] mm) (hn : nst a = true) (hn2 : nst b = true) : DI X T (qa && true) fl tg (.Call (.Name "range" p) [a, b] [] pos) (mRng2 mm) := fun W tk =>
  piImp (pi_range2 hg hm (ha W tk) (by rw [starC hn, starC hn2]; rfl) (starC hn2)) fun σ H Q ⟨g, r, S, R, k⟩ => by
    refine ⟨g, r, S, R, okI.bindA (qb := true) k fun ds r1 S1 vs H1 g1 _ R1 is1 st1 k1 => ?_⟩
    obtain ⟨xs, e1, k2⟩ := k1.lift
    obtain ⟨i, j, rfl, h1, rfl⟩ := rng2_some e1
    have ev := is1.int2
    subst ev
    exact ⟨i, j, rfl, h1, k2 _ H1 g1 R1 Stp.refl itok_rng⟩
end
end DD

set_option Elab.async false
set_option linter.all false
set_option maxRecDepth 100000
set_option maxHeartbeats 4000000
namespace DD
open PySem PySem.Spec PyProof.Rows L2

theorem spentT {prog : Program} {w : World} {A : Around} (hh : A.handled = none) (it t : Addr) (items : Array Value) (i : Nat) :
    Draws prog w A.in1 it [it, t] i (fun _ _ => True) (fun k h => k = i ∧ h.IsTupleIter it t i ∧ h.IsTuple t items ∧ items.size ≤ i) where
  live := fun _ _ ⟨_, ⟨o, ho, _⟩, _⟩ => ⟨o, ho⟩
  frame := fun _ _ _ ⟨e, h1, h2, h3⟩ hk => ⟨e, h1.at fun o z => hk it (by simp) o z, h2.at fun o z => hk t (by simp) o z, h3⟩
  item := fun k s Q E hi ⟨e, _⟩ _ => absurd hi (by rw [e]; exact Nat.lt_irrefl _)
  done := fun s Q E ⟨_, h1, h2, h3⟩ hE => wpAny_nextOf_tuple_end (A := A.in1) hh h1 h2 (Array.getElem?_eq_none h3) hE
set_option maxHeartbeats 1000000 in
theorem meets_enumT (t : Addr) (items : Array Value) :
    Meets (Builtin.«enumerate.__new__» ⟨[.type "enumerate", .ref t], []⟩) (fun _ R s => s.heap.IsTuple t items ∧
      R (.ok (.ret (.ref (s.heap.push { cls := .type "tuple_iterator", data := .fields #[.ref t, .int 0 0] }).objs.size)))
        { s with heap := (s.heap.push { cls := .type "tuple_iterator", data := .fields #[.ref t, .int 0 0] }).push { cls := .type "enumerate", data := .fields #[.none, .bool false, .ref s.heap.objs.size, rawInt 0, .none, .none] } }) := by
  refine .of_wp fun prog w A R ⟨hp, gg, dd, tk, os⟩ ⟨ht, fin⟩ => ?_
  have hsub := sub_enumerate
  have nxt : ∀ {A' : Around} {E Q : Value → Shared → Prop}, Q (.ref hp.objs.size) ⟨hp.push { cls := .type "tuple_iterator", data := .fields #[.ref t, .int 0 0] }, gg, dd, tk, os⟩ → wpAny (model prog w) A' (pyIter (.ref t)) Q E ⟨hp, gg, dd, tk, os⟩ :=
    fun z => wpAny_pyIter_tuple (s := ⟨hp, gg, dd, tk, os⟩) ht z
  wp_walk using nxt
  refine wpAny_stack_any fun stk => wpAny_pure ?_
  split
  · rename_i c _ _ _ _ _
    cases (c == Value.type "enumerate") <;> (wp_walk using nxt; exact ⟨_, rfl, fin⟩)
  · wp_walk using nxt
    exact ⟨_, rfl, fin⟩
theorem call_enumT {prog : Program} {w : World} {A : Around} {E : Value → Shared → Prop} {s : Shared} {t : Addr} {items : Array Value} {Q : Value → Shared → Prop} (ht : s.heap.IsTuple t items)
    (k : ∀ h', IsEnum h' (s.heap.objs.size + 1) s.heap.objs.size 0 .none → h'.IsTupleIter s.heap.objs.size t 0 → h'.objs.size = s.heap.objs.size + 2 → (∀ b o, s.heap.get? b = some o → h'.get? b = some o) → Q (.ref (s.heap.objs.size + 1)) { s with heap := h' }) :
    wpAny (model prog w) A (call (.type "enumerate") [.ref t]) Q E s := by
  obtain ⟨h1, eh1⟩ : ∃ h1, h1 = s.heap.push { cls := .type "tuple_iterator", data := .fields #[.ref t, .int 0 0] } := ⟨_, rfl⟩
  have z1 : h1.objs.size = s.heap.objs.size + 1 := by rw [eh1]; exact Heap.size_push ..
  have g1 : h1.get? s.heap.objs.size = some { cls := .type "tuple_iterator", data := .fields #[.ref t, .int 0 0] } := by rw [eh1]; exact Heap.get?_push_size _ rfl
  have k1 : ∀ b o, s.heap.get? b = some o → h1.get? b = some o := fun b o e => by rw [eh1]; exact Heap.get?_push_of_some _ e
  refine callType_new F.called_enumerate (by decide) (F.typeCall_enumerate_1 _) (F.newCall_enumerate_1 _) (fun ob => F.args_object_init_2 ob _)
    F.entry_enumerate_new (meets_enumT t items) ⟨ht, ?_⟩
  show _ ∧ _
  rw [← eh1, z1]
  have he : IsEnum (h1.push { cls := .type "enumerate", data := .fields #[.none, .bool false, .ref s.heap.objs.size, rawInt 0, .none, .none] }) (s.heap.objs.size + 1) s.heap.objs.size 0 .none := by
    have e := Heap.get?_push_size h1 (o := { cls := .type "enumerate", data := .fields #[.none, .bool false, .ref s.heap.objs.size, rawInt 0, .none, .none] }) rfl
    rw [z1] at e; exact e
  exact ⟨⟨_, he, rfl⟩, k _ he ⟨_, Heap.get?_push_of_some _ g1, rfl, rfl⟩ (by rw [Heap.size_push, z1]) fun b o e => Heap.get?_push_of_some _ (k1 b o e)⟩
def IteT (K : PySem.W.Frag) (a : Addr) : It where
  go := fun i H => ∃ (xs : List V) (x : V), SqT K H a xs ∧ xs[i]? = some x
  yld := fun i H v H' => ∃ P x, v = .ref P ∧ H P = none ∧ H' = upd H P (.tup [.int (i : Nat), x]) ∧ ∀ xs, SqT K H a xs → xs[i]? = some x
  stop := fun i H => ∃ xs : List V, SqT K H a xs ∧ xs.length ≤ i
theorem turn_enumT {P : Program} {w : World} {K : PySem.W.Frag} {elts : List Expr} {kk : Nat} {tpos : Pos} (a e it : Addr) (hai : a ≠ it) (hae : a ≠ e) :
    Turn P w K (.Tuple elts kk tpos) (IteT K a) [e, it] e (fun i h => (∃ old, IsEnum h e it ((i : Nat) : Int) old) ∧ h.IsTupleIter it a i ∧ e ≠ it) where
  mem := List.mem_cons_self
  obj := fun i h ⟨⟨old, he⟩, ⟨o, ho, _, hd⟩, _⟩ b hb => by
    rcases List.mem_cons.mp hb with z | z
    · exact z ▸ ⟨_, he, fun v q => nomatch q⟩
    · have z' := List.mem_singleton.mp z
      exact z' ▸ ⟨o, ho, fun v q => by rw [hd] at q; cases q⟩
  keep := fun i h h' ⟨⟨old, he⟩, hi, hne⟩ k => ⟨⟨old, k e (by simp) _ he⟩, hi.at fun o q => k it (by simp) o q, hne⟩
  item := by
    intro X hP hw hK hc i pins s σ H E J hf st hgo
    subst hP hw hK
    obtain ⟨⟨old, he⟩, hit, hne⟩ := st
    obtain ⟨xs, x, sq, hx⟩ := hgo
    obtain ⟨its, rv, pt, _⟩ := J.tuple sq
    obtain ⟨u, hu, ru⟩ := rv.get hx
    have le : e < s.heap.objs.size := Heap.lt_size he
    have li : it < s.heap.objs.size := by obtain ⟨_, q, _⟩ := hit; exact Heap.lt_size q
    have below : ∀ b, b ∈ [e, it] → b < s.heap.objs.size := fun b hb => by
      rcases List.mem_cons.mp hb with z | z
      · exact z ▸ le
      · exact (List.mem_singleton.mp z) ▸ li
    have DT := Draws.tuple (prog := X.prog) (w := X.w) (A := X.A.in1) (J.ok.hd hc) it a hai its.toArray
    have hi : i < its.toArray.size := by
      have := (List.getElem?_eq_some_iff.mp hu).1
      simpa using this
    refine wpAny_pyNext_enum_itemC DT he ⟨hit, (show s.heap.IsTuple a its.toArray from pt)⟩ hi hne (by simp [hne, Ne.symm hae]) fun y h' tk hy ho hst hT hsz hk => ?_
    have ey : y = u := by
      have z : its.toArray[i]? = some u := by simpa using hu
      have z' : its.toArray[i]? = some y := hy
      rw [z] at z'; cases z'; rfl
    subst ey
    refine ⟨_, rfl, wpAny_letOwnedTupleGo_enum (s := { s with heap := h', toks := tk + 1 }) ho fun h2 he2 sb => ?_⟩
    have hP2 : h2.get? s.heap.objs.size = some { cls := .type "tuple", data := .seq #[.int i tk, y] } := (sb.2 _ (Nat.ne_of_gt le)).trans hT
    have ob : ObjOk X.prog X.w (upd H s.heap.objs.size (.tup [.int (i : Nat), x])) h2 s.heap.objs.size (.tup [.int (i : Nat), x]) :=
      ⟨by show 2 ≤ sizeLine; decide, [.int i tk, y], .cons ⟨_, rfl⟩ (.cons ru .nil), ⟨_, hP2, rfl, _, rfl⟩⟩
    have J1 : Inv X pins σ (upd H s.heap.objs.size (.tup [.int (i : Nat), x])) { s with heap := h2, toks := tk + 1 } :=
      J.turnedNew (ch := [e, it]) (fun b o hb q => (sb.2 b (fun z => hb (by rw [z]; exact List.mem_cons_self))).trans (hk b o (fun z => hb (by rw [z]; exact List.mem_cons_self)) (fun z => hb (by rw [z]; simp)) q)) hf (Nat.le_refl _) ob
    refine ⟨.ref s.heap.objs.size, _, J1, rfl, ⟨_, x, rfl, J.hok.fresh (Nat.le_refl _), rfl, fun ys hy => by rw [J.tuple_inj hy sq]; exact hx⟩, ⟨⟨y, ?_⟩, hst.1.at fun o q => (sb.2 it (Ne.symm hne)).trans q, hne⟩, fun b hb => ?_⟩
    · rw [show ((i + 1 : Nat) : Int) = (i : Int) + 1 by omega]
      exact he2
    · rw [upd_ne (Nat.ne_of_lt (below b hb))]
      exact (hf b hb).1
  done := by
    intro X hP hw hK hc i pins s σ H E J hf st hstop
    subst hP hw hK
    obtain ⟨⟨old, he⟩, hit, hne⟩ := st
    obtain ⟨xs, sq, hx⟩ := hstop
    obtain ⟨its, rv, pt, _⟩ := J.tuple sq
    have hsz : its.toArray.size ≤ i := by
      have := rv.length
      simp; omega
    have hin := (hf it (by simp))
    exact wpAny_pyNext_enum_endD (spentT (J.ok.hd hc) it a its.toArray i) he ⟨rfl, hit, (show s.heap.IsTuple a its.toArray from pt), hsz⟩ fun h' eb => ⟨rfl, J.turned (t' := s.toks) (fun b o hb q => eb b o hb q) hin.1 hin.2.1 hin.2.2.2.1 hin.2.2.2.2.1 hin.2.2.2.2.2⟩
  self := fun A i s Q E ⟨⟨_, he⟩, _⟩ h => wpAny_pyIter_enum he h
def iEnumA (K : PySem.W.Frag) (ta : TA) : TI := fun σ H R => ta σ H fun vs H1 => ∃ a, vs = [.ref a] ∧ ((∃ xs, SqL K H1 a xs ∧ R (Ite K a) H1) ∨ ∃ xs, SqT K H1 a xs ∧ R (IteT K a) H1)
theorem pi_enumA {X : Cx} {e : Expr} {ta : TA} {p pos tpos : Pos} {elts : List Expr} {kk : Nat} (hg : Gl X "enumerate") (hm : X.mg "enumerate" = none) (ha : PA X [e] ta) (hn : nst e = true) :
    PI X (.Tuple elts kk tpos) (.Call (.Name "enumerate" p) [e] [] pos) (iEnumA X.K ta) := by
  refine ⟨fun pins s σ H R J h => Call_ (ld_blt J hg hm boot_enumerate (PyProof.Rows.callWith_type1 (thn (ha.run pos pins s σ H _ J h) fun us s1 ⟨vs, H1, J1, ru, a, ev, hq⟩ => ?_) (starC hn) rfl))⟩
  subst ev
  obtain rfl : us = [Value.ref a] := by
    cases ru with
    | cons r rr => cases rr; cases r; rfl
  have fresh : ∀ b ∈ [s1.heap.objs.size + 1, s1.heap.objs.size], FpOk X pins H1 b := fun b hb => by
    have hle : s1.heap.objs.size ≤ b := by
      rcases List.mem_cons.mp hb with z | z
      · rw [z]; exact Nat.le_add_right _ _
      · rw [List.mem_singleton.mp z]; exact Nat.le_refl _
    exact J1.fpOk hle (J1.hok.fresh hle)
  rcases hq with ⟨xs, sq, q⟩ | ⟨xs, sq, q⟩
  · obtain ⟨its, _, pl, _⟩ := J1.list sq
    refine call_enumerate_list pl.isList fun h' he hit _ hk => wpAny_pyIter_enum he ?_
    exact ⟨_, [s1.heap.objs.size + 1, s1.heap.objs.size], _, _, H1, rfl, J1.kept (t' := s1.toks) hk, turn_enum a (s1.heap.objs.size + 1) s1.heap.objs.size, ⟨⟨.none, he⟩, hit, Nat.succ_ne_self _⟩, fresh, q⟩
  · obtain ⟨its, _, pt, _⟩ := J1.tuple sq
    obtain ⟨o, ho, _⟩ := id pt
    have la : a < s1.heap.objs.size := Heap.lt_size ho
    refine call_enumT (show s1.heap.IsTuple a its.toArray from pt) fun h' he hit _ hk => wpAny_pyIter_enum he ?_
    exact ⟨_, [s1.heap.objs.size + 1, s1.heap.objs.size], _, _, H1, rfl, J1.kept (t' := s1.toks) hk, turn_enumT a (s1.heap.objs.size + 1) s1.heap.objs.size (Nat.ne_of_lt la) (Nat.ne_of_lt (Nat.lt_succ_of_lt la)), ⟨⟨.none, he⟩, hit, Nat.succ_ne_self _⟩, fresh, q⟩

def enumD : Nat → List D → List D
  | _, [] => []
  | k, d :: r => .tup [.int (k : Nat), d] :: enumD (k + 1) r
theorem enumD_get : ∀ {ds : List D} {k i : Nat} {d : D}, (enumD k ds)[i]? = some d → ∃ x, ds[i]? = some x ∧ d = .tup [.int ((k + i : Nat) : Int), x]
  | [], _, _, _, e => by simp [enumD] at e
  | x :: r, k, 0, d, e => by
    simp [enumD] at e
    exact ⟨x, rfl, by rw [← e, Nat.add_zero]⟩
  | x :: r, k, i + 1, d, e => by
    obtain ⟨y, e1, e2⟩ := enumD_get (ds := r) (k := k + 1) (i := i) (d := d) (by simpa [enumD] using e)
    exact ⟨y, by simpa using e1, by rw [e2, show k + 1 + i = k + (i + 1) by omega]⟩
theorem enumD_len : ∀ {ds : List D} {k : Nat}, (enumD k ds).length = ds.length
  | [], _ => rfl
  | _ :: r, k => by simp [enumD, enumD_len (ds := r)]
def zipD : List D → List D → List D
  | x :: xs, y :: ys => .tup [x, y] :: zipD xs ys
  | _, _ => []
theorem zipD_get : ∀ {xs ys : List D} {i : Nat} {d : D}, (zipD xs ys)[i]? = some d → ∃ x y, xs[i]? = some x ∧ ys[i]? = some y ∧ d = .tup [x, y]
  | [], _, _, _, e => by simp [zipD] at e
  | _ :: _, [], _, _, e => by simp [zipD] at e
  | x :: xs, y :: ys, 0, d, e => by simp [zipD] at e; exact ⟨x, y, rfl, rfl, e.symm⟩
  | x :: xs, y :: ys, i + 1, d, e => by
    obtain ⟨a, b, h1, h2, h3⟩ := zipD_get (xs := xs) (ys := ys) (i := i) (d := d) (by simpa [zipD] using e)
    exact ⟨a, b, by simpa using h1, by simpa using h2, h3⟩
theorem zipD_stop : ∀ {xs ys : List D} {i : Nat}, (zipD xs ys).length ≤ i → xs.length ≤ i ∨ ys.length ≤ i
  | [], _, _, _ => .inl (Nat.zero_le _)
  | _ :: _, [], _, _ => .inr (Nat.zero_le _)
  | x :: xs, y :: ys, 0, h => by simp [zipD] at h
  | x :: xs, y :: ys, i + 1, h => by
    rcases zipD_stop (xs := xs) (ys := ys) (i := i) (by simpa [zipD] using h) with z | z
    · exact .inl (by simpa using z)
    · exact .inr (by simpa using z)
section
variable {T : Tb} {K : PySem.W.Frag} {H H1 : Hp} {g g1 : Gh} {r : Rho} {S : Sto} {σ : L2.St} {n1 : Nat} {fl : Bool} {ds es : List D} {vs ws : List V}
theorem pairOk (R : Rep T K H g r S σ) {P : Addr} {x y : V} {d e : D} (hP : H P = none) (hx : IsF K g.G g.io S.length x d) (hy : IsF K g.G g.io S.length y e) :
    ∃ g', Rep T K (upd H P (.tup [x, y])) g' r S σ ∧ IsF K g'.G g'.io S.length (.ref P) (.tup [d, e]) ∧ Stp true true H g S.length (upd H P (.tup [x, y])) g' S.length := by
  obtain ⟨a, b, c⟩ := finTup (q := true) R hP (.cons hx (.cons hy .nil))
  exact ⟨_, a, b, c⟩
theorem itok_enum {a : Addr} {J : It} (sq : Hp → Addr → List V → Prop) (hJ : J.go = (fun i H => ∃ (xs : List V) (x : V), sq H a xs ∧ xs[i]? = some x) ∧ J.yld = (fun i H v H' => ∃ P x, v = .ref P ∧ H P = none ∧ H' = upd H P (.tup [.int (i : Nat), x]) ∧ ∀ xs, sq H a xs → xs[i]? = some x) ∧ J.stop = fun i H => ∃ xs : List V, sq H a xs ∧ xs.length ≤ i)
    (h : ∀ H g n, Stp fl fl H1 g1 n1 H g n → Sub g.G H → sq H a vs) (hs : IsFs K g1.G g1.io n1 vs ds) : ItOk T K fl J H1 g1 n1 (enumD 0 ds) := fun H g r S σ R st i => by
  have q := h H g _ st R.sub
  obtain ⟨j1, j2, j3⟩ := hJ
  rw [j1, j2, j3]
  refine ⟨fun hi => ⟨vs, q, by rw [hs.length]; rw [enumD_len] at hi; exact hi⟩, fun d hd => ?_⟩
  obtain ⟨x, hx, rfl⟩ := enumD_get hd
  obtain ⟨v, hv, hf⟩ := hs.get hx
  refine ⟨⟨vs, v, q, hv⟩, fun y H' ⟨P, z, e1, e2, e3, e4⟩ => ?_⟩
  have ez := e4 vs q
  rw [hv] at ez
  cases ez
  subst e1 e3
  rw [Nat.zero_add]
  exact pairOk R e2 (.int _) (st.isF hf)
theorem itok_zip {a b : Addr} {J : It} (sq : Hp → Addr → List V → Prop) (hJ : J.go = (fun i H => ∃ (xs ys : List V) (x y : V), sq H a xs ∧ sq H b ys ∧ xs[i]? = some x ∧ ys[i]? = some y) ∧ J.yld = (fun i H v H' => ∃ P x y, v = .ref P ∧ H P = none ∧ H' = upd H P (.tup [x, y]) ∧ (∀ xs, sq H a xs → xs[i]? = some x) ∧ ∀ ys, sq H b ys → ys[i]? = some y) ∧ J.stop = fun i H => ∃ xs ys : List V, sq H a xs ∧ sq H b ys ∧ (xs.length ≤ i ∨ ys.length ≤ i))
    (h : ∀ H g n, Stp fl fl H1 g1 n1 H g n → Sub g.G H → sq H a vs ∧ sq H b ws) (hs : IsFs K g1.G g1.io n1 vs ds) (hs2 : IsFs K g1.G g1.io n1 ws es) : ItOk T K fl J H1 g1 n1 (zipD ds es) := fun H g r S σ R st i => by
  have q := h H g _ st R.sub
  obtain ⟨j1, j2, j3⟩ := hJ
  rw [j1, j2, j3]
  refine ⟨fun hi => ⟨vs, ws, q.1, q.2, by rw [hs.length, hs2.length]; exact zipD_stop hi⟩, fun d hd => ?_⟩
  obtain ⟨x, y, hx, hy, rfl⟩ := zipD_get hd
  obtain ⟨v, hv, hf⟩ := hs.get hx
  obtain ⟨w, hw, hf2⟩ := hs2.get hy
  refine ⟨⟨vs, ws, v, w, q.1, q.2, hv, hw⟩, fun z H' ⟨P, z1, z2, e1, e2, e3, e4, e5⟩ => ?_⟩
  have ez := e4 vs q.1
  have ey := e5 ws q.2
  rw [hv] at ez
  rw [hw] at ey
  cases ez
  cases ey
  subst e1 e3
  exact pairOk R e2 (st.isF hf) (st.isF hf2)
def SeqOk (T : Tb) (K : PySem.W.Frag) (fl : Bool) (H1 : Hp) (g1 : Gh) (n1 : Nat) (v : V) (ds : List D) : Prop := ∃ a vs, v = .ref a ∧ IsFs K g1.G g1.io n1 vs ds ∧
  ((∀ H g n, Stp fl fl H1 g1 n1 H g n → Sub g.G H → SqL K H a vs) ∨ ∀ H g n, Stp fl fl H1 g1 n1 H g n → Sub g.G H → SqT K H a vs)
theorem seqOk_D {rb : Bool} {v : V} {n : Nat} : ∀ {d : D}, IsR K rb H1 g1 n v d → seqD d = some ds → (∀ xs, d = .bor xs → fl = true) → SeqOk T K fl H1 g1 n v ds
  | .lst xs, h, e, _ => by
    cases e; cases h with
    | lst h1 h2 => exact ⟨_, _, rfl, h2, .inl fun H g n st sb => SqL.of (sb _ _ (st.gm _ _ h1))⟩
  | .tup xs, h, e, _ => by
    cases e; cases h with
    | tup h1 h2 => exact ⟨_, _, rfl, h2, .inr fun H g n st sb => sb.sqT (st.gm.sqT h1)⟩
  | .own xs, h, e, _ => by
    cases e
    obtain ⟨a, vs, rfl, h1, h2, h3, h4, h5⟩ := h
    exact ⟨_, _, rfl, h2, .inl fun H g n st sb => SqL.of (st.kp _ _ h1 (.inr ⟨h5, fun r hr => by rw [h4] at hr; cases hr⟩))⟩
  | .bor xs, h, e, hf => by
    cases e
    have ef := hf _ rfl
    subst ef
    obtain ⟨a, vs, rfl, h1, h2, h3, h4⟩ := h
    exact ⟨_, _, rfl, h2, .inl fun H g n st sb => SqL.of (st.kp _ _ h1 (.inl ⟨rfl, .inl rfl⟩))⟩
  | .str _, _, e, _ => by cases e
  | .scr _, _, e, _ => by cases e
  | .non, _, e, _ => by cases e
  | .bl _, _, e, _ => by cases e
  | .int _, _, e, _ => by cases e
  | .dct _, _, e, _ => by cases e
  | .ob _, _, e, _ => by cases e
  | .exc _ _, _, e, _ => by cases e
end
def borD : D → Bool
  | .bor _ => true
  | _ => false
def mEnum (fl : Bool) (m : M (List D)) : M (List D) := M.bind m fun ds => match ds with
  | [x] => if !fl && borD x then M.fail else lift ((seqD x).map (enumD 0))
  | _ => M.fail
def isTupD : D → Bool
  | .tup _ => true
  | _ => false
def mZip (fl : Bool) (m : M (List D)) : M (List D) := M.bind m fun ds => match ds with
  | [x, y] => if (!fl && (borD x || borD y)) || isTupD x != isTupD y then M.fail else lift ((seqD x).bind fun xs => (seqD y).map (zipD xs))
  | _ => M.fail
section
variable {X : Cx} {T : Tb} {q qa qb fl ra rb : Bool} {e tg a b : Expr} {mm : M (List D)} {pos p tpos : Pos} {elts : List Expr} {kk : Nat}
theorem di_enum (hg : Gl X "enumerate") (hm : X.mg "enumerate" = none) (ha : DA X T qa [e] mm) (hn : nst e = true) : DI X T (qa && true) fl (.Tuple elts kk tpos) (.Call (.Name "enumerate" p) [e] [] pos) (mEnum fl mm) := fun W tk =>
  piImp (pi_enumA hg hm (ha W tk) hn) fun σ H Q ⟨g, r, S, R, k⟩ => by
    refine ⟨g, r, S, R, okI.bindA (qb := true) k fun ds r1 S1 vs H1 g1 _ R1 is1 st1 k1 => ?_⟩
    match ds, k1 with
    | [x], k1 =>
      simp only at k1
      split at k1
      · exact k1.elim
      · rename_i hb
        obtain ⟨xs, e1, k2⟩ := k1.lift
        obtain ⟨ys, e2, e3⟩ := Option.map_eq_some_iff.mp e1
        subst e3
        obtain ⟨v, rfl⟩ : ∃ v, vs = [v] := by
          match vs, is1.len with
          | [v], _ => exact ⟨v, rfl⟩
        have ir := (is1.at_ 0 v x rfl rfl).1
        obtain ⟨l, us, rfl, h1, h2⟩ := seqOk_D (T := T) (fl := fl) ir e2 (fun zs ez => by
          subst ez
          simp [borD] at hb
          exact hb)
        refine ⟨l, rfl, ?_⟩
        rcases h2 with h2 | h2
        · exact .inl ⟨us, h2 H1 g1 _ Stp.refl R1.sub, k2 _ H1 g1 R1 Stp.refl (itok_enum (fun H a xs => SqL X.K H a xs) ⟨rfl, rfl, rfl⟩ h2 h1)⟩
        · exact .inr ⟨us, h2 H1 g1 _ Stp.refl R1.sub, k2 _ H1 g1 R1 Stp.refl (itok_enum (fun H a xs => SqT X.K H a xs) ⟨rfl, rfl, rfl⟩ h2 h1)⟩
    | [], k1 => exact k1.elim
    | _ :: _ :: _, k1 => exact k1.elim
theorem di_zip (hg : Gl X "zip") (hm : X.mg "zip" = none) (ha : DA X T qa [a, b] mm) (hn : nst a = true) (hn2 : nst b = true) : DI X T (qa && true) fl (.Tuple elts kk tpos) (.Call (.Name "zip" p) [a, b] [] pos) (mZip fl mm) := fun W tk =>
  piImp (RZ.pi_zipA hg hm (ha W tk) (starC hn) (starAny (by simp [hn2]))) fun σ H Q ⟨g, r, S, R, k⟩ => by
    refine ⟨g, r, S, R, okI.bindA (qb := true) k fun ds r1 S1 vs H1 g1 _ R1 is1 st1 k1 => ?_⟩
    match ds, k1 with
    | [x, y], k1 =>
      simp only at k1
      split at k1
      · exact k1.elim
      · rename_i hb
        obtain ⟨xs, e1, k2⟩ := k1.lift
        obtain ⟨us, e2, e3⟩ := Option.bind_eq_some_iff.mp e1
        obtain ⟨ws, e4, e5⟩ := Option.map_eq_some_iff.mp e3
        subst e5
        obtain ⟨v, w, rfl⟩ : ∃ v w, vs = [v, w] := by
          match vs, is1.len with
          | [v, w], _ => exact ⟨v, w, rfl⟩
        have ir := (is1.at_ 0 v x rfl rfl).1
        have ir2 := (is1.at_ 1 w y rfl rfl).1
        simp only [Bool.or_eq_true, Bool.and_eq_true, not_or, not_and, Bool.not_eq_true', bne_iff_ne, ne_eq, Decidable.not_not] at hb
        have sameT : isTupD x = isTupD y := by simpa using hb.2
        have fb : ∀ zs, x = .bor zs → fl = true := fun zs ez => by
          subst ez
          cases fl with
          | true => rfl
          | false => exact absurd rfl (hb.1 rfl).1
        have fb2 : ∀ zs, y = .bor zs → fl = true := fun zs ez => by
          subst ez
          cases fl with
          | true => rfl
          | false => exact absurd rfl (hb.1 rfl).2
        by_cases ht : isTupD x = true
        · cases x with
          | tup xs =>
            rw [ht] at sameT
            cases y with
            | tup ys =>
              cases e2; cases e4
              cases ir with
              | tup h1 h2 =>
                cases ir2 with
                | tup h3 h4 => exact ⟨_, _, _, _, rfl, .inr ⟨R1.sub.sqT h1, R1.sub.sqT h3, k2 _ H1 g1 R1 Stp.refl (itok_zip (fun H a xs => SqT X.K H a xs) ⟨rfl, rfl, rfl⟩ (fun H g n st sb => ⟨sb.sqT (st.gm.sqT h1), sb.sqT (st.gm.sqT h3)⟩) h2 h4)⟩⟩
            | _ => cases sameT
          | _ => cases ht
        · have hl : ∀ {v : V} {x : D} {us : List D}, isTupD x ≠ true → IsR X.K false H1 g1 S1.length v x → seqD x = some us → (∀ zs, x = .bor zs → fl = true) → ∃ a vs, v = .ref a ∧ IsFs X.K g1.G g1.io S1.length vs us ∧ ∀ H g n, Stp fl fl H1 g1 S1.length H g n → Sub g.G H → SqL X.K H a vs := fun {v x us} hx hr hs hf => by
            obtain ⟨l, vs, q1, q2, q3⟩ := seqOk_D (T := T) (fl := fl) hr hs hf
            rcases q3 with q3 | q3
            · exact ⟨l, vs, q1, q2, q3⟩
            · cases x with
              | tup _ => exact absurd rfl hx
              | lst _ => cases hs; cases hr with
                | lst h1 h2 => cases q1; exact ⟨_, _, rfl, h2, fun H g n st sb => SqL.of (sb _ _ (st.gm _ _ h1))⟩
              | own _ =>
                cases hs
                obtain ⟨a, vs', e1, h1, h2, h3, h4, h5⟩ := hr
                exact ⟨a, vs', e1, h2, fun H g n st sb => SqL.of (st.kp _ _ h1 (.inr ⟨h5, fun r hr => by rw [h4] at hr; cases hr⟩))⟩
              | bor _ =>
                cases hs
                have ef := hf _ rfl
                subst ef
                obtain ⟨a, vs', e1, h1, h2, h3, h4⟩ := hr
                exact ⟨a, vs', e1, h2, fun H g n st sb => SqL.of (st.kp _ _ h1 (.inl ⟨rfl, .inl rfl⟩))⟩
              | _ => cases hs
          obtain ⟨l1, us1, rfl, f1, s1⟩ := hl ht ir e2 fb
          obtain ⟨l2, us2, rfl, f2, s2⟩ := hl (by rw [← sameT]; exact ht) ir2 e4 fb2
          exact ⟨l1, l2, us1, us2, rfl, .inl ⟨s1 H1 g1 _ Stp.refl R1.sub, s2 H1 g1 _ Stp.refl R1.sub, k2 _ H1 g1 R1 Stp.refl (itok_zip (fun H a xs => SqL X.K H a xs) ⟨rfl, rfl, rfl⟩ (fun H g n st sb => ⟨s1 H g n st sb, s2 H g n st sb⟩) f1 f2)⟩⟩
    | [], k1 => exact k1.elim
    | [_], k1 => exact k1.elim
    | _ :: _ :: _ :: _, k1 => exact k1.elim
end
end DD

set_option Elab.async false
set_option linter.all false
set_option maxRecDepth 100000
set_option maxHeartbeats 4000000
namespace DD
open PySem PySem.Spec PyProof.Rows L2

inductive Tg where
  | nm (i : Nat)
  | tp (ts : List Tg)
mutual
def gOf (K : PySem.W.Frag) : Tg → TG
  | .nm i => gName i
  | .tp ts => gTup K ts.length (gsOf K ts)
def gsOf (K : PySem.W.Frag) : List Tg → TGs
  | [] => gNil
  | t :: ts => gCons (gOf K t) (gsOf K ts)
end
mutual
def setT : Tg → D → Rho → Option Rho
  | .nm i, d, r => some (r.set i (some d))
  | .tp ts, .tup ds, r => setTs ts ds r
  | .tp _, _, _ => none
def setTs : List Tg → List D → Rho → Option Rho
  | [], [], r => some r
  | t :: ts, d :: ds, r => (setT t d r).bind fun r' => setTs ts ds r'
  | _, _, _ => none
end
mutual
def Tg.slots : Tg → List Nat
  | .nm i => [i]
  | .tp ts => Tg.slotsL ts
def Tg.slotsL : List Tg → List Nat
  | [] => []
  | t :: ts => t.slots ++ Tg.slotsL ts
end
theorem wipe_put {σ : L2.St} {v : Nat} {x : Option V} : ∀ vs : List Nat, (wipe (σ.set v x) vs).set v none = (wipe σ vs).set v none
  | [] => by unfold wipe; rw [List.set_set]
  | u :: vs => by
    unfold wipe
    by_cases e : u = v
    · subst e
      rw [List.set_set, List.set_set]
      exact wipe_put vs
    · rw [List.set_comm _ _ e, wipe_put vs, List.set_comm _ _ e]
theorem wipe_set {σ : L2.St} {v : Nat} {x : Option V} : ∀ {vs : List Nat}, v ∈ vs → wipe (σ.set v x) vs = wipe σ vs
  | [], h => by cases h
  | u :: vs, h => by
    unfold wipe
    rcases List.mem_cons.mp h with e | h
    · subst e; exact wipe_put vs
    · rw [wipe_set h]
def wipeR (r : Rho) : List Nat → Rho
  | [] => r
  | v :: vs => (wipeR r vs).set v none
theorem wipeR_length (r : Rho) : ∀ vs : List Nat, (wipeR r vs).length = r.length
  | [] => rfl
  | v :: vs => by unfold wipeR; rw [List.length_set, wipeR_length r vs]
theorem wipeR_some {r : Rho} {i : Nat} {d : D} : ∀ {vs : List Nat}, (wipeR r vs)[i]? = some (some d) → r[i]? = some (some d) ∧ i ∉ vs
  | [], h => ⟨h, by simp⟩
  | v :: vs, h => by
    unfold wipeR at h
    by_cases e : i = v
    · subst e
      by_cases hl : i < (wipeR r vs).length
      · rw [List.getElem?_set_self hl] at h; cases h
      · rw [List.getElem?_eq_none (by simpa using hl)] at h; cases h
    · rw [List.getElem?_set_ne (Ne.symm e)] at h
      obtain ⟨a, b⟩ := wipeR_some h
      exact ⟨a, by simp [e, b]⟩
theorem setTs_len : ∀ {ts : List Tg} {ds : List D} {r r' : Rho}, setTs ts ds r = some r' → ds.length = ts.length
  | [], [], _, _, _ => rfl
  | [], _ :: _, _, _, e => by simp [setTs] at e
  | _ :: _, [], _, _, e => by simp [setTs] at e
  | t :: ts, d :: ds, r, r', e => by
    rw [setTs] at e
    obtain ⟨r1, e1, e2⟩ := Option.bind_eq_some_iff.mp e
    simp [setTs_len e2]
section
variable {T : Tb} {K : PySem.W.Frag} {H : Hp} {g : Gh} {r : Rho} {S : Sto} {σ σ2 : L2.St}
theorem Rep.put {i : Nat} {v : V} {d : D} (R : Rep T K H g r S σ) (h : IsF K g.G g.io S.length v d) : Rep T K H g (r.set i (some d)) S (σ.set i (some v)) := by
  refine ⟨R.sub, by rw [List.length_set, List.length_set]; exact R.len, fun j e he => ?_, R.obj, R.inj, R.apG, R.apW, R.gw, R.wd, R.bse.step (Sub.refl _) (fun _ _ => rfl) (Nat.le_refl _)⟩
  by_cases hj : j = i
  · subst hj
    by_cases hl : j < r.length
    · rw [List.getElem?_set_self hl] at he
      cases he
      exact ⟨v, by rw [List.getElem?_set_self (by rw [← R.len]; exact hl)], SlotP.ofF h⟩
    · rw [List.getElem?_eq_none (by simpa using hl)] at he; cases he
  · rw [List.getElem?_set_ne (Ne.symm hj)] at he ⊢
    exact R.slot j e he
theorem Rep.wipe (R : Rep T K H g r S σ) (vs : List Nat) : Rep T K H g (wipeR r vs) S (L2.wipe σ vs) := by
  refine ⟨R.sub, by rw [wipeR_length, wipe_length]; exact R.len, fun j e he => ?_, R.obj, R.inj, R.apG, R.apW, R.gw, R.wd, R.bse.step (Sub.refl _) (fun _ _ => rfl) (Nat.le_refl _)⟩
  obtain ⟨h1, h2⟩ := wipeR_some he
  rw [wipe_out h2]
  exact R.slot j e h1
theorem Rep.unwipe {vs : List Nat} (R : Rep T K H g r S σ2) (e : L2.wipe σ2 vs = L2.wipe σ vs) : Rep T K H g (wipeR r vs) S σ := by
  have hl : σ2.length = σ.length := by
    have := congrArg List.length e
    rwa [wipe_length, wipe_length] at this
  refine ⟨R.sub, by rw [wipeR_length]; exact R.len.trans hl, fun j d he => ?_, R.obj, R.inj, R.apG, R.apW, R.gw, R.wd, R.bse.step (Sub.refl _) (fun _ _ => rfl) (Nat.le_refl _)⟩
  obtain ⟨h1, h2⟩ := wipeR_some he
  rw [← wipe_out (σ := σ) h2, ← e, wipe_out h2]
  exact R.slot j d h1
mutual
theorem setT_ok : ∀ {t : Tg} {v : V} {d : D} {r r' : Rho} {σ : L2.St} {Q : L2.St → Hp → Prop}, Rep T K H g r S σ → IsF K g.G g.io S.length v d → setT t d r = some r' → (∀ σ', Rep T K H g r' S σ' → (∀ vs, (∀ i ∈ t.slots, i ∈ vs) → wipe σ' vs = wipe σ vs) → Q σ' H) → gOf K t v σ H Q
  | .nm i, v, d, r, r', σ, Q, R, h, e, k => by
    rw [setT] at e
    cases e
    exact k _ (R.put h) fun vs hv => wipe_set (hv i (by simp [Tg.slots]))
  | .tp ts, v, .tup ds, r, r', σ, Q, R, h, e, k => by
    rw [setT] at e
    cases h with
    | tup h1 h2 =>
      obtain ⟨hl, hk⟩ := setTs_ok R h2 e k
      exact ⟨_, _, rfl, R.sub.sqT h1, by rw [h2.length]; exact hl, hk⟩
  | .tp ts, _, .non, _, _, _, _, _, _, e, _ => by simp [setT] at e
  | .tp ts, _, .bl _, _, _, _, _, _, _, e, _ => by simp [setT] at e
  | .tp ts, _, .int _, _, _, _, _, _, _, e, _ => by simp [setT] at e
  | .tp ts, _, .str _, _, _, _, _, _, _, e, _ => by simp [setT] at e
  | .tp ts, _, .lst _, _, _, _, _, _, _, e, _ => by simp [setT] at e
  | .tp ts, _, .own _, _, _, _, _, _, _, e, _ => by simp [setT] at e
  | .tp ts, _, .bor _, _, _, _, _, _, _, e, _ => by simp [setT] at e
  | .tp ts, _, .dct _, _, _, _, _, _, _, e, _ => by simp [setT] at e
  | .tp ts, _, .ob _, _, _, _, _, _, _, e, _ => by simp [setT] at e
  | .tp ts, _, .exc _ _, _, _, _, _, _, _, e, _ => by simp [setT] at e
  | .tp ts, _, .scr _, _, _, _, _, _, _, e, _ => by simp [setT] at e
theorem setTs_ok : ∀ {ts : List Tg} {vs : List V} {ds : List D} {r r' : Rho} {σ : L2.St} {Q : L2.St → Hp → Prop}, Rep T K H g r S σ → IsFs K g.G g.io S.length vs ds → setTs ts ds r = some r' → (∀ σ', Rep T K H g r' S σ' → (∀ vs, (∀ i ∈ Tg.slotsL ts, i ∈ vs) → wipe σ' vs = wipe σ vs) → Q σ' H) → ds.length = ts.length ∧ gsOf K ts vs σ H Q
  | [], _, [], r, r', σ, Q, R, h, e, k => by
    rw [setTs] at e
    cases e
    cases h
    exact ⟨rfl, rfl, k σ R fun _ _ => rfl⟩
  | [], _, _ :: _, _, _, _, _, _, _, e, _ => by simp [setTs] at e
  | _ :: _, _, [], _, _, _, _, _, _, e, _ => by simp [setTs] at e
  | t :: ts, _, d :: ds, r, r', σ, Q, R, h, e, k => by
    rw [setTs] at e
    obtain ⟨r1, e1, e2⟩ := Option.bind_eq_some_iff.mp e
    cases h with
    | cons h1 h2 =>
      have hlen := setTs_len e2
      refine ⟨by simp [hlen], _, _, rfl, ?_⟩
      refine setT_ok R h1 e1 fun σ1 R1 w1 => ?_
      refine (setTs_ok R1 h2 e2 fun σ2 R2 w2 => k σ2 R2 fun vs hv => ?_).2
      rw [w2 vs fun i hi => hv i (by simp [Tg.slotsL, hi]), w1 vs fun i hi => hv i (by simp [Tg.slotsL, hi])]
end
end
end DD

set_option Elab.async false
set_option linter.all false
set_option maxRecDepth 100000
set_option maxHeartbeats 4000000
namespace DD
open PySem PySem.Spec PyProof.Rows L2

section
variable {T : Tb} {K : PySem.W.Frag} {H H1 : Hp} {g g1 : Gh} {r : Rho} {S : Sto} {σ : L2.St} {q : Bool} {n n1 : Nat} {Dl : Addr} {o : HO}
def tmpW (g : Gh) (a : Addr) : Gh := { g with W := fun b => if b = a then some (.tmp false) else g.W b }
theorem tmpW_same : (tmpW g Dl).W Dl = some (.tmp false) := by show (if Dl = Dl then some (Rt.tmp false) else g.W Dl) = _; rw [if_pos rfl]
theorem tmpW_ne {b : Addr} (h : b ≠ Dl) : (tmpW g Dl).W b = g.W b := by show (if b = Dl then some (Rt.tmp false) else g.W b) = _; rw [if_neg h]
theorem Rep.tmp (R : Rep T K H g r S σ) (hD : H Dl = none) : Rep T K (upd H Dl o) (tmpW g Dl) r S σ := by
  have sb : Sub H (upd H Dl o) := sub_new hD
  have ne : ∀ {b u}, H b = some u → b ≠ Dl := fun {b u} h e => by rw [e, hD] at h; cases h
  have wk : ∀ {b rt}, g.W b = some rt → (tmpW g Dl).W b = some rt := fun {b rt} h => by
    obtain ⟨u, hu⟩ := R.wd b rt h
    rw [tmpW_ne (ne hu)]; exact h
  refine ⟨R.sub.trans sb, R.len, fun i d hd => ?_, fun k ob hk => ?_, R.inj, R.apG, fun k hk => ?_, fun b rt h => ?_, fun b rt h => ?_, R.bse.step (Sub.refl _) (fun _ _ => rfl) (Nat.le_refl _)⟩
  · obtain ⟨v, h1, h2⟩ := R.slot i d hd
    exact ⟨v, h1, h2.weak (g := g) (g' := tmpW g Dl) (fun a u _ h => sb a u h) (fun a h => wk h) (Bst.of (R.sub.trans sb) (fun a u _ => sb a u) (fun a h => wk h) (Sub.refl _) (fun _ _ => rfl) (Nat.le_refl _) fun _ => noK)⟩
  · have h := R.obj k ob hk
    cases ob with
    | ins c fs =>
      obtain ⟨dx, vs, h1, h2⟩ := h
      exact ⟨dx, vs, sb _ _ h1, h2.weak (g := g) (g' := tmpW g Dl) (fun a u _ _ h => sb a u h) (fun a f h => wk h) (Sub.refl _) (fun _ _ => rfl) (Nat.le_refl _)⟩
    | arr ds =>
      obtain ⟨vs, h1, h2⟩ := h
      exact ⟨vs, sb _ _ h1, h2⟩
    | tab ds =>
      obtain ⟨vs, h1, h2⟩ := h
      exact ⟨vs, sb _ _ h1, h2⟩
  · obtain ⟨u, hu⟩ := R.obH hk
    show (tmpW g Dl).W (g.io k) = none
    rw [tmpW_ne (ne hu)]; exact R.apW k hk
  · by_cases e : b = Dl
    · subst e; exact R.newG hD
    · rw [tmpW_ne e] at h; exact R.gw b rt h
  · by_cases e : b = Dl
    · subst e; exact ⟨o, upd_same⟩
    · rw [tmpW_ne e] at h
      obtain ⟨u, hu⟩ := R.wd b rt h
      exact ⟨u, sb b u hu⟩
theorem Stp.tmp (R : Rep T K H g r S σ) (hD : H Dl = none) : Stp q true H g n (upd H Dl o) (tmpW g Dl) n := by
  have sb : Sub H (upd H Dl o) := sub_new hD
  refine ⟨fun a u h _ => sb a u h, fun a u h => ⟨u, sb a u h⟩, Sub.refl _, fun _ _ => rfl, Nat.le_refl _, fun k h1 h2 => absurd (Nat.lt_of_lt_of_le h2 h1) (Nat.lt_irrefl _), fun a rt h => ?_, fun _ _ h => .inl h, fun a x h => ?_, fun _ a i h => .inl ?_⟩
  · by_cases e : a = Dl
    · subst e; exact .inr (.inr hD)
    · rw [tmpW_ne e] at h; exact .inl h
  · obtain ⟨u, hu⟩ := R.wd a _ h
    rw [tmpW_ne (fun e => by rw [e, hD] at hu; cases hu)]; exact h
  · obtain ⟨u, hu⟩ := R.wd a _ h
    rw [tmpW_ne (fun e => by rw [e, hD] at hu; cases hu)]; exact h
theorem Rep.poke {u : HO} (R : Rep T K H g r S σ) (hW : g.W Dl = some (.tmp false)) (hH : H Dl = some u) : Rep T K (upd H Dl o) g r S σ := by
  have off : ∀ {a : Addr}, a ≠ Dl → upd H Dl o a = H a := fun h => upd_ne h
  have hG := R.gw Dl _ hW
  have hs : Sub g.G (upd H Dl o) := fun a w h => by
    rw [off (fun e => by rw [e, hG] at h; cases h)]; exact R.sub a w h
  refine ⟨hs, R.len, fun i d hd => ?_, fun k ob hk => ?_, R.inj, R.apG, R.apW, R.gw, fun a rt h => ?_, R.bse.step (Sub.refl _) (fun _ _ => rfl) (Nat.le_refl _)⟩
  · obtain ⟨v, h1, h2⟩ := R.slot i d hd
    exact ⟨v, h1, h2.weak (g := g) (g' := g) (fun a w h hw => by rw [off (fun e => by rw [e, hW] at h; cases h)]; exact hw) (fun _ h => h)
      (Bst.of hs (fun a w h hw => by rw [off (fun e => by rw [e, hW] at h; cases h)]; exact hw) (fun _ h => h) (Sub.refl _) (fun _ _ => rfl) (Nat.le_refl _) fun _ => noK)⟩
  · have h := R.obj k ob hk
    have hkl : k < S.length := (List.getElem?_eq_some_iff.mp hk).1
    have nd : g.io k ≠ Dl := R.neI hW k hkl
    cases ob with
    | ins c fs =>
      obtain ⟨dx, vs, h1, h2⟩ := h
      exact ⟨dx, vs, by rw [off nd]; exact h1, h2.weak (g := g) (g' := g) (fun a w f h hw => by rw [off (fun e => by rw [e, hW] at h; cases h)]; exact hw) (fun _ _ h => h) (Sub.refl _) (fun _ _ => rfl) (Nat.le_refl _)⟩
    | arr ds =>
      obtain ⟨vs, h1, h2⟩ := h
      exact ⟨vs, by rw [off nd]; exact h1, h2⟩
    | tab ds =>
      obtain ⟨vs, h1, h2⟩ := h
      exact ⟨vs, by rw [off nd]; exact h1, h2⟩
  · by_cases e : a = Dl
    · subst e; exact ⟨o, upd_same⟩
    · obtain ⟨w, hw⟩ := R.wd a rt h
      exact ⟨w, by rw [off e]; exact hw⟩
theorem Stp.poke (st : Stp q true H1 g1 n1 H g n) (hD : H1 Dl = none) : Stp q true H1 g1 n1 (upd H Dl o) g n := by
  have ne : ∀ {b u}, H1 b = some u → b ≠ Dl := fun {b u} h e => by rw [e, hD] at h; cases h
  exact ⟨fun a u h hc => by rw [upd_ne (ne h)]; exact st.kp a u h hc, fun a u h => by rw [upd_ne (ne h)]; exact st.dm a u h, st.gm, st.im, st.nm, st.nf, st.om, st.fm, st.tm, st.wm⟩
theorem wipe_sub {vs : List Nat} : ∀ us : List Nat, (∀ i ∈ us, i ∈ vs) → L2.wipe (L2.wipe σ us) vs = L2.wipe σ vs
  | [], _ => rfl
  | u :: us, h => by
    show L2.wipe ((L2.wipe σ us).set u none) vs = _
    rw [wipe_set (h u List.mem_cons_self), wipe_sub us fun i hi => h i (List.mem_cons_of_mem _ hi)]
theorem Rep.untmp (R : Rep T K H g r S σ) (hW : g.W Dl = some (.tmp false)) : Rep T K H (unW g Dl) r S σ := by
  have wne : ∀ {b rt}, rt ≠ .tmp false → g.W b = some rt → (unW g Dl).W b = some rt := fun {b rt} hn h => by
    show (if b = Dl then none else g.W b) = some rt
    rw [if_neg (fun e => by rw [e, hW] at h; cases h; exact hn rfl)]; exact h
  have wof : ∀ {b rt}, (unW g Dl).W b = some rt → g.W b = some rt := fun {b rt} h => by
    have h' : (if b = Dl then none else g.W b) = some rt := h
    split at h'
    · cases h'
    · exact h'
  refine ⟨R.sub, R.len, fun i d hd => ?_, fun k ob hk => ?_, R.inj, R.apG, fun k hk => ?_, fun b rt h => R.gw b rt (wof h), fun b rt h => R.wd b rt (wof h), R.bse.step (Sub.refl _) (fun _ _ => rfl) (Nat.le_refl _)⟩
  · obtain ⟨v, h1, h2⟩ := R.slot i d hd
    exact ⟨v, h1, h2.weak (g := g) (g' := unW g Dl) (fun _ _ _ h => h) (fun b => wne fun e => by cases e) (Bst.of R.sub (fun _ _ _ h => h) (fun b => wne fun e => by cases e) (Sub.refl _) (fun _ _ => rfl) (Nat.le_refl _) fun _ => noK)⟩
  · have h := R.obj k ob hk
    cases ob with
    | ins c fs =>
      obtain ⟨dx, vs, h1, h2⟩ := h
      exact ⟨dx, vs, h1, h2.weak (g := g) (g' := unW g Dl) (fun _ _ _ _ h => h) (fun b f => wne fun e => by cases e) (Sub.refl _) (fun _ _ => rfl) (Nat.le_refl _)⟩
    | arr ds => exact h
    | tab ds => exact h
  · show (if g.io k = Dl then none else g.W (g.io k)) = none
    split
    · rfl
    · exact R.apW k hk
theorem Stp.untmp (st : Stp q true H1 g1 n1 H g n) (hD : g1.W Dl = none) (hW : g.W Dl = some (.tmp false)) : Stp q true H1 g1 n1 H (DD.unW g Dl) n :=
  ⟨st.kp, st.dm, st.gm, st.im, st.nm, st.nf, fun a rt h => by
    have h' : (if a = Dl then none else g.W a) = some rt := h
    split at h'
    · cases h'
    · exact st.om a rt h', st.fm, fun a x h => by
    show (if a = Dl then none else g.W a) = some (.tmp x)
    rw [if_neg (fun e => by rw [e, hD] at h; cases h)]
    exact st.tm a x h, fun z a i h => by
    rcases st.wm z a i h with w | w
    · refine .inl ?_
      show (if a = Dl then none else g.W a) = some (.slot i)
      rw [if_neg (fun e => by rw [e, hW] at w; cases w)]; exact w
    · exact .inr w⟩
end

def DTs (X : Cx) (T : Tb) (q : Bool) (ifs : List Expr) (m : M Bool) : Prop := ∀ W, Takes X W → PTs X ifs (ttOf T X.K q m W)
def mYes : M Bool := M.ret true
section
variable {X : Cx} {T : Tb} {q : Bool} {c : Expr} {m : M Bool}
theorem ptsImp {X : Cx} {es : List Expr} {t t' : TT} (h : PTs X es t) (k : ∀ σ H Q, t' σ H Q → t σ H Q) : PTs X es t' := ⟨fun pins s σ H Q I h' => h.run pins s σ H Q I (k σ H Q h')⟩
theorem dts_nil : DTs X T true [] mYes := fun W tk => ptsImp pts_nil fun σ H Q ⟨g, r, S, R, k⟩ => k H g R Stp.refl
theorem dts_one (h : DT X T q c m) : DTs X T q [c] m := fun W tk => pts_one (h W tk)
end
def lcTurn (tg : Tg) (cs : M Bool) (me : M D) (own : List Nat) (d : D) (acc : List D) : M (List D) := fun r S => match setT tg d (wipeR r own) with
  | none => .no
  | some r1 => match cs r1 S with
    | .ok true r2 S2 => match me r2 S2 with
      | .ok x r3 S3 => if frO (frzD x) && decide (acc.length < lim) then .ok (acc ++ [frzD x]) (wipeR r3 own) S3 else .no
      | _ => .no
    | .ok false r2 S2 => .ok acc (wipeR r2 own) S2
    | _ => .no
def lcLoop (tg : Tg) (cs : M Bool) (me : M D) (own : List Nat) : List D → List D → M (List D)
  | [], acc => M.ret acc
  | d :: ds, acc => M.bind (lcTurn tg cs me own d acc) fun acc' => lcLoop tg cs me own ds acc'
def mLc (mi : M (List D)) (tg : Tg) (cs : M Bool) (me : M D) (own : List Nat) : M D := M.bind mi fun ds r S => match lcLoop tg cs me own ds [] r S with
  | .ok acc r' S' => .ok (.own acc) r' S'
  | _ => .no
section
variable {X : Cx} {T : Tb} {qi qc qe re fl : Bool} {elt tge iter : Expr} {ifs : List Expr} {scope : Scope} {own : List (Str × Nat)} {pos : Pos} {mi : M (List D)} {tg : Tg} {cs : M Bool} {me : M D}
theorem frz_ok {m : M D} {r r' : Rho} {S S' : Sto} {d : D} (h : m r S = .ok d r' S') : frz m r S = .ok (frzD d) r' S' := by unfold frz; rw [h]
theorem lcWalk {σ : L2.St} {H0 H1 : Hp} {g0 g1 : Gh} {n0 : Nat} {r1 : Rho} {S1 : Sto} {ds accF : List D} {rF : Rho} {SF : Sto} {J : It} {Q : VK} {W : WX} {own : List Nat} {qa : Bool}
    (R1 : Rep T X.K H1 g1 r1 S1 σ) (hJ : ItOk T X.K fl J H1 g1 S1.length ds) (hq : fl = true → (qc && qe) = true) (hs : ∀ i ∈ tg.slots, i ∈ own)
    (e1 : lcLoop tg cs me own ds [] r1 S1 = .ok accF rF SF) (st0 : Stp qa true H0 g0 n0 H1 g1 S1.length)
    (k : okE T X.K (qa && (qc && qe)) false H0 g0 n0 σ (.ok (.own accF) rF SF) Q W) (Dl : Addr) (hD : H1 Dl = none) :
    ∃ Wv : Nat → Nat → Hp → Prop, (∃ m, Wv 0 m (upd H1 Dl (.lst []))) ∧ ∀ i m H, Wv i m H →
      (J.stop i H ∧ Q (.ref Dl) H) ∨ (J.go i H ∧ ∃ Nx : Hp → Prop, (∀ H', Nx H' → ∃ m', m' < m ∧ Wv (i + 1) m' H') ∧ ∀ x H', J.yld i H x H' → gOf X.K tg x (wipe σ own) H' fun σ2 H2 => wipe σ2 own = wipe σ own ∧
        ttOf T X.K qc cs (fun _ _ _ _ => False) σ2 H2 fun b H3 => if b = true then teOf T X.K qe re me (fun _ _ _ _ => False) σ2 H3 fun y H4 => ∃ acc, H4 Dl = some (.lst acc) ∧ acc.length < sizeLine ∧ Nx (upd H4 Dl (.lst (acc ++ [y]))) else Nx H3) := by
  let Wv : Nat → Nat → Hp → Prop := fun i m H => m = ds.length - i ∧ i ≤ ds.length ∧ ∃ (g : Gh) (r : Rho) (S : Sto) (acc : List D) (us : List V), Rep T X.K H g r S σ ∧ H Dl = some (.lst us) ∧ IsFs X.K g.G g.io S.length us acc ∧ g.W Dl = some (.tmp false) ∧
    Stp (qc && qe) true H1 g1 S1.length H g S.length ∧ lcLoop tg cs me own (ds.drop i) acc r S = .ok accF rF SF
  refine ⟨Wv, ⟨ds.length, by simp, Nat.zero_le _, tmpW g1 Dl, r1, S1, [], [], R1.tmp hD, upd_same, .nil, tmpW_same, Stp.tmp R1 hD, e1⟩, ?_⟩
  rintro i m H ⟨rfl, hi, g, r, S, acc, us, R, hl, hus, hW, st, e⟩
  have stI : Stp fl fl H1 g1 S1.length H g S.length := by
    cases fl with
    | true => exact st.weak fun _ => hq rfl
    | false => exact st.stm.weak fun z => by cases z
  obtain ⟨j1, j2⟩ := hJ H g r S σ R stI i
  by_cases hlt : i < ds.length
  · obtain ⟨d, hd⟩ : ∃ d, ds[i]? = some d := ⟨_, List.getElem?_eq_getElem hlt⟩
    obtain ⟨go, yl⟩ := j2 d hd
    have hdrop : ds.drop i = d :: ds.drop (i + 1) := by
      rw [List.drop_eq_getElem_cons hlt]
      rw [List.getElem?_eq_getElem hlt] at hd
      cases hd; rfl
    rw [hdrop] at e
    obtain ⟨acc', r', S', et, el⟩ := bind_ok e
    refine .inr ⟨go, Wv (i + 1) (ds.length - (i + 1)), fun H' w => ⟨_, by omega, w⟩, fun x H' y => ?_⟩
    obtain ⟨g', R', hx, sx⟩ := yl x H' y
    unfold lcTurn at et
    cases es : setT tg d (wipeR r own) with
    | none => rw [es] at et; cases et
    | some ra =>
      rw [es] at et
      simp only at et
      refine setT_ok (R'.wipe own) hx es fun σ2 R2 w1 => ?_
      have w2 : wipe σ2 own = wipe σ own := (w1 own hs).trans (wipe_sub own fun _ h => h)
      refine ⟨w2, ?_⟩
      refine ⟨g', ra, S, R2, ?_⟩
      cases ec : cs ra S with
      | exc _ _ _ => rw [ec] at et; cases et
      | no => rw [ec] at et; cases et
      | ok b rb Sb =>
        rw [ec] at et
        intro H3 g3 R3 st3
        have hl3 : H3 Dl = some (.lst us) := (sx.trans st3).kp _ _ hl (.inr ⟨R.neI hW, fun rt hr => by rw [hW] at hr; cases hr; exact .inl ⟨_, rfl⟩⟩)
        have hus3 := (sx.trans st3).isFs hus
        have hW3 := (sx.trans st3).tm _ _ hW
        cases b with
        | false =>
          rw [if_neg Bool.false_ne_true]
          simp only at et
          cases et
          exact ⟨rfl, hlt, g3, _, _, _, us, R3.unwipe w2, hl3, hus3, hW3, (st.trans (sx.trans (st3.weak (q' := qc && qe) fun z => (Bool.and_eq_true_iff.mp z).1))).weak fun z => by simp [z], el⟩
        | true =>
          rw [if_pos rfl]
          simp only at et
          refine ⟨g3, rb, Sb, R3, ?_⟩
          cases ee : me rb Sb with
          | exc _ _ _ => rw [ee] at et; cases et
          | no => rw [ee] at et; cases et
          | ok z rc Sc =>
            rw [ee] at et
            simp only at et
            split at et
            · rename_i hf
              rw [Bool.and_eq_true_iff] at hf
              cases et
              rw [← ee]
              refine okE.frz ?_
              rw [frz_ok ee]
              intro y4 H4 g4 R4 is4 _ st4
              have stT := sx.trans (st3.trans st4)
              have hl4 : H4 Dl = some (.lst us) := stT.kp _ _ hl (.inr ⟨R.neI hW, fun rt hr => by rw [hW] at hr; cases hr; exact .inl ⟨_, rfl⟩⟩)
              have hus4 := stT.isFs hus
              have hW4 := stT.tm _ _ hW
              have hlen : us.length < lim := by rw [hus.length]; exact of_decide_eq_true hf.2
              refine ⟨us, hl4, lim_lt (Nat.le_of_lt hlen), rfl, hlt, g4, _, _, _, us ++ [y4], (R4.poke hW4 hl4).unwipe w2, upd_same, hus4.append (.one (is4.isF hf.1)), hW4, ?_, el⟩
              refine Stp.poke ?_ hD
              have z := st.trans stT
              exact z.weak fun q => by
                rw [Bool.and_eq_true_iff] at q
                simp [q.1, q.2]
            · cases et
  · have hi' : i = ds.length := by omega
    subst hi'
    refine .inl ⟨j1 (Nat.le_refl _), ?_⟩
    rw [List.drop_length] at e
    cases e
    have hD0 : H0 Dl = none := st0.back hD
    refine k (.ref Dl) H (unW g Dl) (R.untmp hW) ⟨Dl, us, rfl, hl, hus, R.gw _ _ hW, unW_same, R.neI hW⟩ (fun xs _ a ea => by cases ea; exact .inl hD0) ?_
    exact st0.trans (st.untmp (R1.newW hD) hW)
theorem lcOf {own : List Nat} {W : WX} {σ : L2.St} {H : Hp} {Q : VK} (hq : fl = true → (qc && qe) = true) (hsl : ∀ i ∈ tg.slots, i ∈ own) (h : teOf T X.K (qi && (qc && qe)) false (mLc mi tg cs me own) W σ H Q) :
    tLc (tiOf T X.K qi fl mi W) (gOf X.K tg) (ttOf T X.K qc cs fun _ _ _ _ => False) (teOf T X.K qe re me fun _ _ _ _ => False) own σ H Q := by
  obtain ⟨g, r, S, R, k⟩ := h
  refine ⟨g, r, S, R, ?_⟩
  unfold mLc M.bind at k
  cases e : mi r S with
  | exc x r1 S1 =>
    rw [e] at k
    exact fun H' g' dd a b c => k H' g' dd a (b.weak fun z => (Bool.and_eq_true_iff.mp z).1) c
  | no => rw [e] at k; exact k.elim
  | ok ds r1 S1 =>
    rw [e] at k
    simp only at k
    intro J H1 g1 R1 st1 hJ Dl hD
    cases el : lcLoop tg cs me own ds [] r1 S1 with
    | exc _ _ _ => rw [el] at k; exact k.elim
    | no => rw [el] at k; exact k.elim
    | ok acc rF SF =>
      rw [el] at k
      exact lcWalk (re := re) R1 hJ hq hsl el st1 k Dl hD
structure LcOk (X : Cx) (T : Tb) (qi qc qe re fl : Bool) (elt tge iter : Expr) (ifs : List Expr) (scope : Scope) (own : List (Str × Nat)) (mi : M (List D)) (tg : Tg) (cs : M Bool) (me : M D) : Prop where
  calm : X.calm = true
  hN : X.N.Nodup
  hi : DI X T qi fl tge iter mi
  ok : BlkOk X.N X.env.scope scope own
  hq : fl = true → (qc && qe) = true
  hsl : ∀ i ∈ tg.slots, i ∈ own.map (·.2)
  hg : ∀ (s : Shared) (H : Hp) (C : Addr) (cl : List (Str × Addr)) (fp : List Addr), PG (X.blk s H scope (compEnvC scope cl C X.env) fp) tge (gOf X.K tg)
  ht : ∀ (s : Shared) (H : Hp) (C : Addr) (cl : List (Str × Addr)) (fp : List Addr), DTs (X.blk s H scope (compEnvC scope cl C X.env) fp) T qc ifs cs
  he : ∀ (s : Shared) (H : Hp) (C : Addr) (cl : List (Str × Addr)) (fp : List Addr), DE (X.blk s H scope (compEnvC scope cl C X.env) fp) T qe re elt me
  hs : ∀ x, foldedSetIterable iter X.env x = pure x
theorem de_lc (h : LcOk X T qi qc qe re fl elt tge iter ifs scope own mi tg cs me) : DE X T (qi && (qc && qe)) false (.ListComp elt [⟨tge, iter, ifs, 0⟩] scope pos) (mLc mi tg cs me (own.map (·.2))) := fun W tk =>
  peImp (pe_lc (te := teOf T X.K qe re me fun _ _ _ _ => False) (tt := ttOf T X.K qc cs fun _ _ _ _ => False) h.calm h.hN (h.hi W tk) h.ok h.hg (fun s H C cl fp => h.ht s H C cl fp _ takes0) (fun s H C cl fp => h.he s H C cl fp _ takes0) h.hs) fun σ H Q k => lcOf h.hq h.hsl k
end
end DD

set_option Elab.async false
set_option linter.all false
set_option maxRecDepth 100000
set_option maxHeartbeats 4000000
namespace DD
open PySem PySem.Spec PyProof.Rows L2

inductive Fl where
  | nx
  | bk
  | ct
  | rt (d : D)
section
variable (T : Tb) (K : PySem.W.Frag)
def okS (q : Bool) (H : Hp) (g : Gh) (n : Nat) (o : Out Fl) (E : Ends) (W : WX) : Prop := match o with
  | .ok .nx r S => ∀ σ' H' g', Rep T K H' g' r S σ' → Stp q false H g n H' g' S.length → E.nx σ' H'
  | .ok .bk r S => ∀ σ' H' g', Rep T K H' g' r S σ' → Stp q false H g n H' g' S.length → E.bk σ' H'
  | .ok .ct r S => ∀ σ' H' g', Rep T K H' g' r S σ' → Stp q false H g n H' g' S.length → E.ct σ' H'
  | .ok (.rt d) r S => ∀ σ' v H' g', Rep T K H' g' r S σ' → IsR K false H' g' S.length v d → FrO H g v d → Stp q false H g n H' g' S.length → E.rt v H'
  | .exc e r S => ∀ σ' H' g' dd, Rep T K H' g' r S σ' → Stp q false H g n H' g' S.length → ExR K H' g' S.length e.fs dd → W (.ref (He.ga K e.c)) dd σ' H'
  | .no => False
def tsOf (q : Bool) (m : M Fl) (W : WX) : TS := fun E σ H => ∃ g r S, Rep T K H g r S σ ∧ okS T K q H g S.length (m r S) E W
end
def DS (X : Cx) (T : Tb) (q : Bool) (st : Stmt) (m : M Fl) : Prop := ∀ W, Takes X W → PS X st (tsOf T X.K q m W)
def DSs (X : Cx) (T : Tb) (q : Bool) (sts : List Stmt) (m : M Fl) : Prop := ∀ W, Takes X W → PSs X sts (tsOf T X.K q m W)
theorem psImp {X : Cx} {e : Stmt} {t t' : TS} (h : PS X e t) (k : ∀ E σ H, t' E σ H → t E σ H) : PS X e t' := ⟨fun pins s σ H E I h' => h.run pins s σ H E I (k E σ H h')⟩
theorem pssImp {X : Cx} {e : List Stmt} {t t' : TS} (h : PSs X e t) (k : ∀ E σ H, t' E σ H → t E σ H) : PSs X e t' := ⟨fun pins s σ H E I h' => h.run pins s σ H E I (k E σ H h')⟩
def mSeq (a b : M Fl) : M Fl := fun r S => match a r S with
  | .ok .nx r' S' => b r' S'
  | o => o
section
variable {T : Tb} {K : PySem.W.Frag} {q qa qb : Bool} {H H1 : Hp} {g g1 : Gh} {n n1 : Nat} {E : Ends} {W : WX}
theorem FrO.backS {sl : Bool} {v : V} {d : D} (st : Stp q sl H g n H1 g1 n1) (h : FrO H1 g1 v d) : FrO H g v d := fun xs e a ea => by
  rcases h xs e a ea with z | ⟨i, z⟩
  · refine .inl ?_
    cases eh : H a with
    | none => rfl
    | some o =>
      obtain ⟨o', eo⟩ := st.dm a o eh
      rw [z] at eo; cases eo
  · rcases st.om a _ z with w | ⟨_, j, w⟩ | w
    · exact .inr ⟨i, w⟩
    · exact .inr ⟨j, w⟩
    · exact .inl w
theorem okS.after {o : Out Fl} (st : Stp qa false H g n H1 g1 n1) (h : okS T K (qa && qb) H g n o E W) : okS T K qb H1 g1 n1 o E W := by
  cases o with
  | ok f r S =>
    cases f with
    | nx => exact fun σ' H' g' a b => h σ' H' g' a (st.trans b)
    | bk => exact fun σ' H' g' a b => h σ' H' g' a (st.trans b)
    | ct => exact fun σ' H' g' a b => h σ' H' g' a (st.trans b)
    | rt d => exact fun σ' v H' g' a b c e => h σ' v H' g' a b (c.backS st) (st.trans e)
  | exc e r S => exact fun σ' H' g' dd a b c => h σ' H' g' dd a (st.trans b) c
  | no => exact h
theorem okS.wkq {o : Out Fl} (h : okS T K q H g n o E W) (hq : qa = true → q = true) : okS T K q H g n o E W := h
theorem okS.bindE {σ : L2.St} {r : Rho} {S : Sto} {m : M D} {f : D → M Fl} {ra : Bool} {Q1 : VK} (h : okS T K (qa && qb) H g n (M.bind m f r S) E W)
    (k : ∀ d r1 S1 v H1 g1, m r S = .ok d r1 S1 → Rep T K H1 g1 r1 S1 σ → IsR K ra H1 g1 S1.length v d → FrO H g v d → Stp qa true H g n H1 g1 S1.length → okS T K qb H1 g1 S1.length (f d r1 S1) E W → Q1 v H1) : okE T K qa ra H g n σ (m r S) Q1 W := by
  unfold M.bind at h
  cases e : m r S with
  | ok d r1 S1 =>
    rw [e] at h
    exact fun v H' g' a b c st => k d r1 S1 v H' g' e a b c st (okS.after st.stm h)
  | exc x r1 S1 =>
    rw [e] at h
    exact fun H' g' dd a b c => h σ H' g' dd a (b.stm.weak fun z => (Bool.and_eq_true_iff.mp z).1) c
  | no => rw [e] at h; exact h
theorem okS.bindB {σ : L2.St} {r : Rho} {S : Sto} {m : M Bool} {f : Bool → M Fl} {Q1 : Bool → Hp → Prop} (h : okS T K (qa && qb) H g n (M.bind m f r S) E W)
    (k : ∀ d r1 S1 H1 g1, m r S = .ok d r1 S1 → Rep T K H1 g1 r1 S1 σ → Stp qa true H g n H1 g1 S1.length → okS T K qb H1 g1 S1.length (f d r1 S1) E W → Q1 d H1) : okB T K qa H g n σ (m r S) Q1 W := by
  unfold M.bind at h
  cases e : m r S with
  | ok d r1 S1 =>
    rw [e] at h
    exact fun H' g' a st => k d r1 S1 H' g' e a st (okS.after st.stm h)
  | exc x r1 S1 =>
    rw [e] at h
    exact fun H' g' dd a b c => h σ H' g' dd a (b.stm.weak fun z => (Bool.and_eq_true_iff.mp z).1) c
  | no => rw [e] at h; exact h
theorem okS.bindA {σ : L2.St} {r : Rho} {S : Sto} {m : M (List D)} {f : List D → M Fl} {Q1 : List V → Hp → Prop} (h : okS T K (qa && qb) H g n (M.bind m f r S) E W)
    (k : ∀ d r1 S1 v H1 g1, m r S = .ok d r1 S1 → Rep T K H1 g1 r1 S1 σ → IsAs K H g H1 g1 S1.length v d → Stp qa true H g n H1 g1 S1.length → okS T K qb H1 g1 S1.length (f d r1 S1) E W → Q1 v H1) : okA T K qa H g n σ (m r S) Q1 W := by
  unfold M.bind at h
  cases e : m r S with
  | ok d r1 S1 =>
    rw [e] at h
    exact fun v H' g' a b st => k d r1 S1 v H' g' e a b st (okS.after st.stm h)
  | exc x r1 S1 =>
    rw [e] at h
    exact fun H' g' dd a b c => h σ H' g' dd a (b.stm.weak fun z => (Bool.and_eq_true_iff.mp z).1) c
  | no => rw [e] at h; exact h
end
section
variable {X : Cx} {T : Tb} {q qa qb qc ra rb : Bool} {e c : Expr} {st : Stmt} {rest a b : List Stmt} {m : M D} {mc : M Bool} {ms ma mb : M Fl} {pos pos' : Pos}
theorem dss_nil : DSs X T true [] (M.ret .nx) := fun W tk => pssImp pss_nil fun E σ H ⟨g, r, S, R, k⟩ => k σ H g R Stp.refl
theorem dss_cons (h1 : DS X T qa st ma) (h2 : DSs X T qb rest mb) : DSs X T (qa && qb) (st :: rest) (mSeq ma mb) := fun W tk =>
  pssImp (pss_cons (h1 W tk) (h2 W tk)) fun E σ H ⟨g, r, S, R, k⟩ => by
    refine ⟨g, r, S, R, ?_⟩
    unfold mSeq at k
    have wq : ∀ {x : Bool}, (qa && qb) = true → qa = true := fun z => (Bool.and_eq_true_iff.mp z).1
    cases e : ma r S with
    | ok f r1 S1 =>
      rw [e] at k
      cases f with
      | nx => exact fun σ' H' g' R' st' => ⟨g', r1, S1, R', okS.after st' k⟩
      | bk => exact fun σ' H' g' a b => k σ' H' g' a (b.weak (wq (x := true)))
      | ct => exact fun σ' H' g' a b => k σ' H' g' a (b.weak (wq (x := true)))
      | rt d => exact fun σ' v H' g' a b c d => k σ' v H' g' a b c (d.weak (wq (x := true)))
    | exc x r1 S1 => rw [e] at k; exact fun σ' H' g' dd a b c => k σ' H' g' dd a (b.weak (wq (x := true))) c
    | no => rw [e] at k; exact k.elim
theorem dss_one (h1 : DS X T qa st ma) : DSs X T qa [st] ma := fun W tk => pss_one (h1 W tk)
theorem ds_pass : DS X T true (.Pass pos) (M.ret .nx) := fun W tk => psImp ps_pass fun E σ H ⟨g, r, S, R, k⟩ => k σ H g R Stp.refl
theorem ds_break : DS X T true (.Break pos) (M.ret .bk) := fun W tk => psImp ps_break fun E σ H ⟨g, r, S, R, k⟩ => k σ H g R Stp.refl
theorem ds_continue : DS X T true (.Continue pos) (M.ret .ct) := fun W tk => psImp ps_continue fun E σ H ⟨g, r, S, R, k⟩ => k σ H g R Stp.refl
theorem ds_doc {x j} : DS X T true (.Expr (.Constant (.str x) j pos) pos') (M.ret .nx) := fun W tk => psImp ps_doc fun E σ H ⟨g, r, S, R, k⟩ => k σ H g R Stp.refl
def mDrop (m : M D) : M Fl := M.bind m fun _ => M.ret .nx
theorem ds_expr (h : DE X T qa ra e m) (hs : swapsWith e none pos.line X.env = pure false) : DS X T (qa && true) (.Expr e pos) (mDrop m) := fun W tk =>
  psImp (ps_expr (h W tk) hs) fun E σ H ⟨g, r, S, R, k⟩ =>
    ⟨g, r, S, R, okS.bindE (qb := true) k fun d r1 S1 v H1 g1 _ R1 _ _ st1 k1 => k1 σ H1 g1 R1 Stp.refl⟩
def mRet (m : M D) : M Fl := M.bind m fun d => if borD d then M.fail else M.ret (.rt d)
def frB : D → D
  | d => d
theorem IsR.noBor {K : PySem.W.Frag} {H : Hp} {g : Gh} {n : Nat} {v : V} (hb : ¬ borD d = true) (h : IsR K ra H g n v d) : IsR K false H g n v d := by
  cases d with
  | bor xs => exact absurd rfl hb
  | _ => exact h
theorem ds_ret (h : DE X T qa ra e m) : DS X T qa (.Return (some e) pos) (mRet m) := fun W tk =>
  psImp (ps_ret (h W tk)) fun E σ H ⟨g, r, S, R, k⟩ => by
    refine ⟨g, r, S, R, ?_⟩
    unfold mRet at k
    cases em : m r S with
    | exc x r1 S1 => unfold M.bind at k; rw [em] at k; exact fun H' g' dd a b c => k σ H' g' dd a b.stm c
    | no => unfold M.bind at k; rw [em] at k; exact k.elim
    | ok d r1 S1 =>
      rw [bind_at em] at k
      intro v H1 g1 R1 is1 fo1 st1
      by_cases hb : borD d = true
      · rw [if_pos hb] at k; exact k.elim
      · rw [if_neg hb] at k
        exact k σ v H1 g1 R1 (is1.noBor hb) fo1 st1.stm
theorem ds_retN : DS X T true (.Return none pos) (M.ret (.rt .non)) := fun W tk =>
  psImp ps_retN fun E σ H ⟨g, r, S, R, k⟩ => k σ .non H g R .non (FrO.non fun xs e => by cases e) Stp.refl
def mIfS (c : M Bool) (a b : M Fl) : M Fl := M.bind c fun t => if t then a else b
theorem okS.wk {K : PySem.W.Frag} {H : Hp} {g : Gh} {n : Nat} {E : Ends} {W : WX} {o : Out Fl} (h : okS T K q H g n o E W) (hq : qa = true → q = true) (hq2 : q = true → qa = true) : okS T K qa H g n o E W := by
  have e : q = qa := by cases q <;> cases qa <;> simp_all
  rw [← e]; exact h
theorem okS.up {K : PySem.W.Frag} {H : Hp} {g : Gh} {n : Nat} {E : Ends} {W : WX} {o : Out Fl} (h : okS T K q H g n o E W) (hq : q = true → qa = true) : okS T K qa H g n o E W := by
  cases o with
  | ok f r S =>
    cases f with
    | nx => exact fun σ' H' g' a b => h σ' H' g' a (b.weak hq)
    | bk => exact fun σ' H' g' a b => h σ' H' g' a (b.weak hq)
    | ct => exact fun σ' H' g' a b => h σ' H' g' a (b.weak hq)
    | rt d => exact fun σ' v H' g' a b c d => h σ' v H' g' a b c (d.weak hq)
  | exc e r S => exact fun σ' H' g' dd a b c => h σ' H' g' dd a (b.weak hq) c
  | no => exact h
theorem ds_if (hc : DT X T qc c mc) (ha : DSs X T qa a ma) (hb : DSs X T qb b mb) : DS X T (qc && (qa && qb)) (.If c a b pos) (mIfS mc ma mb) := fun W tk =>
  psImp (ps_if (hc W tk) (ha W tk) (hb W tk)) fun E σ H ⟨g, r, S, R, k⟩ => by
    refine ⟨g, r, S, R, okS.bindB (qb := qa && qb) k fun t r1 S1 H1 g1 _ R1 st1 k1 => ?_⟩
    cases t with
    | true => rw [if_pos rfl] at k1 ⊢; exact ⟨g1, r1, S1, R1, k1.up fun z => (Bool.and_eq_true_iff.mp z).1⟩
    | false => rw [if_neg Bool.false_ne_true] at k1 ⊢; exact ⟨g1, r1, S1, R1, k1.up fun z => (Bool.and_eq_true_iff.mp z).2⟩
end
end DD

set_option Elab.async false
set_option linter.all false
set_option maxRecDepth 100000
set_option maxHeartbeats 4000000
namespace DD
open PySem PySem.Spec PyProof.Rows L2

def rtW (g : Gh) (a : Addr) (rt : Rt) : Gh := { g with W := fun b => if b = a then some rt else g.W b }
section
variable {T : Tb} {K : PySem.W.Frag} {H H0 : Hp} {g g0 : Gh} {r : Rho} {S : Sto} {σ : L2.St} {q sl qa ra : Bool} {n n0 : Nat} {i : Nat} {rt : Rt}
theorem rtW_same {a : Addr} : (rtW g a rt).W a = some rt := by show (if a = a then some rt else g.W a) = _; rw [if_pos rfl]
theorem rtW_ne {a b : Addr} (h : b ≠ a) : (rtW g a rt).W b = g.W b := by show (if b = a then some rt else g.W b) = _; rw [if_neg h]
theorem Rep.intoP {v : V} {d : D} (R : Rep T K H g r S σ) (h : SlotP K H g S.length (.slot i) v d) : Rep T K H g (r.set i (some d)) S (σ.set i (some v)) := by
  refine ⟨R.sub, by rw [List.length_set, List.length_set]; exact R.len, fun j e he => ?_, R.obj, R.inj, R.apG, R.apW, R.gw, R.wd, R.bse.step (Sub.refl _) (fun _ _ => rfl) (Nat.le_refl _)⟩
  by_cases hj : j = i
  · subst hj
    by_cases hl : j < r.length
    · rw [List.getElem?_set_self hl] at he
      cases he
      exact ⟨v, by rw [List.getElem?_set_self (by rw [← R.len]; exact hl)], h⟩
    · rw [List.getElem?_eq_none (by simpa using hl)] at he; cases he
  · rw [List.getElem?_set_ne (Ne.symm hj)] at he ⊢
    exact R.slot j e he
theorem Rep.claim {a : Addr} {u : HO} (R : Rep T K H g r S σ) (hH : H a = some u) (hG : g.G a = none) (hW : g.W a = none) (hi : ∀ k, k < S.length → g.io k ≠ a) : Rep T K H (rtW g a rt) r S σ := by
  have keep : ∀ {b x}, g.W b = some x → (rtW g a rt).W b = some x := fun {b x} h => by
    rw [rtW_ne (fun e => by rw [e, hW] at h; cases h)]; exact h
  have wof : ∀ {b x}, (rtW g a rt).W b = some x → b = a ∨ g.W b = some x := fun {b x} h => by
    by_cases e : b = a
    · exact .inl e
    · rw [rtW_ne e] at h; exact .inr h
  refine ⟨R.sub, R.len, fun j d hd => ?_, fun k o ho => ?_, R.inj, R.apG, fun k hk => ?_, fun b x h => ?_, fun b x h => ?_, R.bse.step (Sub.refl _) (fun _ _ => rfl) (Nat.le_refl _)⟩
  · obtain ⟨v, h1, h2⟩ := R.slot j d hd
    exact ⟨v, h1, h2.weak (g := g) (g' := rtW g a rt) (fun _ _ _ h => h) (fun b => keep) (Bst.of R.sub (fun _ _ _ h => h) (fun b => keep) (Sub.refl _) (fun _ _ => rfl) (Nat.le_refl _) fun _ => noK)⟩
  · have h := R.obj k o ho
    cases o with
    | ins c fs =>
      obtain ⟨dx, vs, h1, h2⟩ := h
      exact ⟨dx, vs, h1, h2.weak (g := g) (g' := rtW g a rt) (fun _ _ _ _ h => h) (fun b f h => keep h) (Sub.refl _) (fun _ _ => rfl) (Nat.le_refl _)⟩
    | arr ds => exact h
    | tab ds => exact h
  · show (rtW g a rt).W (g.io k) = none
    rw [rtW_ne (hi k hk)]; exact R.apW k hk
  · rcases wof h with e | h
    · subst e; exact hG
    · exact R.gw b x h
  · rcases wof h with e | h
    · subst e; exact ⟨u, hH⟩
    · exact R.wd b x h
theorem Stp.claim {a : Addr} (st : Stp q sl H0 g0 n0 H g n) (hW : g.W a = none) (fo : H0 a = none ∨ ∃ i, g0.W a = some (.slot i)) (ht : ∀ i, g0.W a = some (.slot i) → ∃ j, rt = .slot j ∨ True) : Stp q false H0 g0 n0 H (rtW g a rt) n := by
  have st := st.stm
  refine ⟨st.kp, st.dm, st.gm, st.im, st.nm, st.nf, fun b x h => ?_, st.fm, fun b x h => ?_, fun z => by cases z⟩
  · by_cases e : b = a
    · subst e
      rcases fo with z | z
      · exact .inr (.inr z)
      · exact .inr (.inl ⟨rfl, z⟩)
    · rw [rtW_ne e] at h; exact st.om b x h
  · have z := st.tm b x h
    rw [rtW_ne (fun e => by rw [e, hW] at z; cases z)]; exact z
theorem storeS {v : V} {d : D} (R : Rep T K H g r S σ) (is : IsR K ra H g S.length v d) (fo : FrO H0 g0 v d) (st : Stp q sl H0 g0 n0 H g S.length) (nb : borD d = false) :
    ∃ g', Rep T K H g' (r.set i (some d)) S (σ.set i (some v)) ∧ Stp q false H0 g0 n0 H g' S.length ∧ (g' = g ∨ ∃ a xs, v = .ref a ∧ d = .own xs ∧ g' = rtW g a (.slot i)) := by
  cases d with
  | own xs =>
    obtain ⟨a, vs, rfl, h1, h2, h3, h4, h5⟩ := is
    refine ⟨rtW g a (.slot i), (R.claim h1 h3 h4 h5).intoP ⟨a, vs, rfl, h1, h2, rtW_same⟩, st.claim h4 (fo xs rfl a rfl) (fun j _ => ⟨j, .inr trivial⟩), .inr ⟨a, xs, rfl, rfl, rfl⟩⟩
  | bor xs => cases nb
  | _ => exact ⟨g, R.intoP (SlotP.ofF is), st.stm, .inl rfl⟩
def setNs : List Nat → List D → Rho → Rho
  | i :: is, d :: ds, r => setNs is ds (r.set i (some d))
  | _, _, r => r
def setVs : List Nat → List V → L2.St → L2.St
  | i :: is, v :: vs, σ => setVs is vs (σ.set i (some v))
  | _, _, σ => σ
theorem storeNs : ∀ {js : List Nat} {vs : List V} {ds : List D} {g : Gh} {r : Rho} {σ : L2.St} {sl : Bool}, Rep T K H g r S σ → IsAs K H0 g0 H g S.length vs ds → Stp q sl H0 g0 n0 H g S.length → ds.all (fun d => !borD d) = true → js.length = ds.length →
    ∃ g', Rep T K H g' (setNs js ds r) S (setVs js vs σ) ∧ Stp q false H0 g0 n0 H g' S.length
  | [], [], [], g, r, σ, sl, R, _, st, _, _ => ⟨g, R, st.stm⟩
  | j :: js, v :: vs, d :: ds, g, r, σ, sl, R, is, st, nb, hl => by
    rw [List.all_cons, Bool.and_eq_true_iff] at nb
    obtain ⟨i1, f1⟩ := is.at_ 0 v d rfl rfl
    obtain ⟨g1, R1, st1, hg⟩ := storeS (i := j) R i1 f1 st (by simpa using nb.1)
    have is1 : IsAs K H0 g0 H g1 S.length vs ds := by
      rcases hg with rfl | ⟨a, xs, rfl, rfl, rfl⟩
      · exact is.tail
      · refine ⟨is.tail.len, fun k w x a1 a2 => ?_, is.tail.ne⟩
        obtain ⟨i2, f2⟩ := is.tail.at_ k w x a1 a2
        refine ⟨?_, f2⟩
        cases x with
        | own ys =>
          obtain ⟨b, us, rfl, q1, q2, q3, q4, q5⟩ := i2
          have ne : b ≠ a := fun e => is.ne 0 (k + 1) (.ref a) xs ys (Nat.succ_pos _) rfl (by rw [← e]; simpa using a1) rfl (by simpa using a2)
          exact ⟨b, us, rfl, q1, q2, q3, by rw [rtW_ne ne]; exact q4, q5⟩
        | bor ys =>
          have z := List.all_eq_true.mp nb.2 _ (List.mem_of_getElem? a2)
          simp [borD] at z
        | _ => exact i2
    have z := storeNs (js := js) (vs := vs) (ds := ds) R1 is1 st1 nb.2 (by simpa using hl)
    exact z
  | [], v :: vs, [], _, _, _, _, _, is, _, _, _ => by have z := is.len; simp at z
  | _ :: _, _, [], _, _, _, _, _, _, _, _, hl => by simp at hl
  | [], _, _ :: _, _, _, _, _, _, _, _, _, hl => by simp at hl
  | _ :: _, [], _ :: _, _, _, _, _, _, is, _, _, _ => by have z := is.len; simp at z
end

def mSetS (i : Nat) (m : M D) : M Fl := M.bind m fun d => if borD d then M.fail else fun r S => .ok .nx (r.set i (some d)) S
def mSetNs (js : List Nat) (m : M (List D)) : M Fl := M.bind m fun ds => if ds.all (fun d => !borD d) && decide (js.length = ds.length) && decide (ds.length ≤ lim) then fun r S => .ok .nx (setNs js ds r) S else M.fail
section
variable {X : Cx} {T : Tb} {q qa qi qc qe re fl ra : Bool} {e tge elt iter : Expr} {es ifs : List Expr} {m : M D} {mm mi : M (List D)} {pos pos' pt pt2 : Pos} {i j l : Nat} {x y z : Str} {kt k2}
theorem setOf {W : WX} {E : Ends} {σ : L2.St} {H : Hp} (h : tsOf T X.K qa (mSetS i m) W E σ H) : teOf T X.K qa ra m W σ H fun v H1 => gName i v σ H1 E.nx := by
  obtain ⟨g, r, S, R, k⟩ := h
  refine ⟨g, r, S, R, ?_⟩
  unfold mSetS at k
  cases em : m r S with
  | exc x r1 S1 => unfold M.bind at k; rw [em] at k; exact fun H' g' dd a b c => k σ H' g' dd a b.stm c
  | no => unfold M.bind at k; rw [em] at k; exact k.elim
  | ok d r1 S1 =>
    rw [bind_at em] at k
    intro v H1 g1 R1 is1 fo1 st1
    by_cases hb : borD d = true
    · rw [if_pos hb] at k; exact k.elim
    · rw [if_neg hb] at k
      obtain ⟨g', R', st', _⟩ := storeS (i := i) R1 is1 fo1 st1 (by simpa using hb)
      exact k _ H1 g' R' st'
theorem ds_set (hN : X.N.Nodup) (hi : X.N[i]? = some x) (hx : Loc X.env.scope x) (hf : X.fn x = true ∨ X.env.scope.names.lookup x = some .local) (he : DE X T qa ra e m) (hs : swapsWith e (some (.Name x pos')) pos.line X.env = pure false) :
    DS X T qa (.Assign [.Name x pos'] e pos) (mSetS i m) := fun W tk =>
  psImp (ps_set hN hi hx (he W tk) hs hf) fun E σ H h => setOf h
theorem okA.all {K : PySem.W.Frag} {H : Hp} {g : Gh} {n : Nat} {σ : L2.St} {E : Ends} {W : WX} {js : List Nat} {r : Rho} {S : Sto} {Q : List V → Hp → Prop} (k : okS T K qa H g n (mSetNs js mm r S) E W)
    (hQ : ∀ ds vs r1 S1 H1 g' σ', vs.length = ds.length → ds.length = js.length → ds.length ≤ lim → σ' = setVs js vs σ → Rep T K H1 g' (setNs js ds r1) S1 σ' → Stp qa false H g n H1 g' S1.length → E.nx σ' H1 → Q vs H1) : okA T K qa H g n σ (mm r S) Q W := by
  unfold mSetNs at k
  cases em : mm r S with
  | exc x r1 S1 => unfold M.bind at k; rw [em] at k; exact fun H' g' dd a b c => k σ H' g' dd a b.stm c
  | no => unfold M.bind at k; rw [em] at k; exact k.elim
  | ok ds r1 S1 =>
    rw [bind_at em] at k
    intro vs H1 g1 R1 is1 st1
    split at k
    · rename_i hb
      simp only [Bool.and_eq_true, decide_eq_true_eq] at hb
      obtain ⟨⟨hb1, hb2⟩, hb3⟩ := hb
      obtain ⟨g', R', st'⟩ := storeNs (js := js) R1 is1 st1 hb1 hb2
      exact hQ ds vs r1 S1 H1 g' _ is1.len hb2.symm hb3 rfl R' st' (k _ H1 g' R' st')
    · exact k.elim
theorem ds_par2 {a b : Expr} {px py : Pos} (hc : X.calm = true) (hN : X.N.Nodup) (hi : X.N[i]? = some x) (hj : X.N[j]? = some y) (hij : i ≠ j) (hx : X.env.scope.names.lookup x = some .local) (hy : X.env.scope.names.lookup y = some .local) (ha : DA X T qa [a, b] mm)
    (hw : swappedStores [.Tuple [.Name x px, .Name y py] kt pt] (.Tuple [a, b] k2 pt2) X.env = pure (some [x, y]))
    (hs : swapsWithSole [.Tuple [.Name x px, .Name y py] kt pt] (.Tuple [a, b] k2 pt2) pos.line X.env = pure false) :
    DS X T qa (.Assign [.Tuple [.Name x px, .Name y py] kt pt] (.Tuple [a, b] k2 pt2) pos) (mSetNs [i, j] mm) := fun W tk =>
  psImp (ps_par hc hN hi hj hij hx hy (ha W tk) hw hs) fun E σ H ⟨g, r, S, R, k⟩ => ⟨g, r, S, R, okA.all k fun ds vs r1 S1 H1 g' σ' h1 h2 h3 h4 _ _ kk => by
    obtain ⟨u, v, rfl⟩ : ∃ u v, vs = [u, v] := by
      have hl : vs.length = 2 := h1.trans h2
      match vs, hl with
      | [u, v], _ => exact ⟨u, v, rfl⟩
    subst h4; exact ⟨u, v, rfl, kk⟩⟩
theorem ds_par3 {a b c : Expr} {px py pz : Pos} (hc : X.calm = true) (hN : X.N.Nodup) (hi : X.N[i]? = some x) (hj : X.N[j]? = some y) (hl : X.N[l]? = some z) (hij : i ≠ j) (hil : i ≠ l) (hjl : j ≠ l) (hx : X.env.scope.names.lookup x = some .local) (hy : X.env.scope.names.lookup y = some .local) (hz : X.env.scope.names.lookup z = some .local) (ha : DA X T qa [a, b, c] mm)
    (hw : swappedStores [.Tuple [.Name x px, .Name y py, .Name z pz] kt pt] (.Tuple [a, b, c] k2 pt2) X.env = pure (some [x, y, z]))
    (hs : swapsWithSole [.Tuple [.Name x px, .Name y py, .Name z pz] kt pt] (.Tuple [a, b, c] k2 pt2) pos.line X.env = pure false) :
    DS X T qa (.Assign [.Tuple [.Name x px, .Name y py, .Name z pz] kt pt] (.Tuple [a, b, c] k2 pt2) pos) (mSetNs [i, j, l] mm) := fun W tk =>
  psImp (ps_par3 hc hN hi hj hl hij hil hjl hx hy hz (ha W tk) hw hs) fun E σ H ⟨g, r, S, R, k⟩ => ⟨g, r, S, R, okA.all k fun ds vs r1 S1 H1 g' σ' h1 h2 h3 h4 _ _ kk => by
    obtain ⟨u, v, w, rfl⟩ : ∃ u v w, vs = [u, v, w] := by
      have hl : vs.length = 3 := h1.trans h2
      match vs, hl with
      | [u, v, w], _ => exact ⟨u, v, w, rfl⟩
    subst h4; exact ⟨u, v, w, rfl, kk⟩⟩
inductive NmTs (X : Cx) : List Expr → List Nat → Prop
  | nil : NmTs X [] []
  | cons {t : Expr} {i : Nat} {ts : List Expr} {is : List Nat} : PG X t (gName i) → assignEach (t :: ts) X.env = (false, assign t X.env) :: assignEach ts X.env → NmTs X ts is → NmTs X (t :: ts) (i :: is)
def gNms : List Nat → TGs
  | [] => gNil
  | i :: is => gCons (gName i) (gNms is)
theorem NmTs.pgs : ∀ {ts : List Expr} {is : List Nat}, NmTs X ts is → PGs X ts (gNms is) ∧ (assignEach ts X.env).length = is.length ∧ (assignEach ts X.env).findIdx? (·.1) = none
  | _, _, .nil => ⟨pgs_nil, rfl, rfl⟩
  | _, _, .cons h he hs => by
    obtain ⟨a, b, c⟩ := hs.pgs
    refine ⟨pgs_cons h a (by rw [he]; rfl), by rw [he, List.length_cons, b]; rfl, ?_⟩
    rw [he, List.findIdx?_cons]
    simp [c]
theorem gNms_ok : ∀ {is : List Nat} {vs : List V} {σ : L2.St} {H : Hp} {Q : L2.St → Hp → Prop}, vs.length = is.length → Q (setVs is vs σ) H → gNms is vs σ H Q
  | [], [], _, _, _, _, h => ⟨rfl, h⟩
  | i :: is, v :: vs, _, _, _, hl, h => ⟨v, vs, rfl, gNms_ok (by simpa using hl) h⟩
  | [], _ :: _, _, _, _, hl, _ => by simp at hl
  | _ :: _, [], _, _, _, hl, _ => by simp at hl
theorem ds_parN {ts : List Expr} {is : List Nat} (hc : X.calm = true) (ht : NmTs X ts is) (ha : DA X T qa es mm) (hs : swapsWithSole [.Tuple ts kt pt] (.Tuple es k2 pt2) pos.line X.env = pure false) (hw : swappedStores [.Tuple ts kt pt] (.Tuple es k2 pt2) X.env = pure none)
    (h1 : (assignEach [.Tuple ts kt pt] X.env).map (·.2) = [assign (.Tuple ts kt pt) X.env]) : DS X T qa (.Assign [.Tuple ts kt pt] (.Tuple es k2 pt2) pos) (mSetNs is mm) := fun W tk => by
  obtain ⟨p1, p2, p3⟩ := ht.pgs
  refine psImp (ps_asg (pe_tup (ha W tk)) (pg_tup hc p1 p2 p3) hs hw h1) fun E σ H ⟨g, r, S, R, k⟩ => ?_
  refine ⟨g, r, S, R, ?_⟩
  unfold mSetNs at k
  cases em : mm r S with
  | exc x r1 S1 => unfold M.bind at k; rw [em] at k; exact fun H' g' dd a b c => k σ H' g' dd a b.stm c
  | no => unfold M.bind at k; rw [em] at k; exact k.elim
  | ok ds r1 S1 =>
    rw [bind_at em] at k
    intro vs H1 g1 R1 is1 st1
    split at k
    · rename_i hb
      simp only [Bool.and_eq_true, decide_eq_true_eq] at hb
      obtain ⟨⟨hb1, hb2⟩, hb3⟩ := hb
      refine ⟨by rw [is1.len]; exact lim_le hb3, fun p hp => ?_⟩
      have sb := sub_new (o := .tup vs) hp
      have R2 := R1.grow sb
      have st2 : Stp true true H1 g1 S1.length (upd H1 p (.tup vs)) g1 S1.length := Stp.grow sb
      obtain ⟨g', R', st'⟩ := storeNs (js := is) R2 (is1.carry R2.sub st2) (st1.trans st2) hb1 hb2
      refine ⟨p, vs, rfl, SqT.of upd_same, by rw [is1.len]; exact hb2.symm, gNms_ok (by rw [is1.len]; exact hb2.symm) ?_⟩
      exact k _ _ g' R' (st'.weak fun z => by rw [z]; rfl)
    · exact k.elim
end
end DD

set_option Elab.async false
set_option linter.all false
set_option maxRecDepth 100000
set_option maxHeartbeats 4000000
namespace DD
open PySem PySem.Spec PyProof.Rows L2

section
variable {X : Cx} {T : Tb} {q qa qb qc qi qe re fl ra : Bool} {elt tge iter c e : Expr} {ifs : List Expr} {scope : Scope} {own : List (Str × Nat)} {mi : M (List D)} {tg : Tg} {cs mc : M Bool} {me m : M D} {mb : M Fl} {body : List Stmt} {pos pos' spos : Pos} {i : Nat} {x : Str}
theorem ds_setLc (h : LcOk X T qi qc qe re fl elt tge iter ifs scope own mi tg cs me) (hi : X.N[i]? = some x) (hx : X.env.scope.names.lookup x = some .local)
    (hsw : swapsWith (.ListComp elt [⟨tge, iter, ifs, 0⟩] scope pos) (some (.Name x pos')) spos.line X.env = pure true) :
    DS X T (qi && (qc && qe)) (.Assign [.Name x pos'] (.ListComp elt [⟨tge, iter, ifs, 0⟩] scope pos) spos) (mSetS i (mLc mi tg cs me (own.map (·.2)))) := fun W tk =>
  psImp (ps_setLc (te := teOf T X.K qe re me fun _ _ _ _ => False) (tt := ttOf T X.K qc cs fun _ _ _ _ => False) h.calm h.hN hi hx hsw (h.hi W tk) h.ok h.hg (fun s H C cl fp => h.ht s H C cl fp _ takes0) (fun s H C cl fp => h.he s H C cl fp _ takes0) h.hs) fun E σ H k =>
    lcOf h.hq h.hsl (setOf (ra := false) k)
def mRetV (i : Nat) : M Fl := fun r S => match r[i]? with
  | some (some (.own xs)) => .ok (.rt (.own xs)) (r.set i none) S
  | some (some (.bor _)) => .no
  | some (some d) => .ok (.rt d) r S
  | _ => .no
theorem Stp.unWS {g : Gh} {H : Hp} {a : Addr} {n : Nat} (ha : ∀ b, g.W a ≠ some (.tmp b)) : Stp q false H g n H (DD.unW g a) n :=
  ⟨fun _ _ h _ => h, fun _ o h => ⟨o, h⟩, Sub.refl _, fun _ _ => rfl, Nat.le_refl _, fun _ => noK, fun b rt h => by
    have h' : (if b = a then none else g.W b) = some rt := h
    split at h'
    · cases h'
    · exact .inl h', fun _ _ h => .inl h, fun b y h => by
    show (if b = a then none else g.W b) = some (.tmp y)
    have hne : b ≠ a := fun e => ha y (by rw [← e]; exact h)
    rw [if_neg hne]; exact h, fun z => by cases z⟩
theorem ds_retV (hN : X.N[i]? = some x) (hv : Vis X.env.scope x) (hd : (x == ("__debug__" : Str)) = false) (hc : (x == ("__classdict__" : Str)) = false) : DS X T true (.Return (some (.Name x pos)) pos') (mRetV i) := fun W tk =>
  psImp (ps_ret (pe_var hN hv hd hc)) fun E σ H ⟨g, r, S, R, k⟩ => by
    unfold mRetV at k
    cases e : r[i]? with
    | none => rw [e] at k; exact k.elim
    | some o =>
      cases o with
      | none => rw [e] at k; exact k.elim
      | some d =>
        obtain ⟨v, hσ, hs⟩ := R.slot i d e
        refine ⟨v, hσ, ?_⟩
        rw [e] at k
        by_cases ho : ∃ xs, d = .own xs
        · obtain ⟨xs, rfl⟩ := ho
          obtain ⟨a, vs, rfl, h1, h2, hW⟩ := hs
          exact k σ _ H (unW g a) (R.drop hW) ⟨a, vs, rfl, h1, h2, R.gw a _ hW, unW_same, R.neI hW⟩ (fun xs e a' ea => by cases ea; exact .inr ⟨i, hW⟩) (Stp.unWS fun b z => by rw [hW] at z; cases z)
        · have hs' := SlotP.res (fun xs e => ho ⟨xs, e⟩) hs
          have fo := FrO.non (H := H) (g := g) (v := v) (fun xs e => ho ⟨xs, e⟩)
          cases d with
          | own xs => exact absurd ⟨xs, rfl⟩ ho
          | bor xs => exact k.elim
          | _ => exact k σ v H g R hs' fo Stp.refl

def forLoop (tg : Tg) (body : M Fl) : List D → M Fl
  | [] => M.ret .nx
  | d :: ds => fun r S => match setT tg d r with
    | none => .no
    | some r1 => match body r1 S with
      | .ok .nx r2 S2 => forLoop tg body ds r2 S2
      | .ok .ct r2 S2 => forLoop tg body ds r2 S2
      | .ok .bk r2 S2 => .ok .nx r2 S2
      | .ok (.rt d) r2 S2 => .ok (.rt d) r2 S2
      | .exc e r2 S2 => .exc e r2 S2
      | .no => .no
def mFor (tg : Tg) (mi : M (List D)) (body : M Fl) : M Fl := M.bind mi fun ds => forLoop tg body ds
theorem ds_for (hp : ∀ W, Takes X W → PassesOwn (model X.prog X.w) X.A X.env X.xe) (hc : X.calm = true) (hi : DI X T qi false tge iter mi) (hg : PG X tge (gOf X.K tg)) (hb : DSs X T qb body mb) (hs : ∀ x, foldedSetIterable iter X.env x = pure x) :
    DS X T (qi && qb) (.For tge iter body [] pos) (mFor tg mi mb) := fun W tk =>
  psImp (ps_for (hp W tk) hc (hi W tk) hg (hb W tk) hs) fun E σ H ⟨g, r, S, R, k⟩ => by
    refine ⟨g, r, S, R, ?_⟩
    unfold mFor M.bind at k
    cases e : mi r S with
    | exc x r1 S1 => rw [e] at k; exact fun H' g' dd a b c => k σ H' g' dd a (b.stm.weak fun z => (Bool.and_eq_true_iff.mp z).1) c
    | no => rw [e] at k; exact k.elim
    | ok ds r1 S1 =>
      rw [e] at k
      intro J H1 g1 R1 st1 hJ
      have k1 := okS.after (qb := qb) st1.stm k
      let Wv : Nat → Nat → L2.St → Hp → Prop := fun i m σ H => m = ds.length - i ∧ i ≤ ds.length ∧ ∃ (g : Gh) (r : Rho) (S : Sto), Rep T X.K H g r S σ ∧ Stp qb false H1 g1 S1.length H g S.length ∧ okS T X.K qb H g S.length (forLoop tg mb (ds.drop i) r S) E W
      refine ⟨Wv, ⟨ds.length, by simp, Nat.zero_le _, g1, r1, S1, R1, Stp.refl, k1⟩, ?_⟩
      rintro i m σ2 H2 ⟨rfl, hil, g2, r2, S2, R2, st2, k2⟩
      obtain ⟨j1, j2⟩ := hJ H2 g2 r2 S2 σ2 R2 (st2.weak fun z => by cases z) i
      by_cases hlt : i < ds.length
      · obtain ⟨d, hd⟩ : ∃ d, ds[i]? = some d := ⟨_, List.getElem?_eq_getElem hlt⟩
        obtain ⟨go, yl⟩ := j2 d hd
        have hdrop : ds.drop i = d :: ds.drop (i + 1) := by
          rw [List.drop_eq_getElem_cons hlt]
          rw [List.getElem?_eq_getElem hlt] at hd
          cases hd; rfl
        rw [hdrop] at k2
        refine .inr ⟨go, fun σ H => Wv (i + 1) (ds.length - (i + 1)) σ H, fun σ' H' w => ⟨_, by omega, w⟩, fun y H' hy => ?_⟩
        obtain ⟨g', R', hx, sx⟩ := yl y H' hy
        rw [forLoop] at k2
        dsimp only at k2
        cases es : setT tg d r2 with
        | none => rw [es] at k2; exact k2.elim
        | some ra =>
          rw [es] at k2
          simp only at k2
          refine setT_ok R' hx es fun σ3 R3 _ => ?_
          refine ⟨g', ra, S2, R3, ?_⟩
          have sx' : Stp qb false H2 g2 S2.length H' g' S2.length := sx.stm.weak fun _ => rfl
          cases eb : mb ra S2 with
          | no => rw [eb] at k2; exact k2.elim
          | exc x rb Sb =>
            rw [eb] at k2
            exact fun σ' H4 g4 dd a b c => k2 σ' H4 g4 dd a ((sx'.trans b).weak fun z => by rw [z]; rfl) c
          | ok f rb Sb =>
            rw [eb] at k2
            cases f with
            | nx =>
              intro σ' H4 g4 R4 st4
              have z : Stp qb false H2 g2 S2.length H4 g4 Sb.length := (sx'.trans st4).weak fun z => by rw [z]; rfl
              exact ⟨rfl, hlt, g4, rb, Sb, R4, (st2.trans z).weak fun z => by rw [z]; rfl, okS.after (qb := qb) z (k2.up fun z => by rw [z]; rfl)⟩
            | ct =>
              intro σ' H4 g4 R4 st4
              have z : Stp qb false H2 g2 S2.length H4 g4 Sb.length := (sx'.trans st4).weak fun z => by rw [z]; rfl
              exact ⟨rfl, hlt, g4, rb, Sb, R4, (st2.trans z).weak fun z => by rw [z]; rfl, okS.after (qb := qb) z (k2.up fun z => by rw [z]; rfl)⟩
            | bk => exact fun σ' H4 g4 R4 st4 => k2 σ' H4 g4 R4 ((sx'.trans st4).weak fun z => by rw [z]; rfl)
            | rt d => exact fun σ' v H4 g4 R4 is4 fo4 st4 => k2 σ' v H4 g4 R4 is4 (fo4.backS sx') ((sx'.trans st4).weak fun z => by rw [z]; rfl)
      · have hi' : i = ds.length := by omega
        subst hi'
        rw [List.drop_length] at k2
        exact .inl ⟨j1 (Nat.le_refl _), k2 σ2 H2 g2 R2 Stp.refl⟩
def whileLoop (c : M Bool) (body : M Fl) : Nat → M Fl
  | 0 => M.fail
  | n + 1 => fun r S => match c r S with
    | .ok false r1 S1 => .ok .nx r1 S1
    | .ok true r1 S1 => match body r1 S1 with
      | .ok .nx r2 S2 => whileLoop c body n r2 S2
      | .ok .ct r2 S2 => whileLoop c body n r2 S2
      | .ok .bk r2 S2 => .ok .nx r2 S2
      | .ok (.rt d) r2 S2 => .ok (.rt d) r2 S2
      | .exc e r2 S2 => .exc e r2 S2
      | .no => .no
    | .exc e r1 S1 => .exc e r1 S1
    | .no => .no
theorem ds_while {fuel : Nat} (hp : ∀ W, Takes X W → PassesOwn (model X.prog X.w) X.A X.env X.xe) (hc : DT X T qc c mc) (hb : DSs X T qb body mb) : DS X T (qc && qb) (.While c body [] pos) (whileLoop mc mb fuel) := fun W tk =>
  psImp (ps_while (hp W tk) (hc W tk) (hb W tk)) fun E σ H ⟨g, r, S, R, k⟩ => by
    let Wv : Nat → L2.St → Hp → Prop := fun m σ H => ∃ (g : Gh) (r : Rho) (S : Sto), Rep T X.K H g r S σ ∧ okS T X.K (qc && qb) H g S.length (whileLoop mc mb m r S) E W
    refine ⟨Wv, ⟨fuel, g, r, S, R, k⟩, ?_⟩
    rintro m σ2 H2 ⟨g2, r2, S2, R2, k2⟩
    refine ⟨g2, r2, S2, R2, ?_⟩
    cases m with
    | zero => exact k2.elim
    | succ m =>
      rw [whileLoop] at k2
      dsimp only at k2
      cases ec : mc r2 S2 with
      | no => rw [ec] at k2; exact k2.elim
      | exc x r3 S3 => rw [ec] at k2; exact fun H' g' dd a b c => k2 σ2 H' g' dd a (b.stm.weak fun z => (Bool.and_eq_true_iff.mp z).1) c
      | ok t r3 S3 =>
        rw [ec] at k2
        intro H3 g3 R3 st3
        cases t with
        | false =>
          rw [if_neg Bool.false_ne_true]
          exact k2 σ2 H3 g3 R3 (st3.stm.weak fun z => (Bool.and_eq_true_iff.mp z).1)
        | true =>
          rw [if_pos rfl]
          simp only at k2
          refine ⟨Wv m, fun σ' H' w => ⟨m, Nat.lt_succ_self _, w⟩, g3, r3, S3, R3, ?_⟩
          cases eb : mb r3 S3 with
          | no => rw [eb] at k2; exact k2.elim
          | exc x rb Sb =>
            rw [eb] at k2
            exact fun σ' H4 g4 dd a b c => k2 σ' H4 g4 dd a (st3.stm.trans b) c
          | ok f rb Sb =>
            rw [eb] at k2
            cases f with
            | nx => exact fun σ' H4 g4 R4 st4 => ⟨g4, rb, Sb, R4, okS.after (qa := qc && qb) (st3.stm.trans st4) (k2.up fun z => by rw [z]; rfl)⟩
            | ct => exact fun σ' H4 g4 R4 st4 => ⟨g4, rb, Sb, R4, okS.after (qa := qc && qb) (st3.stm.trans st4) (k2.up fun z => by rw [z]; rfl)⟩
            | bk => exact fun σ' H4 g4 R4 st4 => k2 σ' H4 g4 R4 (st3.stm.trans st4)
            | rt d => exact fun σ' v H4 g4 R4 is4 fo4 st4 => k2 σ' v H4 g4 R4 is4 (fo4.backS st3.stm) (st3.stm.trans st4)
end
end DD

set_option Elab.async false
set_option linter.all false
set_option maxRecDepth 100000
set_option maxHeartbeats 4000000
namespace DD
open PySem PySem.Spec PyProof.Rows L2

section
variable {T : Tb} {K : PySem.W.Frag} {H H0 : Hp} {g g0 : Gh} {r : Rho} {S : Sto} {σ : L2.St} {q sl : Bool} {n n0 k i : Nat} {f : Str}
theorem Rep.setObj {o' : Ob} {u : HO} (R : Rep T K H g r S σ) (hk : k < S.length) (new : ObR T K (upd H (g.io k) u) g S.length k o') : Rep T K (upd H (g.io k) u) g r (S.set k o') σ := by
  have off : ∀ {a x}, g.W a = some x → a ≠ g.io k := fun {a x} h e => by rw [e, R.apW k hk] at h; cases h
  have hs : Sub g.G (upd H (g.io k) u) := fun a w h => by
    rw [upd_ne (fun e => by rw [e, R.apG k hk] at h; cases h)]; exact R.sub a w h
  have hl : (S.set k o').length = S.length := List.length_set
  refine ⟨hs, R.len, fun j d hd => ?_, fun j ob hj => ?_, by rw [hl]; exact R.inj, by rw [hl]; exact R.apG, by rw [hl]; exact R.apW, R.gw, fun a x h => ?_, by rw [hl]; exact R.bse⟩
  · obtain ⟨v, h1, h2⟩ := R.slot j d hd
    rw [hl]
    exact ⟨v, h1, h2.weak (g := g) (g' := g) (fun a w h hw => by rw [upd_ne (off h)]; exact hw) (fun _ h => h) (Bst.of hs (fun a w h hw => by rw [upd_ne (off h)]; exact hw) (fun _ h => h) (Sub.refl _) (fun _ _ => rfl) (Nat.le_refl _) fun _ => noK)⟩
  · rw [hl]
    by_cases e : j = k
    · subst e
      rw [List.getElem?_set_self hk] at hj
      cases hj
      exact new
    · rw [List.getElem?_set_ne (Ne.symm e)] at hj
      have hjl : j < S.length := (List.getElem?_eq_some_iff.mp hj).1
      have ne : g.io j ≠ g.io k := fun z => e (R.inj j k hjl hk z)
      have h := R.obj j ob hj
      cases ob with
      | ins c fs =>
        obtain ⟨dx, vs, h1, h2⟩ := h
        exact ⟨dx, vs, by rw [upd_ne ne]; exact h1, h2.weak (g := g) (g' := g) (fun a w f h hw => by rw [upd_ne (off h)]; exact hw) (fun _ _ h => h) (Sub.refl _) (fun _ _ => rfl) (Nat.le_refl _)⟩
      | arr ds =>
        obtain ⟨vs, h1, h2⟩ := h
        exact ⟨vs, by rw [upd_ne ne]; exact h1, h2⟩
      | tab ds =>
        obtain ⟨vs, h1, h2⟩ := h
        exact ⟨vs, by rw [upd_ne ne]; exact h1, h2⟩
  · obtain ⟨w, hw⟩ := R.wd a x h
    exact ⟨w, by rw [upd_ne (off h)]; exact hw⟩
theorem Stp.setObj {u : HO} (hk : k < n) : Stp false sl H g n (upd H (g.io k) u) g n :=
  ⟨fun a o h hc => by
    rcases hc with ⟨z, _⟩ | ⟨z, _⟩
    · cases z
    · rw [upd_ne (Ne.symm (z k hk))]; exact h, fun a o h => by
    by_cases e : a = g.io k
    · exact ⟨u, by rw [e]; exact upd_same⟩
    · exact ⟨o, by rw [upd_ne e]; exact h⟩, Sub.refl _, fun _ _ => rfl, Nat.le_refl _, fun _ => noK, fun _ _ h => .inl h, fun _ _ h => .inl h, fun _ _ h => h, fun _ _ _ h => .inl h⟩
theorem FldR0.names_len {j : Nat} {vs : List (Str × V)} {ds : List (Str × D)} (h : FldR0 K H g n j vs ds) : vs.length = ds.length := FldR0.len h
theorem storeF {v : V} {d : D} {ra : Bool} {c : Nat} {fs : List (Str × D)} (R : Rep T K H g r S σ) (is : IsR K ra H g S.length v d) (fo : FrO H0 g0 v d) (st : Stp q sl H0 g0 n0 H g S.length) (nb : borD d = false) (hS : S[k]? = some (.ins c fs)) (hl : fs.length < 1000) :
    ∃ dx vs g', H (g.io k) = some (.ins (T.cA c) dx vs) ∧ vs.length < 1000 ∧ Rep T K (upd H (g.io k) (.ins (T.cA c) dx (putF f v vs))) g' r (S.set k (.ins c (putFD f d fs))) σ ∧ Stp false false H0 g0 n0 (upd H (g.io k) (.ins (T.cA c) dx (putF f v vs))) g' (S.set k (.ins c (putFD f d fs))).length := by
  have hk : k < S.length := (List.getElem?_eq_some_iff.mp hS).1
  obtain ⟨dx, vs, hH, hF, nd⟩ := R.obj k _ hS
  have hlen : vs.length < 1000 := by rw [hF.len]; exact hl
  have key : ∃ g', Rep T K H g' r S σ ∧ Stp q false H0 g0 n0 H g' S.length ∧ g'.io = g.io ∧ g'.G = g.G ∧ (∀ a x, g.W a = some x → g'.W a = some x) ∧ SlotR K (upd H (g.io k) (.ins (T.cA c) dx (putF f v vs))) g' S.length (.fld k f) v d := by
    cases d with
    | own xs =>
      obtain ⟨a, us, rfl, h1, h2, h3, h4, h5⟩ := is
      refine ⟨rtW g a (.fld k f), R.claim h1 h3 h4 h5, st.claim h4 (fo xs rfl a rfl) (fun j _ => ⟨j, .inr trivial⟩), rfl, rfl, fun b x hb => ?_, a, us, rfl, ?_, h2, rtW_same⟩
      · rw [rtW_ne (fun e => by rw [e, h4] at hb; cases hb)]; exact hb
      · rw [upd_ne (Ne.symm (h5 k hk))]; exact h1
    | bor xs => cases nb
    | _ => exact ⟨g, R, st.stm, rfl, rfl, fun _ _ h => h, SlotR.ofF is⟩
  obtain ⟨g', R', st', eio, eG, eW, hv⟩ := key
  refine ⟨dx, vs, g', hH, hlen, ?_, ?_⟩
  · have off : ∀ {a x}, g.W a = some x → a ≠ g.io k := fun {a x} h e => by rw [e, R.apW k hk] at h; cases h
    have new : ObR T K (upd H (g'.io k) (.ins (T.cA c) dx (putF f v vs))) g' S.length k (.ins c (putFD f d fs)) := by
      rw [eio]
      refine ⟨dx, putF f v vs, by rw [eio]; exact upd_same, ?_, putFD_nodup nd⟩
      exact FldR0.put (g := g) (g' := g') (n := S.length) (fun a o h _ hw ho => by rw [upd_ne (off hw)]; exact ho) (fun a h _ hw => eW a _ hw) (by rw [eG]; exact Sub.refl _) (fun j _ => by rw [eio]) (Nat.le_refl _) hv hF nd
    have z := R'.setObj hk new
    rw [eio] at z
    exact z
  · rw [List.length_set]
    have z : Stp false false H g' S.length (upd H (g'.io k) (.ins (T.cA c) dx (putF f v vs))) g' S.length := Stp.setObj hk
    rw [eio] at z
    exact (st'.trans z).weak fun y => by cases y
end
def mSetF (isf : Nat → Str → Bool) (f : Str) (mo mv : M D) : M Fl := M.bind mv fun d => M.bind (frz mo) fun x => match x with
  | .ob k => fun r S => match S[k]? with
    | some (.ins c fs) => if isf c f && !borD d && decide (fs.length < 1000) then .ok .nx r (S.set k (.ins c (putFD f d fs))) else .no
    | _ => .no
  | _ => M.fail
section
variable {X : Cx} {T : Tb} {qo qv ro : Bool} {o value : Expr} {mo mv : M D} {isf : Nat → Str → Bool} {f : Str} {pos pos' : Pos}
theorem ds_fld (hI : FldOk X.K T isf) (ho : DE X T qo ro o mo) (hv : DE X T qv false value mv) (hs : swapsWith value (some (.Attribute o f pos')) pos.line X.env = pure false) : DS X T false (.Assign [.Attribute o f pos'] value pos) (mSetF isf f mo mv) := fun W tk =>
  psImp (ps_fld (de_frz ho W tk) (hv W tk) hs) fun E σ H ⟨g, r, S, R, k⟩ => by
    refine ⟨g, r, S, R, ?_⟩
    unfold mSetF at k
    cases ev : mv r S with
    | exc x r1 S1 => unfold M.bind at k; rw [ev] at k; exact fun H' g' dd a b c => k σ H' g' dd a (b.stm.weak fun z => by cases z) c
    | no => unfold M.bind at k; rw [ev] at k; exact k.elim
    | ok d r1 S1 =>
      rw [bind_at ev] at k
      intro v H1 g1 R1 is1 fo1 st1
      refine ⟨g1, r1, S1, R1, ?_⟩
      cases eo : frz mo r1 S1 with
      | exc x r2 S2 => unfold M.bind at k; rw [eo] at k; exact fun H' g' dd a b c => k σ H' g' dd a ((st1.trans b).stm.weak fun z => by cases z) c
      | no => unfold M.bind at k; rw [eo] at k; exact k.elim
      | ok x r2 S2 =>
        rw [bind_at eo] at k
        intro w H2 g2 R2 is2 fo2 st2
        cases x with
        | ob j =>
          simp only at k
          cases eS : S2[j]? with
          | none => rw [eS] at k; exact k.elim
          | some ob =>
            rw [eS] at k
            cases ob with
            | arr ds => exact k.elim
            | tab ds => exact k.elim
            | ins c fs =>
              simp only at k
              split at k
              · rename_i hb
                simp only [Bool.and_eq_true, decide_eq_true_eq] at hb
                obtain ⟨⟨hb1, hb2⟩, hb3⟩ := hb
                cases is2 with
                | ob hj hio =>
                  rename_i a
                  obtain ⟨cl, na⟩ := hI.ex c f hb1
                  obtain ⟨dx, vs, g', hH, hl, R3, st3⟩ := storeF (f := f) R2 (is1.carryR R2.sub st2) fo1 (st1.trans st2) (by simpa using hb2) eS hb3
                  rw [hio] at hH R3 st3
                  exact ⟨a, T.cA c, dx, vs, rfl, hH, cl, na, hl, k σ _ g' R3 st3⟩
              · exact k.elim
        | _ => exact k.elim

def okU (T : Tb) (K : PySem.W.Frag) (H : Hp) (g : Gh) (n : Nat) (o : Out Unit) (Q : L2.St → Hp → Prop) : Prop := match o with
  | .ok _ r S => ∀ σ' H' g', Rep T K H' g' r S σ' → Stp false false H g n H' g' S.length → Q σ' H'
  | _ => False
def TgR (T : Tb) (K : PySem.W.Frag) (gg : TG) (p : D → M Unit) : Prop := ∀ v d σ H g r S Q, Rep T K H g r S σ → IsF K g.G g.io S.length v d → okU T K H g S.length (p d r S) Q → gg v σ H Q
def DG (X : Cx) (T : Tb) (tg : Expr) (p : D → M Unit) : Prop := ∃ gg, PG X tg gg ∧ TgR T X.K gg p
def pName (i : Nat) (d : D) : M Unit := fun r S => .ok () (r.set i (some d)) S
theorem dg_name {i : Nat} {x : Str} (hN : X.N.Nodup) (hi : X.N[i]? = some x) (hx : Loc X.env.scope x) (hf : X.fn x = true ∨ X.env.scope.names.lookup x = some .local) : DG X T (.Name x pos) (pName i) :=
  ⟨_, pg_name hN hi hx hf, fun v d σ H g r S Q R h k => k _ H g (R.put h) Stp.refl⟩
def pFld (isf : Nat → Str → Bool) (j : Nat) (f : Str) (d : D) : M Unit := fun r S => match r[j]? with
  | some (some (.ob k)) => match S[k]? with
    | some (.ins c fs) => if isf c f && !borD d && decide (fs.length < 1000) then .ok () r (S.set k (.ins c (putFD f d fs))) else .no
    | _ => .no
  | _ => .no
def gFld (K : PySem.W.Frag) (to : TE) (f : Str) : TG := fun v σ H Q => to σ H fun x H1 => ∃ a C dx fs, x = .ref a ∧ H1 a = some (.ins C dx fs) ∧ Cls K C ∧ NoAttr K C f ∧ fs.length < 1000 ∧ Q σ (upd H1 a (.ins C dx (putF f v fs)))
theorem pg_fld {to : TE} (ho : PE X o to) : PG X (.Attribute o f pos) (gFld X.K to f) := by
  refine ⟨fun pins s σ H v u Q J rv h => ?_⟩
  show wpAny (model X.prog X.w) X.A (do
    let ov ← holding [u] (eval o X.env)
    standAt pos.atName
    holding [u, ov] (setAttr ov f u)
    release [u, ov] []) _ X.xe s
  refine wpAny_bind (wpAny_holding (thn (ho.run pins s σ H _ J h) fun ov s1 ⟨x, H1, J1, rx, a, C, dx, fs, ex, ea, c, na, hl, q⟩ => ?_))
  subst ex
  obtain rfl : ov = Value.ref a := rx
  refine wpAny_bind (wpAny_standAt (wpAny_bind (wpAny_holding (setattr_ok J1 ea c na hl rv fun s2 J2 => ?_))))
  exact wpAny_release ⟨σ, _, J2, q⟩
theorem dg_fld {j : Nat} {x : Str} (hI : FldOk X.K T isf) (hN : X.N[j]? = some x) (hv : Vis X.env.scope x) (hd : (x == ("__debug__" : Str)) = false) (hc : (x == ("__classdict__" : Str)) = false) : DG X T (.Attribute (.Name x pos') f pos) (pFld isf j f) :=
  ⟨_, pg_fld (pe_var hN hv hd hc), fun v d σ H g r S Q R h k => by
    unfold pFld at k
    split at k
    · rename_i kk e
      split at k
      · rename_i c fs eS
        split at k
        · rename_i hb
          simp only [Bool.and_eq_true, decide_eq_true_eq] at hb
          obtain ⟨⟨hb1, hb2⟩, hb3⟩ := hb
          obtain ⟨cl, na⟩ := hI.ex c f hb1
          obtain ⟨w, hσ, hw⟩ := R.slot j _ e
          cases hw with
          | ob hj hio =>
            rename_i a
            obtain ⟨dx, vs, g', hH, hl, R3, st3⟩ := storeF (f := f) (ra := false) (q := true) (sl := true) R (IsR.ofF h) (FrO.ofF (H := H) (g1 := g) h) (Stp.refl (g := g)) (by simpa using hb2) eS hb3
            rw [hio] at hH R3 st3
            exact ⟨.ref a, hσ, a, T.cA c, dx, vs, rfl, hH, cl, na, hl, k σ _ g' R3 st3⟩
        · exact k.elim
      · exact k.elim
    · exact k.elim⟩
inductive DGs (X : Cx) (T : Tb) : List Expr → List (D → M Unit) → Prop
  | nil : DGs X T [] []
  | cons {t : Expr} {p : D → M Unit} {ts : List Expr} {ps : List (D → M Unit)} : DG X T t p → assignEach (t :: ts) X.env = (false, assign t X.env) :: assignEach ts X.env → DGs X T ts ps → DGs X T (t :: ts) (p :: ps)
def pAll : List (D → M Unit) → List D → M Unit
  | [], [] => M.ret ()
  | p :: ps, d :: ds => M.bind (p d) fun _ => pAll ps ds
  | _, _ => M.fail
def pTup (ps : List (D → M Unit)) (d : D) : M Unit := match d with
  | .tup ds => pAll ps ds
  | _ => M.fail
theorem DGs.get : ∀ {ts : List Expr} {ps : List (D → M Unit)}, DGs X T ts ps → ∃ gs : TGs, PGs X ts gs ∧ (assignEach ts X.env).length = ps.length ∧ (assignEach ts X.env).findIdx? (·.1) = none ∧
    ∀ vs ds σ H g r S Q, Rep T X.K H g r S σ → IsFs X.K g.G g.io S.length vs ds → okU T X.K H g S.length (pAll ps ds r S) Q → ds.length = ps.length ∧ gs vs σ H Q
  | _, _, .nil => ⟨_, pgs_nil, rfl, rfl, fun vs ds σ H g r S Q R h k => by
    cases h with
    | nil => exact ⟨rfl, rfl, k σ H g R Stp.refl⟩
    | cons _ _ => exact k.elim⟩
  | _, _, .cons (p := p) (ps := ps) h he hs => by
    obtain ⟨gg, h1, h2⟩ := h
    obtain ⟨gs, q1, q2, q3, q4⟩ := hs.get
    refine ⟨_, pgs_cons h1 q1 (by rw [he]; rfl), by rw [he, List.length_cons, q2]; rfl, by rw [he, List.findIdx?_cons]; simp [q3], fun vs ds σ H g r S Q R hf k => ?_⟩
    cases hf with
    | nil => exact k.elim
    | cons f1 f2 =>
      rename_i v d vs ds
      unfold pAll M.bind at k
      cases e : p d r S with
      | exc x r1 S1 => rw [e] at k; exact k.elim
      | no => rw [e] at k; exact k.elim
      | ok u r1 S1 =>
        rw [e] at k
        have len : ds.length = ps.length := by
          clear q4 h2 h1
          have go : ∀ {ps : List (D → M Unit)} {ds : List D} {r : Rho} {S : Sto} {H : Hp} {g : Gh} {n : Nat} {Q : L2.St → Hp → Prop}, okU T X.K H g n (pAll ps ds r S) Q → ds.length = ps.length := by
            intro ps
            induction ps with
            | nil => intro ds r S H g n Q z; cases ds with
              | nil => rfl
              | cons _ _ => exact z.elim
            | cons p ps ih => intro ds r S H g n Q z; cases ds with
              | nil => exact z.elim
              | cons d ds =>
                unfold pAll M.bind at z
                cases e : p d r S with
                | exc x r1 S1 => rw [e] at z; exact z.elim
                | no => rw [e] at z; exact z.elim
                | ok u r1 S1 => rw [e] at z; simp [ih z]
          exact go k
        refine ⟨by simp [len], v, vs, rfl, h2 v d σ H g r S _ R f1 ?_⟩
        rw [e]
        intro σ' H' g' R' st'
        refine (q4 vs ds σ' H' g' r1 S1 Q R' (st'.isFs f2) ?_).2
        cases e2 : pAll ps ds r1 S1 with
        | exc x r2 S2 => simp only at k; rw [e2] at k; exact k.elim
        | no => simp only at k; rw [e2] at k; exact k.elim
        | ok u2 r2 S2 =>
          simp only at k
          rw [e2] at k
          exact fun σ2 H2 g2 R2 st2 => k σ2 H2 g2 R2 (st'.trans st2)
theorem dg_tup {ts : List Expr} {ps : List (D → M Unit)} {kk : Nat} (hc : X.calm = true) (h : DGs X T ts ps) : DG X T (.Tuple ts kk pos) (pTup ps) := by
  obtain ⟨gs, q1, q2, q3, q4⟩ := h.get
  refine ⟨_, pg_tup hc q1 q2 q3, fun v d σ H g r S Q R hf k => ?_⟩
  unfold pTup at k
  cases d with
  | tup ds =>
    cases hf with
    | tup h1 h2 =>
      obtain ⟨hl, hg⟩ := q4 _ ds σ H g r S Q R h2 k
      exact ⟨_, _, rfl, R.sub.sqT h1, by rw [h2.length]; exact hl, hg⟩
  | _ => exact k.elim
def mAsg (m : M D) (p : D → M Unit) : M Fl := M.bind (frz m) fun d => if borD d then M.fail else fun r S => match p d r S with
  | .ok _ r' S' => .ok .nx r' S'
  | _ => .no
theorem frz_ok2 {m : M D} {r r' : Rho} {S S' : Sto} {d : D} (h : frz m r S = .ok d r' S') : ∀ xs, d ≠ .own xs := by
  unfold frz at h
  cases e : m r S with
  | ok x r1 S1 =>
    rw [e] at h
    cases h
    intro xs
    cases x <;> (intro z; cases z)
  | exc x r1 S1 => rw [e] at h; cases h
  | no => rw [e] at h; cases h
theorem ds_asg {tg e : Expr} {q ra : Bool} {m : M D} {p : D → M Unit} (he : DE X T q ra e m) (hg : DG X T tg p) (hs : swapsWithSole [tg] e pos.line X.env = pure false) (hw : swappedStores [tg] e X.env = pure none) (h1 : (assignEach [tg] X.env).map (·.2) = [assign tg X.env]) :
    DS X T false (.Assign [tg] e pos) (mAsg m p) := fun W tk => by
  obtain ⟨gg, g1, g2⟩ := hg
  refine psImp (ps_asg (de_frz he W tk) g1 hs hw h1) fun E σ H ⟨g, r, S, R, k⟩ => ?_
  refine ⟨g, r, S, R, ?_⟩
  unfold mAsg at k
  cases em : frz m r S with
  | exc x r1 S1 => unfold M.bind at k; rw [em] at k; exact fun H' g' dd a b c => k σ H' g' dd a (b.stm.weak fun z => by cases z) c
  | no => unfold M.bind at k; rw [em] at k; exact k.elim
  | ok d r1 S1 =>
    rw [bind_at em] at k
    intro v H1 g1' R1 is1 _ st1
    by_cases hb : borD d = true
    · rw [if_pos hb] at k; exact k.elim
    · rw [if_neg hb] at k
      have fr : frO d = true := by
        have no := frz_ok2 em
        cases d with
        | own xs => exact absurd rfl (no xs)
        | bor xs => exact absurd rfl hb
        | _ => rfl
      refine g2 v d σ H1 g1' r1 S1 _ R1 (is1.isF fr) ?_
      cases ep : p d r1 S1 with
      | exc x r2 S2 => rw [ep] at k; exact k.elim
      | no => rw [ep] at k; exact k.elim
      | ok u r2 S2 =>
        rw [ep] at k
        exact fun σ' H' g' R' st' => k σ' H' g' R' ((st1.stm.trans st').weak fun z => by cases z)
end
end DD

set_option Elab.async false
set_option linter.all false
set_option maxRecDepth 100000
set_option maxHeartbeats 4000000
namespace DD
open PySem PySem.Spec PyProof.Rows L2

section
variable {T : Tb} {K : PySem.W.Frag} {H : Hp} {g : Gh} {r : Rho} {S : Sto} {σ : L2.St} {q sl : Bool} {n k i : Nat} {f : Str} {a : Addr} {vs : List V} {ds : List D} {u : HO}
theorem Rep.pokeS (R : Rep T K H g r S σ) (hW : g.W a = some (.slot i)) (hσ : σ[i]? = some (some (.ref a))) (hv : IsFs K g.G g.io S.length vs ds) : Rep T K (upd H a (.lst vs)) g (r.set i (some (.own ds))) S σ := by
  have hG := R.gw a _ hW
  have offT : ∀ {b x}, x ≠ .slot i → g.W b = some x → b ≠ a := fun {b x} hx h e => by rw [e, hW] at h; cases h; exact hx rfl
  have hs : Sub g.G (upd H a (.lst vs)) := fun b w h => by
    rw [upd_ne (fun e => by rw [e, hG] at h; cases h)]; exact R.sub b w h
  refine ⟨hs, by rw [List.length_set]; exact R.len, fun j d hd => ?_, fun j ob hj => ?_, R.inj, R.apG, R.apW, R.gw, fun b x h => ?_, R.bse.step (Sub.refl _) (fun _ _ => rfl) (Nat.le_refl _)⟩
  · by_cases e : j = i
    · subst e
      by_cases hl : j < r.length
      · rw [List.getElem?_set_self hl] at hd
        cases hd
        exact ⟨_, hσ, a, vs, rfl, upd_same, hv, hW⟩
      · rw [List.getElem?_eq_none (by simpa using hl)] at hd; cases hd
    · rw [List.getElem?_set_ne (Ne.symm e)] at hd
      obtain ⟨v, h1, h2⟩ := R.slot j d hd
      exact ⟨v, h1, h2.weak (g := g) (g' := g) (fun b w h hw => by rw [upd_ne (offT (fun z => by injection z with z; exact e z) h)]; exact hw) (fun _ h => h) (Bst.of hs (fun b w h hw => by rw [upd_ne (offT (fun z => by cases z) h)]; exact hw) (fun _ h => h) (Sub.refl _) (fun _ _ => rfl) (Nat.le_refl _) fun _ => noK)⟩
  · have h := R.obj j ob hj
    have hjl : j < S.length := (List.getElem?_eq_some_iff.mp hj).1
    have ne := R.neI hW j hjl
    cases ob with
    | ins c fs =>
      obtain ⟨dx, us, h1, h2⟩ := h
      exact ⟨dx, us, by rw [upd_ne ne]; exact h1, h2.weak (g := g) (g' := g) (fun b w f h hw => by rw [upd_ne (offT (fun z => by cases z) h)]; exact hw) (fun _ _ h => h) (Sub.refl _) (fun _ _ => rfl) (Nat.le_refl _)⟩
    | arr ds =>
      obtain ⟨us, h1, h2⟩ := h
      exact ⟨us, by rw [upd_ne ne]; exact h1, h2⟩
    | tab ds =>
      obtain ⟨us, h1, h2⟩ := h
      exact ⟨us, by rw [upd_ne ne]; exact h1, h2⟩
  · by_cases e : b = a
    · exact ⟨_, by rw [e]; exact upd_same⟩
    · obtain ⟨w, hw⟩ := R.wd b x h
      exact ⟨w, by rw [upd_ne e]; exact hw⟩
theorem Stp.pokeW {rt : Rt} (hW : g.W a = some rt) (ht : ∀ b, rt ≠ .tmp b) (hs : sl = true → ∀ i, rt ≠ .slot i) : Stp false sl H g n (upd H a u) g n :=
  ⟨fun b o h hc => by
    rcases hc with ⟨z, _⟩ | ⟨_, z⟩
    · cases z
    · have hne : b ≠ a := fun e => by
        rcases z rt (by rw [e]; exact hW) with ⟨x, w⟩ | ⟨w, j, w2⟩
        · exact ht x w
        · exact hs w j w2
      rw [upd_ne hne]; exact h, fun b o h => by
    by_cases e : b = a
    · exact ⟨u, by rw [e]; exact upd_same⟩
    · exact ⟨o, by rw [upd_ne e]; exact h⟩, Sub.refl _, fun _ _ => rfl, Nat.le_refl _, fun _ => noK, fun _ _ h => .inl h, fun _ _ h => .inl h, fun _ _ h => h, fun _ _ _ h => .inl h⟩
theorem Rep.pokeF {c : Nat} {fs : List (Str × D)} (R : Rep T K H g r S σ) (hS : S[k]? = some (.ins c fs)) (hW : g.W a = some (.fld k f)) (hf : ∀ dx us, H (g.io k) = some (.ins (T.cA c) dx us) → us.lookup f = some (.ref a)) (hv : IsFs K g.G g.io S.length vs ds) :
    Rep T K (upd H a (.lst vs)) g r (S.set k (.ins c (putFD f (.own ds) fs))) σ := by
  have hG := R.gw a _ hW
  have hk : k < S.length := (List.getElem?_eq_some_iff.mp hS).1
  have offT : ∀ {b x}, x ≠ .fld k f → g.W b = some x → b ≠ a := fun {b x} hx h e => by rw [e, hW] at h; cases h; exact hx rfl
  have hs : Sub g.G (upd H a (.lst vs)) := fun b w h => by
    rw [upd_ne (fun e => by rw [e, hG] at h; cases h)]; exact R.sub b w h
  have hl : (S.set k (.ins c (putFD f (.own ds) fs))).length = S.length := List.length_set
  refine ⟨hs, R.len, fun j d hd => ?_, fun j ob hj => ?_, by rw [hl]; exact R.inj, by rw [hl]; exact R.apG, by rw [hl]; exact R.apW, R.gw, fun b x h => ?_, by rw [hl]; exact R.bse⟩
  · obtain ⟨v, h1, h2⟩ := R.slot j d hd
    rw [hl]
    exact ⟨v, h1, h2.weak (g := g) (g' := g) (fun b w h hw => by rw [upd_ne (offT (fun z => by cases z) h)]; exact hw) (fun _ h => h) (Bst.of hs (fun b w h hw => by rw [upd_ne (offT (fun z => by cases z) h)]; exact hw) (fun _ h => h) (Sub.refl _) (fun _ _ => rfl) (Nat.le_refl _) fun _ => noK)⟩
  · rw [hl]
    by_cases e : j = k
    · subst e
      rw [List.getElem?_set_self hk] at hj
      cases hj
      obtain ⟨dx, us, h1, h2, nd⟩ := R.obj j _ hS
      have hlk := hf dx us h1
      have ne := R.neI hW j hk
      refine ⟨dx, us, by rw [upd_ne ne]; exact h1, ?_, putFD_nodup nd⟩
      have z := FldR0.put (K := K) (H := H) (H' := upd H a (.lst vs)) (g := g) (g' := g) (n := S.length) (n' := S.length) (j := j) (f := f) (v := .ref a) (d := .own ds) (fun b o h hne hw hb => by rw [upd_ne (offT (fun z => by injection z with _ z; exact hne z) hw)]; exact hb) (fun b h _ hw => hw) (Sub.refl _) (fun _ _ => rfl) (Nat.le_refl _) ⟨a, vs, rfl, upd_same, hv, hW⟩ h2 nd
      rw [putF_same hlk] at z
      exact z
    · rw [List.getElem?_set_ne (Ne.symm e)] at hj
      have hjl : j < S.length := (List.getElem?_eq_some_iff.mp hj).1
      have ne := R.neI hW j hjl
      have h := R.obj j ob hj
      cases ob with
      | ins c' fs' =>
        obtain ⟨dx, us, h1, h2⟩ := h
        exact ⟨dx, us, by rw [upd_ne ne]; exact h1, h2.weak (g := g) (g' := g) (fun b w f' h hw => by rw [upd_ne (offT (fun z => by injection z with z _; exact e z) h)]; exact hw) (fun _ _ h => h) (Sub.refl _) (fun _ _ => rfl) (Nat.le_refl _)⟩
      | arr ds =>
        obtain ⟨us, h1, h2⟩ := h
        exact ⟨us, by rw [upd_ne ne]; exact h1, h2⟩
      | tab ds =>
        obtain ⟨us, h1, h2⟩ := h
        exact ⟨us, by rw [upd_ne ne]; exact h1, h2⟩
  · by_cases e : b = a
    · exact ⟨_, by rw [e]; exact upd_same⟩
    · obtain ⟨w, hw⟩ := R.wd b x h
      exact ⟨w, by rw [upd_ne e]; exact hw⟩
end

def slotL (r : Rho) (i : Nat) : Option (List D) := match r[i]? with
  | some (some (.own xs)) => some xs
  | _ => none
theorem slotL_some {r : Rho} {i : Nat} {xs : List D} (h : slotL r i = some xs) : r[i]? = some (some (.own xs)) := by
  unfold slotL at h
  split at h
  · rename_i e; rw [e]; cases h; rfl
  · cases h
def mApp (i : Nat) (me : M D) : M Fl := fun r S => match slotL r i with
  | none => .no
  | some _ => (M.bind (frz me) fun d => if borD d then M.fail else fun r S => match slotL r i with
    | none => .no
    | some xs => if xs.length < lim then .ok .nx (r.set i (some (.own (xs ++ [d])))) S else .no) r S
section
variable {X : Cx} {T : Tb} {q qa ra : Bool} {e : Expr} {es : List Expr} {me : M D} {i : Nat} {x f : Str} {pos p p2 apos cpos spos : Pos}
theorem frz_fr {m : M D} {r r' : Rho} {S S' : Sto} {d : D} (h : frz m r S = .ok d r' S') (hb : ¬ borD d = true) : frO d = true := by
  have no := frz_ok2 h
  cases d with
  | own xs => exact absurd rfl (no xs)
  | bor xs => exact absurd rfl hb
  | _ => rfl
theorem ds_app (hN : X.N[i]? = some x) (hv : Vis X.env.scope x) (hd : (x == ("__debug__" : Str)) = false) (hc : (x == ("__classdict__" : Str)) = false) (he : DE X T qa ra e me) (hn : nst e = true) (hline : (apos.endLine == cpos.line) = true)
    (hbase : attributeBase (.Name x p) "append" X.env (eval (.Name x p) X.env) = eval (.Name x p) X.env)
    (hfew : ((backTo cpos (starEach [e] X.env)).all (fun x => !x.1) && (backToKw cpos (keywordEach [] X.env)).all (fun x => x.1.isSome) && decide ([e].length + ([] : List Keyword).length + (if ([] : List Keyword).isEmpty then 0 else 1) < 30)) = true)
    (hs : swapsWith (.Call (.Attribute (.Name x p) "append" apos) [e] [] cpos) none spos.line X.env = pure false) :
    DS X T false (.Expr (.Call (.Attribute (.Name x p) "append" apos) [e] [] cpos) spos) (mApp i me) := fun W tk =>
  psImp (ps_expr (pe_bm F.plainAttrs_list F.slot_list_append F.type_list_append mt_append (pe_var hN hv hd hc) (pa_cons (de_frz he W tk) pa_nil (starC hn)) hbase hfew hline (starC hn) rfl) hs) fun E σ H ⟨g, r, S, R, k⟩ => by
    unfold mApp at k
    cases e0 : slotL r i with
    | none => rw [e0] at k; exact k.elim
    | some xs0 =>
      rw [e0] at k
      obtain ⟨v, hσ, a, us, rfl, h1, h2, hW⟩ := R.slot i _ (slotL_some e0)
      refine ⟨.ref a, hσ, .inl ⟨rfl, us, SqL.of h1⟩, g, r, S, R, ?_⟩
      simp only at k
      cases em : frz me r S with
      | exc y r1 S1 => unfold M.bind at k; rw [em] at k; exact fun H' g' dd a b c => k σ H' g' dd a (b.stm.weak fun z => by cases z) c
      | no => unfold M.bind at k; rw [em] at k; exact k.elim
      | ok d r1 S1 =>
        rw [bind_at em] at k
        intro w H1 g1 R1 is1 _ st1
        by_cases hb : borD d = true
        · rw [if_pos hb] at k; exact k.elim
        · rw [if_neg hb] at k
          cases e1 : slotL r1 i with
          | none => rw [e1] at k; exact k.elim
          | some xs =>
            rw [e1] at k
            simp only at k
            split at k
            · rename_i hl
              obtain ⟨v2, hσ2, b, us2, rfl, q1, q2, q3⟩ := R1.slot i _ (slotL_some e1)
              rw [hσ] at hσ2
              cases hσ2
              refine ⟨a, us2, w, rfl, rfl, q1, by rw [q2.length]; exact lim_lt (Nat.le_of_lt hl), ?_⟩
              refine k σ _ g1 (R1.pokeS q3 hσ (q2.append (.one (is1.isF (frz_fr em hb))))) ((st1.stm.trans (Stp.pokeW (sl := false) (q3) (fun b z => by cases z) (fun z => by cases z))).weak fun z => by cases z)
            · exact k.elim
def mAppF (isf : Nat → Str → Bool) (j : Nat) (f : Str) (me : M D) : M Fl := fun r S => match r[j]? with
  | some (some (.ob k)) => match fldAt isf f k S with
    | some (_, _, .own _) => (M.bind (frz me) fun d => if borD d then M.fail else fun r S => match fldAt isf f k S with
      | some (c, fs, .own xs) => if xs.length < lim then .ok .nx r (S.set k (.ins c (putFD f (.own (xs ++ [d])) fs))) else .no
      | _ => .no) r S
    | _ => .no
  | _ => .no
theorem ds_appF {isf : Nat → Str → Bool} {j : Nat} {ap2 : Pos} (hI : FldOk X.K T isf) (hN : X.N[j]? = some x) (hv : Vis X.env.scope x) (hd : (x == ("__debug__" : Str)) = false) (hc : (x == ("__classdict__" : Str)) = false) (he : DE X T true ra e me) (hn : nst e = true) (hline : (apos.endLine == cpos.line) = true)
    (hbf : attributeBase (.Name x p) f X.env (eval (.Name x p) X.env) = eval (.Name x p) X.env)
    (hbase : attributeBase (.Attribute (.Name x p) f ap2) "append" X.env (eval (.Attribute (.Name x p) f ap2) X.env) = eval (.Attribute (.Name x p) f ap2) X.env)
    (hfew : ((backTo cpos (starEach [e] X.env)).all (fun x => !x.1) && (backToKw cpos (keywordEach [] X.env)).all (fun x => x.1.isSome) && decide ([e].length + ([] : List Keyword).length + (if ([] : List Keyword).isEmpty then 0 else 1) < 30)) = true)
    (hs : swapsWith (.Call (.Attribute (.Attribute (.Name x p) f ap2) "append" apos) [e] [] cpos) none spos.line X.env = pure false) :
    DS X T false (.Expr (.Call (.Attribute (.Attribute (.Name x p) f ap2) "append" apos) [e] [] cpos) spos) (mAppF isf j f me) := fun W tk =>
  psImp (ps_expr (pe_bm F.plainAttrs_list F.slot_list_append F.type_list_append mt_append (pe_fld (pe_var hN hv hd hc) hbf) (pa_cons (de_frz he W tk) pa_nil (starC hn)) hbase hfew hline (starC hn) rfl) hs) fun E σ H ⟨g, r, S, R, k⟩ => by
    unfold mAppF at k
    split at k
    · rename_i kk er
      split at k
      · rename_i c0 fs0 xs0 ef
        obtain ⟨w0, hσ, hw⟩ := R.slot j _ er
        cases hw with
        | ob hk hio =>
          rename_i io
          obtain ⟨f1, f2, f3⟩ := fldAt_some ef
          obtain ⟨cl, na⟩ := hI.ex c0 f f2
          obtain ⟨dx, us, hH, hF, nd⟩ := R.obj _ _ f1
          obtain ⟨v, hlk, a, ls, rfl, h1, h2, hW⟩ := (FldR0.lookup hF).1 _ f3
          rw [hio] at hH
          refine ⟨.ref io, hσ, io, T.cA c0, dx, us, .ref a, rfl, hH, cl, na, hlk, .inl ⟨rfl, ls, SqL.of h1⟩, g, r, S, R, ?_⟩
          cases em : frz me r S with
          | exc y r1 S1 => unfold M.bind at k; rw [em] at k; exact fun H' g' dd a b c => k σ H' g' dd a (b.stm.weak fun z => by cases z) c
          | no => unfold M.bind at k; rw [em] at k; exact k.elim
          | ok d r1 S1 =>
            rw [bind_at em] at k
            intro w H1 g1 R1 is1 _ st1
            by_cases hb : borD d = true
            · rw [if_pos hb] at k; exact k.elim
            · rw [if_neg hb] at k
              split at k
              · rename_i c fs xs ef1
                split at k
                · rename_i hl
                  obtain ⟨y1, y2, y3⟩ := fldAt_some ef1
                  obtain ⟨dx1, us1, hH1, hF1, nd1⟩ := R1.obj _ _ y1
                  obtain ⟨v2, hlk2, b, ls2, rfl, q1, q2, q3⟩ := (FldR0.lookup hF1).1 _ y3
                  have eio : g1.io kk = io := (st1.im kk hk).trans hio
                  have same : H1 io = some (.ins (T.cA c0) dx us) := st1.kp io _ hH (.inl ⟨rfl, .inl rfl⟩)
                  rw [eio, same] at hH1
                  have eus : us1 = us := by
                    have z := Option.some.inj hH1
                    injection z with _ _ z
                    exact z.symm
                  subst eus
                  rw [hlk] at hlk2
                  cases hlk2
                  refine ⟨a, ls2, w, rfl, rfl, q1, by rw [q2.length]; exact lim_lt (Nat.le_of_lt hl), ?_⟩
                  refine k σ _ g1 (R1.pokeF y1 q3 (fun dx' us' hz => by
                    rw [eio, same] at hz
                    have z := Option.some.inj hz
                    injection z with _ _ z
                    rw [← z]; exact hlk) (q2.append (.one (is1.isF (frz_fr em hb))))) ?_
                  rw [List.length_set]
                  exact (st1.stm.trans (Stp.pokeW (sl := false) q3 (fun b z => by cases z) (fun z => by cases z))).weak fun z => by cases z
                · exact k.elim
              · exact k.elim
      · exact k.elim
    · exact k.elim

def mSetI (mo mi mv : M D) : M Fl := M.bind mv fun d => if borD d then M.fail else M.bind (frz mo) fun x => M.bind mi fun y => match x, y with
  | .ob k, .int i => fun r S => match arrAt S k with
    | some xs => match ixN xs.length i with
      | some j => if frO d then .ok .nx r (S.set k (.arr (xs.set j d))) else .no
      | none => .no
    | none => .no
  | _, _ => M.fail
theorem ds_setI {o ie value : Expr} {qo qi qv ro ri : Bool} {mo mi mv : M D} (hv : DE X T qv false value mv) (ho : DE X T qo ro o mo) (hi : DE X T qi ri ie mi)
    (ha : ∀ v, assign (.Subscript o ie pos) X.env v = (do
      let ov ← holding [v] (eval o X.env)
      let iv ← holding [v, ov] (eval ie X.env)
      standAt pos
      holding [v, ov, iv] (setItem ov iv v)
      release [v, ov, iv] []))
    (hs : swapsWithSole [.Subscript o ie pos] value spos.line X.env = pure false) (hw : swappedStores [.Subscript o ie pos] value X.env = pure none) (h1 : (assignEach [.Subscript o ie pos] X.env).map (·.2) = [assign (.Subscript o ie pos) X.env]) :
    DS X T false (.Assign [.Subscript o ie pos] value spos) (mSetI mo mi mv) := fun W tk =>
  psImp (ps_asg (hv W tk) (pg_sub (de_frz ho W tk) (hi W tk) set_list ha) hs hw h1) fun E σ H ⟨g, r, S, R, k⟩ => by
    refine ⟨g, r, S, R, ?_⟩
    unfold mSetI at k
    cases ev : mv r S with
    | exc y r1 S1 => unfold M.bind at k; rw [ev] at k; exact fun H' g' dd a b c => k σ H' g' dd a (b.stm.weak fun z => by cases z) c
    | no => unfold M.bind at k; rw [ev] at k; exact k.elim
    | ok d r1 S1 =>
      rw [bind_at ev] at k
      intro v H1 g1 R1 is1 fo1 st1
      by_cases hb : borD d = true
      · rw [if_pos hb] at k; exact k.elim
      · rw [if_neg hb] at k
        refine ⟨g1, r1, S1, R1, ?_⟩
        cases eo : frz mo r1 S1 with
        | exc x r2 S2 => unfold M.bind at k; rw [eo] at k; exact fun H' g' dd a b c => k σ H' g' dd a ((st1.trans b).stm.weak fun z => by cases z) c
        | no => unfold M.bind at k; rw [eo] at k; exact k.elim
        | ok x r2 S2 =>
          rw [bind_at eo] at k
          intro w H2 g2 R2 is2 fo2 st2
          refine ⟨g2, r2, S2, R2, ?_⟩
          cases ei : mi r2 S2 with
          | exc x r3 S3 => unfold M.bind at k; rw [ei] at k; exact fun H' g' dd a b c => k σ H' g' dd a ((st1.trans (st2.trans b)).stm.weak fun z => by cases z) c
          | no => unfold M.bind at k; rw [ei] at k; exact k.elim
          | ok y r3 S3 =>
            rw [bind_at ei] at k
            intro u H3 g3 R3 is3 fo3 st3
            split at k
            · rename_i kk ii
              cases is3
              split at k
              · rename_i xs ea
                split at k
                · rename_i jj ej
                  split at k
                  · rename_i hf
                    cases is2 with
                    | ob hk hio =>
                      rename_i a
                      have eS := arrAt_some ea
                      obtain ⟨vs, h1, h2⟩ := R3.obj _ _ eS
                      have hk3 : kk < S3.length := (List.getElem?_eq_some_iff.mp eS).1
                      have eio : g3.io kk = a := (st3.im kk hk).trans hio
                      rw [eio] at h1
                      have fv := (st2.trans st3).isF (is1.isF hf)
                      refine ⟨a, vs, ii, jj, rfl, rfl, h1, by rw [h2.length]; exact ej, ?_⟩
                      have R4 := R3.setObj (o' := .arr (xs.set jj d)) (u := .lst (vs.set jj v)) hk3 ⟨vs.set jj v, upd_same, h2.set fv jj⟩
                      have z : Stp false false H3 g3 S3.length (upd H3 (g3.io kk) (.lst (vs.set jj v))) g3 S3.length := Stp.setObj hk3
                      rw [eio] at R4 z
                      refine k σ _ g3 R4 ?_
                      rw [List.length_set]
                      exact ((st1.trans (st2.trans st3)).stm.trans z).weak fun z => by cases z
                  · exact k.elim
                · exact k.elim
              · exact k.elim
            · exact k.elim
def mSetIV (j : Nat) (mi mv : M D) : M Fl := M.bind mv fun d => fun r S => match slotL r j with
  | none => .no
  | some _ => (M.bind mi fun y => match y with
    | .int i => fun r S => match slotL r j with
      | none => .no
      | some xs => match ixN xs.length i with
        | some l => if frO d then .ok .nx (r.set j (some (.own (xs.set l d)))) S else .no
        | none => .no
    | _ => M.fail) r S
theorem ds_setIV {ie value : Expr} {qi qv ri : Bool} {mi mv : M D} {j : Nat} (hv : DE X T qv false value mv) (hN : X.N[j]? = some x) (hvis : Vis X.env.scope x) (hd : (x == ("__debug__" : Str)) = false) (hc : (x == ("__classdict__" : Str)) = false) (hi : DE X T qi ri ie mi)
    (ha : ∀ v, assign (.Subscript (.Name x p) ie pos) X.env v = (do
      let ov ← holding [v] (eval (.Name x p) X.env)
      let iv ← holding [v, ov] (eval ie X.env)
      standAt pos
      holding [v, ov, iv] (setItem ov iv v)
      release [v, ov, iv] []))
    (hs : swapsWithSole [.Subscript (.Name x p) ie pos] value spos.line X.env = pure false) (hw : swappedStores [.Subscript (.Name x p) ie pos] value X.env = pure none) (h1 : (assignEach [.Subscript (.Name x p) ie pos] X.env).map (·.2) = [assign (.Subscript (.Name x p) ie pos) X.env]) :
    DS X T false (.Assign [.Subscript (.Name x p) ie pos] value spos) (mSetIV j mi mv) := fun W tk =>
  psImp (ps_asg (hv W tk) (pg_sub (pe_var hN hvis hd hc) (hi W tk) set_list ha) hs hw h1) fun E σ H ⟨g, r, S, R, k⟩ => by
    refine ⟨g, r, S, R, ?_⟩
    unfold mSetIV at k
    cases ev : mv r S with
    | exc y r1 S1 => unfold M.bind at k; rw [ev] at k; exact fun H' g' dd a b c => k σ H' g' dd a (b.stm.weak fun z => by cases z) c
    | no => unfold M.bind at k; rw [ev] at k; exact k.elim
    | ok d r1 S1 =>
      rw [bind_at ev] at k
      intro v H1 g1 R1 is1 fo1 st1
      cases e0 : slotL r1 j with
      | none => simp only [e0] at k; exact k.elim
      | some xs0 =>
        simp only [e0] at k
        obtain ⟨u0, hσ, a, us, rfl, q1, q2, q3⟩ := R1.slot j _ (slotL_some e0)
        refine ⟨.ref a, hσ, g1, r1, S1, R1, ?_⟩
        cases ei : mi r1 S1 with
        | exc x r3 S3 => unfold M.bind at k; rw [ei] at k; exact fun H' g' dd a b c => k σ H' g' dd a ((st1.trans b).stm.weak fun z => by cases z) c
        | no => unfold M.bind at k; rw [ei] at k; exact k.elim
        | ok y r3 S3 =>
          rw [bind_at ei] at k
          intro u H3 g3 R3 is3 fo3 st3
          split at k
          · rename_i ii
            cases is3
            split at k
            · exact k.elim
            · rename_i xs e1
              split at k
              · rename_i l el
                split at k
                · rename_i hf
                  obtain ⟨u1, hσ1, b, us1, rfl, y1, y2, y3⟩ := R3.slot j _ (slotL_some e1)
                  rw [hσ] at hσ1
                  cases hσ1
                  refine ⟨a, us1, ii, l, rfl, rfl, y1, by rw [y2.length]; exact el, ?_⟩
                  refine k σ _ g3 (R3.pokeS y3 hσ (y2.set (st3.isF (is1.isF hf)) l)) ?_
                  exact ((st1.trans st3).stm.trans (Stp.pokeW (sl := false) y3 (fun b z => by cases z) (fun z => by cases z))).weak fun z => by cases z
                · exact k.elim
              · exact k.elim
          · exact k.elim
end
end DD

set_option Elab.async false
set_option linter.all false
set_option maxRecDepth 100000
set_option maxHeartbeats 4000000
namespace DD
open PySem PySem.Spec PyProof.Rows L2

theorem ds_never {X : Cx} {T : Tb} {st : Stmt} : DS X T true st M.fail := fun W tk => ⟨fun pins s σ H E I ⟨g, r, S, R, k⟩ => k.elim⟩
theorem dss_never {X : Cx} {T : Tb} {sts : List Stmt} : DSs X T true sts M.fail := fun W tk => ⟨fun pins s σ H E I ⟨g, r, S, R, k⟩ => k.elim⟩

def startR (N : List Str) (ds : List D) : Rho := ds.map some ++ List.replicate (N.length - ds.length) none
def endFn (o : Out Fl) : Out D := match o with
  | .ok .nx r S => .ok .non r S
  | .ok (.rt d) r S => if borD d then .no else .ok d r S
  | .ok _ _ _ => .no
  | .exc e r S => .exc e r S
  | .no => .no
def fnOf (N : List Str) (m : M Fl) : Fn := fun ds S => endFn (m (startR N ds) S)
def leaveW (g : Gh) : Gh := { g with W := fun a => match g.W a with
  | some (.slot _) => none
  | x => x }
theorem leaveW_of {g : Gh} {a : Addr} {r : Rt} (h : (leaveW g).W a = some r) : g.W a = some r ∧ ∀ i, r ≠ .slot i := by
  have h' : (match g.W a with | some (.slot _) => none | x => x) = some r := h
  cases e : g.W a with
  | none => rw [e] at h'; cases h'
  | some x =>
    rw [e] at h'
    cases x with
    | slot i => cases h'
    | fld k f => cases h'; exact ⟨rfl, fun i z => by cases z⟩
    | tmp b => cases h'; exact ⟨rfl, fun i z => by cases z⟩
theorem leaveW_to {g : Gh} {a : Addr} {r : Rt} (h : g.W a = some r) (hr : ∀ i, r ≠ .slot i) : (leaveW g).W a = some r := by
  show (match g.W a with | some (.slot _) => none | x => x) = some r
  rw [h]
  cases r with
  | slot i => exact absurd rfl (hr i)
  | fld k f => rfl
  | tmp b => rfl
theorem leaveW_none {g : Gh} {a : Addr} (h : g.W a = none) : (leaveW g).W a = none := by
  show (match g.W a with | some (.slot _) => none | x => x) = none
  rw [h]
section
variable {T : Tb} {K : PySem.W.Frag} {H H' : Hp} {g g' : Gh} {r : Rho} {S S' : Sto} {σ : L2.St} {q : Bool} {n n' : Nat}
theorem NoSl.leave (g : Gh) : NoSl (leaveW g) := fun a i h => (leaveW_of h).2 i rfl
theorem Rep.leave (R : Rep T K H g r S σ) : Rep T K H (leaveW g) [] S [] where
  sub := R.sub
  len := rfl
  slot := fun i d h => by simp at h
  obj := fun k o ho => by
    have h := R.obj k o ho
    cases o with
    | ins c fs =>
      obtain ⟨dx, vs, h1, h2⟩ := h
      exact ⟨dx, vs, h1, h2.weak (g := g) (g' := leaveW g) (fun _ _ _ _ h => h) (fun _ _ h => leaveW_to h fun i z => by cases z) (Sub.refl _) (fun _ _ => rfl) (Nat.le_refl _)⟩
    | arr ds => exact h
    | tab ds => exact h
  inj := R.inj
  apG := R.apG
  apW := fun k hk => leaveW_none (R.apW k hk)
  gw := fun a rt h => R.gw a rt (leaveW_of h).1
  wd := fun a rt h => R.wd a rt (leaveW_of h).1
  bse := R.bse.step (Sub.refl _) (fun _ _ => rfl) (Nat.le_refl _)
theorem Stp.leave (ns : NoSl g) (st : Stp q false H g n H' g' n') : Stp q true H g n H' (leaveW g') n' where
  kp := fun a o ho hc => st.kp a o ho (by
    rcases hc with ⟨z, _⟩ | ⟨z1, z2⟩
    · exact .inl ⟨z, .inr (ns a)⟩
    · refine .inr ⟨z1, fun r hr => .inl ?_⟩
      rcases z2 r hr with z | ⟨_, i, z⟩
      · exact z
      · subst z; exact absurd hr (ns a i))
  dm := st.dm
  gm := st.gm
  im := st.im
  nm := st.nm
  nf := st.nf
  om := fun a x hx => by
    rcases st.om a x (leaveW_of hx).1 with z | ⟨_, i, z⟩ | z
    · exact .inl z
    · exact absurd z (ns a i)
    · exact .inr (.inr z)
  fm := st.fm
  tm := fun a b h => leaveW_to (st.tm a b h) fun i z => by cases z
  wm := fun _ a i h => absurd h (ns a i)
theorem IsR.leave {v : V} {d : D} (nb : borD d = false) (h : IsR K false H g n v d) : IsR K false H (leaveW g) n v d := by
  cases d with
  | own xs =>
    obtain ⟨a, vs, e, h1, h2, h3, h4, h5⟩ := h
    exact ⟨a, vs, e, h1, h2, h3, leaveW_none h4, h5⟩
  | bor xs => cases nb
  | _ => exact h
theorem Rep.enter {N : List Str} {vs : List V} {ds : List D} (R : Rep T K H g [] S []) (h : IsPs K H g S.length vs ds) : Rep T K H g (startR N ds) S (L2.start N vs) := by
  have hl := h.length
  refine ⟨R.sub, ?_, fun i d hd => ?_, R.obj, R.inj, R.apG, R.apW, R.gw, R.wd, R.bse.step (Sub.refl _) (fun _ _ => rfl) (Nat.le_refl _)⟩
  · unfold startR L2.start
    simp [hl]
  · unfold startR at hd
    by_cases hi : i < ds.length
    · rw [List.getElem?_append_left (by simpa using hi), List.getElem?_map] at hd
      obtain ⟨d', e1, e2⟩ := Option.map_eq_some_iff.mp hd
      cases e2
      obtain ⟨v, e3, e4⟩ := h.get e1
      refine ⟨v, ?_, SlotP.ofP e4⟩
      unfold L2.start
      rw [List.getElem?_append_left (by rw [List.length_map, hl]; exact hi), List.getElem?_map, e3]; rfl
    · have hi' := Nat.le_of_not_lt hi
      rw [List.getElem?_append_right (by simpa using hi')] at hd
      rw [List.getElem?_replicate] at hd
      split at hd <;> cases hd
theorem okS_of {m : M Fl} {ds : List D} {N : List Str} {vs : List V} {Q : VK} {E : XK} (R : Rep T K H g [] S []) (ns : NoSl g) (k : okF T K q H g S.length (fnOf N m ds S) Q E) :
    okS T K q H g S.length (m (startR N ds) S) { nx := fun _ H' => Q .non H', rt := Q } (fun cls d _ H' => E cls d H') := by
  unfold fnOf endFn at k
  cases e : m (startR N ds) S with
  | no => rw [e] at k; exact k.elim
  | exc x r1 S1 =>
    rw [e] at k
    intro σ' H1 g1 dd R1 st1 ex
    exact k H1 (leaveW g1) dd R1.leave (NoSl.leave _) (st1.leave ns) (ex.mono (g := g1) (g' := leaveW g1) (Sub.refl _) (fun _ _ => rfl) (Nat.le_refl _))
  | ok f r1 S1 =>
    rw [e] at k
    cases f with
    | nx => exact fun σ' H1 g1 R1 st1 => k .non H1 (leaveW g1) R1.leave (NoSl.leave _) .non (FrO.non fun xs e => by cases e) (st1.leave ns)
    | bk => exact k.elim
    | ct => exact k.elim
    | rt d =>
      simp only at k
      intro σ' v H1 g1 R1 is1 fo1 st1
      by_cases hb : borD d = true
      · rw [if_pos hb] at k; exact k.elim
      · rw [if_neg hb] at k
        exact k v H1 (leaveW g1) R1.leave (NoSl.leave _) (is1.leave (by simpa using hb)) fo1 (st1.leave ns)
end
theorem fnG_of {P : Program} {w : World} {T : Tb} {K : PySem.W.Frag} {mg : Str → Option Value} {base : Heap} {q : Bool} {k : Nat} {x qual : Str} {params : Arguments} {body : List Stmt} {scope : Scope} {dvs : List V} {kws : List (Str × V)} {f : Addr} {fd : FuncData} {N ps : List Str} {m : M Fl}
    (Fd : FunD K x qual params body scope dvs kws f fd) (S : FnScope N ps scope)
    (hbody : ∀ (cdv : Value) (A : Around) (outer : List Env) (s : Shared) (H : Hp) (E : XK), Room k (A.deeper (envOfC qual scope s.heap.objs.size f cdv)) → A.guards = some [] → DSs (cxOf (L2.CX P w) P w K mg base N qual scope f cdv A outer s H E) T q body m) :
    FnG P w T K mg base q (k + 1) f fd ps (fnOf N m) := by
  obtain ⟨oc, od, dV, kV, doc, pm, an, cdv, ct, osl, rfl, lk, hcd, _⟩ := Fd.ex
  refine ⟨fun A outer s H args us vs Q E hr hgd e0 hb hv ⟨g, ds, S0, R, ns, hd, hl, hq⟩ => ?_⟩
  have lvs : vs.length = ps.length := hd.length.trans hl
  have up : ∀ b o, base.get? b = some o → s.heap.get? b = some o := fun b o e => (e0.bs b o e).1
  have kin : K.In s.heap := e0.mod.kin.keeps up
  have kinds : ∀ y ∈ ps.zip us, scope.names.lookup y.1 = some .local ∨ (scope.names.lookup y.1 = some .cell ∧ ((cellsFrom (s.heap.objs.size + 1) scope.names []).lookup y.1).isSome = true) := by
    rintro ⟨nm, u⟩ hy
    exact (S.par nm (List.of_mem_zip hy).1).imp id fun z => ⟨z, PySem.W.cellsFrom_some _ _ _ (.inl z)⟩
  refine codeAny_call_function hr.depth (kin _ _ lk) rfl S.co S.gen rfl (PySem.W.codeRec_of kin hcd) (hb _ _ _ _ (wpAny_newFunctionEnv_cells S.kind kinds fun env he s1 x1 => ?_))
  subst he
  refine ⟨(e0.mod.nolimit.keeps up).keeps x1.toInCall.keep, codeAny_func ?_⟩
  have tk : Takes (cxOf (L2.CX P w) P w K mg base N qual scope f cdv A outer s H E) (fun cls d _ H' => E cls d H') := takes_of rfl rfl rfl rfl
  have J : Inv (cxOf (L2.CX P w) P w K mg base N qual scope f cdv A outer s H E) [] (L2.start N vs) H s1 := inv_start S hr.hd e0 lvs hv x1
  have runs := ((hbody cdv A outer s H E (hr.deeper _) hgd) _ tk).run [] s1 (L2.start N vs) H { nx := fun _ H' => Q .non H', rt := Q } J ⟨g, startR N ds, S0, R.enter hd, okS_of (vs := vs) R ns hq⟩
  refine wpAny_mono runs (fun fl s' hs => ?_) fun e s' hs => hs
  cases fl with
  | ret u =>
    obtain ⟨v, σ', H', J', rv, qv⟩ := hs
    exact ⟨v, H', J'.os, J'.bare, J'.base, J'.hok, rv, qv⟩
  | next =>
    obtain ⟨σ', H', J', qv⟩ := hs
    exact ⟨V.non, H', J'.os, J'.bare, J'.base, J'.hok, rfl, qv⟩
  | brk =>
    obtain ⟨_, _, _, z⟩ := hs
    exact z.elim
  | cont =>
    obtain ⟨_, _, _, z⟩ := hs
    exact z.elim
end DD

set_option Elab.async false
set_option linter.all false
set_option maxRecDepth 100000
set_option maxHeartbeats 4000000
namespace DD
open PySem PySem.Spec PyProof.Rows L2

section
variable {K : PySem.W.Frag} {x qual : Str} {params : Arguments} {body : List Stmt} {scope : Scope} {dvs : List V} {kws : List (Str × V)} {f : Addr} {fd : FuncData} {ps ks : List Str} {n : Nat} {src : List Src} {dds : List D}
theorem bindA_0 (Fd : FunD K x qual params body scope [] [] f fd)
    (h : ∀ (kV doc pm : Value) (an : Option Addr) (cdv ct : Value) (us ws xs : List Value), us.length = n → ws.length = ks.length → arr us ws [] src = some xs → bindArgs (PySem.W.fnOf x qual params body scope .none kV doc pm an cdv ct) ⟨us, ks.zip ws⟩ = pure (ps.zip xs)) : BindA K fd ps n ks src [] := by
  obtain ⟨oc, od, dV, kV, doc, pm, an, cdv, ct, osl, rfl, lk, hcd, hD, hK⟩ := Fd.ex
  rcases hD with ⟨_, rfl⟩ | ⟨e, _⟩
  · exact ⟨[], [], .nil, .nil, fun s us ws xs _ h1 h2 h3 => .of_eq (h kV doc pm an cdv ct us ws xs h1 h2 h3)⟩
  · exact absurd rfl e
theorem bindA_1 (Fd : FunD K x qual params body scope dvs [] f fd) (hd : dvs ≠ []) (hf : IsFs K (fun _ => none) (fun _ => 0) 0 dvs dds)
    (h : ∀ (D0 : Addr) (kV doc pm : Value) (an : Option Addr) (cdv ct : Value) (us ws its xs : List Value), us.length = n → ws.length = ks.length → its.length = dvs.length → arr us ws its src = some xs →
      ∃ k, bindArgs (PySem.W.fnOf x qual params body scope (.ref D0) kV doc pm an cdv ct) ⟨us, ks.zip ws⟩ = seqItems? (.ref D0) >>= k ∧ k (some its.toArray) = pure (ps.zip xs)) : BindA K fd ps n ks src dds := by
  obtain ⟨oc, od, dV, kV, doc, pm, an, cdv, ct, osl, rfl, lk, hcd, hD, hK⟩ := Fd.ex
  rcases hD with ⟨e, _⟩ | ⟨_, D0, o, its, m, rfl, lD, oD, rD⟩
  · exact absurd e hd
  · refine ⟨dvs, its, rD, hf, fun s us ws xs kin h1 h2 h3 => BindsTo.of_looks fun M => ?_⟩
    obtain ⟨k, e1, e2⟩ := h D0 kV doc pm an cdv ct us ws its xs h1 h2 rD.length.symm h3
    rw [e1]
    exact looks_items kin lD oD (.of_pure e2)
end

def scrG : Gh := ⟨fun _ => none, fun _ => 0, fun _ => none⟩
theorem law_callG {P : Program} {w : World} {T : Tb} {K : PySem.W.Frag} {mg mb : Str → Option Value} {q : Bool} {k : Nat} {fa a : Addr} {fd : FuncData} {x : Str} {φ : Fn} {s1 : Shared} {vs : List Value} {ns : List Int}
    (kx : K.In s1.heap) (hm : s1.heap.Ns mainGlobals mg) (hb : s1.heap.Ns builtinsNs mb) (hbb : ∀ x : Str, x ≠ "__name__" → mb x = bootBuiltins x) (hnl : s1.heap.NoLimit) (hge : s1.gens = #[])
    (ha : s1.heap.get? a = some { cls := .type "list", data := .seq vs.toArray }) (hi : IntsAre vs ns) (hl : ns.length ≤ sizeLine) (hr : Room k callerA) (hT : T.bn = 0 ∧ ∀ a, T.bg.G a = none)
    (Fb : ∀ base : Heap, K.In base → base.Ns mainGlobals mg → FnG P w T K mg base q k fa fd [x] φ) (hbind : ∀ (s : Shared) (u : Value), BindsTo s fd ⟨[u], []⟩ [(x, u)])
    (hφ : ∃ r S, φ [.scr (ns.map D.int)] [] = .ok (.bl true) r S) :
    codeAny (model P w) callerA (.call (.ref fa) ⟨[.ref a], []⟩) (fun r s2 => r = .ok (.ret (.bool true)) ∧ OldK s1.heap s2.heap ∧ s2.os = s1.os ∧ AllBare s2.gens) s1 := by
  have rvs : Vals (ns.map V.int) vs := vals_ints hi
  have key : ∀ H : Hp, Only H → SqL K H a (ns.map V.int) → HOk P w H s1.heap → (∀ b, H b ≠ none → b = a) → (H a ≠ none → K.lookup a = none) →
      codeAny (model P w) callerA (.call (.ref fa) ⟨[.ref a], []⟩) (fun r s2 => r = .ok (.ret (.bool true)) ∧ OldK s1.heap s2.heap ∧ s2.os = s1.os ∧ AllBare s2.gens) s1 := by
    intro H only sq hok isA notK
    have atA : ∀ {b : Addr} {u : HO}, H b = some u → b = a := fun {b u} e => isA b (by rw [e]; exact Option.some_ne_none u)
    have dictN : ∀ {b : Addr} {o : Obj} {es : Array DictEntry} {ep : Nat}, s1.heap.get? b = some o → o.data = .dict es ep → H b = none := fun {b o es ep} e1 e2 => by
      cases eh : H b with
      | none => rfl
      | some u =>
        rw [atA eh, ha] at e1
        cases e1
        cases e2
    have nsOf : ∀ {b : Addr} {m : Str → Option Value}, s1.heap.Ns b m → (hidT s1.heap H).Ns b m := fun ⟨o, es, ep, e1, e2, e3⟩ => ⟨o, es, ep, hidT_get e1 (dictN e1 e2), e2, e3⟩
    have kin : K.In (hidT s1.heap H) := fun b o e1 => hidT_get (kx b o e1) (by
      cases eh : H b with
      | none => rfl
      | some u =>
        have eb := atA eh
        subst eb
        rw [notK (by rw [eh]; exact Option.some_ne_none u)] at e1
        cases e1)
    obtain ⟨mc, n1, n2⟩ := hnl
    have md : Mod K mg (hidT s1.heap H) := ⟨kin, nsOf hm, ⟨mb, nsOf hb, hbb⟩, mc, nsOf n1, n2⟩
    have env : Env0 P w K mg (hidT s1.heap H) callerA [] s1 H := ⟨rfl, md, fun b o e1 => of_hidT e1, Nat.le_of_eq (hidT_size _ _), trivial, fun b hb => (List.not_mem_nil hb).elim, hok, .of_eq hge⟩
    let g : Gh := ⟨H, fun _ => 0, fun _ => none⟩
    have R : Rep T K H g [] [] [] := ⟨Sub.refl _, rfl, fun i d h => by simp at h, fun k o h => by simp at h, fun j k h => absurd h (Nat.not_lt_zero _), fun k h => absurd h (Nat.not_lt_zero _), fun k h => absurd h (Nat.not_lt_zero _), fun b r h => (by cases h), fun b r h => (by cases h), ⟨fun a o h => (by rw [hT.2] at h; cases h), fun k h => (by rw [hT.1] at h; exact absurd h (Nat.not_lt_zero _)), (by rw [hT.1]; exact Nat.zero_le _)⟩⟩
    have isP : IsPs K H g 0 [V.ref a] [D.scr (ns.map D.int)] := .cons (IsP.ofF (.scr sq (IsFs.ints ns))) .nil
    obtain ⟨rr, SS, eφ⟩ := hφ
    have sp : spD T K q φ [x].length [V.ref a] H (fun v _ => v = .bl true) (fun _ _ _ => False) := ⟨g, _, [], R, (fun b i h => by cases h), isP, rfl, by
      rw [eφ]
      intro v H2 g2 _ _ is2 _ _
      cases is2
      rfl⟩
    refine codeAny_mono ((Fb _ kin (nsOf hm)).run callerA [] s1 H ⟨[.ref a], []⟩ [.ref a] [.ref a] _ _ hr rfl env (hbind s1 (.ref a)) (.cons rfl .nil) sp) fun res s2 hres => ?_
    cases res with
    | error er =>
      obtain ⟨_, _, _, _, _, _, _, _, _, _, _, _, z⟩ := hres
      exact z.elim
    | ok fl =>
      cases fl with
      | next => exact hres.elim
      | brk => exact hres.elim
      | cont => exact hres.elim
      | ret u =>
        obtain ⟨v, H2, os2, bare2, un2, hok2, ru, ev⟩ := hres
        have ev2 : v = .bl true := ev
        subst ev2
        obtain rfl : u = Value.bool true := ru
        refine ⟨rfl, OldK.of_keep fun b o eo => ?_, os2, bare2⟩
        cases eh : H b with
        | none => exact un2.keep b o eo eh (fun z => (List.not_mem_nil z).elim) (by simp)
        | some y =>
          rcases only b with z | ⟨ob, zs, z⟩
          · rw [eh] at z; cases z
          · obtain ⟨e1, _⟩ := hok b _ z
            obtain ⟨e2, _⟩ := hok2 b _ (un2.frzs b ob _ z)
            rw [eo] at e1
            cases e1
            exact e2
  cases hk : K.lookup a with
  | some o =>
    have eo := kx a o hk
    rw [ha] at eo
    cases eo
    exact key (fun _ => none) (fun _ => .inl rfl) (.inr ⟨_, vs.toArray, _, hk, rfl, rfl, rfl, by rw [List.size_toArray, hi.length]; exact hl, by simpa using rvs⟩) (fun b u z => nomatch (show (none : Option HO) = some u from z)) (fun b z => (z rfl).elim) fun z => (z rfl).elim
  | none =>
    let ob : Obj := { cls := .type "list", data := .seq vs.toArray }
    let H : Hp := fun b => if b = a then some (.frz ob (.lst (ns.map V.int))) else none
    have yes : H a = some (.frz ob (.lst (ns.map V.int))) := if_pos rfl
    have no : ∀ {b}, b ≠ a → H b = none := fun h => if_neg h
    refine key H (fun b => ?_) (.inl (.inr ⟨ob, yes⟩)) (fun b u z => ?_) (fun b z => ?_) fun _ => hk
    · by_cases e : b = a
      · subst e; exact .inr ⟨_, _, yes⟩
      · exact .inl (no e)
    · by_cases e : b = a
      · subst e
        rw [yes] at z
        cases z
        exact ⟨ha, by rw [List.length_map]; exact hl, vs, _, rvs, ha⟩
      · rw [no e] at z; cases z
    · by_cases e : b = a
      · exact e
      · exact absurd (no e) z
theorem walkG {l : PySem.W.OpenLaw} {n k : Nat} {q : Program} {loose : List Str} {XP : (Str → Option Value) → Heap → Prop} {YP : World → Heap → Prop} {d : DefRec} {x : Str} {qf : Bool}
    (hn : l.most = some n) (hn2 : n ≤ sizeLine) (hdf : d.params.defaults = []) (hr : Room k callerA)
    (F : ∀ (w : World) (mg : Str → Option Value) (fa : Addr) (h : Heap), YP w h → h.Ns mainGlobals mg → mg d.name = some (.ref fa) →
      ∃ (T : Tb) (K : PySem.W.Frag) (fd : FuncData) (φ : Fn), K.In h ∧ (T.bn = 0 ∧ ∀ a, T.bg.G a = none) ∧ (∀ (s : Shared) (u : Value), BindsTo s fd ⟨[u], []⟩ [(x, u)]) ∧
        (∀ ns : List Int, ns.length ≤ n → (∀ z ∈ ns, Builtin.Int.intBits z ≤ 1048576) → ∃ r S, φ [.scr (ns.map D.int)] [] = .ok (.bl true) r S) ∧
        ∀ base : Heap, K.In base → base.Ns mainGlobals mg → FnG l.prog w T K mg base qf k fa fd [x] φ) :
    PySem.W.WalkO q loose XP YP l.row.toRowW d [] (fun f vs => PySem.call f vs) := by
  refine Att.attach_callB hn hdf fun w s0 s1 mg mb fa o pm cd doc a vs ns G Y ho hd hcd hmg hobj hints hlen hbits hge => ?_
  obtain ⟨T, K, fd, φ, kx, hT, hb, hφ, Fb⟩ := F w mg fa _ Y G.T.g hmg
  exact law_callG kx G.T.g G.T.b G.T.builtins G.T.nolimit hge hobj hints (Nat.le_trans hlen hn2) hr hT Fb hb (hφ ns hlen hbits)
end DD

set_option Elab.async false
set_option linter.all false
set_option maxRecDepth 100000
set_option maxHeartbeats 4000000
namespace DD
open PySem PySem.Spec PyProof.Rows L2

def fnA (K : PySem.W.Frag) (a : Addr) : He.FnW := match K.lookup a with
  | some ⟨_, _, .func fd, _⟩ => some (fd.name, fd.qualname, fd.params, fd.body, fd.scope, fd.globals, fd.closure.map fun p => (p.1, 0), fd.builtins)
  | _ => none
structure DX where
  ad : PySem.W.Frag → Addr
  name : Str
  qual : Str
  st : Stmt
  dfl : PySem.W.Frag → List V := fun _ => []
  clo : List Str := []
def sArgs : Stmt → Arguments
  | .FunctionDef _ a _ _ _ _ _ _ _ _ => a
  | _ => ⟨[], [], none, [], [], none, []⟩
def sBody : Stmt → List Stmt
  | .FunctionDef _ _ b _ _ _ _ _ _ _ => b
  | _ => []
def sScope : Stmt → Scope
  | .FunctionDef _ _ _ _ _ _ sc _ _ _ => sc
  | _ => ⟨.function, [], false, false, []⟩
def cBody (i : Nat) : Stmt → Stmt
  | .ClassDef (body := b) .. => b.getD i (.Pass ⟨0, 0, 0, 0⟩)
  | _ => .Pass ⟨0, 0, 0, 0⟩
def DX.val (d : DX) : He.FnW := some (d.name, d.qual, sArgs d.st, .stmts (sBody d.st), sScope d.st, mainGlobals, d.clo.map fun x => (x, 0), builtinsNs)
def DX.ok (K : PySem.W.Frag) (d : DX) : Bool := PySem.W.keepIn K (.ref (d.ad K)) && (match K.lookup (d.ad K) with
  | some ⟨_, _, .func fd, _⟩ => PySem.W.codeIn K fd.code d.qual && He.dflB K fd.defaults (d.dfl K)
  | _ => false)
abbrev FnS (K : PySem.W.Frag) (d : DX) (fd : FuncData) : Prop := FunD K d.name d.qual (sArgs d.st) (sBody d.st) (sScope d.st) (d.dfl K) [] (d.ad K) fd
theorem DX.fun_ {K : PySem.W.Frag} {d : DX} (e : fnA K (d.ad K) = d.val) (c : d.ok K = true) (hc : d.clo = []) : ∃ fd, FnS K d fd := by
  unfold DX.ok at c
  rw [Bool.and_eq_true_iff] at c
  obtain ⟨kp, c2⟩ := c
  unfold fnA DX.val at e
  rw [hc] at e
  cases q : K.lookup (d.ad K) with
  | none => rw [q] at c2; cases c2
  | some o =>
    rw [q] at c2 e
    obtain ⟨oc, od, dt, osl⟩ := o
    cases dt with
    | func fd =>
      obtain ⟨n1, n2, n3, n4, n5, n6, n7, n8, n9, n10, n11, n12, n13, n14, n15⟩ := fd
      simp only [Option.some.injEq, Prod.mk.injEq] at e
      obtain ⟨rfl, rfl, rfl, rfl, rfl, rfl, e7, rfl⟩ := e
      cases List.map_eq_nil_iff.mp e7
      rw [Bool.and_eq_true_iff] at c2
      exact ⟨_, ⟨oc, od, n8, n9, n10, n11, n12, n13, n14, osl, rfl, q, c2.1, He.dflB_ok c2.2, .inl rfl⟩, kp⟩
    | _ => cases c2
abbrev AlM : Type := Bool × List He.FnW
def obsM (ex : PySem.W.Frag → Bool) (fn : List DX) (K : PySem.W.Frag) : AlM := (ex K && fn.all fun d => d.ok K, fn.map fun d => fnA K (d.ad K))
def valM (fn : List DX) : AlM := (true, fn.map DX.val)
structure SaysM (ex : PySem.W.Frag → Bool) (fn : List DX) (K : PySem.W.Frag) : Prop where
  eq : obsM ex fn K = valM fn
theorem SaysM.more {ex : PySem.W.Frag → Bool} {fn : List DX} {K : PySem.W.Frag} (c : SaysM ex fn K) : ex K = true :=
  (Bool.and_eq_true_iff.mp (show (ex K && fn.all fun d => d.ok K) = true from congrArg (fun z : AlM => z.1) c.eq)).1
theorem SaysM.def_ {ex : PySem.W.Frag → Bool} {fn : List DX} {K : PySem.W.Frag} (c : SaysM ex fn K) (i : Nat) {d : DX} (h : fn[i]? = some d) (hc : d.clo = []) : ∃ fd, FnS K d fd := by
  have c2 := (Bool.and_eq_true_iff.mp (show (ex K && fn.all fun d => d.ok K) = true from congrArg (fun z : AlM => z.1) c.eq)).2
  have e : fn.map (fun d => fnA K (d.ad K)) = fn.map DX.val := congrArg (fun z : AlM => z.2) c.eq
  have e2 : (fn.map fun d => fnA K (d.ad K))[i]? = (fn.map DX.val)[i]? := by rw [e]
  rw [List.getElem?_map, List.getElem?_map, h] at e2
  exact DX.fun_ (Option.some.inj e2) (List.all_eq_true.mp c2 d (List.mem_of_getElem? h)) hc
theorem SaysM.val_ {ex : PySem.W.Frag → Bool} {fn : List DX} {K : PySem.W.Frag} (c : SaysM ex fn K) (i : Nat) {d : DX} (h : fn[i]? = some d) : fnA K (d.ad K) = d.val ∧ d.ok K = true := by
  have c2 := (Bool.and_eq_true_iff.mp (show (ex K && fn.all fun d => d.ok K) = true from congrArg (fun z : AlM => z.1) c.eq)).2
  have e : fn.map (fun d => fnA K (d.ad K)) = fn.map DX.val := congrArg (fun z : AlM => z.2) c.eq
  have e2 : (fn.map fun d => fnA K (d.ad K))[i]? = (fn.map DX.val)[i]? := by rw [e]
  rw [List.getElem?_map, List.getElem?_map, h] at e2
  exact ⟨Option.some.inj e2, List.all_eq_true.mp c2 d (List.mem_of_getElem? h)⟩
def obsG (as : List Addr) (ex : PySem.W.Frag → Bool) (fn : List DX) (g : Addr → Option Obj) : AlM := obsM ex fn (He.frG g as)
def hookM (as : List Addr) (ex : PySem.W.Frag → Bool) (fn : List DX) : PySem.W.Hook where
  α := AlM
  obs := fun s => obsG as ex fn s.heap.get?
  val := fun _ => valM fn
  says := fun _ h => ∃ K : PySem.W.Frag, K.In h ∧ SaysM ex fn K
  of := fun _ _ e => ⟨_, He.frG_in, ⟨e⟩⟩
  keeps := fun _ _ _ ⟨K, hK, c⟩ k => ⟨K, PySem.W.Frag.In.keeps hK k, c⟩
theorem obsM_eq {as : List Addr} {ex : PySem.W.Frag → Bool} {fn : List DX} {g : Addr → Option Obj} {s : Shared} (h : ∀ a, g a = s.heap.get? a) : obsG as ex fn g = (hookM as ex fn).obs s := by
  have e : g = s.heap.get? := funext h
  rw [e]; rfl
def allB : List Bool → Bool
  | [] => true
  | b :: r => b && allB r
theorem allB_at : ∀ {l : List Bool}, allB l = true → ∀ i, l.getD i true = true
  | [], _, i => by simp
  | b :: r, h, 0 => (Bool.and_eq_true_iff.mp h).1
  | b :: r, h, i + 1 => allB_at (l := r) (Bool.and_eq_true_iff.mp h).2 i
def prAd (K : PySem.W.Frag) (C : Addr) (f : Str) : Addr := match PySem.W.findIn K (.ref C) f with
  | some (some (.ref p)) => p
  | _ => 0
def gtAd (K : PySem.W.Frag) (p : Addr) : Addr := match PySem.W.recIn K p "property" with
  | some (.ref g :: _) => g
  | _ => 0
def propB (K : PySem.W.Frag) (C : Addr) (f : Str) : Bool := decide (PySem.W.findIn K (.ref C) f = some (some (.ref (prAd K C f)))) && (decide (PySem.W.specialIn K (.ref (prAd K C f)) "__get__" = some (some (.builtin "property.__get__"))) &&
  (decide (PySem.W.takesIn K (.ref (prAd K C f)) = some true) && match PySem.W.recIn K (prAd K C f) "property" with
    | some (.ref _ :: _) => true
    | _ => false))
theorem propB_ok {K : PySem.W.Frag} {C : Addr} {f : Str} (h : propB K C f = true) : PropOf K C f (prAd K C f) (gtAd K (prAd K C f)) := by
  unfold propB at h
  rw [Bool.and_eq_true_iff, Bool.and_eq_true_iff, Bool.and_eq_true_iff] at h
  obtain ⟨h1, h2, h3, h4⟩ := h
  refine ⟨of_decide_eq_true h1, of_decide_eq_true h2, of_decide_eq_true h3, ?_⟩
  unfold gtAd
  split at h4
  · rename_i g rest e
    rw [e]
    exact ⟨rest, rfl⟩
  · cases h4
def ownB (K : PySem.W.Frag) (C : Addr) : Bool := decide (PySem.W.findIn K (.ref C) "__class__" = some (some (.builtin "object.__class__"))) && (decide (PySem.W.specialIn K (.builtin "object.__class__") "__get__" = some (some (.builtin "getset_descriptor.__get__"))) &&
  (decide (PySem.W.takesIn K (.builtin "object.__class__") = some true) && decide (PySem.W.mroIn K C (.type "object") = some true)))
theorem ownB_ok {K : PySem.W.Frag} {C : Addr} (cl : Cls K C) (h : ownB K C = true) : OwnT K C := by
  unfold ownB at h
  rw [Bool.and_eq_true_iff, Bool.and_eq_true_iff, Bool.and_eq_true_iff] at h
  obtain ⟨h1, h2, h3, h4⟩ := h
  exact ⟨cl, of_decide_eq_true h1, of_decide_eq_true h2, of_decide_eq_true h3, of_decide_eq_true h4⟩
def kitB' (K : PySem.W.Frag) (T : Tb) (a b : Ty) (r : Bool) : Bool := decide (PySem.W.kitOne K (vT T a) (vT T b) = some r)
def subOf (tab : List ((Ty × Ty) × Bool)) : Ty → Ty → Option Bool
  | .b a, .b b => kitB a b
  | x, y => tab.lookup (x, y)
theorem lookup_mem' {α β : Type} [BEq α] [LawfulBEq α] {a : α} {b : β} : ∀ {l : List (α × β)}, l.lookup a = some b → (a, b) ∈ l
  | (x, y) :: r, h => by
    rw [List.lookup_cons] at h
    cases e : a == x with
    | true =>
      rw [e] at h
      cases h
      rw [eq_of_beq e]
      exact List.mem_cons_self
    | false =>
      rw [e] at h
      exact List.mem_cons_of_mem _ (lookup_mem' h)
def xcB (K : PySem.W.Frag) (C : Addr) : Bool := (PySem.W.clsIn K C).isSome && (decide (PySem.W.findIn K (.ref C) "__getattribute__" = some (some (.builtin "BaseException.__getattribute__"))) && (decide (PySem.W.findIn K (.ref C) "__getattr__" = some none) &&
  (decide (PySem.W.subIn K (.ref C) (.type "BaseException") = some true) && (PySem.W.hasDictIn K C && (decide (PySem.W.findIn K (.ref C) "__class__" = some (some (.builtin "object.__class__"))) &&
  (decide (PySem.W.specialIn K (.builtin "object.__class__") "__get__" = some (some (.builtin "getset_descriptor.__get__"))) && (decide (PySem.W.takesIn K (.builtin "object.__class__") = some true) && decide (PySem.W.mroIn K C (.type "object") = some true))))))))
theorem xcB_ok {K : PySem.W.Frag} {C : Addr} (h : xcB K C = true) : XcC K C := by
  unfold xcB at h
  simp only [Bool.and_eq_true] at h
  obtain ⟨h1, h2, h3, h4, h5, h6, h7, h8, h9⟩ := h
  exact ⟨⟨of_decide_eq_true h2, of_decide_eq_true h3, of_decide_eq_true h4, h5, of_decide_eq_true h6, of_decide_eq_true h7, of_decide_eq_true h8, of_decide_eq_true h9⟩, h1⟩
theorem kitOk_of {K : PySem.W.Frag} {T : Tb} {tab : List ((Ty × Ty) × Bool)} (h1 : ∀ p ∈ tab, kitB' K T p.1.1 p.1.2 p.2 = true) (h2 : ∀ p ∈ tab, ∀ c, p.1.1 = .c c → OwnT K (T.cA c)) (h3 : ∀ p ∈ tab, ∀ c, p.1.1 = .x c → T.xA c = He.ga K c ∧ XcC K (He.ga K c)) : KitOk K T (subOf tab) := by
  refine ⟨fun a b r e => ?_, fun c b r e => ?_, fun c b r e => ?_⟩
  · have go : tab.lookup (a, b) = some r → PySem.W.kitOne K (vT T a) (vT T b) = some r := fun e => of_decide_eq_true (h1 _ (lookup_mem' e))
    cases a with
    | b a =>
      cases b with
      | b b => exact kit_ty e
      | c b => exact go e
      | x b => exact go e
    | c a => exact go (by cases b <;> exact e)
    | x a => exact go (by cases b <;> exact e)
  · have e' : tab.lookup (.c c, b) = some r := by cases b <;> exact e
    exact h2 _ (lookup_mem' e') c rfl
  · have e' : tab.lookup (.x c, b) = some r := by cases b <;> exact e
    exact h3 _ (lookup_mem' e') c rfl
end DD

set_option Elab.async false
set_option linter.all false
set_option maxRecDepth 100000
set_option maxHeartbeats 4000000
namespace DD
open PySem PySem.Spec PyProof.Rows L2

def rgOk (a b : Int) : Bool := decide (-(2 ^ 62) ≤ a ∧ a < 2 ^ 62 ∧ -(2 ^ 62) ≤ b ∧ b < 2 ^ 62 ∧ (b - a).toNat ≤ 2 ^ 24)
theorem rgOk_of {a b : Int} (h : rgOk a b = true) : RgOk a b := of_decide_eq_true (p := -(2 ^ 62) ≤ a ∧ a < 2 ^ 62 ∧ -(2 ^ 62) ≤ b ∧ b < 2 ^ 62 ∧ (b - a).toNat ≤ 2 ^ 24) h
def lstRg1 : D → Option D
  | .int n => if rgOk 0 n then some (.own (ups 0 (n - 0).toNat)) else none
  | _ => none
def lstRg2 : D → D → Option D
  | .int a, .int b => if rgOk a b then some (.own (ups a (b - a).toNat)) else none
  | _, _ => none
theorem ups_F {K : PySem.W.Frag} {G : Hp} {io : Nat → Addr} {n : Nat} (a b : Int) : IsFs K G io n (rgV a b) (ups a (b - a).toNat) := by
  unfold rgV ups
  generalize List.range (b - a).toNat = l
  induction l with
  | nil => exact .nil
  | cons k r ih => exact .cons (.int _) ih
section
variable {X : Cx} {T : Tb} {qa qb ra rb : Bool} {a b : Expr} {ma mb : M D} {p p2 pos pos2 : Pos}
theorem de_listRg1 (hc : X.calm = true) (hg : Gl X "list") (hm : X.mg "list" = none) (hg2 : Gl X "range") (hm2 : X.mg "range" = none) (ha : DE X T qa ra a ma) (hn : nst a = true) :
    DE X T (qa && true) false (.Call (.Name "list" p) [.Call (.Name "range" p2) [a] [] pos2] [] pos) (mUn lstRg1 ma) := fun W tk =>
  peImp (pe_listRg hc hg hm (prg_1 hg2 hm2 (ha W tk) (starC hn)) rfl) fun σ H Q ⟨g, r, S, R, k⟩ => by
    refine ⟨g, r, S, R, okE.bindE (qb := true) k fun d1 r1 S1 v1 H1 g1 _ R1 is1 st1 k1 => ?_⟩
    obtain ⟨d, hd⟩ := lift_none k1
    have kq := KQ.of hd k1
    unfold lstRg1 at hd
    split at hd
    · split at hd
      · rename_i n hr
        cases hd
        cases is1
        exact ⟨_, rfl, rgOk_of hr, fun q hq => kq.own R1 hq (ups_F 0 _)⟩
      · cases hd
    · cases hd
theorem de_listRg2 (hc : X.calm = true) (hg : Gl X "list") (hm : X.mg "list" = none) (hg2 : Gl X "range") (hm2 : X.mg "range" = none) (ha : DE X T qa ra a ma) (hb : DE X T qb rb b mb) (hn : nst a = true) (hn2 : nst b = true) (hq : ra = false ∨ qb = true) :
    DE X T (qa && (qb && true)) false (.Call (.Name "list" p) [.Call (.Name "range" p2) [a, b] [] pos2] [] pos) (mBin lstRg2 ma mb) := fun W tk =>
  peImp (pe_listRg hc hg hm (prg_2 hg2 hm2 (ha W tk) (hb W tk) (starC hn) (starC hn2) (starAny (by simp [hn2]))) rfl) fun σ H Q ⟨g, r, S, R, k⟩ => by
    refine ⟨g, r, S, R, okE.bindE (qb := qb && true) k fun d1 r1 S1 v1 H1 g1 _ R1 is1 st1 k1 => ?_⟩
    refine ⟨g1, r1, S1, R1, okE.bindE (qb := true) k1 fun d2 r2 S2 v2 H2 g2 _ R2 is2 st2 k2 => ?_⟩
    obtain ⟨d, hd⟩ := lift_none k2
    have kq := KQ.of hd k2
    have i1 := is1.carry R2.sub st2 hq
    unfold lstRg2 at hd
    split at hd
    · split at hd
      · rename_i i j hr
        cases hd
        cases i1
        cases is2
        exact ⟨_, _, rfl, rfl, rgOk_of hr, fun q hq => kq.own R2 hq (ups_F _ _)⟩
      · cases hd
    · cases hd
end
theorem blOf {f : D → D → Option Bool} : ∀ x y d, (fun x y => (f x y).map D.bl) x y = some d → ∃ k, d = .bl k := fun x y d h => by
  obtain ⟨b, _, e⟩ := Option.map_eq_some_iff.mp h
  exact ⟨b, e.symm⟩
theorem bl_eq : ∀ x y d, eqD x y = some d → ∃ k, d = .bl k := fun x y d h => by
  obtain ⟨b, _, e⟩ := Option.map_eq_some_iff.mp h
  exact ⟨_, e.symm⟩
theorem bl_ne : ∀ x y d, neD x y = some d → ∃ k, d = .bl k := fun x y d h => by
  obtain ⟨b, _, e⟩ := Option.map_eq_some_iff.mp h
  exact ⟨_, e.symm⟩
theorem bl_lt : ∀ x y d, ltD x y = some d → ∃ k, d = .bl k := fun x y d h => by
  obtain ⟨b, _, e⟩ := Option.map_eq_some_iff.mp h
  exact ⟨_, e.symm⟩
theorem bl_le : ∀ x y d, leD x y = some d → ∃ k, d = .bl k := fun x y d h => by
  obtain ⟨b, _, e⟩ := Option.map_eq_some_iff.mp h
  exact ⟨_, e.symm⟩
theorem bl_gt : ∀ x y d, gtD x y = some d → ∃ k, d = .bl k := fun x y d h => by
  obtain ⟨b, _, e⟩ := Option.map_eq_some_iff.mp h
  exact ⟨_, e.symm⟩
theorem bl_ge : ∀ x y d, geD x y = some d → ∃ k, d = .bl k := fun x y d h => by
  obtain ⟨b, _, e⟩ := Option.map_eq_some_iff.mp h
  exact ⟨_, e.symm⟩
theorem bl_is : ∀ x y d, isD x y = some d → ∃ k, d = .bl k := fun x y d h => by
  obtain ⟨b, _, e⟩ := Option.map_eq_some_iff.mp h
  exact ⟨_, e.symm⟩
theorem bl_isN : ∀ x y d, isNotD x y = some d → ∃ k, d = .bl k := fun x y d h => by
  obtain ⟨b, _, e⟩ := Option.map_eq_some_iff.mp h
  exact ⟨_, e.symm⟩
theorem bl_in : ∀ x y d, inD x y = some d → ∃ k, d = .bl k := fun x y d h => by
  obtain ⟨b, _, e⟩ := Option.map_eq_some_iff.mp h
  exact ⟨_, e.symm⟩
theorem bl_inN : ∀ x y d, notInD x y = some d → ∃ k, d = .bl k := fun x y d h => by
  obtain ⟨b, _, e⟩ := Option.map_eq_some_iff.mp h
  exact ⟨_, e.symm⟩
theorem rU0 {k : Nat} {A : Around} (r : Room k A) : A.units < cLine := by have := r.un; omega
theorem rU64 {k : Nat} {A : Around} (r : Room k A) : A.units + 64 < cLine := by have := r.un; omega
theorem rU65 {k : Nat} {A : Around} (r : Room k A) : A.units + 65 < cLine := by have := r.un; omega
def fdOf (K : PySem.W.Frag) (a : Addr) : FuncData := match K.lookup a with
  | some ⟨_, _, .func fd, _⟩ => fd
  | _ => PySem.W.fnOf "" "" ⟨[], [], none, [], [], none, []⟩ [] ⟨.function, [], false, false, []⟩ .none .none .none .none none .none .none
theorem FnS.at_ {K : PySem.W.Frag} {d : DX} {fd : FuncData} (h : FnS K d fd) : fd = fdOf K (d.ad K) := by
  obtain ⟨oc, od, dV, kV, doc, pm, an, cdv, ct, osl, rfl, lk, _⟩ := h.ex
  unfold fdOf
  rw [lk]
theorem SaysM.fn_ {ex : PySem.W.Frag → Bool} {fn : List DX} {K : PySem.W.Frag} (c : SaysM ex fn K) (i : Nat) {d : DX} (h : fn[i]? = some d) (hc : d.clo = [] := by rfl) : FnS K d (fdOf K (d.ad K)) := by
  obtain ⟨fd, hf⟩ := c.def_ i h hc
  rw [← hf.at_]; exact hf
theorem gcI {K : PySem.W.Frag} {mg : Str → Option Value} {x : Str} {i : Int} (h : ∃ t, mg x = some (.int i t)) : GlobC K mg x (.int i) := by
  obtain ⟨t, e⟩ := h
  exact ⟨_, .int i, e, ⟨t, rfl⟩, .int i⟩
def itB (K : PySem.W.Frag) (a : Addr) (is : List Int) : Bool := match K.lookup a with
  | some ⟨.type c, _, .seq its _, _⟩ => decide (c = "tuple") && (decide (its.size ≤ sizeLine) && He.relAll (is.map V.int) its.toList)
  | _ => false
theorem itB_ok {K : PySem.W.Frag} {a : Addr} {is : List Int} (h : itB K a is = true) (H : Hp) : SqT K H a (is.map V.int) := by
  unfold itB at h
  cases q : K.lookup a with
  | none => rw [q] at h; cases h
  | some o =>
    obtain ⟨oc, od, dt, osl⟩ := o
    rw [q] at h
    cases oc with
    | type c =>
      cases dt with
      | seq its n =>
        simp only [Bool.and_eq_true, decide_eq_true_eq] at h
        exact .inr ⟨_, its, n, q, congrArg Value.type h.1, rfl, h.2.1, He.relAll_ok h.2.2⟩
      | _ => cases h
    | _ => cases dt <;> cases h
theorem itF {K : PySem.W.Frag} {a : Addr} {is : List Int} (h : itB K a is = true) (G : Hp) (io : Nat → Addr) (n : Nat) : IsF K G io n (.ref a) (.tup (is.map D.int)) := .tup (itB_ok h G) (IsFs.ints is)
theorem gcT {K : PySem.W.Frag} {mg : Str → Option Value} {x : Str} {is : List Int} {a : Addr} (h : mg x = some (.ref a)) (hb : itB K a is = true) : GlobC K mg x (.tup (is.map D.int)) :=
  ⟨_, .ref a, h, rfl, itF hb _ _ _⟩
end DD

set_option Elab.async false
set_option linter.all false
set_option maxRecDepth 100000
set_option maxHeartbeats 4000000
namespace DD
open PySem PySem.Spec PyProof.Rows L2

section
variable {X : Cx} {i : Nat} {x : Str} {pos : Pos}
theorem tg_nm (hN : X.N.Nodup) (hi : X.N[i]? = some x) (hx : Loc X.env.scope x) (hf : X.fn x = true ∨ X.env.scope.names.lookup x = some .local) : PG X (.Name x pos) (gOf X.K (.nm i)) := by
  rw [gOf]
  exact pg_name hN hi hx hf
inductive TgXs (X : Cx) : List Expr → List Tg → Prop
  | nil : TgXs X [] []
  | cons {t : Expr} {g : Tg} {ts : List Expr} {gs : List Tg} : PG X t (gOf X.K g) → assignEach (t :: ts) X.env = (false, assign t X.env) :: assignEach ts X.env → TgXs X ts gs → TgXs X (t :: ts) (g :: gs)
theorem TgXs.pgs : ∀ {ts : List Expr} {gs : List Tg}, TgXs X ts gs → PGs X ts (gsOf X.K gs) ∧ (assignEach ts X.env).length = gs.length ∧ (assignEach ts X.env).findIdx? (·.1) = none
  | _, _, .nil => ⟨by rw [gsOf]; exact pgs_nil, rfl, rfl⟩
  | _, _, .cons h he hs => by
    obtain ⟨a, b, c⟩ := hs.pgs
    refine ⟨by rw [gsOf]; exact pgs_cons h a (by rw [he]; rfl), by rw [he, List.length_cons, b]; rfl, ?_⟩
    rw [he, List.findIdx?_cons]
    simp [c]
theorem tg_tp {es : List Expr} {ts : List Tg} {k : Nat} (hc : X.calm = true) (h : TgXs X es ts) : PG X (.Tuple es k pos) (gOf X.K (.tp ts)) := by
  obtain ⟨a, b, c⟩ := h.pgs
  rw [gOf]
  exact pg_tup hc a b c
end
def mtL (l : List (Nat × MI)) (c : Nat) : Option MI := l.lookup c
theorem mtL_ok {P : Nat → MI → Prop} : ∀ {l : List (Nat × MI)}, (∀ p ∈ l, P p.1 p.2) → ∀ c i, mtL l c = some i → P c i := fun h c i e => h _ (lookup_mem' e)
def ptL (l : List (Nat × Fn)) (c : Nat) : Option Fn := l.lookup c
theorem ptL_ok {P : Nat → Fn → Prop} : ∀ {l : List (Nat × Fn)}, (∀ p ∈ l, P p.1 p.2) → ∀ c i, ptL l c = some i → P c i := fun h c i e => h _ (lookup_mem' e)
theorem all1 {α : Type} {P : α → Prop} {a : α} (h : P a) : ∀ p ∈ [a], P p := fun p hp => by rw [List.mem_singleton.mp hp]; exact h
theorem all2 {α : Type} {P : α → Prop} {a : α} {l : List α} (h : P a) (hs : ∀ p ∈ l, P p) : ∀ p ∈ a :: l, P p := fun p hp => by
  rcases List.mem_cons.mp hp with e | e
  · rw [e]; exact h
  · exact hs p e
theorem FnG.down {P : Program} {w : World} {T : Tb} {K : PySem.W.Frag} {mg : Str → Option Value} {base : Heap} {q : Bool} {k : Nat} {f : Addr} {fd : FuncData} {ps : List Str} {φ : Fn} (F : FnG P w T K mg base true k f fd ps φ) : FnG P w T K mg base q k f fd ps φ :=
  ⟨fun A outer s H args us vs Q E hr hg e hb hv ⟨g, ds, S, R, ns, h1, h2, h3⟩ => F.run A outer s H args us vs Q E hr hg e hb hv ⟨g, ds, S, R, ns, h1, h2, by
    cases e : φ ds S with
    | ok d r1 S1 => rw [e] at h3; exact fun v H' g' a b c d st => h3 v H' g' a b c d (st.weak fun _ => rfl)
    | exc x r1 S1 => rw [e] at h3; exact fun H' g' dd a b st ex => h3 H' g' dd a b (st.weak fun _ => rfl) ex
    | no => rw [e] at h3; exact h3⟩⟩
def dflA (K : PySem.W.Frag) (a : Addr) (i : Nat) : Addr := match K.lookup a with
  | some ⟨_, _, .func fd, _⟩ => (match fd.defaults with
    | .ref t => (match K.lookup t with
      | some ⟨_, _, .seq its _, _⟩ => (match its.toList[i]? with
        | some (.ref b) => b
        | _ => 0)
      | _ => 0)
    | _ => 0)
  | _ => 0
theorem bb_len : bootBuiltins "len" = some (.builtin "len") := by decide +kernel
theorem bb_abs : bootBuiltins "abs" = some (.builtin "abs") := by decide +kernel
theorem bb_all : bootBuiltins "all" = some (.builtin "all") := by decide +kernel
theorem bb_any : bootBuiltins "any" = some (.builtin "any") := by decide +kernel
theorem bb_repr : bootBuiltins "repr" = some (.builtin "repr") := by decide +kernel
theorem bb_max : bootBuiltins "max" = some (.builtin "max") := by decide +kernel
theorem bb_min : bootBuiltins "min" = some (.builtin "min") := by decide +kernel
theorem bb_list : bootBuiltins "list" = some (.type "list") := by decide +kernel
theorem bb_tuple : bootBuiltins "tuple" = some (.type "tuple") := by decide +kernel
theorem bb_int : bootBuiltins "int" = some (.type "int") := by decide +kernel
theorem bb_bool : bootBuiltins "bool" = some (.type "bool") := by decide +kernel
theorem bb_str : bootBuiltins "str" = some (.type "str") := by decide +kernel
theorem bb_dict : bootBuiltins "dict" = some (.type "dict") := by decide +kernel
theorem bb_set : bootBuiltins "set" = some (.type "set") := by decide +kernel
end DD

set_option Elab.async false
set_option linter.all false
set_option maxRecDepth 100000
set_option maxHeartbeats 4000000
namespace DD
open PySem PySem.Spec PyProof.Rows L2

def seqS (S : Sto) : D → Option (List D)
  | .ob k => arrAt S k
  | x => seqD x
def lenS (S : Sto) : D → Option D
  | .ob k => (arrAt S k).map fun xs => .int xs.length
  | x => lenD x
def tupS (S : Sto) : D → Option D
  | .ob k => (arrAt S k).map .tup
  | x => tupOfD x
def lstS (S : Sto) : D → Option D
  | .ob k => (arrAt S k).map .own
  | x => listOfD x
def mUnS (F : Sto → D → Option D) (ma : M D) : M D := M.bind ma fun x => fun r S => lift (F S x) r S
def rOf1S (T : Tb) (K : PySem.W.Frag) (F : Sto → D → Option D) : V → Hp → VK → Prop := fun x H Q => ∃ g r S σ0 dx d, Rep T K H g r S σ0 ∧ IsV K H g S.length x dx ∧ F S dx = some d ∧ KQ T K H g r S σ0 d Q
def rC1S (T : Tb) (K : PySem.W.Frag) (F : Sto → D → Option D) : List V → Hp → VK → Prop := fun xs H Q => ∃ x, xs = [x] ∧ rOf1S T K F x H Q
section
variable {X : Cx} {T : Tb} {qa ra : Bool} {e : Expr} {ma : M D} {p pos : Pos} {F : Sto → D → Option D} {x : Str} {id : String}
theorem arr_V {K : PySem.W.Frag} {H : Hp} {g : Gh} {r : Rho} {S : Sto} {σ : L2.St} {v : V} {k : Nat} {xs : List D} (R : Rep T K H g r S σ) (h : IsV K H g S.length v (.ob k)) (e : arrAt S k = some xs) : ∃ a vs, v = .ref a ∧ SqL K H a vs ∧ IsFs K g.G g.io S.length vs xs := by
  cases h with
  | ob hk hio =>
    obtain ⟨vs, h1, h2⟩ := R.obj _ _ (arrAt_some e)
    rw [hio] at h1
    exact ⟨_, vs, rfl, SqL.of h1, h2⟩
theorem cb_lenS : CallR X (.builtin "len") (rC1S T X.K lenS) := by
  intro pins s σ H xs us Q I r ⟨x, e, g, ρ, S, σ0, dx, d, R, ix, hF, k⟩
  unfold lenS at hF
  split at hF
  · rename_i kk
    subst e
    obtain ⟨ys, e1, e2⟩ := Option.map_eq_some_iff.mp hF
    subst e2
    obtain ⟨a, vs, rfl, h1, h2⟩ := arr_V R ix e1
    exact call_len_seq pins s σ H _ us Q I r ⟨_, _, rfl, .inl h1, by rw [h2.length]; exact k.f R (.int _)⟩
  · exact cb_len (T := T) pins s σ H xs us Q I r ⟨x, e, g, ρ, S, σ0, dx, d, R, ix, hF, k⟩
theorem cb_listS : CallR X (.type "list") (rC1S T X.K lstS) := by
  intro pins s σ H xs us Q I r ⟨x, e, g, ρ, S, σ0, dx, d, R, ix, hF, k⟩
  unfold lstS at hF
  split at hF
  · rename_i kk
    subst e
    obtain ⟨ys, e1, e2⟩ := Option.map_eq_some_iff.mp hF
    subst e2
    obtain ⟨a, vs, rfl, h1, h2⟩ := arr_V R ix e1
    exact call_list_of pins s σ H _ us Q I r ⟨_, _, rfl, .inl h1, fun l hl => k.own R hl h2⟩
  · exact cb_list (T := T) pins s σ H xs us Q I r ⟨x, e, g, ρ, S, σ0, dx, d, R, ix, hF, k⟩
theorem cb_tupleS : CallR X (.type "tuple") (rC1S T X.K tupS) := by
  intro pins s σ H xs us Q I r ⟨x, e, g, ρ, S, σ0, dx, d, R, ix, hF, k⟩
  unfold tupS at hF
  split at hF
  · rename_i kk
    subst e
    obtain ⟨ys, e1, e2⟩ := Option.map_eq_some_iff.mp hF
    subst e2
    obtain ⟨a, vs, rfl, h1, h2⟩ := arr_V R ix e1
    exact call_tuple_of pins s σ H _ us Q I r ⟨_, _, rfl, .inl ⟨h1, fun l hl => k.tup R hl h2⟩⟩
  · exact cb_tuple (T := T) pins s σ H xs us Q I r ⟨x, e, g, ρ, S, σ0, dx, d, R, ix, hF, k⟩
theorem tCB1S {W : WX} {σ : L2.St} {H : Hp} {Q : VK} (h : teOf T X.K (qa && true) false (mUnS F ma) W σ H Q) : tCB (rC1S T X.K F) (tCons (teOf T X.K qa ra ma W) tNil) σ H Q := by
  obtain ⟨g, r, S, R, k⟩ := h
  refine ⟨g, r, S, R, okE.bindE (qb := true) k fun d1 r1 S1 v1 H1 g1 _ R1 is1 st1 k1 => ?_⟩
  obtain ⟨d, hd⟩ := lift_none k1
  exact ⟨v1, rfl, g1, r1, S1, σ, d1, d, R1, is1.isV, hd, KQ.of hd k1⟩
theorem de_b1S (hc : CallR X (.builtin id) (rC1S T X.K F)) (hg : Gl X x) (hm : X.mg x = none) (hv : bootBuiltins x = some (.builtin id)) (hne : x ≠ "__name__") (hd : (x == ("__debug__" : Str)) = false) (ha : DE X T qa ra e ma) (hn : nst e = true) :
    DE X T (qa && true) false (.Call (.Name x p) [e] [] pos) (mUnS F ma) := fun W tk =>
  peImp (pe_callB hc hg hm hv (pa_cons (ha W tk) pa_nil (starC hn)) hne hd (starC hn) rfl) fun σ H Q h => tCB1S h
theorem de_t1S (hc : CallR X (.type id) (rC1S T X.K F)) (hg : Gl X x) (hm : X.mg x = none) (hv : bootBuiltins x = some (.type id)) (hne : x ≠ "__name__") (hd : (x == ("__debug__" : Str)) = false) (ha : DE X T qa ra e ma) (hn : nst e = true) :
    DE X T (qa && true) false (.Call (.Name x p) [e] [] pos) (mUnS F ma) := fun W tk =>
  peImp (pe_callTy hc hg hm hv (pa_cons (ha W tk) pa_nil (starC hn)) hne hd (starC hn) rfl) fun σ H Q h => tCB1S h
end
def mAppO (mo me : M D) : M Fl := M.bind (frz mo) fun x => match x with
  | .ob k => fun r S => match arrAt S k with
    | some _ => (M.bind (frz me) fun d => if borD d then M.fail else fun r S => match arrAt S k with
      | some xs => if xs.length < lim then .ok .nx r (S.set k (.arr (xs ++ [d]))) else .no
      | none => .no) r S
    | none => .no
  | _ => M.fail
section
variable {X : Cx} {T : Tb} {q qa qo ro ra : Bool} {e o : Expr} {es : List Expr} {mo me : M D} {i : Nat} {x f : Str} {pos p p2 apos cpos spos : Pos}
theorem ds_appO (ho : DE X T qo ro o mo) (he : DE X T qa ra e me) (hn : nst e = true) (hline : (apos.endLine == cpos.line) = true)
    (hbase : attributeBase o "append" X.env (eval o X.env) = eval o X.env)
    (hfew : ((backTo cpos (starEach [e] X.env)).all (fun x => !x.1) && (backToKw cpos (keywordEach [] X.env)).all (fun x => x.1.isSome) && decide ([e].length + ([] : List Keyword).length + (if ([] : List Keyword).isEmpty then 0 else 1) < 30)) = true)
    (hs : swapsWith (.Call (.Attribute o "append" apos) [e] [] cpos) none spos.line X.env = pure false) :
    DS X T false (.Expr (.Call (.Attribute o "append" apos) [e] [] cpos) spos) (mAppO mo me) := fun W tk =>
  psImp (ps_expr (pe_bm F.plainAttrs_list F.slot_list_append F.type_list_append mt_append (de_frz ho W tk) (pa_cons (de_frz he W tk) pa_nil (starC hn)) hbase hfew hline (starC hn) rfl) hs) fun E σ H ⟨g, r, S, R, k⟩ => by
    unfold mAppO at k
    refine ⟨g, r, S, R, ?_⟩
    cases eo : frz mo r S with
    | exc x r2 S2 => unfold M.bind at k; rw [eo] at k; exact fun H' g' dd a b c => k σ H' g' dd a (b.stm.weak fun z => by cases z) c
    | no => unfold M.bind at k; rw [eo] at k; exact k.elim
    | ok x r1 S1 =>
      rw [bind_at eo] at k
      intro v H1 g1 R1 is1 fo1 st1
      split at k
      · rename_i kk
        split at k
        · rename_i xs0 ea0
          obtain ⟨a, vs, rfl, h1, h2⟩ := arr_V R1 is1.isV ea0
          refine ⟨.inl ⟨rfl, vs, h1⟩, g1, r1, S1, R1, ?_⟩
          cases em : frz me r1 S1 with
          | exc y r2 S2 => unfold M.bind at k; rw [em] at k; exact fun H' g' dd a b c => k σ H' g' dd a ((st1.trans b).stm.weak fun z => by cases z) c
          | no => unfold M.bind at k; rw [em] at k; exact k.elim
          | ok d r2 S2 =>
            rw [bind_at em] at k
            intro w H2 g2 R2 is2 fo2 st2
            by_cases hb : borD d = true
            · rw [if_pos hb] at k; exact k.elim
            · rw [if_neg hb] at k
              split at k
              · rename_i xs ea
                split at k
                · rename_i hl
                  cases is1 with
                  | ob hk hio =>
                    have eS := arrAt_some ea
                    obtain ⟨ws, y1, y2⟩ := R2.obj _ _ eS
                    have hk3 : kk < S2.length := (List.getElem?_eq_some_iff.mp eS).1
                    have eio : g2.io kk = a := (st2.im kk hk).trans hio
                    rw [eio] at y1
                    refine ⟨a, ws, w, rfl, rfl, y1, by rw [y2.length]; exact lim_lt (Nat.le_of_lt hl), ?_⟩
                    have fw := is2.isF (frz_fr em hb)
                    have nw : IsFs X.K g2.G g2.io S2.length (ws ++ [w]) (xs ++ [d]) := y2.append (.one fw)
                    have R4 := R2.setObj (o' := .arr (xs ++ [d])) (u := .lst (ws ++ [w])) hk3 ⟨ws ++ [w], upd_same, nw⟩
                    have z : Stp false false H2 g2 S2.length (upd H2 (g2.io kk) (.lst (ws ++ [w]))) g2 S2.length := Stp.setObj hk3
                    rw [eio] at R4 z
                    refine k σ _ g2 R4 ?_
                    rw [List.length_set]
                    exact ((st1.trans st2).stm.trans z).weak fun z => by cases z
                · exact k.elim
              · exact k.elim
        · exact k.elim
      · exact k.elim
end
end DD

set_option Elab.async false
set_option linter.all false
set_option maxRecDepth 100000
set_option maxHeartbeats 4000000
namespace DD
open PySem PySem.Spec PyProof.Rows L2

section
variable {prog : Program} {w : World} {A : Around} {E : Value → Shared → Prop} {K : PySem.W.Frag} {mg mb : Str → Option Value}
variable {hp : Heap} {g : Array GenState} {d : Drawn} {t : Nat} {os : OsState} {a C fI cc cda L : Addr} {qual : Str} {scope : Scope} {params : Arguments} {body : List Stmt} {kV doc pm ct dV : Value} {an : Option Addr} {m : Str → Option Value}
theorem sup_call {p0 p1 p2 p3 p4 pc : Pos} {j : Nat} {txt : Str} {Q : Flow → Shared → Prop} {t0 : Addr} {ar : Arg} {oc : Value} {od : Option Addr} {osl : Array (Option Value)}
    {ccl : Value} {cdd : Option Addr} {vs : Array Value} {ccs : Array (Option Value)} {file : Str} {tf : Tok} {cl : Value} {cld : Option Addr} {csl : Array (Option Value)}
    (T : OexC K C) (X : K.In hp) (hG : hp.Ns mainGlobals mg) (hsup : mg "super" = none) (hB : hp.Ns builtinsNs mb) (hbb : ∀ x : Str, x ≠ "__name__" → mb x = bootBuiltins x)
    (hfn : K.lookup fI = some ⟨oc, od, .func (PySem.W.ksFn "__init__" qual params body scope dV kV doc pm an (.ref cda) ct cc), osl⟩)
    (hcode : K.lookup cda = some ⟨ccl, cdd, .fields vs, ccs⟩) (hvs : vs[2]? = some (.str file tf)) (hfile : ((prog.main.file : Str) == file) = true)
    (hcell : K.lookup cc = some ⟨cl, cld, .cell (some (.ref C)), csl⟩) (htop : (prog.main.scope.names.lookup ("super" : Str)).isSome = false)
    (hpar : (params.posonlyargs ++ params.args).head? = some ar) (hks : scope.names.lookup ("super" : Str) = some .globalImplicit) (hkc : scope.names.lookup ("__class__" : Str) = some .free) (hka : scope.names.lookup ar.arg = some .local) (hk : scope.kind = .function)
    (hsi : PySem.W.ks_superIn K C C "__init__" = some (some (.builtin "ValueError.__init__"))) (hVE : PySem.W.subIn K (.ref C) (.type "ValueError") = some true) (hCC : PySem.W.mroIn K C (.ref C) = some true) (hopq : PySem.W.nsIn K cStatics "thirdparty.any" = some none)
    (he : hp.get? a = some (PySem.HandSPX.excO C t0)) (hL : hp.Ns L m) (hself : m ar.arg = some (.ref a))
    {pl : Sem Bool} (hev : eval (.Call (.Attribute (.Call (.Name "super" p0) [] [] p1) "__init__" p2) [.Constant (.str txt) j pc] [] p3) (PySem.W.ksEnv qual scope L fI (.ref cda) cc) = (do
      let ov ← attributeBase (.Call (.Name "super" p0) [] [] p1) "__init__" (PySem.W.ksEnv qual scope L fI (.ref cda) cc) (eval (.Call (.Name "super" p0) [] [] p1) (PySem.W.ksEnv qual scope L fI (.ref cda) cc))
      standAt p2.atName
      let (f, first) ← holding [ov] (getMethod ov "__init__" pl)
      callWith p3 f first (backTo p3 (starEach [.Constant (.str txt) j pc] (PySem.W.ksEnv qual scope L fI (.ref cda) cc))) []))
    (hsw : swapsWith (.Call (.Attribute (.Call (.Name "super" p0) [] [] p1) "__init__" p2) [.Constant (.str txt) j pc] [] p3) none p4.line (PySem.W.ksEnv qual scope L fI (.ref cda) cc) = pure false) (hin : interactive (PySem.W.ksEnv qual scope L fI (.ref cda) cc) = false) (htx : txt.length ≤ sizeLine)
    (hq : ∀ h' t1 tk, (∀ b o, b ≠ a → hp.get? b = some o → h'.get? b = some o) → h'.get? a = some (PySem.HandSPX.excO C t1) → hp.objs.size ≤ h'.objs.size → Q .next ⟨h', g, d, tk, os⟩) :
    _root_.PySem.wpAt (model prog w) A (.func body (PySem.W.ksEnv qual scope L fI (.ref cda) cc)) (exec (.Expr (.Call (.Attribute (.Call (.Name "super" p0) [] [] p1) "__init__" p2) [.Constant (.str txt) j pc] [] p3) p4) (PySem.W.ksEnv qual scope L fI (.ref cda) cc)) Q E ⟨hp, g, d, t, os⟩ := by
  obtain ⟨nm, q, N, bs, bm, sn, sub, ab, col, dd, k0, k1, k2, k3, k5, hC, hbm⟩ := T.cls
  have hCh := X _ _ hC
  have hac : a ≠ C := fun e => by rw [e, hCh] at he; cases he
  refine PySem.ks_wpAt_Expr_any (hs := hsw) (hi := hin) (PySem.ks_wpAt_MethodCall (he := hev) (PySem.ks_wpAt_super_base (env := PySem.W.ksEnv qual scope L fI (.ref cda) cc) hks hkc (by decide) rfl (X _ _ hfn) rfl hpar rfl (X _ _ hcode) rfl hvs hfile htop ?_))
  refine PySem.W.ks_loadName_global hk hks (PySem.Calls.loadGlobal_builtin (env := PySem.W.ksEnv qual scope L fI (.ref cda) cc) hG hsup hB ((hbb _ (by decide +kernel)).trans (show bootBuiltins "super" = some (.type "super") from rfl)) ⟨rfl, ?_⟩)
  refine wpAny_loadName_free hk hkc rfl ⟨_, X _ _ hcell, rfl⟩ ?_
  refine wpAny_loadName_local hk hka hL hself ?_
  refine PySem.ks_wpAny_isType_cls hCh rfl ⟨rfl, ?_⟩
  refine PySem.ks_wpAny_call_super hCh rfl he rfl (fun c e => by cases e) (PySem.W.looks_mroIn X hCC) (fun h' e k => ?_)
  have X1 : K.In h' := X.keeps k
  have hcl : PySem.W.clsIn K C = some { name := nm, bases := bs, mro := .ref C :: bm, ns := N, qualname := q, hasDict := true, slotNames := sn, subclasses := sub, abstract := ab, collection := col, hasDel := false } := by unfold PySem.W.clsIn; rw [hC] <;> rfl
  have I1 : PySem.W.InstAt h' a (PySem.HandSPX.excO C t0) C none := ⟨k _ _ he, rfl, rfl, trivial⟩
  have hmro : PySem.W.Looks (model prog w) h' (mroOf (.ref C)) (.ref C :: bm) := fun A Q E s k' q' => wpAny_bind ((PySem.W.looks_clsIn X1 hcl) A _ E s k' (wpAny_pure q'))
  have hal : PySem.W.alongIn K "__init__" (((Value.ref C :: bm).dropWhile (· != .ref C)).drop 1) = some (some (.builtin "ValueError.__init__")) := by
    unfold PySem.W.ks_superIn at hsi
    rw [hcl] at hsi
    exact hsi
  refine PySem.W.kxs_getMethod PySem.W.kxs_ValueError e (PySem.W.looks_opaque X1 hopq) hmro rfl X1 hal (I1.type.andThen (PySem.W.looks_subIn X1 hVE)) hac (by decide) ?_
  have hst : starEach [.Constant (.str txt) j pc] (PySem.W.ksEnv qual scope L fI (.ref cda) cc) = (false, eval (.Constant (.str txt) j pc) (PySem.W.ksEnv qual scope L fI (.ref cda) cc)) :: starEach [] (PySem.W.ksEnv qual scope L fI (.ref cda) cc) := rfl
  dsimp only
  rw [hst]
  refine PySem.W.kxs_callWith (i := "ValueError.__init__") (x := a) rfl (PySem.Calls.evalArgs_plain ?_)
  show wpAny _ _ (spliced ((false, eval (.Constant (.str txt) j pc) (PySem.W.ksEnv qual scope L fI (.ref cda) cc)) :: [])) _ _ _
  refine PySem.Calls.spliced_cons (wpAny_Constant_str (PySem.Calls.spliced_nil ⟨Heap.get?_push_at rfl rfl, ?_⟩))
  have hu : (h'.push (PySem.W.kxs_mw "ValueError.__init__" a)).get? h'.objs.size = some (PySem.W.kxs_mw "ValueError.__init__" a) := Heap.get?_push_at rfl rfl
  have he2 : (h'.push (PySem.W.kxs_mw "ValueError.__init__" a)).get? a = some (PySem.HandSPX.excO C t0) := Heap.get?_push_of_some _ (k _ _ he)
  have hC2 : (h'.push (PySem.W.kxs_mw "ValueError.__init__" a)).get? C = some (excClassObj nm q C N bs bm true sn sub ab col dd k0 k1 k2 k3 k5 "ValueError.__new__") := Heap.get?_push_of_some _ (k _ _ hCh)
  refine wpAny_call (codeAny_of_tree ?_)
  show wpAny _ A.in1 (callAny (.ref h'.objs.size) ⟨[.str txt _], []⟩) _ _ _
  simp only [callAny]
  refine wpAny_bind (wpAny_load hu ?_)
  simp only [PySem.W.kxs_mw, show (Value.type "method-wrapper" == Value.type "method" || Value.type "method-wrapper" == Value.type "builtin_function_or_method" || Value.type "method-wrapper" == Value.type "method-wrapper") = true by decide, if_true]
  refine PySem.W.KFB.if_so (by decide) ?_
  refine wpAny_bind (PySem.W.check_bound_init PySem.F.excBase_ValueError.toExcCallFacts hC2 he2 rfl ?_)
  refine wpAny_bind (wpAny_pure (wpAny_pure ?_))
  refine ⟨plainId_quiet PySem.F.excBase_ValueError.init.plain _, codeAny_builtin PySem.F.excBase_ValueError.initEntry ?_⟩
  refine PySem.W.exc_init_tree (cls := .ref C) (t0 := t0) (dv := none) (c2 := .none) (c3 := .none) (b4 := .bool false) he2 (by simp [sizeLine]) (fun h2 k2 e2 t2 => ?_)
  have z1 : hp.objs.size < h'.objs.size := Heap.lt_size e
  have z2 : (h'.push (PySem.W.kxs_mw "ValueError.__init__" a)).objs.size < h2.objs.size := Heap.lt_size t2
  have z3 : (h'.push (PySem.W.kxs_mw "ValueError.__init__" a)).objs.size = h'.objs.size + 1 := by simp [Heap.push]
  exact hq _ _ _ (fun b o hb hbo => k2 b o hb (Heap.get?_push_of_some _ (k _ _ hbo))) e2 (by rw [z3] at z2; exact Nat.le_of_lt (Nat.lt_trans z1 (Nat.lt_trans (Nat.lt_succ_self _) z2)))

def ExSt (h0 : Heap) (C a : Addr) (fs : List (Str × Value)) (h : Heap) : Prop :=
  (fs = [] ∧ ∃ t1, h.get? a = some (PySem.HandSPX.excO C t1)) ∨ ∃ (t1 dx : Addr) (mA : Str → Option Value), fs ≠ [] ∧ h.get? a = some ({ cls := .ref C, dict := some dx, data := .fields #[.ref t1, .none, .none, .none, .bool false, .none] } : Obj) ∧ h.Ns1 dx mA ∧ (∀ y, mA y = fs.lookup y) ∧ h0.objs.size ≤ dx ∧ dx ≠ a
theorem store_one {h0 : Heap} {fs : List (Str × Value)} {f : Str} {u : Value} {Q : Unit → Shared → Prop} (T : OexC K C) (X : K.In hp) (st : ExSt h0 C a fs hp) (hsz : h0.objs.size ≤ hp.objs.size) (hl : fs.length ≤ 900) (hno : PySem.W.findIn K (.ref C) f = some none)
    (hq : ∀ h' tk, ExSt h0 C a ((f, u) :: fs) h' → (∀ b o, b ≠ a → b < h0.objs.size → hp.get? b = some o → h'.get? b = some o) → Q () ⟨h', g, d, tk, os⟩) : wpAny (model prog w) A (setAttr (.ref a) f u) Q E ⟨hp, g, d, t, os⟩ := by
  obtain ⟨nm, q, N, bs, bm, sn, sub, ab, col, dd, k0, k1, k2, k3, k5, hC, hbm⟩ := T.cls
  have hcl : PySem.W.clsIn K C = some { name := nm, bases := bs, mro := .ref C :: bm, ns := N, qualname := q, hasDict := true, slotNames := sn, subclasses := sub, abstract := ab, collection := col, hasDel := false } := by unfold PySem.W.clsIn; rw [hC] <;> rfl
  rcases st with ⟨rfl, t1, ho⟩ | ⟨t1, dx, mA, hne, ho, hns, hm, hdx, hda⟩
  · refine PySem.W.set_plain X (ox := { cls := .ref C, dict := none, data := .fields #[.ref t1, .none, .none, .none, .bool false, .none] }) (od := none) ⟨ho, rfl, rfl, trivial⟩ T.sa ?_
    refine PySem.HandSPX.exc_osa X ho hcl (show PySem.HandSPX.refsVE (.ref C :: bm) = true from hbm) rfl hno (fun h' tk' dx k dn dne hx hn => ?_)
    refine hq _ _ (.inr ⟨t1, dx, _, by simp, hx, hn, fun y => ?_, Nat.le_trans hsz dn, dne⟩) fun b o hb _ hbo => k b o hb hbo
    by_cases hy : y = f
    · subst hy; simp
    · rw [if_neg hy, List.lookup_cons, show (y == f) = false from by simpa using hy]; rfl
  · obtain ⟨oD, es, ep, hoD, hrest⟩ := id hns
    have hw : Within mA (fs.map (·.1)) := fun y hy => by
      rw [hm y] at hy
      cases hlk : fs.lookup y with
      | none => rw [hlk] at hy; exact absurd rfl hy
      | some v => exact List.mem_map.mpr ⟨(y, v), PySem.mem_of_lookup hlk, rfl⟩
    refine PySem.W.set_plain X (ox := { cls := .ref C, dict := some dx, data := .fields #[.ref t1, .none, .none, .none, .bool false, .none] }) (od := some oD) ⟨ho, rfl, rfl, hoD⟩ T.sa ?_
    refine PySem.OEX.osa_old X ho hns hw (by rw [List.length_map]; omega) hcl (show PySem.HandSPX.refsVE (.ref C :: bm) = true from hbm) rfl hno (fun h' tk' k hn => ?_)
    refine hq _ _ (.inr ⟨t1, dx, _, by simp, k _ _ (Ne.symm hda) ho, hn, fun y => ?_, hdx, hda⟩) fun b o hb hlt hbo => k b o (fun e => by rw [e] at hlt; exact absurd hlt (Nat.not_lt.mpr hdx)) hbo
    by_cases hy : y = f
    · subst hy; simp
    · rw [if_neg hy, List.lookup_cons, show (y == f) = false from by simpa using hy]; exact hm y
inductive InitSts (env : Env) (sn : Str) : List Stmt → List (Str × Str) → Prop
  | nil : InitSts env sn [] []
  | cons {f p : Str} {q1 q2 q3 q4 : Pos} {rest : List Stmt} {fps : List (Str × Str)} : swapsWith (.Name p q3) (some (.Attribute (.Name sn q1) f q2)) q4.line env = pure false → (p == ("__debug__" : Str)) = false → env.scope.names.lookup p = some .local → InitSts env sn rest fps →
      InitSts env sn (.Assign [.Attribute (.Name sn q1) f q2] (.Name p q3) q4 :: rest) ((f, p) :: fps)
theorem init_rest {env : Env} {sn : Str} {Q : Flow → Shared → Prop} {c : Code} (T : OexC K C) {h0 : Heap} (X : K.In h0) (hk : env.scope.kind = .function) (hL : h0.Ns env.locals m) (hLa : env.locals ≠ a) (hself : env.scope.names.lookup sn = some .local) (hsd : (sn == ("__debug__" : Str)) = false) (hsv : m sn = some (.ref a)) (hKa : K.lookup a = none)
    (g : Array GenState) (d : Drawn) (os : OsState) : ∀ {sts : List Stmt} {fps : List (Str × Str)}, InitSts env sn sts fps → ∀ (fs : List (Str × Value)) (hp : Heap) (t : Nat), ExSt h0 C a fs hp → (∀ b o, b ≠ a → h0.get? b = some o → hp.get? b = some o) → h0.objs.size ≤ hp.objs.size → fs.length + fps.length ≤ 900 →
      (∀ q ∈ fps, PySem.W.findIn K (.ref C) q.1 = some none ∧ ∃ u, m q.2 = some u) →
      (∀ h' tk, ExSt h0 C a (fps.foldl (fun acc q => (q.1, (m q.2).getD .none) :: acc) fs) h' → (∀ b o, b ≠ a → h0.get? b = some o → h'.get? b = some o) → Q .next ⟨h', g, d, tk, os⟩) →
      _root_.PySem.wpAt (model prog w) A c (execs sts env) Q E ⟨hp, g, d, t, os⟩
  | _, _, .nil, fs, hp, t, st, kp, _, _, _, hq => wpAt_of_wpAny (wpAny_execs_nil (hq _ _ st kp))
  | _, _, .cons (f := f) (p := p) (fps := fps) hs hd hl r, fs, hp, t, st, kp, hsz, hlen, hf, hq => by
    obtain ⟨hno, u, hu⟩ := hf _ List.mem_cons_self
    have XK : K.In hp := fun b o e => kp b o (fun z => by rw [z] at e; rw [hKa] at e; cases e) (X b o e)
    have hL1 : hp.Ns env.locals m := hL.at fun o e => kp _ o hLa e
    refine PySem.ks_wpAt_execs_cons (PySem.ks_wpAt_Assign_Attr (wpAt_of_wpAny (wpAny_Name (wpAny_loadName_local hk hl hL1 hu ?_) hd)) hs)
    refine wpAny_Name (wpAny_loadName_local hk hself hL1 hsv ?_) hsd
    refine store_one T XK st hsz (by simp only [List.length_cons] at hlen; omega) hno fun h' tk st' k' => ?_
    have hsz' : h0.objs.size ≤ h'.objs.size := by
      rcases id st' with ⟨z, _⟩ | ⟨_, dx, _, _, _, ⟨oD, _, _, hoD, _⟩, _, hdx, _⟩
      · cases z
      · exact Nat.le_trans hdx (Nat.le_of_lt (Heap.lt_size hoD))
    have hl2 : ((f, u) :: fs).length + fps.length ≤ 900 := by simp only [List.length_cons] at hlen ⊢; omega
    refine init_rest T X hk hL hLa hself hsd hsv hKa g d os r ((f, u) :: fs) h' tk st' (fun b o hb e => k' b o hb (Heap.lt_size e) (kp b o hb e)) hsz' hl2 (fun q hq' => hf q (List.mem_cons_of_mem _ hq')) fun h2 tk2 s2 k2 => hq h2 tk2 ?_ k2
    rw [List.foldl_cons, hu]
    exact s2
end
end DD

set_option Elab.async false
set_option linter.all false
set_option maxRecDepth 100000
set_option maxHeartbeats 4000000
namespace DD
open PySem PySem.Spec PyProof.Rows L2

theorem nodup_rev {α : Type} {l : List α} (h : l.Nodup) : l.reverse.Nodup := (List.reverse_perm l).symm.nodup h
theorem lookup_of_mem {β : Type} {k : Str} {v : β} : ∀ {l : List (Str × β)}, (l.map (·.1)).Nodup → (k, v) ∈ l → l.lookup k = some v
  | (k', v') :: r, hn, hm => by
    rw [List.map_cons, List.nodup_cons] at hn
    rw [List.lookup_cons]
    rcases List.mem_cons.mp hm with e | hm
    · cases e; simp
    · have : k ≠ k' := fun e => hn.1 (by rw [← e]; exact List.mem_map.mpr ⟨(k, v), hm, rfl⟩)
      rw [show (k == k') = false from by simpa using this]
      exact lookup_of_mem hn.2 hm
theorem zip_keys {β : Type} : ∀ (ps : List Str) (us : List β), ps.length = us.length → (ps.zip us).map (·.1) = ps
  | [], [], _ => rfl
  | p :: ps, u :: us, h => by rw [List.zip_cons_cons, List.map_cons, zip_keys ps us (by simpa using h)]
theorem lookup_rev {β : Type} {k : Str} {v : β} {l : List (Str × β)} (hn : (l.map (·.1)).Nodup) (h : l.lookup k = some v) : l.reverse.lookup k = some v :=
  lookup_of_mem (by rw [List.map_reverse]; exact nodup_rev hn) (List.mem_reverse.mpr (PySem.mem_of_lookup h))
theorem zip_get {β : Type} {ps : List Str} {us : List β} {i : Nat} {p : Str} {u : β} (h1 : ps[i]? = some p) (h2 : us[i]? = some u) : (p, u) ∈ ps.zip us := by
  have : (ps.zip us)[i]? = some (p, u) := by rw [List.getElem?_zip_eq_some]; exact ⟨h1, h2⟩
  exact List.mem_of_getElem? this
theorem fold_fps {β : Type} (val : Str → β) : ∀ (ps : List Str) (acc : List (Str × β)), (ps.map fun p => (p, p)).foldl (fun acc q => (q.1, val q.2) :: acc) acc = (ps.map fun p => (p, val p)).reverse ++ acc
  | [], acc => rfl
  | p :: ps, acc => by
    rw [List.map_cons, List.foldl_cons, fold_fps val ps]
    simp
theorem zip_val {β : Type} [Inhabited β] {sn : Str} {sv : β} {ps : List Str} {us : List β} (hl : ps.length = us.length) (hn : (sn :: ps).Nodup) (dv : β) : ps.map (fun p => (p, (((sn, sv) :: ps.zip us).reverse.lookup p).getD dv)) = ps.zip us := by
  apply List.ext_getElem?
  intro i
  rw [List.getElem?_map]
  by_cases hi : i < ps.length
  · have h1 : ps[i]? = some ps[i] := List.getElem?_eq_getElem hi
    have h2 : us[i]? = some us[i] := List.getElem?_eq_getElem (by omega)
    have hz : (ps.zip us)[i]? = some (ps[i], us[i]) := by rw [List.getElem?_zip_eq_some]; exact ⟨h1, h2⟩
    have hk : (((sn, sv) :: ps.zip us).map (·.1)).Nodup := by rw [List.map_cons, zip_keys ps us hl]; exact hn
    have hm : (ps[i], us[i]) ∈ (sn, sv) :: ps.zip us := List.mem_cons_of_mem _ (zip_get h1 h2)
    rw [h1, hz, Option.map_some, lookup_rev hk (lookup_of_mem hk hm)]
    rfl
  · rw [List.getElem?_eq_none (by omega), List.getElem?_eq_none (by rw [List.length_zip]; omega)]
    rfl
theorem relO_zip {y : Str} : ∀ {ps : List Str} {vs : List V} {us : List Value}, Vals vs us → RelO ((ps.zip vs).lookup y) ((ps.zip us).lookup y)
  | [], _, _, _ => by simp [RelO]
  | _ :: _, [], [], .nil => by simp [RelO]
  | p :: ps, v :: vs, u :: us, .cons h r => by
    rw [List.zip_cons_cons, List.zip_cons_cons, List.lookup_cons, List.lookup_cons]
    cases y == p with
    | true => exact h
    | false => exact relO_zip r
theorem relO_rev {y : Str} {ps : List Str} {vs : List V} {us : List Value} (hn : ps.Nodup) (h1 : ps.length = vs.length) (h2 : ps.length = us.length) (r : Vals vs us) : RelO ((ps.zip vs).reverse.lookup y) ((ps.zip us).reverse.lookup y) := by
  have e : ∀ {β : Type} (xs : List β), ps.length = xs.length → (ps.zip xs).reverse.lookup y = (ps.zip xs).lookup y := fun {β} xs hl => by
    have hk : ((ps.zip xs).map (·.1)).Nodup := by rw [zip_keys ps xs hl]; exact hn
    cases hc : (ps.zip xs).lookup y with
    | some v => exact lookup_rev hk hc
    | none =>
      cases hc2 : (ps.zip xs).reverse.lookup y with
      | none => rfl
      | some v =>
        have z := lookup_of_mem hk (List.mem_reverse.mp (PySem.mem_of_lookup hc2))
        rw [hc] at z; cases z
  rw [e vs h1, e us h2]
  exact relO_zip r
structure SupC (P : Program) (K : PySem.W.Frag) (C : Addr) (fI : Addr) (sn : Str) (ps : List Str) : Prop where
  oex : OexC K C
  init : PySem.W.findIn K (.ref C) "__init__" = some (some (.ref fI))
  tI : PySem.W.typeIn K (.ref fI) = some (.type "function")
  fn : ∃ (qual : Str) (params : Arguments) (scope : Scope) (kV doc pm ct dV : Value) (an : Option Addr) (cda cc : Addr) (oc : Value) (od : Option Addr) (osl : Array (Option Value)) (p0 p1 p2 p3 p4 pc : Pos) (j : Nat) (txt : Str) (sts : List Stmt) (ar : Arg),
    K.lookup fI = some ⟨oc, od, .func (PySem.W.ksFn "__init__" qual params (.Expr (.Call (.Attribute (.Call (.Name "super" p0) [] [] p1) "__init__" p2) [.Constant (.str txt) j pc] [] p3) p4 :: sts) scope dV kV doc pm an (.ref cda) ct cc), osl⟩ ∧
    PySem.W.codeIn K (.ref cda) qual = true ∧ (∃ ccl cdd vs ccs file tf, K.lookup cda = some ⟨ccl, cdd, .fields vs, ccs⟩ ∧ vs[2]? = some (.str file tf) ∧ ((P.main.file : Str) == file) = true) ∧
    (∃ cl cld csl, K.lookup cc = some ⟨cl, cld, .cell (some (.ref C)), csl⟩) ∧
    (params.posonlyargs ++ params.args).head? = some ar ∧ ar.arg = sn ∧ scope.names.lookup ("super" : Str) = some .globalImplicit ∧ scope.names.lookup ("__class__" : Str) = some .free ∧ scope.kind = .function ∧ scope.isCoroutine = false ∧ scope.isGenerator = false ∧
    (∀ x ∈ scope.names, x.2 ≠ .cell) ∧ (∀ x ∈ sn :: ps, scope.names.lookup x = some .local) ∧
    (∀ (s : Shared) (xs : List Value), xs.length = ps.length + 1 → BindsTo s (PySem.W.ksFn "__init__" qual params (.Expr (.Call (.Attribute (.Call (.Name "super" p0) [] [] p1) "__init__" p2) [.Constant (.str txt) j pc] [] p3) p4 :: sts) scope dV kV doc pm an (.ref cda) ct cc) ⟨xs, []⟩ ((sn :: ps).zip xs)) ∧
    (∀ L : Addr, InitSts (PySem.W.ksEnv qual scope L fI (.ref cda) cc) sn sts (ps.map fun p => (p, p))) ∧
    (∀ L : Addr, ∃ pl : Sem Bool, eval (.Call (.Attribute (.Call (.Name "super" p0) [] [] p1) "__init__" p2) [.Constant (.str txt) j pc] [] p3) (PySem.W.ksEnv qual scope L fI (.ref cda) cc) = (do
      let ov ← attributeBase (.Call (.Name "super" p0) [] [] p1) "__init__" (PySem.W.ksEnv qual scope L fI (.ref cda) cc) (eval (.Call (.Name "super" p0) [] [] p1) (PySem.W.ksEnv qual scope L fI (.ref cda) cc))
      standAt p2.atName
      let (f, first) ← holding [ov] (getMethod ov "__init__" pl)
      callWith p3 f first (backTo p3 (starEach [.Constant (.str txt) j pc] (PySem.W.ksEnv qual scope L fI (.ref cda) cc))) [])) ∧
    (∀ L : Addr, swapsWith (.Call (.Attribute (.Call (.Name "super" p0) [] [] p1) "__init__" p2) [.Constant (.str txt) j pc] [] p3) none p4.line (PySem.W.ksEnv qual scope L fI (.ref cda) cc) = pure false) ∧
    (∀ L : Addr, interactive (PySem.W.ksEnv qual scope L fI (.ref cda) cc) = false) ∧ txt.length ≤ sizeLine
  top : (P.main.scope.names.lookup ("super" : Str)).isSome = false
  sup : PySem.W.ks_superIn K C C "__init__" = some (some (.builtin "ValueError.__init__"))
  isVE : PySem.W.subIn K (.ref C) (.type "ValueError") = some true
  sub : PySem.W.mroIn K C (.ref C) = some true
  opq : PySem.W.nsIn K cStatics "thirdparty.any" = some none
  noat : ∀ p ∈ ps, PySem.W.findIn K (.ref C) p = some none
  nd : (sn :: ps).Nodup
  few : ps.length ≤ 100
  dbg : (sn == ("__debug__" : Str)) = false
def tMkS (C : Addr) (ps : List Str) (ta : TA) : L2.St → Hp → XK → Prop := fun σ H Q => ta σ H fun vs H1 => vs.length = ps.length ∧ ∀ d, H1 d = none → Q (.ref C) (if ps = [] then none else some d) (if ps = [] then H1 else upd H1 d (.xd (ps.zip vs).reverse))
section
variable {X : Cx} {e : Expr} {es : List Expr} {ta : TA} {C fI : Addr} {sn x : Str} {ps : List Str} {k : Nat} {p pos : Pos}
theorem mkp_sup {pins : List (Addr × Obj)} {σ : L2.St} {H1 : Hp} {Q : XK} {hp h' : Heap} {g : Array GenState} {d : Drawn} {t tk : Nat} {os : OsState} {a : Addr} {vs : List V} {us : List Value} (S : SupC X.prog X.K C fI sn ps) (I1 : Inv X pins σ H1 ⟨hp, g, d, t, os⟩) (ha : hp.objs.size ≤ a)
    {h0 : Heap} (h0s : hp.objs.size ≤ h0.objs.size) (st : ExSt h0 C a (ps.zip us).reverse h') (kp : ∀ b o, b ≠ a → hp.get? b = some o → h'.get? b = some o) (r1 : Vals vs us) (hl : vs.length = ps.length) (q : ∀ d, H1 d = none → Q (.ref C) (if ps = [] then none else some d) (if ps = [] then H1 else upd H1 d (.xd (ps.zip vs).reverse))) :
    MkP X pins σ Q (.ref a) ⟨h', g, d, tk, os⟩ := by
  have hn : H1 a = none := I1.hok.fresh ha
  have lus : ps.length = us.length := by rw [← hl]; exact r1.length
  obtain ⟨G, g1', g2'⟩ := restrict h' fun b => decide (b ≠ a)
  have gk : ∀ b, b ≠ a → G.get? b = h'.get? b := fun b hb => g1' b (decide_eq_true hb)
  have ge : G.get? a = none := g2' a (by simp)
  have GK : ∀ b o, G.get? b = some o → h'.get? b = some o := fun b o z => by
    by_cases hba : b = a
    · rw [hba, ge] at z; cases z
    · exact (gk b hba).symm.trans z
  have nha : ∀ {b : Addr} {o : Obj}, hp.get? b = some o → b ≠ a := fun {b o} z => Nat.ne_of_lt (Nat.lt_of_lt_of_le (Heap.lt_size z) ha)
  have kG : ∀ b o, hp.get? b = some o → G.get? b = some o := fun b o z => by rw [gk b (nha z)]; exact kp b o (nha z) z
  rcases st with ⟨hnil, t1, ho⟩ | ⟨t1, dx, mA, hne, ho, hns, hm, hdx, hda⟩
  · have hps : ps = [] := by
      cases ps with
      | nil => rfl
      | cons p r => cases us with
        | nil => simp at lus
        | cons u v => simp at hnil
    have q' := q a hn
    rw [if_pos hps, if_pos hps] at q'
    have J : Inv X pins σ H1 ⟨G, g, d, tk, os⟩ := I1.kept (t' := tk) kG
    exact ⟨a, _, _, ⟨G, g, d, tk, os⟩, H1, .ref C, none, rfl, J, GK, ge, ho, ⟨rfl, rfl⟩, rfl, rfl, hn, rfl, I1.bare, raises_own S.oex.exC S.oex.tyC, q'⟩
  · have hps : ps ≠ [] := fun z => by
      subst z
      exact hne rfl
    have hd1 : H1 dx = none := I1.hok.fresh (Nat.le_trans h0s hdx)
    have q' := q dx hd1
    rw [if_neg hps, if_neg hps] at q'
    have nd : ∀ {b : Addr} {o : Obj}, hp.get? b = some o → b ≠ dx := fun {b o} z => Nat.ne_of_lt (Nat.lt_of_lt_of_le (Heap.lt_size z) (Nat.le_trans h0s hdx))
    have U : Un X.fs [] H1 (upd H1 dx (.xd (ps.zip vs).reverse)) hp G := {
      keep := fun b o z n _ _ => kG b o z
      slot := fun b o z n _ _ => ⟨o.slots, kG b o z⟩
      free := fun b o z n _ => by rw [upd_ne (nd z)]; exact n
      there := fun b o z _ => ⟨o, kG b o z⟩
      tups := fun b xs z => by rw [upd_ne (ne_of_none z hd1)]; exact z
      frzs := fun b o v z => by rw [upd_ne (ne_of_none z hd1)]; exact z
      tbls := fun b ps' z => ⟨#[], by rw [upd_ne (ne_of_none z hd1), z]; simp⟩ }
    have hok : HOk X.prog X.w (upd H1 dx (.xd (ps.zip vs).reverse)) G := fun b o z => by
      by_cases hbd : b = dx
      · subst hbd
        rw [upd_same] at z
        cases z
        refine ⟨mA, hns.at fun o y => (gk b hda).trans y, fun y => ?_⟩
        rw [hm y]
        exact relO_rev (List.nodup_cons.mp S.nd).2 hl.symm lus r1
      · rw [upd_ne hbd] at z
        refine (I1.hok b o z).stay (fun c v hc y => kG c v y) (fun c hc => ?_) fun c xs hc => ?_
        · rw [upd_ne (ne_of_none hc hd1)]; exact hc
        · rw [upd_ne (ne_of_none hc hd1)]; exact hc
    have J : Inv X pins σ (upd H1 dx (.xd (ps.zip vs).reverse)) ⟨G, g, d, tk, os⟩ := I1.un (t' := tk) U hok
    exact ⟨a, _, _, ⟨G, g, d, tk, os⟩, _, .ref C, some dx, rfl, J, GK, ge, ho, ⟨rfl, rfl⟩, rfl, rfl, by rw [upd_ne (Ne.symm hda)]; exact hn, rfl, I1.bare, raises_own S.oex.exC S.oex.tyC, q'⟩

theorem call_sup {pins : List (Addr × Obj)} {σ : L2.St} {H1 : Hp} {Q : XK} {s1 : Shared} {E : Value → Shared → Prop} {vs : List V} {us : List Value} (S : SupC X.prog X.K C fI sn ps) (hr : Room (k + 1) X.A) (hsup : X.mg "super" = none) (I1 : Inv X pins σ H1 s1) (r1 : Vals vs us) (hl : vs.length = ps.length)
    (q : ∀ d, H1 d = none → Q (.ref C) (if ps = [] then none else some d) (if ps = [] then H1 else upd H1 d (.xd (ps.zip vs).reverse))) : wpAny (model X.prog X.w) X.A (call (.ref C) us) (MkP X pins σ Q) E s1 := by
  obtain ⟨hp, g, dr, tk, os⟩ := s1
  obtain ⟨nm, qn, N, bs, bm, snn, sub, ab, col, dd, k0, k1, k2, k3, k5, hC, hbm⟩ := S.oex.cls
  obtain ⟨qual, params, scope, kV, doc, pm, ct, dV, an, cda, cc, oc, od, osl, p0, p1, p2, p3, p4, pc, j, txt, sts, ar, hfn, hcr, ⟨ccl, cdd, cvs, ccs, file, tf, hcode, hvs, hfile⟩, ⟨cl, cld, csl, hcell⟩, hpar, har, hks, hkc, hkf, hco, hgen, hnc, hloc, hbind, hsts, hev, hsw, hin, htx⟩ := S.fn
  subst har
  have lus : ps.length = us.length := by rw [← hl]; exact r1.length
  have hus : us.length ≤ sizeLine := by rw [← lus]; exact Nat.le_trans S.few (by decide)
  have kk : ∀ b o, hp.get? b = some o → ((hp.push (PySem.W.kdv_tup us)).push (PySem.HandSPX.excO C hp.objs.size)).get? b = some o := fun b o e => Heap.get?_push_of_some _ (Heap.get?_push_of_some _ e)
  have hget : ((hp.push (PySem.W.kdv_tup us)).push (PySem.HandSPX.excO C hp.objs.size)).get? (hp.objs.size + 1) = some (PySem.HandSPX.excO C hp.objs.size) := by heap_get
  have K2 : X.K.In ((hp.push (PySem.W.kdv_tup us)).push (PySem.HandSPX.excO C hp.objs.size)) := I1.kIn.keeps kk
  have hKa : X.K.lookup (hp.objs.size + 1) = none := by
    cases hz : X.K.lookup (hp.objs.size + 1) with
    | none => rfl
    | some o =>
      exact absurd (Nat.lt_trans (Nat.lt_succ_self _) (Heap.lt_size (I1.kIn _ _ hz))) (Nat.lt_irrefl _)
  refine wpAny_call (PySem.HandSPX.call_own PySem.F.excBase_ValueError (fun Y => PySem.HandSPX.refsVE_contains Y bm hbm) (I1.kIn _ _ hC) (PySem.W.looks_findIn I1.kIn S.init) (fun self => PySem.W.bind_fn I1.kIn self S.tI) hus ?_)
  refine PySem.ks_codeAny_call_defAt (binds := (ar.arg :: ps).zip (.ref (hp.objs.size + 1) :: us)) (hr.make C us []).depth (K2 _ _ hfn) rfl ((I1.nolimit.push _).push _) (PySem.W.codeRec_of K2 hcr) rfl (hbind _ _ (by simp [lus])) hnc (fun y hy => hloc y.1 (List.of_mem_zip hy).1) (fun h₁ hns hk₁ => ?_) hco hgen hkf
  rw [List.zip_cons_cons] at hns
  have kk1 : ∀ b o, hp.get? b = some o → h₁.get? b = some o := fun b o e => hk₁ b o (kk b o e)
  have K1 : X.K.In h₁ := K2.keeps hk₁
  have e1 : h₁.get? (hp.objs.size + 1) = some (PySem.HandSPX.excO C hp.objs.size) := hk₁ _ _ hget
  obtain ⟨mb, hmb, hbb⟩ := I1.mod.blt
  have gG : h₁.Ns mainGlobals X.mg := (I1.mod.glob.keeps I1.bk).keeps kk1
  have gB : h₁.Ns builtinsNs mb := (hmb.keeps I1.bk).keeps kk1
  have hLsz : ((hp.push (PySem.W.kdv_tup us)).push (PySem.HandSPX.excO C hp.objs.size)).objs.size = hp.objs.size + 2 := by simp [Heap.push]
  have hLa : ((hp.push (PySem.W.kdv_tup us)).push (PySem.HandSPX.excO C hp.objs.size)).objs.size ≠ hp.objs.size + 1 := by rw [hLsz]; omega
  have hk0 : (((ar.arg, Value.ref (hp.objs.size + 1)) :: ps.zip us).map (·.1)).Nodup := by rw [List.map_cons, zip_keys ps us lus]; exact S.nd
  have hself : ((ar.arg, Value.ref (hp.objs.size + 1)) :: ps.zip us).reverse.lookup ar.arg = some (.ref (hp.objs.size + 1)) := lookup_rev hk0 (lookup_of_mem hk0 List.mem_cons_self)
  obtain ⟨pl, hev⟩ := hev ((hp.push (PySem.W.kdv_tup us)).push (PySem.HandSPX.excO C hp.objs.size)).objs.size
  refine PySem.ks_wpAt_execs_cons (sup_call (mg := X.mg) (mb := mb) (L := ((hp.push (PySem.W.kdv_tup us)).push (PySem.HandSPX.excO C hp.objs.size)).objs.size) (a := hp.objs.size + 1) (m := fun y => ((ar.arg, Value.ref (hp.objs.size + 1)) :: ps.zip us).reverse.lookup y) S.oex K1 gG hsup gB hbb hfn hcode hvs hfile hcell S.top hpar hks hkc (hloc _ List.mem_cons_self) hkf S.sup S.isVE S.sub S.opq e1 hns hself hev (hsw _) (hin _) htx (fun h2 t1 tk2 kp2 e2 h2s => ?_))
  have h1s : hp.objs.size ≤ h₁.objs.size := Nat.le_of_lt (Nat.lt_of_le_of_lt (Nat.le_succ _) (Heap.lt_size e1))
  refine init_rest (m := fun y => ((ar.arg, Value.ref (hp.objs.size + 1)) :: ps.zip us).reverse.lookup y) (a := hp.objs.size + 1) (C := C) (K := X.K) S.oex (h0 := h₁) K1 hkf hns hLa (hloc _ List.mem_cons_self) S.dbg hself hKa g dr os (hsts _) [] h2 tk2 (.inl ⟨rfl, t1, e2⟩) kp2 h2s (by simp; have := S.few; omega) (fun q' hq' => ?_) (fun h3 tk3 st3 kp3 => ?_)
  · obtain ⟨p', hp', rfl⟩ := List.mem_map.mp hq'
    refine ⟨S.noat p' hp', ?_⟩
    obtain ⟨i, hi, rfl⟩ := List.mem_iff_getElem.mp hp'
    exact ⟨us[i]'(by rw [← lus]; exact hi), lookup_rev hk0 (lookup_of_mem hk0 (List.mem_cons_of_mem _ (zip_get (List.getElem?_eq_getElem hi) (List.getElem?_eq_getElem (by rw [← lus]; exact hi)))))⟩
  · have ef := fold_fps (fun y => (List.lookup y ((ar.arg, Value.ref (hp.objs.size + 1)) :: ps.zip us).reverse).getD Value.none) ps []
    rw [List.append_nil, zip_val lus S.nd] at ef
    rw [ef] at st3
    exact ⟨rfl, mkp_sup S I1 (Nat.le_succ _) h1s st3 (fun b o hb z => kp3 b o hb (kk1 b o z)) r1 hl q⟩
theorem pmk_sup (S : SupC X.prog X.K C fI sn ps) (hr : Room (k + 1) X.A) (hg : Gl X x) (hm : X.mg x = some (.ref C)) (hsup : X.mg "super" = none) (ha : PA X (e :: es) ta)
    (hdb : (x == ("__debug__" : Str)) = false := by decide) (he : starEach (e :: es) X.env = (false, eval e X.env) :: starEach es X.env := by rfl) (hpl : (backTo pos (starEach es X.env)).any (·.1) = false := by rfl) :
    PMk X (.Call (.Name x p) (e :: es) [] pos) (tMkS C ps ta) := by
  intro pins s σ H Q I h
  refine wpAny_Call_Name_kw (ld_glob I hg hm ?_ hdb)
  refine PySem.W.callWith_K (h₀ := X.base) I.ok.mod.kin S.oex.kC (thn (ha.run pos pins s σ H _ I h) fun us s1 ⟨vs, H1, I1, r1, hlen, q1⟩ => ⟨I1.kIn, ?_⟩) he hpl
  exact call_sup S hr hsup I1 r1 hlen q1
theorem pmk_sup0 (S : SupC X.prog X.K C fI sn []) (hr : Room (k + 1) X.A) (hg : Gl X x) (hm : X.mg x = some (.ref C)) (hsup : X.mg "super" = none) (hdb : (x == ("__debug__" : Str)) = false := by decide) :
    PMk X (.Call (.Name x p) [] [] pos) (tMkS C [] tNil) := by
  intro pins s σ H Q I h
  refine wpAny_Call_Name_kw (ld_glob I hg hm ?_ hdb)
  refine PySem.W.callWith_K0 I.kIn S.oex.kC ?_
  exact call_sup (vs := []) (us := []) S hr hsup I .nil rfl h.2
end
end DD

set_option Elab.async false
set_option linter.all false
set_option maxRecDepth 100000
set_option maxHeartbeats 4000000
namespace DD
open PySem PySem.Spec PyProof.Rows L2

def mRaise (c : Str) (ps : List Str) (ma : M (List D)) : M Fl := M.bind ma fun ds r S => if ds.all frO = true ∧ ds.length = ps.length then .exc ⟨c, (ps.zip ds).reverse⟩ r S else .no
section
variable {K : PySem.W.Frag} {H : Hp} {g : Gh} {n k : Nat}
theorem FldR0.app : ∀ {vs vs' : List (Str × V)} {ds ds' : List (Str × D)}, FldR0 K H g n k vs ds → FldR0 K H g n k vs' ds' → FldR0 K H g n k (vs ++ vs') (ds ++ ds')
  | _, _, _, _, .nil, h => h
  | _, _, _, _, .cons h hs, h' => .cons h (hs.app h')
theorem FldR0.rev : ∀ {vs : List (Str × V)} {ds : List (Str × D)}, FldR0 K H g n k vs ds → FldR0 K H g n k vs.reverse ds.reverse
  | _, _, .nil => .nil
  | _, _, .cons h hs => by
    rw [List.reverse_cons, List.reverse_cons]
    exact hs.rev.app (.cons h .nil)
theorem FldR0.zip : ∀ {ps : List Str} {vs : List V} {ds : List D}, IsFs K g.G g.io n vs ds → FldR0 K H g n k (ps.zip vs) (ps.zip ds)
  | [], _, _, _ => .nil
  | _ :: _, _, _, .nil => .nil
  | p :: ps, _, _, .cons h hs => .cons (SlotR.ofF h) (FldR0.zip hs)
theorem frO_frz {d : D} (h : frO d = true) : frzD d = d := by
  cases d <;> first | rfl | cases h
theorem rev_zip {α : Type} {ps : List Str} {vs : List α} (h : ps.length = vs.length) : (ps.zip vs).reverse = ps.reverse.zip vs.reverse := by
  induction ps generalizing vs with
  | nil => cases vs <;> rfl
  | cons p ps ih =>
    cases vs with
    | nil => cases h
    | cons v vs =>
      have h' : ps.length = vs.length := by simpa using h
      rw [List.zip_cons_cons, List.reverse_cons, List.reverse_cons, List.reverse_cons, ih h', List.zip_append (by simpa using h')]; rfl
theorem exR_new {ps : List Str} {vs : List V} {ds : List D} {d : Addr} (hl : ds.length = ps.length) (hG : g.G d = some (.xd (ps.zip vs).reverse)) (is : IsFs K g.G g.io n vs ds) : ExR K H g n (ps.zip ds).reverse (some d) := by
  have hv : vs.length = ps.length := is.length.trans hl
  rw [rev_zip hv.symm] at hG
  rw [rev_zip hl.symm]
  exact .inr ⟨d, _, _, _, rfl, hG, rfl, by simp [hv], is.rev⟩
end
section
variable {X : Cx} {T : Tb} {q qa : Bool} {e : Expr} {es : List Expr} {ma : M (List D)} {fI : Addr} {sn c : Str} {ps : List Str} {k : Nat} {p pos pos' : Pos}
theorem ds_raise (Sc : SupC X.prog X.K (He.ga X.K c) fI sn ps) (hr : Room (k + 1) X.A) (hg : Gl X c) (hm : X.mg c = some (.ref (He.ga X.K c))) (hsup : X.mg "super" = none) (ha : DA X T qa (e :: es) ma) (hc : X.calm = true := by rfl)
    (hdb : (c == ("__debug__" : Str)) = false := by decide) (he : starEach (e :: es) X.env = (false, eval e X.env) :: starEach es X.env := by rfl) (hpl : (backTo pos (starEach es X.env)).any (·.1) = false := by rfl) :
    DS X T (qa && true) (.Raise (some (.Call (.Name c p) (e :: es) [] pos)) none pos') (mRaise c ps ma) := fun W tk =>
  psImp (ps_raise hc tk (pmk_sup Sc hr hg hm hsup (ha W tk) hdb he hpl)) fun E σ H ⟨g, r, S, R, k⟩ => by
    refine ⟨g, r, S, R, okS.bindA (qb := true) k fun ds r1 S1 vs H1 g1 _ R1 is1 st1 k1 => ?_⟩
    split at k1
    · rename_i hl
      have is2 := is1.isFs hl.1
      refine ⟨by rw [is2.length, hl.2], fun d hd => ?_⟩
      by_cases hp : ps = []
      · subst hp
        rw [if_pos rfl, if_pos rfl]
        exact k1 σ H1 g1 none R1 Stp.refl (.inl ⟨rfl, rfl⟩)
      · rw [if_neg hp, if_neg hp]
        obtain ⟨R2, st2⟩ := finFrz (q := true) (o := .xd (ps.zip vs).reverse) R1 hd
        exact k1 σ _ _ (some d) R2 st2.stm (exR_new hl.2 upd_same (st2.isFs is2))
    · exact k1.elim
theorem ds_raise0 (Sc : SupC X.prog X.K (He.ga X.K c) fI sn []) (hr : Room (k + 1) X.A) (hg : Gl X c) (hm : X.mg c = some (.ref (He.ga X.K c))) (hsup : X.mg "super" = none) (hc : X.calm = true := by rfl) (hdb : (c == ("__debug__" : Str)) = false := by decide) :
    DS X T true (.Raise (some (.Call (.Name c p) [] [] pos)) none pos') (mRaise c [] mNil) := fun W tk =>
  psImp (ps_raise hc tk (pmk_sup0 Sc hr hg hm hsup hdb)) fun E σ H ⟨g, r, S, R, k⟩ => by
    refine ⟨rfl, fun d hd => ?_⟩
    rw [if_pos rfl, if_pos rfl]
    exact k σ H g none R Stp.refl (.inl ⟨rfl, rfl⟩)
end
end DD

set_option Elab.async false
set_option linter.all false
set_option maxRecDepth 100000
set_option maxHeartbeats 4000000
namespace DD
open PySem PySem.Spec PyProof.Rows L2

section
variable {X : Cx} {pins : List (Addr × Obj)} {σ : L2.St} {H : Hp} {s : Shared}
theorem track_inv {a C : Addr} {d : Option Addr} {oe : Obj} {vs : Array Value} (I : Inv X pins σ H s) (ha : s.heap.get? a = some oe) (hz : Zc (.ref C) d oe) (hd : oe.data = .fields vs) (na : H a = none) (n0 : X.s_0.heap.get? a = none)
    (nL : a ≠ X.env.locals) (np : ∀ p ∈ X.pn ++ pins, p.1 ≠ a) : Inv X pins σ (upd H a (.ext (ExcAt C a d))) s := by
  have up : ∀ b u, H b = some u → upd H a (.ext (ExcAt C a d)) b = some u := fun b u e => by
    rw [upd_ne (ne_of_none e na)]; exact e
  have off : ∀ b, b ≠ a → H b = none → upd H a (.ext (ExcAt C a d)) b = none := fun b hb e => by
    rw [upd_ne hb]; exact e
  refine ⟨I.ok, I.os, I.bare, ?_, I.loc, I.cell, off _ (Ne.symm nL) I.free, fun y c e => ?_, fun p hp => ?_, ?_, I.len⟩
  · exact ⟨I.base.keep, I.base.slot, fun b o e n hx => off b (fun z => by rw [z, n0] at e; cases e) (I.base.free b o e n hx), I.base.there, fun b xs e => up _ _ (I.base.tups b xs e), fun b o u e => up _ _ (I.base.frzs b o u e), fun b ps e => by
      obtain ⟨more, q⟩ := I.base.tbls b ps e
      exact ⟨more, up _ _ q⟩⟩
  · refine off c (fun z => ?_) (I.freeC y c e)
    obtain ⟨w, o, h1, h2⟩ := I.cell y c e
    rw [z, ha] at h1
    cases h1
    rw [hd] at h2
    cases h2
  · obtain ⟨h1, h2, h3⟩ := I.pin p hp
    exact ⟨h1, off _ (np p hp) h2, h3⟩
  · intro b u e
    by_cases hb : b = a
    · subst hb
      rw [upd_same] at e
      cases e
      refine ⟨⟨oe, vs, ha, hz, hd⟩, ⟨oe, ha⟩, fun h1 h2 h3 h4 => ?_⟩
      obtain ⟨o1, v1, k1, k2⟩ := h3
      exact ⟨o1, v1, h4 _ k1, k2⟩
    · rw [upd_ne hb] at e
      exact (I.hok b u e).stay (fun c w hc q => q) (fun c q => up _ _ q) fun c xs q => up _ _ q
theorem suite_inv {a : Addr} (I : Inv X pins σ H s) : Inv (X.suite a (X.pn ++ pins)) [] σ H s :=
  ⟨I.ok.suite _ _, I.os, I.bare, I.base, I.loc, I.cell, I.free, I.freeC, fun p hp => I.pin p (by rw [List.append_nil] at hp; exact hp), I.hok, I.len⟩
theorem suite_out {a : Addr} {pn' : List (Addr × Obj)} (I : Inv (X.suite a (X.pn ++ pins)) pn' σ H s) (ok : X.Ok) : Inv X pins σ H s :=
  ⟨ok, I.os, I.bare, I.base, I.loc, I.cell, I.free, I.freeC, fun p hp => I.pin p (List.mem_append_left _ hp), I.hok, I.len⟩
end
def goneE (i : Nat) (D : Ends) : Ends := { nx := fun σ H => D.nx (σ.set i none) H, rt := D.rt, bk := fun σ H => D.bk (σ.set i none) H, ct := fun σ H => D.ct (σ.set i none) H }
def wTr (K : PySem.W.Frag) (c : Value) (i : Nat) (ts : TS) (Wo : WX) (D : Ends) : WX := fun cls d σ H => ∃ (C : Addr) (b : Bool), cls = .ref C ∧ PySem.W.exmOne K cls c = some b ∧
  (b = true → ∀ a, H a = none → ts (goneE i D) (σ.set i (some (.ref a))) (upd H a (.ext (ExcAt C a d)))) ∧ (b = false → Wo cls d σ H)
section
variable {X : Cx} {x n : Str} {c : Value} {i : Nat} {body suite : List Stmt} {b0 : Stmt} {np pos pos' : Pos} {tb : WX → TS} {ts : TS} {Wo : WX}
theorem ps_try_tr (hx : X.ex = []) (stk : X.stack = X.env :: X.outer) (frm : X.env.frame = some X.env.locals) (nd : X.N.Nodup) (at_ : X.N[i]? = some n) (loc : X.env.kindOf n = some .local) (nms : Names X x c) (tk : Takes X Wo)
    (hB : ∀ (W : WX) (pn : List (Addr × Obj)) (xe : Value → Shared → Prop), Takes (X.tr pn xe) W → PassesOwn (model X.prog X.w) X.A X.env xe → PSs (X.tr pn xe) body (tb W)) (hS : ∀ a pn, PSs (X.suite a pn) (b0 :: suite) ts) :
    PS X (.Try body [.ExceptHandler (some (.Name x np)) (some n) (b0 :: suite) pos'] [] [] pos) (fun D σ H => tb (wTr X.K c i ts Wo D) D σ H) := by
  refine ⟨fun pins s σ H D I t => ?_⟩
  have okX := I.ok
  have frA : X.A.frames = some (X.env :: X.outer) := by rw [okX.frames, stk]
  refine wpAny_Try_except (wpAny_mono ((hB (wTr X.K c i ts Wo D) (X.pn ++ pins) _ (fun u s' xx => ?_) PassesOwn.looking).run [] s σ H D (I.toTry _) t) (fun f s1 sp => ?_) fun _ _ z => z)
  · obtain ⟨a, B, sI, pz, σ1, H1, cls, d, rfl, J0, nB, ups, sk, na, oss, bare, C, b, ec, hb, yes, no⟩ := xx
    subst ec
    have J1 : Inv X pins σ1 H1 sI := J0.ofTry okX
    have sk1 : Sky B (X.env :: X.outer) a (Zc (.ref C) d) X.env.locals s'.heap := stk ▸ sk
    have offr : ∀ {h : Heap} {o : Obj} {vs : Array Value}, h.FunFrames B (X.env :: X.outer) → h.get? a = some o → o.data = .fields vs → a ∉ frs (X.env :: X.outer) := fun {h o vs} ff e1 e2 m => by
      obtain ⟨_, o2, e3, nf⟩ := ff.mem m
      rw [e1] at e3
      cases e3
      exact nf _ e2
    show wpAny (model X.prog X.w) X.A (noteFrame (.ref a) X.env) _ _ _
    refine sk1.land Zc.steady frA frm fun h1 fly1 up1 => ?_
    have K1 : Inv X pins σ1 H1 { s' with heap := h1 } := J1.landed nB fly1.1 (ups.trans up1) oss bare
    obtain ⟨o1, v1, g1, z1, d1⟩ := fly1.there
    have nfr := offr fly1.2.2.1 g1 d1
    have nL : a ≠ X.env.locals := fun z => nfr (List.mem_filterMap.mpr ⟨X.env, List.mem_cons_self, by rw [frm, z]⟩)
    have nI : sI.heap.get? a = none := by
      cases e : sI.heap.get? a with
      | none => rfl
      | some o =>
        have z := nB a o e (by rw [stk]; exact nfr)
        rw [fly1.2.1] at z
        cases z
    have n0 : X.s_0.heap.get? a = none := by
      cases e : X.s_0.heap.get? a with
      | none => rfl
      | some o =>
        obtain ⟨o', z⟩ := J1.base.there a o e (by rw [hx]; simp)
        rw [nI] at z
        cases z
    have npin : ∀ p ∈ X.pn ++ pins, p.1 ≠ a := fun p hp z => by
      have w := (J1.pin p hp).1
      rw [z, nI] at w
      cases w
    have T1 := suite_inv (a := a) (track_inv K1 g1 z1 d1 na n0 nL npin)
    refine wpAny_handleBy_cons (codeAny_handlers_test ?_) (by intro z; cases z)
    have ty : PySem.W.Looks (model X.prog X.w) h1 (typeOf (.ref a)) (.ref C) := fun A Q E s k q => wpAny_typeOf_ref (k _ _ g1) (by rw [z1.1]; exact q)
    have mt := PySem.W.exm_one (M := model X.prog X.w) K1.kIn ty hb
    have nm : ∀ {Q : Value → Shared → Prop} {E : Value → Shared → Prop}, Q c { s' with heap := h1 } → wpAny (model X.prog X.w) (X.A.mark (some (.ref a))) (eval (.Name x np) X.env) Q E { s' with heap := h1 } := fun {Q E} q => by
      obtain ⟨m1, m2, m3 | ⟨m3, m4, m5⟩⟩ := nms
      · exact ld_glob (X := X.suite a (X.pn ++ pins)) T1 m1 m3 q m2
      · exact ld_blt (X := X.suite a (X.pn ++ pins)) T1 m1 m3 m4 q m5 m2
    refine nm (mt.here ?_)
    cases b with
    | true =>
      refine codeAny_handlers_suite_as (HandSPX.lands_againZ fly1 fun h2 fly2 up2 => ?_)
      have K2 : Inv X pins σ1 H1 { s' with heap := h2 } := J1.landed nB fly2.1 ((ups.trans up1).trans up2) oss bare
      obtain ⟨o2, v2, g2, z2, d2⟩ := fly2.there
      have T2 := suite_inv (a := a) (track_inv K2 g2 z2 d2 na n0 nL npin)
      refine store_ok (X := X.suite a (X.pn ++ pins)) (v := .ref a) T2 nd at_ (show Loc X.env.scope n from .inl loc) rfl (fun s3 T3 => ?_) (.inr loc)
      refine wpAny_mono ((hS a (X.pn ++ pins)).run [] s3 _ _ _ T3 (yes rfl a na)) (fun f s4 sp => ?_) fun _ _ z => z.elim
      have last : ∀ {σ4 : L2.St} {H4 : Hp} {Q : Shared → Prop}, Inv (X.suite a (X.pn ++ pins)) [] σ4 H4 s4 → (∀ s5, Inv X pins (σ4.set i none) H4 s5 → Q s5) →
          wpAny (model X.prog X.w) X.A (do bindName X.env n .none; unbindBehindTheSuite X.env n pos') (fun _ s5 => Q s5) X.xe s4 := fun {σ4 H4 Q} T4 q => gone_ok (suite_out T4 okX) nd at_ loc q
      cases f with
      | ret u =>
        obtain ⟨v, σ4, H4, T4, rv, q⟩ := sp
        exact last T4 fun s5 J5 => ⟨v, _, _, J5, rv, q⟩
      | next =>
        obtain ⟨σ4, H4, T4, q⟩ := sp
        exact last T4 fun s5 J5 => ⟨_, _, J5, q⟩
      | brk =>
        obtain ⟨σ4, H4, T4, q⟩ := sp
        exact last T4 fun s5 J5 => ⟨_, _, J5, q⟩
      | cont =>
        obtain ⟨σ4, H4, T4, q⟩ := sp
        exact last T4 fun s5 J5 => ⟨_, _, J5, q⟩
    | false =>
      refine wpAny_handleBy_nil ?_
      obtain ⟨q1, q2, q3, o3, v3, tr, oT, w3, g3, z3, d3, t3, rr⟩ := id fly1
      have out : wpAny (model X.prog X.w) X.A (setFlight (.ref a) X.env.frame) (fun _ s2 => wpAny (model X.prog X.w) X.A (throw (.ref a) : Sem Flow) (SP X pins D) X.xe s2) X.xe { s' with heap := h1 } := by
        rw [frm]
        refine HandSPX.setFlight_upZ fly1 fun h2 held up2 => wpAny_throw (tk _ _ ⟨a, B, sI, pins, σ1, H1, .ref C, d, rfl, J1, nB, (ups.trans up1).trans up2, .inr (.inr ?_), na, oss, bare, no rfl⟩)
        rw [stk]
        exact held
      unfold PySem.passOn
      refine wpAny_bind (wpAny_field g3 d3 t3 ?_)
      rw [if_neg (show ¬ (Value.ref tr == Value.none) = true by simp)]
      first
        | exact wpAny_bind (wpAny_pure (wpAny_bind out))
        | exact wpAny_bind out
  · cases f with
    | ret u =>
      obtain ⟨v, σ2, H2, J2, rv, q⟩ := sp
      exact ⟨v, σ2, H2, J2.ofTry okX, rv, q⟩
    | next =>
      obtain ⟨σ2, H2, J2, q⟩ := sp
      exact wpAny_execs_nil ⟨σ2, H2, J2.ofTry okX, q⟩
    | brk =>
      obtain ⟨σ2, H2, J2, q⟩ := sp
      exact ⟨σ2, H2, J2.ofTry okX, q⟩
    | cont =>
      obtain ⟨σ2, H2, J2, q⟩ := sp
      exact ⟨σ2, H2, J2.ofTry okX, q⟩
end
end DD

set_option Elab.async false
set_option linter.all false
set_option maxRecDepth 100000
set_option maxHeartbeats 4000000
namespace DD
open PySem PySem.Spec PyProof.Rows L2

def mTryAs (isx : Str → Option Bool) (i : Nat) (mb ms : M Fl) : M Fl := fun r S => match mb r S with
  | .exc e r1 S1 => match isx e.c with
    | some true => match ms (r1.set i (some (.exc e.c e.fs))) S1 with
      | .ok f r2 S2 => .ok f (r2.set i none) S2
      | _ => .no
    | some false => .exc e r1 S1
    | none => .no
  | o => o
def ExmOk (K : PySem.W.Frag) (c : Value) (isx : Str → Option Bool) : Prop := ∀ x b, isx x = some b → x ≠ "" ∧ PySem.W.exmOne K (.ref (He.ga K x)) c = some b
section
variable {T : Tb} {K : PySem.W.Frag} {H : Hp} {g : Gh} {n i : Nat} {σ : L2.St} {r : Rho} {S : Sto}
theorem Rep.clear (R : Rep T K H g r S σ) : Rep T K H g (r.set i none) S (σ.set i none) := by
  refine ⟨R.sub, by rw [List.length_set, List.length_set]; exact R.len, fun j e he => ?_, R.obj, R.inj, R.apG, R.apW, R.gw, R.wd, R.bse.step (Sub.refl _) (fun _ _ => rfl) (Nat.le_refl _)⟩
  by_cases hj : j = i
  · subst hj
    by_cases hl : j < r.length
    · rw [List.getElem?_set_self hl] at he; cases he
    · rw [List.getElem?_eq_none (by simpa using hl)] at he; cases he
  · rw [List.getElem?_set_ne (Ne.symm hj)] at he ⊢
    exact R.slot j e he
theorem ExR.isF {a : Addr} {c : Str} {fs : List (Str × D)} {dd : Option Addr} (hc : c ≠ "") (h : ExR K H g n fs dd) (ha : g.G a = some (.ext (ExcAt (He.ga K c) a dd))) : IsF K g.G g.io n (.ref a) (.exc c fs) := by
  rcases h with ⟨rfl, rfl⟩ | ⟨d, ns, vs, ds, rfl, h2, h3, h4, h5⟩
  · exact .exc hc ha
  · exact .excf hc ha h2 h3 h4 h5
end
theorem takesF {X : Cx} {a : Addr} {pn : List (Addr × Obj)} : Takes (X.suite a pn) (fun _ _ _ _ => False) := fun _ _ ⟨_, _, _, _, _, _, _, _, _, _, _, _, _, _, _, _, w⟩ => w
section
variable {X : Cx} {T : Tb} {qa qb : Bool} {x n : Str} {c : Value} {i : Nat} {body suite : List Stmt} {b0 : Stmt} {np pos pos' : Pos} {mb ms : M Fl} {isx : Str → Option Bool}
theorem ds_try_as (hk : ExmOk X.K c isx) (hx : X.ex = []) (stk : X.stack = X.env :: X.outer) (frm : X.env.frame = some X.env.locals) (nd : X.N.Nodup) (at_ : X.N[i]? = some n) (loc : X.env.kindOf n = some .local) (nms : Names X x c)
    (hB : ∀ (pn : List (Addr × Obj)) (xe : Value → Shared → Prop), DSs (X.tr pn xe) T qa body mb) (hS : ∀ a pn, DSs (X.suite a pn) T qb (b0 :: suite) ms) :
    DS X T (qa && qb) (.Try body [.ExceptHandler (some (.Name x np)) (some n) (b0 :: suite) pos'] [] [] pos) (mTryAs isx i mb ms) := fun W tk =>
  psImp (ps_try_tr (tb := fun W => tsOf T X.K qa mb W) (ts := tsOf T X.K qb ms (fun _ _ _ _ => False)) (Wo := W) hx stk frm nd at_ loc nms tk (fun W pn xe tW _ => hB pn xe W tW) fun a pn => hS a pn _ takesF) fun E σ H ⟨g, r, S, R, k⟩ => by
    refine ⟨g, r, S, R, ?_⟩
    have wa : (qa && qb) = true → qa = true := fun z => (Bool.and_eq_true_iff.mp z).1
    have wb : (qa && qb) = true → qb = true := fun z => (Bool.and_eq_true_iff.mp z).2
    unfold mTryAs at k
    cases e : mb r S with
    | no => rw [e] at k; exact k.elim
    | ok f r1 S1 =>
      rw [e] at k
      cases f with
      | nx => exact fun σ' H' g' a b => k σ' H' g' a (b.weak wa)
      | bk => exact fun σ' H' g' a b => k σ' H' g' a (b.weak wa)
      | ct => exact fun σ' H' g' a b => k σ' H' g' a (b.weak wa)
      | rt d => exact fun σ' v H' g' a b c d => k σ' v H' g' a b c (d.weak wa)
    | exc x1 r1 S1 =>
      rw [e] at k
      simp only at k
      intro σ1 H1 g1 dd R1 st1 er
      cases eb : isx x1.c with
      | none => rw [eb] at k; exact k.elim
      | some b =>
        obtain ⟨hc, hm⟩ := hk _ _ eb
        rw [eb] at k
        cases b with
        | false => exact ⟨_, false, rfl, hm, (fun z => by cases z), fun _ => k σ1 H1 g1 dd R1 (st1.weak wa) er⟩
        | true =>
          refine ⟨_, true, rfl, hm, fun _ a na => ?_, fun z => by cases z⟩
          obtain ⟨R2, st2⟩ := finFrz (q := qb) (o := .ext (ExcAt (He.ga X.K x1.c) a dd)) R1 na
          have er2 : ExR X.K (upd H1 a (.ext (ExcAt (He.ga X.K x1.c) a dd))) { g1 with G := upd g1.G a (.ext (ExcAt (He.ga X.K x1.c) a dd)) } S1.length x1.fs dd := er.mono st2.gm st2.im st2.nm
          have R3 := R2.intoP (i := i) (SlotP.ofF (er2.isF hc upd_same))
          have st3 := (st1.weak (q' := qa && qb) wa).trans (st2.stm.weak (q' := qa && qb) wb)
          rw [Bool.and_self] at st3
          refine ⟨_, _, _, R3, ?_⟩
          simp only at k
          cases em : ms (r1.set i (some (.exc x1.c x1.fs))) S1 with
          | no => rw [em] at k; exact k.elim
          | exc y r2 S2 => rw [em] at k; exact k.elim
          | ok f r2 S2 =>
            rw [em] at k
            have tr : ∀ {H4 g4}, Stp qb false (upd H1 a (.ext (ExcAt (He.ga X.K x1.c) a dd))) { g1 with G := upd g1.G a (.ext (ExcAt (He.ga X.K x1.c) a dd)) } S1.length H4 g4 S2.length → Stp (qa && qb) false H g S.length H4 g4 S2.length := fun {H4 g4} st4 => by
              have z := st3.trans (st4.weak (q' := qa && qb) wb)
              rw [Bool.and_self] at z
              exact z
            cases f with
            | nx => exact fun σ4 H4 g4 R4 st4 => k _ H4 g4 R4.clear (tr st4)
            | bk => exact fun σ4 H4 g4 R4 st4 => k _ H4 g4 R4.clear (tr st4)
            | ct => exact fun σ4 H4 g4 R4 st4 => k _ H4 g4 R4.clear (tr st4)
            | rt d => exact fun σ4 v H4 g4 R4 is4 fo4 st4 => k _ v H4 g4 R4.clear is4 ((fo4.backS st2).backS st1) (tr st4)
end
end DD

set_option Elab.async false
set_option linter.all false
set_option maxRecDepth 100000
set_option maxHeartbeats 4000000
namespace DD
open PySem PySem.Spec PyProof.Rows L2

section
variable {T : Tb} {K : PySem.W.Frag} {H : Hp} {g : Gh} {r : Rho} {S : Sto} {σ : L2.St}
theorem set_same {S : Sto} {t : Nat} {o : Ob} (h : S[t]? = some o) : S.set t o = S := by
  refine List.ext_getElem? fun i => ?_
  by_cases e : i = t
  · subst e
    rw [List.getElem?_set_self (List.getElem?_eq_some_iff.mp h).1, h]
  · rw [List.getElem?_set_ne (Ne.symm e)]
theorem upd_comm {H : Hp} {a b : Addr} {x y : HO} (h : a ≠ b) : upd (upd H a x) b y = upd (upd H b y) a x := by
  funext z
  by_cases e1 : z = a
  · subst e1
    rw [upd_ne h, upd_same, upd_same]
  · by_cases e2 : z = b
    · subst e2
      rw [upd_same, upd_ne e1, upd_same]
    · rw [upd_ne e2, upd_ne e1, upd_ne e1, upd_ne e2]
theorem tab_more {t : Nat} {c : Addr} {q : Str} {ps : Array Value} {pos : Pos} (R : Rep T K H g r S σ) (ht : S[t]? = some (.tab q)) (hP : H (g.io t) = some (.tbl ps)) (ok : TabOk K g.G g.io S.length ps q) (hc : H c = none) :
    Rep T K (upd (upd H (g.io t) (.tbl (ps ++ #[rawInt pos.line, rawInt pos.col, .ref c]))) c (LamX.CodeO c q)) { g with G := upd g.G c (LamX.CodeO c q) } r S σ ∧
      Stp false true H g S.length (upd (upd H (g.io t) (.tbl (ps ++ #[rawInt pos.line, rawInt pos.col, .ref c]))) c (LamX.CodeO c q)) { g with G := upd g.G c (LamX.CodeO c q) } S.length := by
  have hk : t < S.length := (List.getElem?_eq_some_iff.mp ht).1
  have nc : g.io t ≠ c := fun z => by rw [z, hc] at hP; cases hP
  rw [upd_comm nc]
  obtain ⟨R1, st1⟩ := finFrz (q := false) (o := LamX.CodeO c q) R hc
  have el : (ps ++ #[rawInt pos.line, rawInt pos.col, Value.ref c]).toList = ps.toList ++ [rawInt pos.line, rawInt pos.col, .ref c] := by simp
  have R2 := R1.setObj (k := t) (o' := .tab q) (u := .tbl (ps ++ #[rawInt pos.line, rawInt pos.col, .ref c])) hk ⟨_, upd_same, by
    refine ⟨by rw [el]; exact PySem.TriplesOk_snoc _ _ _ _ ok.1, fun p' cv e => ?_⟩
    rw [el] at e
    rcases LamX.among_app _ ok.1 e with z | z
    · obtain ⟨c0, e1, e2⟩ := ok.2 p' cv z
      exact ⟨c0, e1, st1.gm _ _ e2⟩
    · exact ⟨c, z, upd_same⟩⟩
  rw [set_same ht] at R2
  exact ⟨R2, st1.trans (Stp.setObj hk)⟩
end
section
variable {X : Cx} {T : Tb} {pins : List (Addr × Obj)} {σ : L2.St} {H : Hp} {s : Shared} {g : Gh} {r : Rho} {S : Sto}
theorem lam_new {t : Nat} {c P : Addr} {params : Arguments} {body : Expr} {scope : Scope} {pos : Pos} {E Q : Value → Shared → Prop} (I : Inv X pins σ H s) (R : Rep T X.K H g r S σ) (ht : S[t]? = some (.tab (X.env.qual ++ "<lambda>"))) (eP : g.io t = P) (B : LamX.TabB X.base X.mg c P) (hcode : X.env.code = .ref c)
    (hdef : defaultsOf params X.env = ([], [])) (hfree : ∀ y ∈ scope.names, y.2 = .free → ∃ c, X.env.cells.lookup y.1 = some c)
    (h : ∀ (f c' : Addr) (pm ctv : Value) (H1 : Hp) (g1 : Gh) (s1 : Shared), Inv X pins σ H1 s1 → Rep T X.K H1 g1 r S σ → Stp false true H g S.length H1 g1 S.length →
      s1.heap.get? f = some (PySem.W.kla_obj "<lambda>" (X.env.qual ++ "<lambda>") params body scope (cloFrom X.env.cells scope.names []) pm c' ctv) → H1 f = none → f ∉ frs X.stack → g1.G c' = some (LamX.CodeO c' (X.env.qual ++ "<lambda>")) → Q (.ref f) s1) :
    wpAny (model X.prog X.w) X.A (eval (.Lambda params body scope pos) X.env) Q E s := by
  obtain ⟨ps, hP, ok⟩ := R.obj t _ ht
  have hP0 : H P = some (.tbl ps) := eP ▸ hP
  have bm : s.heap.BuiltinsAt X.mg P := B.bm.keeps I.bk
  have oP : s.heap.get? P = some { cls := .none, data := .fields ps } := I.hok P _ hP0
  have out : ∀ f, s.heap.objs.size ≤ f → f ∉ frs X.stack := fun f hf m => (List.mem_cons.mp (I.stkSub _ m)).elim (fun e => absurd (Nat.lt_of_lt_of_le (e ▸ I.lt) hf) (Nat.lt_irrefl _)) fun e => I.nofs hf e
  refine PySem.W.kla_eval hdef ?_
  cases am : codeAmong pos ps.toList with
  | some cv =>
    obtain ⟨c', rfl, hG⟩ := ok.2 pos cv am
    refine PySem.W.kla_makeFunctionHit (mg := X.mg) (c := c) (P := P) (ps := ps) (closure_ok hfree) I.ok.glob (I.mod.glob.keeps I.bk) hcode (B.code.keeps I.bk) oP ok.1 am bm fun ctv h1 tk kp sz => ?_
    exact h _ c' ((X.mg "__name__").getD .none) ctv H g _ (I.kept (t' := tk) fun b o e => Heap.get?_push_of_some _ (kp b o e)) R Stp.refl (Heap.get?_push_size _ rfl) (I.hok.fresh sz) (out _ sz) hG
  | none =>
    refine PySem.W.kla_makeFunction (mg := X.mg) (c := c) (P := P) (ps := ps) (closure_ok hfree) I.ok.glob (I.mod.glob.keeps I.bk) hcode (B.code.keeps I.bk) oP ok.1 am B.gP bm fun c' ctv h1 tk kp ge lt rec tb => ?_
    obtain ⟨c2, oc, vs, tq, e2, g2, d2, v2⟩ := rec
    cases e2
    have nC : H c' = none := I.hok.fresh ge
    have sz : s.heap.objs.size ≤ h1.objs.size := Nat.le_trans ge (Nat.le_of_lt lt)
    have J := LamX.inv_table (t' := tk) (more := #[rawInt pos.line, rawInt pos.col, .ref c']) (h' := h1.push (PySem.W.kla_obj "<lambda>" (X.env.qual ++ "<lambda>") params body scope (cloFrom X.env.cells scope.names []) ((X.mg "__name__").getD .none) c' ctv)) I hP0
      (fun b o n e => Heap.get?_push_of_some _ (kp b o n e)) (Heap.get?_push_of_some _ tb) ge ⟨oc, vs, tq, Heap.get?_push_of_some _ g2, d2, v2⟩
    obtain ⟨R1, st1⟩ := tab_more (pos := pos) R ht hP ok nC
    rw [eP] at R1 st1
    refine h h1.objs.size c' ((X.mg "__name__").getD .none) ctv _ _ _ J R1 st1 (Heap.get?_push_size _ rfl) ?_ (out _ sz) upd_same
    rw [upd_ne (Nat.ne_of_gt lt), upd_ne (Nat.ne_of_gt (Nat.lt_of_lt_of_le (Heap.lt_size oP) sz))]
    exact I.hok.fresh sz
end
end DD

set_option Elab.async false
set_option linter.all false
set_option maxRecDepth 100000
set_option maxHeartbeats 4000000
namespace DD
open PySem PySem.Spec PyProof.Rows L2

def Tb.at (T : Tb) (g : Gh) (n : Nat) : Tb := { T with bg := g, bn := n }
def capR (caps : List Nat) (r : Rho) : Rho := r.mapIdx fun i d => if caps.contains i then (match d with
  | some x => if frO x then some x else none
  | none => none) else none
def lamF (mb : M D) (rX : Rho) : Sto → Out D := fun S => match mb rX S with
  | .ok d r S' => if borD d then .no else .ok d r S'
  | o => o
abbrev lamD (f : Nat) : D := .exc "" [("", .int f)]
def isLam (f : Nat) : Option (Option D) → Bool
  | some (some (.exc c [(_, .int z)])) => decide (c = "" ∧ z = f)
  | _ => false
def mAct (i f : Nat) (act : Sto → Out D) : M D := fun r S => if isLam f r[i]? = true then callM (fun _ S => act S) [] r S else .no
section
variable {T : Tb} {K : PySem.W.Frag} {H HZ : Hp} {g gZ : Gh} {r rX rZ : Rho} {S SZ : Sto} {σ σZ : L2.St} {q : Bool}
theorem Rep.rebase (R : Rep T K H g r S σ) : Rep (T.at g S.length) K H g r S σ :=
  ⟨R.sub, R.len, R.slot, fun k o h => by
    have z := R.obj k o h
    cases o <;> exact z, R.inj, R.apG, R.apW, R.gw, R.wd, ⟨Sub.refl _, fun _ _ => rfl, Nat.le_refl _⟩⟩
theorem Rep.base {T' : Tb} (hc : T'.cA = T.cA) (R : Rep T K H g r S σ) (b : Bse T' g S.length) : Rep T' K H g r S σ :=
  ⟨R.sub, R.len, R.slot, fun k o h => by
    have z := R.obj k o h
    cases o with
    | ins c fs =>
      obtain ⟨dx, vs, z1, z2⟩ := z
      exact ⟨dx, vs, by rw [hc]; exact z1, z2⟩
    | arr ds => exact z
    | tab q => exact z, R.inj, R.apG, R.apW, R.gw, R.wd, b⟩
theorem IsF.ofSlotP {v : V} {rt : Rt} {n : Nat} : ∀ {d : D}, frO d = true → SlotP K H g n rt v d → IsF K g.G g.io n v d
  | .own _, h, _ => by cases h
  | .bor _, h, _ => by cases h
  | .non, _, h => h
  | .bl _, _, h => h
  | .int _, _, h => h
  | .str _, _, h => h
  | .tup _, _, h => h
  | .lst _, _, h => h
  | .dct _, _, h => h
  | .ob _, _, h => h
  | .exc _ _, _, h => h
  | .scr _, _, h => h
theorem capR_at {caps : List Nat} {i : Nat} {d : D} (h : (capR caps r)[i]? = some (some d)) : r[i]? = some (some d) ∧ frO d = true := by
  unfold capR at h
  rw [List.getElem?_mapIdx] at h
  obtain ⟨o, e1, e2⟩ := Option.map_eq_some_iff.mp h
  split at e2
  · cases o with
    | none => cases e2
    | some x =>
      simp only at e2
      split at e2
      · rename_i hf
        cases e2
        exact ⟨e1, hf⟩
      · cases e2
  · cases e2
theorem cap_rep {n : Nat} {caps : List Nat} (RX : Rep T K H g r S σ) (RZ : Rep (T.at g S.length) K HZ gZ rZ SZ σZ) : Rep (T.at g S.length) K HZ (noSl gZ) (capR caps r) SZ σ := by
  have R0 := RZ.inn
  refine ⟨R0.sub, by unfold capR; rw [List.length_mapIdx]; exact RX.len, fun i d h => ?_, R0.obj, R0.inj, R0.apG, R0.apW, R0.gw, R0.wd, R0.bse⟩
  obtain ⟨h1, h2⟩ := capR_at h
  obtain ⟨v, h3, h4⟩ := RX.slot i d h1
  exact ⟨v, h3, SlotP.ofF ((IsF.ofSlotP h2 h4).mono (G' := (noSl gZ).G) (io' := (noSl gZ).io) RZ.bse.gG RZ.bse.gi RZ.bse.gn)⟩
theorem okE_lam {ra : Bool} {mb : M D} {Q : VK} {E : XK} (ns : NoSl g) (k : okF T K q H g S.length (lamF mb rX S) Q E) : okE T K q ra H g S.length σ (mb rX S) Q (fun cls d _ H' => E cls d H') := by
  unfold lamF at k
  cases e : mb rX S with
  | no => rw [e] at k; exact k.elim
  | exc x r1 S1 =>
    rw [e] at k
    exact fun H1 g1 dd R1 st1 ex => k H1 (leaveW g1) dd R1.leave (NoSl.leave _) (st1.stm.leave ns) (ex.mono (g := g1) (g' := leaveW g1) (Sub.refl _) (fun _ _ => rfl) (Nat.le_refl _))
  | ok d r1 S1 =>
    rw [e] at k
    simp only at k
    intro v H1 g1 R1 is1 fo1 st1
    by_cases hb : borD d = true
    · rw [if_pos hb] at k; exact k.elim
    · rw [if_neg hb] at k
      exact k v H1 (leaveW g1) R1.leave (NoSl.leave _) ((is1.noBor hb).leave (by simpa using hb)) fo1 (st1.stm.leave ns)
theorem isLam_V {i f : Nat} {v : V} {n : Nat} {o : Option (Option D)} (h : isLam f o = true) : ∃ d, o = some (some d) ∧ ∀ {rt : Rt}, SlotP K H g n rt v d → v = .ref f := by
  unfold isLam at h
  split at h
  · rename_i c y z
    obtain ⟨e1, e2⟩ := of_decide_eq_true h
    subst e1
    refine ⟨_, rfl, fun {rt} q => ?_⟩
    have q' : IsF K g.G g.io n v (.exc "" [(y, .int z)]) := q
    subst e2
    cases q' with
    | opq => rfl
    | excf hc => exact absurd rfl hc
  · cases h
end
section
variable {X : Cx} {T : Tb} {pins : List (Addr × Obj)} {σ : L2.St} {H : Hp} {s : Shared} {g : Gh} {r : Rho} {S : Sto}
theorem de_act {E : XK} {Ng : List Str} {qg a : Str} {sg scope : Scope} {fg f c' : Addr} {cdg pm ctv : Value} {params : Arguments} {body : Expr} {k i : Nat} {pn : List (Addr × Obj)} {xe : Value → Shared → Prop} {q ra : Bool} {mb : M D} {caps : List Nat} {p1 p2 : Pos}
    (I : Inv X pins σ H s) (RX : Rep T X.K H g r S σ) (L : LamX.LamS X.env.scope scope) (hf : s.heap.get? f = some (PySem.W.kla_obj "<lambda>" (X.env.qual ++ "<lambda>") params body scope (cloFrom X.env.cells scope.names []) pm c' ctv)) (hfn : H f = none) (hfr : f ∉ frs X.stack)
    (hc : g.G c' = some (LamX.CodeO c' (X.env.qual ++ "<lambda>"))) (hbind : bindArgs (PySem.W.kla_fn "<lambda>" (X.env.qual ++ "<lambda>") params body scope (cloFrom X.env.cells scope.names []) pm (.ref c') ctv) ⟨[], []⟩ = pure [])
    (hr : Room (k + 1) (X.A.deeper (envOfC qg sg s.heap.objs.size fg cdg))) (hgd : X.A.guards = some [])
    (hbody : ∀ (A : Around) (outer : List Env) (s2 : Shared) (H2 : Hp) (E2 : XK), Room k (A.deeper (LamX.lamEnv X scope s2.heap.objs.size f c')) → A.guards = some [] → DE (LamX.lamCx X A outer s2 H2 E2 scope f c') (T.at g S.length) q ra body mb)
    (hN : Ng[i]? = some a) (hv : Vis sg a) (hd : (a == ("__debug__" : Str)) = false := by decide) (hcd : (a == ("__classdict__" : Str)) = false := by decide) :
    DE ((cxOf (L2.CX X.prog X.w) X.prog X.w X.K X.mg X.base Ng qg sg fg cdg X.A X.stack s H E).tr pn xe) (T.at g S.length) q false (.Call (.Name a p1) [] [] p2) (mAct i f (lamF mb (capR caps r))) := fun W tk => by
  refine ⟨fun pz sz σz HZ Q IZ ⟨gz, rz, Sz, RZ, k1⟩ => ?_⟩
  unfold mAct at k1
  split at k1
  case isFalse => exact k1.elim
  rename_i hl
  have hl' := hl
  obtain ⟨d, hrd, _⟩ := isLam_V (K := X.K) (H := HZ) (g := gz) (n := Sz.length) (v := .non) (i := i) hl
  obtain ⟨v0, hσ, hs⟩ := RZ.slot i d hrd
  obtain ⟨d', e', toF⟩ := isLam_V (K := X.K) (H := HZ) (g := gz) (n := Sz.length) (v := v0) (i := i) hl'
  rw [hrd] at e'
  cases e'
  cases toF hs
  refine wpAny_Call_Name_kw (thn ((pe_var (pos := p1) (i := i) hN hv hd hcd).run pz sz σz HZ (fun v H1 => v = .ref f ∧ H1 = HZ) IZ ⟨.ref f, hσ, rfl, rfl⟩) fun u s1 ⟨v, H1, I1, r1, e1, e2⟩ => ?_)
  subst e1 e2
  cases (show u = Value.ref f from r1)
  have at1 : s1.heap.get? f = some (PySem.W.kla_obj "<lambda>" (X.env.qual ++ "<lambda>") params body scope (cloFrom X.env.cells scope.names []) pm c' ctv) := I1.base.keep f _ hf hfn hfr (fun z => List.not_mem_nil z)
  refine PySem.W.callWith_F0 ⟨_, _, _, _, at1⟩ ?_
  have cH : H1 c' = some (LamX.CodeO c' (X.env.qual ++ "<lambda>")) := RZ.sub _ _ (RZ.bse.gG _ _ hc)
  obtain ⟨⟨oc, vs, tq, g1, g2, g3⟩, _, _⟩ := I1.hok c' _ cH
  have RL := cap_rep (n := 0) (caps := caps) RX RZ
  have ok1 := okF_of RZ k1
  refine wpAny_call (codeAny_mono (?_ : codeAny (model X.prog X.w) (X.A.deeper (envOfC qg sg s.heap.objs.size fg cdg)) (.call (.ref f) ⟨[], []⟩) (CR (L2.CX X.prog X.w) (envOfC qg sg s.heap.objs.size fg cdg :: X.stack) X.prog X.w H1 s1 Q (fun cls d H' => W cls d σz H')) s1) fun res s2 hres => ?_)
  · refine PySem.W.kla_callFunE hr.depth at1 rfl L.co L.gen rfl ⟨c', oc, vs, tq, rfl, g1, g2, g3⟩ ?_
    rw [hbind]
    refine wpAny_pure (wpAny_newFunctionEnv (fun y hy => (L.own y hy).2) (fun y hy => absurd hy List.not_mem_nil) (fun h2 ns2 sb => ⟨I1.nolimit.fresh _ sb, ?_⟩) L.kind)
    show codeAny _ _ (.expr body (LamX.lamEnv X scope s1.heap.objs.size f c')) _ _
    have kp : ∀ b o, s1.heap.get? b = some o → h2.get? b = some o := fun b o e => sb.extBut b o (Nat.ne_of_lt (Heap.lt_size e)) (Heap.get?_push_of_some _ e)
    have J := LamX.lam_start2 (A := X.A.deeper (envOfC qg sg s.heap.objs.size fg cdg)) (outer := envOfC qg sg s.heap.objs.size fg cdg :: X.stack) (E := fun cls d H' => W cls d σz H') (f := f) (c' := c') (tk := s1.toks + ([] : List (Str × Value)).length) I L I1.env0 hr.hd I1.base ns2 kp
    have tk2 : Takes (LamX.lamCx X (X.A.deeper (envOfC qg sg s.heap.objs.size fg cdg)) (envOfC qg sg s.heap.objs.size fg cdg :: X.stack) s1 H1 (fun cls d H' => W cls d σz H') scope f c') (fun cls d _ H' => W cls d σz H') := takes_of rfl rfl rfl rfl
    refine PySem.W.kla_codeExpr (wpAny_mono ((hbody _ _ s1 H1 (fun cls d H' => W cls d σz H') (hr.deeper _) hgd _ tk2).run [] _ _ H1 Q J ⟨noSl gz, _, Sz, RL, okE_lam (fun a i h => noSl_no gz a i h) ok1⟩) (fun v s' hq => ?_) fun e s' hq => hq)
    obtain ⟨w', H', J', rv, hq⟩ := hq
    exact ⟨w', H', J'.os, J'.bare, J'.base, J'.hok, rv, hq⟩
  · cases res with
    | error e => exact tk e s2 (XE.of_call I1 (fun cls d H' h => h) hres)
    | ok fl =>
      cases fl with
      | ret u => exact I1.after hres
      | next => exact hres.elim
      | brk => exact hres.elim
      | cont => exact hres.elim
end
end DD

set_option Elab.async false
set_option linter.all false
set_option maxRecDepth 100000
set_option maxHeartbeats 4000000
namespace DD
open PySem PySem.Spec PyProof.Rows L2

structure Like (T0 T : Tb) (tabs : List (Nat × Addr)) : Prop where
  cA : T.cA = T0.cA
  xA : T.xA = T0.xA
  tb : ∀ p ∈ tabs, p.1 < T.bn ∧ T.bg.io p.1 = p.2
open Classical in
noncomputable def mAll (F : Nat → M D) : M D := fun r S => if ∀ f, F f r S = F 0 r S then F 0 r S else .no
def isTab (q : Str) : Option Ob → Bool
  | some (.tab p) => p == q
  | _ => false
noncomputable def mLam (t : Nat) (q : Str) (caps : List Nat) (φ : Nat → (Sto → Out D) → Fn) (mb : M D) : M D :=
  mAll fun f r S => if isTab q S[t]? = true then callM (φ f (lamF mb (capR caps r))) [lamD f] r S else .no
structure FnL (P : Program) (w : World) (T0 : Tb) (tabs : List (Nat × Addr)) (K : PySem.W.Frag) (mg : Str → Option Value) (base : Heap) (q : Bool) (k : Nat) (fg : Addr) (a : Str) (N : List Str) (qual : Str) (scope : Scope) (φ : Nat → (Sto → Out D) → Fn) : Prop where
  run : ∀ (gb : Gh) (nb : Nat) (A : Around) (outer : List Env) (s : Shared) (H : Hp) (f : Nat) (act : Sto → Out D) (Q : VK) (E : XK), Like T0 (T0.at gb nb) tabs → Room k A → A.guards = some [] → Env0 P w K mg base A outer s H →
    (∀ (cd : Value) (pn : List (Addr × Obj)) (xe : Value → Shared → Prop) (p1 p2 : Pos), DE ((cxOf (L2.CX P w) P w K mg base N qual scope fg cd A outer s H E).tr pn xe) (T0.at gb nb) false false (.Call (.Name a p1) [] [] p2) (mAct 0 f act)) →
    (∃ g S, Rep (T0.at gb nb) K H g [] S [] ∧ NoSl g ∧ okF (T0.at gb nb) K q H g S.length (φ f act [lamD f] S) Q E) →
    codeAny (model P w) A (.call (.ref fg) ⟨[.ref f], []⟩) (CR (L2.CX P w) outer P w H s Q E) s
theorem de_q {X : Cx} {T : Tb} {q ra : Bool} {e : Expr} {m : M D} (h : DE X T q ra e m) : DE X T false ra e m := fun W tk => peImp (h W tk) fun σ H Q ⟨g, r, S, R, k⟩ => ⟨g, r, S, R, k.wkq fun z => by cases z⟩
theorem fnL_of {P : Program} {w : World} {T0 : Tb} {tabs : List (Nat × Addr)} {K : PySem.W.Frag} {mg : Str → Option Value} {base : Heap} {q : Bool} {k : Nat} {x qual a : Str} {params : Arguments} {body : List Stmt} {scope : Scope} {dvs : List V} {kws : List (Str × V)} {fg : Addr} {fd : FuncData} {N : List Str} {m : Nat → (Sto → Out D) → M Fl}
    (Fd : FunD K x qual params body scope dvs kws fg fd) (S : FnScope N [a] scope) (hb : ∀ (s : Shared) (u : Value), BindsTo s fd ⟨[u], []⟩ [(a, u)])
    (hbody : ∀ (gb : Gh) (nb : Nat) (f : Nat) (act : Sto → Out D) (cdv : Value) (A : Around) (outer : List Env) (s : Shared) (H : Hp) (E : XK), Like T0 (T0.at gb nb) tabs → Room k (A.deeper (envOfC qual scope s.heap.objs.size fg cdv)) → A.guards = some [] →
      (∀ (pn : List (Addr × Obj)) (xe : Value → Shared → Prop) (p1 p2 : Pos), DE ((cxOf (L2.CX P w) P w K mg base N qual scope fg cdv A outer s H E).tr pn xe) (T0.at gb nb) false false (.Call (.Name a p1) [] [] p2) (mAct 0 f act)) →
      DSs (cxOf (L2.CX P w) P w K mg base N qual scope fg cdv A outer s H E) (T0.at gb nb) q body (m f act)) :
    FnL P w T0 tabs K mg base q (k + 1) fg a N qual scope fun f act => fnOf N (m f act) := by
  obtain ⟨oc, od, dV, kV, doc, pm, an, cdv, ct, osl, rfl, lk, hcd, _⟩ := Fd.ex
  refine ⟨fun gb nb A outer s H f act Q E like hr hgd e0 ha ⟨g, S0, R, ns, hq⟩ => ?_⟩
  have base_in : ∀ b o, base.get? b = some o → s.heap.get? b = some o := fun b o e => (e0.bs b o e).1
  have KI : K.In s.heap := e0.mod.kin.keeps base_in
  have kinds : ∀ y ∈ [a].zip [Value.ref f], scope.names.lookup y.1 = some .local ∨ (scope.names.lookup y.1 = some .cell ∧ ((cellsFrom (s.heap.objs.size + 1) scope.names []).lookup y.1).isSome = true) := fun y hy => by
    cases List.mem_singleton.mp hy
    exact (S.par a List.mem_cons_self).imp id fun z => ⟨z, PySem.W.cellsFrom_some _ _ _ (.inl z)⟩
  refine codeAny_call_function hr.depth (KI _ _ lk) rfl S.co S.gen rfl (PySem.W.codeRec_of KI hcd) (hb s (.ref f) _ _ _ _ (wpAny_newFunctionEnv_cells S.kind kinds fun env ee s1 x1 => ?_))
  subst ee
  refine ⟨(e0.mod.nolimit.keeps base_in).keeps x1.toInCall.keep, codeAny_func ?_⟩
  have tk : Takes (cxOf (L2.CX P w) P w K mg base N qual scope fg cdv A outer s H E) (fun cls d _ H' => E cls d H') := takes_of rfl rfl rfl rfl
  have J : Inv (cxOf (L2.CX P w) P w K mg base N qual scope fg cdv A outer s H E) [] (L2.start N [.ref f]) H s1 := inv_start S hr.hd e0 rfl (.cons rfl .nil) x1
  have isP : IsPs K H g S0.length [V.ref f] [lamD f] := .cons (IsP.ofF .opq) .nil
  have go := ((hbody gb nb f act cdv A outer s H E like (hr.deeper _) hgd (ha cdv)) _ tk).run [] s1 (L2.start N [.ref f]) H { nx := fun _ H' => Q .non H', rt := Q } J ⟨g, startR N [lamD f], S0, R.enter isP, okS_of (vs := [.ref f]) R ns hq⟩
  refine wpAny_mono go (fun fl s2 z => ?_) fun e s2 z => z
  cases fl with
  | next =>
    obtain ⟨σ2, H2, J2, qv⟩ := z
    exact ⟨V.non, H2, J2.os, J2.bare, J2.base, J2.hok, rfl, qv⟩
  | ret u =>
    obtain ⟨v, σ2, H2, J2, rv, qv⟩ := z
    exact ⟨v, H2, J2.os, J2.bare, J2.base, J2.hok, rv, qv⟩
  | brk =>
    obtain ⟨_, _, _, z⟩ := z
    exact z.elim
  | cont =>
    obtain ⟨_, _, _, z⟩ := z
    exact z.elim
section
variable {T : Tb} {K : PySem.W.Frag} {H : Hp} {g g1 : Gh} {S : Sto} {q : Bool} {n1 : Nat}
theorem okF.rebase {o : Out D} {Q : VK} {E : XK} (b : Bse T g S.length) (k : okF T K q H g S.length o Q E) : okF (T.at g1 n1) K q H g S.length o Q E := by
  cases o with
  | no => exact k
  | ok d r S1 => exact fun v H2 g2 R2 n2 i2 f2 s2 => k v H2 g2 (Rep.base (T := T.at g1 n1) (T' := T) rfl R2 (b.step s2.gm s2.im s2.nm)) n2 i2 f2 s2
  | exc e r S1 => exact fun H2 g2 dd R2 n2 s2 x2 => k H2 g2 dd (Rep.base (T := T.at g1 n1) (T' := T) rfl R2 (b.step s2.gm s2.im s2.nm)) n2 s2 x2
theorem okF.wkq {q' : Bool} {o : Out D} {Q : VK} {E : XK} {n : Nat} (h : okF T K q H g n o Q E) (hq : q = true → q' = true) : okF T K q' H g n o Q E := by
  cases o with
  | ok d r S => exact fun v H' g' a b c e st => h v H' g' a b c e (st.weak hq)
  | exc e r S => exact fun H' g' dd a b st => h H' g' dd a b (st.weak hq)
  | no => exact h
theorem Like.at {T0 : Tb} {tabs : List (Nat × Addr)} {n : Nat} (l : Like T0 T tabs) (b : Bse T g n) : Like T0 (T.at g n) tabs :=
  ⟨l.cA, l.xA, fun p hp => ⟨Nat.lt_of_lt_of_le (l.tb p hp).1 b.gn, (b.gi _ (l.tb p hp).1).trans (l.tb p hp).2⟩⟩
end
section
variable {X : Cx} {T0 : Tb} {gb : Gh} {nb : Nat} {tabs : List (Nat × Addr)}
theorem de_lamcall {q ql ra : Bool} {k kg : Nat} {fg c P : Addr} {t : Nat} {x a qg : Str} {Ng : List Str} {sg scope : Scope} {φ : Nat → (Sto → Out D) → Fn} {params : Arguments} {body : Expr} {mb : M D} {caps : List Nat} {p lpos pos : Pos}
    (F : FnL X.prog X.w T0 tabs X.K X.mg X.base q kg fg a Ng qg sg φ) (like : Like T0 (T0.at gb nb) tabs) (hr : Room (k + 2) X.A) (hk : kg ≤ k + 2) (hgd : X.A.guards = some []) (hg : Gl X x) (hm : X.mg x = some (.ref fg)) (hkp : PySem.W.keepIn X.K (.ref fg) = true)
    (hN : Ng[0]? = some a) (hv : Vis sg a) (ht : (t, P) ∈ tabs) (B : LamX.TabB X.base X.mg c P) (hcode : X.env.code = .ref c) (hdef : defaultsOf params X.env = ([], [])) (L : LamX.LamS X.env.scope scope)
    (hbind : ∀ (q : Str) (cl : List (Str × Addr)) (pm cv ctv : Value), bindArgs (PySem.W.kla_fn "<lambda>" q params body scope cl pm cv ctv) ⟨[], []⟩ = pure [])
    (hbody : ∀ (gb : Gh) (nb : Nat) (f c' : Addr) (A : Around) (outer : List Env) (s2 : Shared) (H2 : Hp) (E2 : XK), Like T0 (T0.at gb nb) tabs → Room k (A.deeper (LamX.lamEnv X scope s2.heap.objs.size f c')) → A.guards = some [] → DE (LamX.lamCx X A outer s2 H2 E2 scope f c') (T0.at gb nb) ql ra body mb)
    (hdb : (x == ("__debug__" : Str)) = false := by decide) (hd : (a == ("__debug__" : Str)) = false := by decide) (hcd : (a == ("__classdict__" : Str)) = false := by decide) :
    DE X (T0.at gb nb) false false (.Call (.Name x p) [.Lambda params body scope lpos] [] pos) (mLam t (X.env.qual ++ "<lambda>") caps φ mb) := fun W tk => by
  refine ⟨fun pins s σ H Q I ⟨g, r, S, R, k0⟩ => ?_⟩
  unfold mLam mAll at k0
  split at k0
  case isFalse => exact k0.elim
  rename_i hall
  have k1 : ∀ f, okE (T0.at gb nb) X.K false false H g S.length σ (if isTab (X.env.qual ++ "<lambda>") S[t]? = true then callM (φ f (lamF mb (capR caps r))) [lamD f] r S else .no) Q W := fun f => by
    rw [← hall f] at k0
    exact k0
  have hS : S[t]? = some (.tab (X.env.qual ++ "<lambda>")) := by
    have z := k1 0
    split at z
    · rename_i e
      unfold isTab at e
      split at e
      · rename_i p' e'
        rw [e', eq_of_beq e]
      · cases e
    · exact z.elim
  have hT : isTab (X.env.qual ++ "<lambda>") S[t]? = true := by rw [hS]; exact beq_self_eq_true _
  have eP : g.io t = P := (R.bse.gi _ (like.tb _ ht).1).trans (like.tb _ ht).2
  refine wpAny_Call_Name_kw (ld_glob I hg hm ?_ hdb)
  refine PySem.W.callWith_K (h₀ := X.base) I.ok.mod.kin hkp ?_ (by rfl) (by rfl)
  show wpAny _ _ (spliced ((false, eval (.Lambda params body scope lpos) X.env) :: backTo pos (starEach [] X.env))) _ _ s
  refine Calls.spliced_cons (lam_new I R hS eP B hcode hdef (L.has I.ok) fun f c' pm ctv H1 g1 s1 I1 R1 st1 at1 n1 fr1 hG => Calls.spliced_nil ⟨I1.kIn, ?_⟩)
  have k2 := k1 f
  rw [if_pos hT] at k2
  have k3 := okF_of R1 (okE.after (qa := false) (qb := false) st1 k2)
  have run : codeAny (model X.prog X.w) X.A (.call (.ref fg) ⟨[.ref f], []⟩) (CR (L2.CX X.prog X.w) X.stack X.prog X.w H1 s1 Q (fun cls d H' => W cls d σ H')) s1 :=
    F.run g1 S.length X.A X.stack s1 H1 f (lamF mb (capR caps r)) Q _ (Like.at (T := T0.at gb nb) like R1.bse) (hr.mono hk) hgd I1.env0
      (fun cd pn xe p1 p2 => de_q (de_act (T := T0.at gb nb) (q := ql) (ra := ra) I1 R1 L at1 n1 fr1 hG (hbind _ _ _ _ _) (hr.deeper _) hgd (fun A outer s2 H2 E2 r2 g2 => hbody _ _ f c' A outer s2 H2 E2 (Like.at (T := T0.at gb nb) like R1.bse) r2 g2) hN hv hd hcd))
      ⟨noSl g1, S, R1.rebase.inn, fun a i h => noSl_no g1 a i h, okF.rebase (T := T0.at gb nb) (R1.bse.step (Sub.refl _) (fun _ _ => rfl) (Nat.le_refl _)) (okF.wkq (T := T0.at gb nb) (q' := q) k3 fun z => by cases z)⟩
  refine wpAny_call (codeAny_mono run fun res s2 z => ?_)
  cases res with
  | error e => exact tk e s2 (XE.of_call I1 (fun cls d H' h => h) z)
  | ok fl =>
    cases fl with
    | ret u => exact I1.after z
    | next => exact z.elim
    | brk => exact z.elim
    | cont => exact z.elim
end
theorem KitOk.at {K : PySem.W.Frag} {T : Tb} {isub : Ty → Ty → Option Bool} {g : Gh} {n : Nat} (h : KitOk K T isub) : KitOk K (T.at g n) isub :=
  ⟨fun a b r e => by
    have z := h.one a b r e
    cases a <;> cases b <;> exact z, h.own, h.exc⟩
theorem FldOk.at {K : PySem.W.Frag} {T : Tb} {isf : Nat → Str → Bool} {g : Gh} {n : Nat} (h : FldOk K T isf) : FldOk K (T.at g n) isf := ⟨h.1⟩
def fzS (i : Nat) (r : Rho) : Rho := match r[i]? with
  | some (some (.own xs)) => r.set i (some (.lst xs))
  | _ => r
def mFzs : List Nat → M D → M D
  | [], m => m
  | i :: is, m => fun r S => mFzs is m (fzS i r) S
theorem de_fzs {X : Cx} {T : Tb} {q ra : Bool} {e : Expr} {m : M D} (h : DE X T q ra e m) : ∀ is : List Nat, DE X T q ra e (mFzs is m)
  | [] => h
  | i :: is => fun W tk => peImp (de_fzs h is W tk) fun σ H Q ⟨g, r, S, R, k⟩ => by
    unfold mFzs fzS at k
    cases e1 : r[i]? with
    | none => rw [e1] at k; exact ⟨g, r, S, R, k⟩
    | some o =>
      rw [e1] at k
      cases o with
      | none => exact ⟨g, r, S, R, k⟩
      | some d =>
        cases d with
        | own xs =>
          obtain ⟨v, hσ, a, vs, rfl, h1, h2, hW⟩ := R.slot i _ e1
          have hG := R.gw a _ hW
          have R2 := (R.drop hW).freeze (o := .lst vs) h1 hG unW_same (R.neI hW)
          have is2 : IsF X.K (upd g.G a (.lst vs)) g.io S.length (.ref a) (.lst xs) := .lst upd_same (h2.mono (sub_new hG) (fun _ _ => rfl) (Nat.le_refl _))
          have R3 := R2.tell hσ (SlotP.ofF is2)
          rw [List.set_set] at R3
          exact ⟨_, _, S, R3, okE.after (qa := true) (Stp.frzSlot hW hG) k⟩
        | _ => exact ⟨g, r, S, R, k⟩
theorem de_fz {X : Cx} {T : Tb} {q ra : Bool} {e : Expr} {m : M D} (is : List Nat) (h : DE X T q ra e m) : DE X T q ra e (mFzs is m) := de_fzs h is
end DD

set_option Elab.async false
set_option linter.all false
set_option maxRecDepth 100000
set_option maxHeartbeats 4000000
namespace DD
open PySem PySem.Spec PyProof.Rows L2

def tabG (cs : List (Addr × Addr)) : Gh := ⟨fun _ => none, fun i => (cs.map (·.2)).getD i 0, fun _ => none⟩
def Tb.tabs (T : Tb) (cs : List (Addr × Addr)) : Tb := T.at (tabG cs) cs.length
theorem law_callT {P : Program} {w : World} {T : Tb} {K : PySem.W.Frag} {mg mb : Str → Option Value} {q : Bool} {k : Nat} {fa a : Addr} {cs : List (Addr × Addr)} {qs : List Str} {fd : FuncData} {x : Str} {φ : Fn} {s1 : Shared} {vs : List Value} {ns : List Int}
    (kx : K.In s1.heap) (hm : s1.heap.Ns mainGlobals mg) (hb : s1.heap.Ns builtinsNs mb) (hbb : ∀ x : Str, x ≠ "__name__" → mb x = bootBuiltins x) (hnl : s1.heap.NoLimit) (hge : s1.gens = #[])
    (t0 : ∀ p ∈ cs, s1.heap.get? p.2 = some { cls := .none, data := .fields #[] }) (t1 : ∀ p ∈ cs, K.lookup p.2 = none) (t2 : ∀ p ∈ cs, PySem.W.CodeHd s1.heap p.1 p.2) (t3 : (cs.map (·.2)).Nodup) (t4 : qs.length = cs.length)
    (bmod : ∃ (bm : Addr) (ob : Obj), mg "__builtins__" = some (.ref bm) ∧ bm ≠ builtinsNs ∧ s1.heap.get? bm = some ob ∧ ob.cls = .type "module" ∧ ob.dict = some builtinsNs ∧ ob.data = .plain)
    (ha : s1.heap.get? a = some { cls := .type "list", data := .seq vs.toArray }) (hi : IntsAre vs ns) (hl : ns.length ≤ sizeLine) (hr : Room k callerA)
    (Fb : ∀ base : Heap, K.In base → base.Ns mainGlobals mg → (∀ p ∈ cs, LamX.TabB base mg p.1 p.2) → FnG P w (T.tabs cs) K mg base q k fa fd [x] φ) (hbind : ∀ (s : Shared) (u : Value), BindsTo s fd ⟨[u], []⟩ [(x, u)])
    (hφ : ∃ r S, φ [.scr (ns.map D.int)] (qs.map Ob.tab) = .ok (.bl true) r S) :
    codeAny (model P w) callerA (.call (.ref fa) ⟨[.ref a], []⟩) (fun r s2 => r = .ok (.ret (.bool true)) ∧ OldK s1.heap s2.heap ∧ s2.os = s1.os ∧ AllBare s2.gens) s1 := by
  have rvs : Vals (ns.map V.int) vs := vals_ints hi
  let tb := cs.map (·.2)
  have tbH : ∀ b ∈ tb, s1.heap.get? b = some { cls := .none, data := .fields #[] } := fun b hb => by
    obtain ⟨p, hp, rfl⟩ := List.mem_map.mp hb
    exact t0 p hp
  have aNo : a ∉ tb := fun z => by
    have q := (tbH a z).symm.trans ha
    cases q
  have tbl : tb.length = cs.length := List.length_map ..
  have key : ∀ H : Hp, (∀ b ∈ tb, H b = some (.tbl #[])) → (∀ b, b ∉ tb → b ≠ a → H b = none) → (H a = none ∨ ∃ o zs, H a = some (.frz o (.lst zs)) ∧ K.lookup a = none) → SqL K (fun b => if b = a then H a else none) a (ns.map V.int) → HOk P w H s1.heap →
      codeAny (model P w) callerA (.call (.ref fa) ⟨[.ref a], []⟩) (fun r s2 => r = .ok (.ret (.bool true)) ∧ OldK s1.heap s2.heap ∧ s2.os = s1.os ∧ AllBare s2.gens) s1 := by
    intro H onT off onA sq hok
    have none_of : ∀ {b : Addr} {o : Obj}, s1.heap.get? b = some o → (∀ xs n, o.data ≠ .seq xs n) → o.data ≠ .fields #[] → H b = none := fun {b o} e n1 n2 => by
      by_cases e1 : b ∈ tb
      · rw [tbH b e1] at e
        cases e
        exact absurd rfl n2
      · by_cases e2 : b = a
        · rw [e2, ha] at e
          cases e
          exact absurd rfl (n1 _ _)
        · exact off b e1 e2
    have dictN : ∀ {b : Addr} {o : Obj} {es : Array DictEntry} {ep : Nat}, s1.heap.get? b = some o → o.data = .dict es ep → H b = none := fun {b o es ep} e1 e2 =>
      none_of e1 (fun xs n z => by rw [e2] at z; cases z) fun z => by rw [e2] at z; cases z
    have nsOf : ∀ {b : Addr} {m : Str → Option Value}, s1.heap.Ns b m → (hidT s1.heap H).Ns b m := fun ⟨o, es, ep, e1, e2, e3⟩ => ⟨o, es, ep, hidT_get e1 (dictN e1 e2), e2, e3⟩
    have kin : K.In (hidT s1.heap H) := fun b o e1 => hidT_get (kx b o e1) (by
      by_cases z1 : b ∈ tb
      · obtain ⟨p, hp, rfl⟩ := List.mem_map.mp z1
        rw [t1 p hp] at e1
        cases e1
      · by_cases z2 : b = a
        · subst z2
          rcases onA with z | ⟨_, _, _, z⟩
          · exact z
          · rw [z] at e1; cases e1
        · exact off b z1 z2)
    have tB : ∀ p ∈ cs, LamX.TabB (hidT s1.heap H) mg p.1 p.2 := fun p hp => by
      have hP := t0 p hp
      refine ⟨?_, ?_, fun z => ?_⟩
      · obtain ⟨o, us, file, tf, flags, tg, inF, text, tt, c1, c2, c3, c4⟩ := t2 p hp
        exact ⟨o, us, file, tf, flags, tg, inF, text, tt, hidT_get c1 (none_of c1 (fun xs n z => by rw [c3] at z; cases z) fun z => by
          rw [c3] at z
          cases z
          simp at c4), c2, c3, c4⟩
      · obtain ⟨bm, ob, b1, b2, b3, b4, b5, b6⟩ := bmod
        refine ⟨bm, ob, b1, b2, fun z => ?_, fun z => ?_, hidT_get b3 (none_of b3 (fun xs n z => by rw [b6] at z; cases z) fun z => by rw [b6] at z; cases z), b4, b5, b6⟩
        · obtain ⟨o, es, ep, e1, e2, _⟩ := hm
          rw [z, e1] at b3
          cases b3
          rw [e2] at b6
          cases b6
        · rw [z, hP] at b3
          cases b3
          cases b6
      · obtain ⟨o, es, ep, e1, e2, _⟩ := hm
        rw [z, hP] at e1
        cases e1
        cases e2
    obtain ⟨mc, n1, n2⟩ := hnl
    have md : Mod K mg (hidT s1.heap H) := ⟨kin, nsOf hm, ⟨mb, nsOf hb, hbb⟩, mc, nsOf n1, n2⟩
    have env : Env0 P w K mg (hidT s1.heap H) callerA [] s1 H := ⟨rfl, md, fun b o e1 => of_hidT e1, Nat.le_of_eq (hidT_size _ _), trivial, fun b hb => (List.not_mem_nil hb).elim, hok, .of_eq hge⟩
    let g : Gh := ⟨fun b => if b = a then H a else none, fun i => tb.getD i 0, fun _ => none⟩
    have ioAt : ∀ {i}, i < cs.length → tb.getD i 0 ∈ tb := fun {i} h => by
      have h' : i < tb.length := by rw [tbl]; exact h
      rw [List.getD_eq_getElem?_getD, List.getElem?_eq_getElem h']
      exact List.getElem_mem h'
    have sl : (qs.map Ob.tab).length = cs.length := by rw [List.length_map, t4]
    have R : Rep (T.tabs cs) K H g [] (qs.map Ob.tab) [] := by
      refine ⟨fun b o h => ?_, rfl, fun i d h => (by simp at h), fun i o h => ?_, fun i j h1 h2 e => ?_, fun i h => ?_, fun _ _ => rfl, fun b r h => (by cases h), fun b r h => (by cases h), ⟨fun b o h => (by cases h), fun i _ => rfl, Nat.le_of_eq sl.symm⟩⟩
      · have h' : (if b = a then H a else none) = some o := h
        by_cases e : b = a
        · rw [if_pos e] at h'
          rw [e]; exact h'
        · rw [if_neg e] at h'; cases h'
      · have hl2 : i < cs.length := by rw [← sl]; exact (List.getElem?_eq_some_iff.mp h).1
        rw [List.getElem?_map] at h
        obtain ⟨q, e1, rfl⟩ := Option.map_eq_some_iff.mp h
        refine ⟨#[], onT _ (ioAt hl2), True.intro, fun pos cv e => ?_⟩
        have z : codeAmong pos [] = some cv := e
        simp [codeAmong] at z
      · have h1' : i < tb.length := by rw [tbl, ← sl]; exact h1
        have h2' : j < tb.length := by rw [tbl, ← sl]; exact h2
        have e' : tb.getD i 0 = tb.getD j 0 := e
        rw [List.getD_eq_getElem?_getD, List.getD_eq_getElem?_getD, List.getElem?_eq_getElem h1', List.getElem?_eq_getElem h2'] at e'
        exact (List.getElem_inj t3).mp e'
      · have z := ioAt (sl ▸ h)
        show (if tb.getD i 0 = a then H a else none) = none
        rw [if_neg (fun e : tb.getD i 0 = a => aNo (e ▸ z))]
    have isP : IsPs K H g (qs.map Ob.tab).length [V.ref a] [D.scr (ns.map D.int)] := .cons (IsP.ofF (.scr sq (IsFs.ints ns))) .nil
    obtain ⟨rr, SS, eφ⟩ := hφ
    have sp : spD (T.tabs cs) K q φ [x].length [V.ref a] H (fun v _ => v = .bl true) (fun _ _ _ => False) := ⟨g, _, _, R, (fun b i h => by cases h), isP, rfl, by
      rw [eφ]
      intro v H2 g2 _ _ is2 _ _
      cases is2
      rfl⟩
    refine codeAny_mono ((Fb _ kin (nsOf hm) tB).run callerA [] s1 H ⟨[.ref a], []⟩ [.ref a] [.ref a] _ _ hr rfl env (hbind s1 (.ref a)) (.cons rfl .nil) sp) fun res s2 hres => ?_
    cases res with
    | error er =>
      obtain ⟨_, _, _, _, _, _, _, _, _, _, _, _, z⟩ := hres
      exact z.elim
    | ok fl =>
      cases fl with
      | next => exact hres.elim
      | brk => exact hres.elim
      | cont => exact hres.elim
      | ret u =>
        obtain ⟨v, H2, os2, bare2, un2, hok2, ru, ev⟩ := hres
        have ev2 : v = .bl true := ev
        subst ev2
        obtain rfl : u = Value.bool true := ru
        have rest : ∀ b o, b ∉ tb → s1.heap.get? b = some o → s2.heap.get? b = some o := fun b o nb eo => by
          by_cases e2 : b = a
          · subst e2
            rcases onA with z | ⟨ob, zs, z, _⟩
            · exact un2.keep b o eo z (fun z => (List.not_mem_nil z).elim) (by simp)
            · obtain ⟨e1, _⟩ := hok b _ z
              obtain ⟨e2, _⟩ := hok2 b _ (un2.frzs b ob _ z)
              rw [eo] at e1
              cases e1
              exact e2
          · exact un2.keep b o eo (off b nb e2) (fun z => (List.not_mem_nil z).elim) (by simp)
        have tabs : ∀ p ∈ cs, ∃ more : Array Value, s2.heap.get? p.2 = some { cls := .none, data := .fields more } := fun p hp => by
          obtain ⟨more, z⟩ := un2.tbls p.2 #[] (onT _ (List.mem_map.mpr ⟨p, hp, rfl⟩))
          exact ⟨_, hok2 p.2 _ z⟩
        refine ⟨rfl, ⟨fun b o eo => ?_, fun b o eo => ?_⟩, os2, bare2⟩
        · by_cases e1 : b ∈ tb
          · obtain ⟨p, hp, rfl⟩ := List.mem_map.mp e1
            obtain ⟨more, z⟩ := tabs p hp
            cases (t0 p hp).symm.trans eo
            exact .inr (.inl ⟨((t2 p hp).tab (t0 p hp)).isCodeTable, rfl, #[], more, rfl, by rw [Array.empty_append]; exact z⟩)
          · exact .inl (rest b o e1 eo)
        · by_cases e1 : b ∈ tb
          · obtain ⟨p, hp, rfl⟩ := List.mem_map.mp e1
            obtain ⟨more, z⟩ := tabs p hp
            exact ⟨_, z⟩
          · exact ⟨o, rest b o e1 eo⟩
  have tk : ∀ (u : Option HO), (∀ b ∈ tb, (if b = a then u else if b ∈ tb then some (.tbl #[]) else none) = some (.tbl #[])) := fun u b hb => by
    rw [if_neg (fun e : b = a => aNo (e ▸ hb)), if_pos hb]
  have okT : ∀ {H : Hp} {b : Addr}, b ∈ tb → ObjOk P w H s1.heap b (.tbl #[]) := fun hb => tbH _ hb
  cases hk : K.lookup a with
  | some o =>
    have eo := kx a o hk
    rw [ha] at eo
    cases eo
    refine key (fun b => if b = a then none else if b ∈ tb then some (.tbl #[]) else none) (tk none) (fun b n1 n2 => by simp only [if_neg n2, if_neg n1]) (.inl (if_pos rfl)) (.inr ⟨_, vs.toArray, _, hk, rfl, rfl, rfl, by rw [List.size_toArray, hi.length]; exact hl, by simpa using rvs⟩) fun b u z => ?_
    simp only at z
    split at z
    · cases z
    · split at z
      · rename_i hb
        cases z
        exact okT hb
      · cases z
  | none =>
    let ob : Obj := { cls := .type "list", data := .seq vs.toArray }
    refine key (fun b => if b = a then some (.frz ob (.lst (ns.map V.int))) else if b ∈ tb then some (.tbl #[]) else none) (tk _) (fun b n1 n2 => by simp only [if_neg n2, if_neg n1]) (.inr ⟨ob, _, if_pos rfl, hk⟩) (.inl (.inr ⟨ob, by simp only [if_true]⟩)) fun b u z => ?_
    simp only at z
    split at z
    · rename_i e
      subst e
      cases z
      exact ⟨ha, by rw [List.length_map]; exact hl, vs, _, rvs, ha⟩
    · split at z
      · rename_i hb
        cases z
        exact okT hb
      · cases z
theorem walkT {l : PySem.W.OpenLaw} {n k : Nat} {q : Program} {loose : List Str} {XP : (Str → Option Value) → Heap → Prop} {YP : World → Heap → Prop} {d : DefRec} {x : Str} {qf : Bool} {qs : List Str}
    (hn : l.most = some n) (hn2 : n ≤ sizeLine) (hdf : d.params.defaults = []) (hr : Room k callerA)
    (F : ∀ (w : World) (mg : Str → Option Value) (fa : Addr) (h : Heap), YP w h → h.Ns mainGlobals mg → mg d.name = some (.ref fa) →
      ∃ (T : Tb) (K : PySem.W.Frag) (cs : List (Addr × Addr)) (fd : FuncData) (φ : Fn), K.In h ∧ ((∀ p ∈ cs, h.get? p.2 = some { cls := .none, data := .fields #[] }) ∧ (∀ p ∈ cs, K.lookup p.2 = none) ∧ (∀ p ∈ cs, PySem.W.CodeHd h p.1 p.2) ∧ (cs.map (·.2)).Nodup ∧ qs.length = cs.length) ∧ (∀ (s : Shared) (u : Value), BindsTo s fd ⟨[u], []⟩ [(x, u)]) ∧
        (∀ ns : List Int, ns.length ≤ n → (∀ z ∈ ns, Builtin.Int.intBits z ≤ 1048576) → ∃ r S, φ [.scr (ns.map D.int)] (qs.map Ob.tab) = .ok (.bl true) r S) ∧
        ∀ base : Heap, K.In base → base.Ns mainGlobals mg → (∀ p ∈ cs, LamX.TabB base mg p.1 p.2) → FnG l.prog w (T.tabs cs) K mg base qf k fa fd [x] φ) :
    PySem.W.WalkO q loose XP YP l.row.toRowW d [] (fun f vs => PySem.call f vs) := by
  refine Att.attach_callB hn hdf fun w s0 s1 mg mb fa o pm cd doc a vs ns G Y ho hd hcd hmg hobj hints hlen hbits hge => ?_
  obtain ⟨T, K, cs, fd, φ, kx, ⟨t0, t1, t2, t3, t4⟩, hb, hφ, Fb⟩ := F w mg fa _ Y G.T.g hmg
  exact law_callT kx G.T.g G.T.b G.T.builtins G.T.nolimit hge t0 t1 t2 t3 t4 G.T.bmain hobj hints (Nat.le_trans hlen hn2) hr Fb hb (hφ ns hlen hbits)
end DD

set_option Elab.async false
set_option linter.all false
set_option maxRecDepth 100000
set_option maxHeartbeats 4000000
namespace DD
open PySem PySem.Spec PyProof.Rows L2

theorem fnG_ofC {P : Program} {w : World} {T : Tb} {K : PySem.W.Frag} {mg : Str → Option Value} {base : Heap} {q : Bool} {k : Nat} {x qual : Str} {params : Arguments} {body : List Stmt} {scope : Scope} {dvs : List V} {kws : List (Str × V)} {f : Addr} {fd : FuncData} {N ps : List Str} {m : M Fl}
    (Fd : FunD K x qual params body scope dvs kws f fd) (S : FnScope N ps scope) {cv : Value} (hcv : fd.code = cv)
    (hbody : ∀ (A : Around) (outer : List Env) (s : Shared) (H : Hp) (E : XK), Room k (A.deeper (envOfC qual scope s.heap.objs.size f cv)) → A.guards = some [] → DSs (cxOf (L2.CX P w) P w K mg base N qual scope f cv A outer s H E) T q body m) :
    FnG P w T K mg base q (k + 1) f fd ps (fnOf N m) := by
  obtain ⟨oc, od, dV, kV, doc, pm, an, cdv, ct, osl, rfl, lk, hcd, hD⟩ := Fd.ex
  have e : cdv = cv := hcv
  subst e
  refine ⟨fun A outer s H args us vs Q E hr hgd e0 hb hv ⟨g, ds, S0, R, ns, hd, hl, hq⟩ => ?_⟩
  have lvs : vs.length = ps.length := hd.length.trans hl
  have inb : ∀ b o, base.get? b = some o → s.heap.get? b = some o := fun b o e => (e0.bs b o e).1
  have ki : K.In s.heap := e0.mod.kin.keeps inb
  have kinds : ∀ y ∈ ps.zip us, scope.names.lookup y.1 = some .local ∨ (scope.names.lookup y.1 = some .cell ∧ ((cellsFrom (s.heap.objs.size + 1) scope.names []).lookup y.1).isSome = true) := by
    rintro ⟨nm, u⟩ hy
    exact (S.par nm (List.of_mem_zip hy).1).imp id fun z => ⟨z, PySem.W.cellsFrom_some _ _ _ (.inl z)⟩
  refine codeAny_call_function hr.depth (ki _ _ lk) rfl S.co S.gen rfl (PySem.W.codeRec_of ki hcd) (hb _ _ _ _ (wpAny_newFunctionEnv_cells S.kind kinds fun env he s1 x1 => ?_))
  subst he
  refine ⟨(e0.mod.nolimit.keeps inb).keeps x1.toInCall.keep, codeAny_func ?_⟩
  have tk : Takes (cxOf (L2.CX P w) P w K mg base N qual scope f cdv A outer s H E) (fun cls d _ H' => E cls d H') := takes_of rfl rfl rfl rfl
  have J : Inv (cxOf (L2.CX P w) P w K mg base N qual scope f cdv A outer s H E) [] (L2.start N vs) H s1 := inv_start S hr.hd e0 lvs hv x1
  have runs := ((hbody A outer s H E (hr.deeper _) hgd) _ tk).run [] s1 (L2.start N vs) H { nx := fun _ H' => Q .non H', rt := Q } J ⟨g, startR N ds, S0, R.enter hd, okS_of (vs := vs) R ns hq⟩
  refine wpAny_mono runs (fun fl s' hs => ?_) fun e s' hs => hs
  cases fl with
  | ret u =>
    obtain ⟨v, σ', H', J', rv, qv⟩ := hs
    exact ⟨v, H', J'.os, J'.bare, J'.base, J'.hok, rv, qv⟩
  | next =>
    obtain ⟨σ', H', J', qv⟩ := hs
    exact ⟨V.non, H', J'.os, J'.bare, J'.base, J'.hok, rfl, qv⟩
  | brk =>
    obtain ⟨_, _, _, z⟩ := hs
    exact z.elim
  | cont =>
    obtain ⟨_, _, _, z⟩ := hs
    exact z.elim
theorem code_tab {K : PySem.W.Frag} {x : Str} {p : Addr × Addr} (h : PySem.W.tabIn K x = some p) : (fdOf K (He.ga K x)).code = .ref p.1 := by
  unfold PySem.W.tabIn at h
  unfold fdOf He.ga
  split at h
  · rename_i f hf
    rw [hf]
    simp only
    split at h
    · rename_i ho
      rw [ho]
      simp only
      split at h
      · rename_i c hc
        split at h
        · split at h
          · cases h; exact hc
          · cases h
        · cases h
      · cases h
    · cases h
  · cases h
def tabsOf (K : PySem.W.Frag) (xs : List Str) : List (Addr × Addr) := xs.map fun x => (PySem.W.tabIn K x).getD (0, 0)
def tabsB (K : PySem.W.Frag) (xs : List Str) : Bool := (xs.all fun x => (PySem.W.tabIn K x).isSome && (K.lookup ((PySem.W.tabIn K x).getD (0, 0)).2).isNone) && decide ((tabsOf K xs).map (·.2)).Nodup
theorem tabsB_at {K : PySem.W.Frag} {xs : List Str} (h : tabsB K xs = true) {x : Str} (hx : x ∈ xs) : ∃ p, PySem.W.tabIn K x = some p ∧ K.lookup p.2 = none := by
  have z := List.all_eq_true.mp (Bool.and_eq_true_iff.mp h).1 x hx
  obtain ⟨z1, z2⟩ := Bool.and_eq_true_iff.mp z
  obtain ⟨p, e⟩ := Option.isSome_iff_exists.mp z1
  rw [e] at z2
  exact ⟨p, e, by simpa using z2⟩
def tabNs (K : PySem.W.Frag) (xs : List Str) : List (Nat × Addr) := (List.range xs.length).zip ((tabsOf K xs).map (·.2))
theorem like_tabs {T : Tb} {K : PySem.W.Frag} {xs : List Str} : Like T (T.tabs (tabsOf K xs)) (tabNs K xs) := by
  refine ⟨rfl, rfl, fun p hp => ?_⟩
  obtain ⟨i, hi, e⟩ := List.mem_iff_getElem.mp hp
  unfold tabNs at hi e
  rw [List.getElem_zip] at e
  rw [List.length_zip, List.length_range] at hi
  have hl : ((tabsOf K xs).map (·.2)).length = xs.length := by unfold tabsOf; simp
  rw [hl, Nat.min_self] at hi
  subst e
  refine ⟨?_, ?_⟩
  · show (List.range xs.length)[i]'(by rw [List.length_range]; exact hi) < (tabsOf K xs).length
    rw [List.getElem_range]
    unfold tabsOf
    rw [List.length_map]
    exact hi
  · show ((tabsOf K xs).map (·.2)).getD ((List.range xs.length)[i]'(by rw [List.length_range]; exact hi)) 0 = _
    rw [List.getElem_range, List.getD_eq_getElem?_getD, List.getElem?_eq_getElem (by rw [hl]; exact hi)]
    rfl
theorem tabNs_at {K : PySem.W.Frag} {xs : List Str} {t : Nat} {x : Str} {p : Addr × Addr} (h : xs[t]? = some x) (hp : PySem.W.tabIn K x = some p) : (t, p.2) ∈ tabNs K xs := by
  obtain ⟨ht, e⟩ := List.getElem?_eq_some_iff.mp h
  have hl : ((tabsOf K xs).map (·.2)).length = xs.length := by unfold tabsOf; simp
  refine List.mem_iff_getElem.mpr ⟨t, ?_, ?_⟩
  · unfold tabNs
    rw [List.length_zip, List.length_range, hl, Nat.min_self]
    exact ht
  · unfold tabNs
    rw [List.getElem_zip, List.getElem_range]
    unfold tabsOf
    rw [List.getElem_map, List.getElem_map, e, hp]
    rfl
theorem tabB_at {K : PySem.W.Frag} {xs : List Str} {base : Heap} {mg : Str → Option Value} (h : ∀ p ∈ tabsOf K xs, LamX.TabB base mg p.1 p.2) {x : Str} (hx : x ∈ xs) {p : Addr × Addr} (hp : PySem.W.tabIn K x = some p) : LamX.TabB base mg p.1 p.2 :=
  h p (List.mem_map.mpr ⟨x, hx, by rw [hp]; rfl⟩)
def lamN (x : Str) : Str := x ++ ".<locals>." ++ "<lambda>"
theorem walkL {l : PySem.W.OpenLaw} {n k : Nat} {q : Program} {loose : List Str} {XP : (Str → Option Value) → Heap → Prop} {YP : World → Heap → Prop} {d : DefRec} {x : Str} {qf : Bool} {xs : List Str}
    (hn : l.most = some n) (hn2 : n ≤ sizeLine) (hdf : d.params.defaults = []) (hr : Room k callerA) (hrec : xs.all (fun x => ((recsOf q).find? fun e => e.name == x).isSome) = true)
    (F : ∀ (w : World) (mg : Str → Option Value) (fa : Addr) (h : Heap), YP w h → h.Ns mainGlobals mg → mg d.name = some (.ref fa) →
      ∃ (T : Tb) (K : PySem.W.Frag) (fd : FuncData) (φ : Fn), K.In h ∧ tabsB K xs = true ∧ (∀ (s : Shared) (u : Value), BindsTo s fd ⟨[u], []⟩ [(x, u)]) ∧
        (∀ ns : List Int, ns.length ≤ n → (∀ z ∈ ns, Builtin.Int.intBits z ≤ 1048576) → ∃ r S, φ [.scr (ns.map D.int)] (xs.map fun x => Ob.tab (lamN x)) = .ok (.bl true) r S) ∧
        ∀ base : Heap, K.In base → base.Ns mainGlobals mg → (∀ p ∈ tabsOf K xs, LamX.TabB base mg p.1 p.2) → FnG l.prog w (T.tabs (tabsOf K xs)) K mg base qf k fa fd [x] φ) :
    PySem.W.WalkO q loose XP YP l.row.toRowW d [] (fun f vs => PySem.call f vs) := by
  refine Att.attach_callB hn hdf fun w s0 s1 mg mb fa o pm cd doc a vs ns G Y ho hd hcd hmg hobj hints hlen hbits hge => ?_
  obtain ⟨T, K, fd, φ, kx, tb, hb, hφ, Fb⟩ := F w mg fa _ Y G.T.g hmg
  have at_ : ∀ p ∈ tabsOf K xs, PySem.W.CodeHd s1.heap p.1 p.2 ∧ s1.heap.get? p.2 = some { cls := .none, data := .fields #[] } ∧ K.lookup p.2 = none := fun p hp => by
    obtain ⟨x, hx, e⟩ := List.mem_map.mp hp
    obtain ⟨p', e1, e2⟩ := tabsB_at tb hx
    rw [e1] at e
    have e' : p' = p := e
    subst e'
    obtain ⟨dr, hdr⟩ := Option.isSome_iff_exists.mp (List.all_eq_true.mp hrec x hx)
    obtain ⟨h1, h2⟩ := PySem.W.tab_of (c := p'.1) (P := p'.2) G.T kx hdr e1
    exact ⟨h1, h2, e2⟩
  exact law_callT (qs := xs.map lamN) kx G.T.g G.T.b G.T.builtins G.T.nolimit hge (fun p hp => (at_ p hp).2.1) (fun p hp => (at_ p hp).2.2) (fun p hp => (at_ p hp).1) (of_decide_eq_true (Bool.and_eq_true_iff.mp tb).2) (by unfold tabsOf; simp) G.T.bmain hobj hints (Nat.le_trans hlen hn2) hr Fb hb (by
    have z := hφ ns hlen hbits
    rw [List.map_map]; exact z)
end DD

set_option Elab.async false
set_option linter.all false
set_option maxRecDepth 100000
set_option maxHeartbeats 4000000
namespace DD
open PySem PySem.Spec PyProof.Rows L2

def oexB (K : PySem.W.Frag) (C : Addr) : Bool := (match K.lookup C with
  | some ⟨.type "type", _, .cls cd, sl⟩ => (match cd.mro, sl.toList with
    | .ref C' :: bm, [_, _, _, _, some (.builtin n), _] => decide (C' = C) && (decide (n = "ValueError.__new__") && (!cd.hasDel && (cd.hasDict && PySem.HandSPX.refsVE bm)))
    | _, _ => false)
  | _ => false) && (decide (PySem.W.findIn K (.ref C) "__setattr__" = some (some (.builtin "object.__setattr__"))) && (decide (PySem.W.subIn K (.ref C) (.type "BaseException") = some true) && (decide (PySem.W.typeIn K (.ref C) = some (.type "type")) && PySem.W.keepIn K (.ref C))))
theorem oexB_ok {K : PySem.W.Frag} {C : Addr} (h : oexB K C = true) : OexC K C := by
  unfold oexB at h
  obtain ⟨h1, h⟩ := Bool.and_eq_true_iff.mp h
  obtain ⟨h2, h⟩ := Bool.and_eq_true_iff.mp h
  obtain ⟨h3, h⟩ := Bool.and_eq_true_iff.mp h
  obtain ⟨h4, h5⟩ := Bool.and_eq_true_iff.mp h
  refine ⟨?_, of_decide_eq_true h2, of_decide_eq_true h3, of_decide_eq_true h4, h5⟩
  split at h1
  · rename_i dd cd sl ho
    split at h1
    · rename_i C' bm k0 k1 k2 k3 n k5 hm hs
      simp only [Bool.and_eq_true, decide_eq_true_eq, Bool.not_eq_true'] at h1
      obtain ⟨rfl, rfl, hdel, hdict, hve⟩ := h1
      obtain ⟨nm, bs, mro, ns, qn, hd, sn, sub, ab, col, del⟩ := cd
      dsimp only at hm hdel hdict
      subst hm hdel hdict
      obtain ⟨l⟩ := sl
      simp only at hs
      subst hs
      exact ⟨nm, qn, ns, bs, bm, sn, sub, ab, col, dd, k0, k1, k2, k3, k5, ho, hve⟩
    · cases h1
  · cases h1
def supB (P : Program) (K : PySem.W.Frag) (C fI : Addr) (ps : List Str) : Bool := (match K.lookup fI with
  | some ⟨_, _, .func fd, _⟩ => (match fd.code, fd.closure with
    | .ref cda, [(_, cc)] => (match K.lookup cda with
      | some ⟨_, _, .fields vs, _⟩ => (match (vs[2]? : Option Value) with
        | some (.str file _) => P.main.file == file
        | _ => false)
      | _ => false) && (match K.lookup cc with
      | some ⟨_, _, .cell (some (.ref C')), _⟩ => decide (C' = C)
      | _ => false)
    | _, _ => false)
  | _ => false) && (oexB K C && (decide (PySem.W.findIn K (.ref C) "__init__" = some (some (.ref fI))) && (decide (PySem.W.typeIn K (.ref fI) = some (.type "function")) && (decide (PySem.W.ks_superIn K C C "__init__" = some (some (.builtin "ValueError.__init__"))) &&
    (decide (PySem.W.subIn K (.ref C) (.type "ValueError") = some true) && (decide (PySem.W.mroIn K C (.ref C) = some true) && (decide (PySem.W.nsIn K cStatics "thirdparty.any" = some none) && ps.all fun p => decide (PySem.W.findIn K (.ref C) p = some none))))))))
structure SupS (d : DX) (sn : Str) (ps : List Str) : Prop where
  clo : d.clo = [("__class__" : Str)]
  name : d.name = "__init__"
  dfl : ∀ K, d.dfl K = []
  body : ∃ (p0 p1 p2 p3 p4 pc : Pos) (j : Nat) (txt : Str) (sts : List Stmt) (ar : Arg), sBody d.st = .Expr (.Call (.Attribute (.Call (.Name "super" p0) [] [] p1) "__init__" p2) [.Constant (.str txt) j pc] [] p3) p4 :: sts ∧
    ((sArgs d.st).posonlyargs ++ (sArgs d.st).args).head? = some ar ∧ ar.arg = sn ∧ (sScope d.st).names.lookup ("super" : Str) = some .globalImplicit ∧ (sScope d.st).names.lookup ("__class__" : Str) = some .free ∧ (sScope d.st).kind = .function ∧ (sScope d.st).isCoroutine = false ∧ (sScope d.st).isGenerator = false ∧
    (∀ x ∈ (sScope d.st).names, x.2 ≠ .cell) ∧ (∀ x ∈ sn :: ps, (sScope d.st).names.lookup x = some .local) ∧
    (∀ (s : Shared) (xs : List Value) (kV doc pm : Value) (an : Option Addr) (cdv ct : Value) (cc : Addr), xs.length = ps.length + 1 → bindArgs (PySem.W.ksFn "__init__" d.qual (sArgs d.st) (sBody d.st) (sScope d.st) .none kV doc pm an cdv ct cc) ⟨xs, []⟩ = pure ((sn :: ps).zip xs)) ∧
    (∀ (L fI cda cc : Addr), InitSts (PySem.W.ksEnv d.qual (sScope d.st) L fI (.ref cda) cc) sn sts (ps.map fun p => (p, p))) ∧
    (∀ (L fI cda cc : Addr), ∃ pl : Sem Bool, eval (.Call (.Attribute (.Call (.Name "super" p0) [] [] p1) "__init__" p2) [.Constant (.str txt) j pc] [] p3) (PySem.W.ksEnv d.qual (sScope d.st) L fI (.ref cda) cc) = (do
      let ov ← attributeBase (.Call (.Name "super" p0) [] [] p1) "__init__" (PySem.W.ksEnv d.qual (sScope d.st) L fI (.ref cda) cc) (eval (.Call (.Name "super" p0) [] [] p1) (PySem.W.ksEnv d.qual (sScope d.st) L fI (.ref cda) cc))
      standAt p2.atName
      let (f, first) ← holding [ov] (getMethod ov "__init__" pl)
      callWith p3 f first (backTo p3 (starEach [.Constant (.str txt) j pc] (PySem.W.ksEnv d.qual (sScope d.st) L fI (.ref cda) cc))) [])) ∧
    (∀ (L fI cda cc : Addr), swapsWith (.Call (.Attribute (.Call (.Name "super" p0) [] [] p1) "__init__" p2) [.Constant (.str txt) j pc] [] p3) none p4.line (PySem.W.ksEnv d.qual (sScope d.st) L fI (.ref cda) cc) = pure false) ∧
    (∀ (L fI cda cc : Addr), interactive (PySem.W.ksEnv d.qual (sScope d.st) L fI (.ref cda) cc) = false) ∧ txt.length ≤ sizeLine
  nd : (sn :: ps).Nodup
  few : ps.length ≤ 100
  dbg : (sn == ("__debug__" : Str)) = false
theorem supC_ok {P : Program} {K : PySem.W.Frag} {C : Addr} {d : DX} {sn : Str} {ps : List Str} (h : fnA K (d.ad K) = d.val ∧ d.ok K = true) (b : supB P K C (d.ad K) ps = true) (s : SupS d sn ps) (top : (P.main.scope.names.lookup ("super" : Str)).isSome = false) : SupC P K C (d.ad K) sn ps := by
  obtain ⟨e, ok⟩ := h
  unfold DX.ok at ok
  obtain ⟨kp, ok2⟩ := Bool.and_eq_true_iff.mp ok
  unfold supB at b
  obtain ⟨b1, b⟩ := Bool.and_eq_true_iff.mp b
  obtain ⟨b2, b⟩ := Bool.and_eq_true_iff.mp b
  obtain ⟨b3, b⟩ := Bool.and_eq_true_iff.mp b
  obtain ⟨b4, b⟩ := Bool.and_eq_true_iff.mp b
  obtain ⟨b5, b⟩ := Bool.and_eq_true_iff.mp b
  obtain ⟨b6, b⟩ := Bool.and_eq_true_iff.mp b
  obtain ⟨b7, b⟩ := Bool.and_eq_true_iff.mp b
  obtain ⟨b8, b9⟩ := Bool.and_eq_true_iff.mp b
  refine ⟨oexB_ok b2, of_decide_eq_true b3, of_decide_eq_true b4, ?_, top, of_decide_eq_true b5, of_decide_eq_true b6, of_decide_eq_true b7, of_decide_eq_true b8, fun p hp => of_decide_eq_true (List.all_eq_true.mp b9 p hp), s.nd, s.few, s.dbg⟩
  unfold fnA DX.val at e
  rw [s.clo] at e
  cases q : K.lookup (d.ad K) with
  | none => rw [q] at ok2; cases ok2
  | some o =>
    rw [q] at ok2 e b1
    obtain ⟨oc, od, dt, osl⟩ := o
    cases dt with
    | func fd =>
      obtain ⟨n1, n2, n3, n4, n5, n6, n7, n8, n9, n10, n11, n12, n13, n14, n15⟩ := fd
      simp only [Option.some.injEq, Prod.mk.injEq] at e
      obtain ⟨e1, rfl, rfl, rfl, rfl, rfl, e7, rfl⟩ := e
      rw [s.name] at e1
      subst e1
      simp only at b1
      split at b1
      case h_2 => cases b1
      rename_i cda nm cc
      have en : nm = "__class__" := by
        simp only [List.map_cons, List.map_nil, List.cons.injEq, Prod.mk.injEq, and_true] at e7
        exact e7
      subst en
      obtain ⟨c1, c2⟩ := Bool.and_eq_true_iff.mp b1
      split at c1
      case h_2 => cases c1
      rename_i ccl cdd vs ccs ek
      split at c1
      case h_2 => cases c1
      rename_i file tf ev
      split at c2
      case h_2 => cases c2
      rename_i cl cld C' csl ec
      cases of_decide_eq_true c2
      rw [Bool.and_eq_true_iff, s.dfl] at ok2
      rcases He.dflB_ok ok2.2 with ⟨_, rfl⟩ | ⟨z, _⟩
      case inr => exact absurd rfl z
      obtain ⟨p0, p1, p2, p3, p4, pc, j, txt, sts, ar, eb, x1, x2, x3, x4, x5, x6, x7, x8, x9, x10, x11, x12, x13, x14, x15⟩ := s.body
      rw [eb] at x10
      exact ⟨d.qual, sArgs d.st, sScope d.st, _, _, _, _, _, _, cda, cc, oc, od, osl, p0, p1, p2, p3, p4, pc, j, txt, sts, ar, (by rw [eb]), ok2.1, ⟨ccl, cdd, vs, ccs, file, tf, ek, ev, c1⟩, ⟨cl, cld, csl, ec⟩, x1, x2, x3, x4, x5, x6, x7, x8, x9,
        fun s xs hl => .of_eq (x10 s xs _ _ _ _ _ _ _ hl), fun L => x11 L _ _ _, fun L => x12 L _ _ _, fun L => x13 L _ _ _, fun L => x14 L _ _ _, x15⟩
    | _ => cases ok2
end DD
namespace DD
open PySem PySem.Spec PyProof.Rows L2
def tabP (K : PySem.W.Frag) (x : Str) : Addr × Addr := (PySem.W.tabIn K x).getD (0, 0)
theorem tab_some {K : PySem.W.Frag} {xs : List Str} {x : Str} (h : tabsB K xs = true) (hx : x ∈ xs) : PySem.W.tabIn K x = some (tabP K x) := by
  obtain ⟨p, e, _⟩ := tabsB_at h hx
  unfold tabP
  rw [e]; rfl
end DD
namespace DD
open PySem
def asM (g : Addr → Option Obj) : List Addr := cStatics :: (He.asD g 6).filter fun a => match g a with
  | some ⟨.none, _, .fields vs, _⟩ => !vs.isEmpty
  | _ => true
end DD

set_option Elab.async false
set_option linter.all false
set_option maxRecDepth 100000
set_option maxHeartbeats 4000000
namespace DD
open PySem PySem.Spec PyProof.Rows L2
def sliceS (S : Sto) (lo hi : Option Int) : D → Option D
  | .ob k => (arrAt S k).map fun xs => .own (cutG xs lo hi)
  | x => sliceD lo hi x
def mSlS (ma : M D) (ml mh : M (Option Int)) : M D := M.bind ma fun x => M.bind ml fun lo => M.bind mh fun hi => fun r S => lift (sliceS S lo hi x) r S
def rSlS (T : Tb) (K : PySem.W.Frag) : V → Option Int → Option Int → Hp → VK → Prop := fun x lo hi H Q => ∃ g r S σ0 dx d, Rep T K H g r S σ0 ∧ IsV K H g S.length x dx ∧ sliceS S lo hi dx = some d ∧ KQ T K H g r S σ0 d Q
def addS (S : Sto) : D → D → Option D
  | .ob k, y => match arrAt S k, listD y with
    | some xs, some ys => if xs.length + ys.length ≤ lim then some (.own (xs ++ ys)) else none
    | _, _ => none
  | x, y => addD x y
def mUnA (F : Sto → D → Option D) (ma : M D) : M D := M.bind ma fun x => fun r S => match F S x with
  | some (.own xs) => .ok (.ob S.length) r (S ++ [.arr xs])
  | _ => .no
section
variable {X : Cx} {T : Tb} {qa qb qc ra rb : Bool} {a b e : Expr} {ma mb : M D} {p pos : Pos} {F : Sto → D → Option D} {x : Str} {id : String}
theorem sl_S : SlR X (rSlS T X.K) := by
  intro pins s σ H x v vl vu lo hi sl Q I rx hs pl pu ⟨g, r, S, σ0, dx, d, R, ix, hF, k⟩
  unfold sliceS at hF
  split at hF
  · rename_i kk
    obtain ⟨xs, e1, e2⟩ := Option.map_eq_some_iff.mp hF
    subst e2
    obtain ⟨a, vs, rfl, h1, h2⟩ := arr_V R ix e1
    exact sl_list pins s σ H _ v vl vu lo hi sl Q I rx hs pl pu ⟨a, vs, rfl, h1, fun p hp => k.own R hp (h2.cut lo hi)⟩
  · exact sl_D (T := T) pins s σ H x v vl vu lo hi sl Q I rx hs pl pu ⟨g, r, S, σ0, dx, d, R, ix, hF, k⟩
theorem de_sliceS {lo hi : Option Expr} {ml mh : M (Option Int)} {p2 : Pos} (ha : DE X T qa ra a ma) (hl : DO X T qb lo ml) (hh : DO X T qc hi mh) (hq : ra = false ∨ (qb && qc) = true) : DE X T (qa && (qb && (qc && true))) false (.Subscript a (.Slice lo hi none p2) pos) (mSlS ma ml mh) := fun W tk => by
  obtain ⟨tl, pl, kl⟩ := hl W tk
  obtain ⟨th, ph, kh⟩ := hh W tk
  refine peImp (pe_slice (sl_S (T := T)) (ha W tk) pl ph) fun σ H Q ⟨g, r, S, R, k⟩ => ?_
  refine ⟨g, r, S, R, okE.bindE (qb := qb && (qc && true)) k fun d1 r1 S1 v1 H1 g1 _ R1 is1 st1 k1 => ?_⟩
  refine kl σ H1 g1 r1 S1 _ R1 ?_
  have z := okE.bindO k1
  cases e : ml r1 S1 with
  | ok o r2 S2 =>
    rw [e] at z
    intro H2 g2 R2 st2
    refine kh σ H2 g2 r2 S2 _ R2 ?_
    have z2 := okE.bindO (z H2 g2 st2)
    cases e2 : mh r2 S2 with
    | ok o2 r3 S3 =>
      rw [e2] at z2
      intro H3 g3 R3 st3
      have k3 := z2 H3 g3 st3
      obtain ⟨d, hd⟩ := lift_none k3
      refine ⟨g3, r3, S3, σ, d1, d, R3, is1.carry R3.sub (st2.trans st3) hq, hd, KQ.of hd k3⟩
    | exc x r3 S3 => rw [e2] at z2; exact z2
    | no => rw [e2] at z2; exact z2
  | exc x r2 S2 => rw [e] at z; exact z
  | no => rw [e] at z; exact z
theorem op_addS : OpR X (binaryOp .Add) (rOfS T X.K addS) := by
  intro pins s σ H x y v u Q I rx ry ⟨g, r, S, σ0, dx, dy, d, R, ix, iy, hF, k⟩
  unfold addS at hF
  split at hF
  · rename_i kk
    split at hF
    · rename_i xs ys e1 e2
      split at hF
      · rename_i hl
        cases hF
        obtain ⟨b, ws, rfl, h2, hs2⟩ := listD_V R.sub e2 iy
        cases ix with
        | ob hk hio =>
        obtain ⟨vs, h1, hs1⟩ := R.obj _ _ (arrAt_some e1)
        rw [hio] at h1
        exact op_cat pins s σ H _ _ v u Q I rx ry ⟨_, b, vs, ws, rfl, rfl, h1, h2, by rw [hs1.length, hs2.length]; exact lim_le hl, fun p hp => k.own R hp (hs1.append hs2)⟩
      · cases hF
    · cases hF
  · exact op_addD (T := T) pins s σ H x y v u Q I rx ry ⟨g, r, S, σ0, dx, dy, d, R, ix, iy, hF, k⟩
theorem de_binS {F : Sto → D → D → Option D} {op : Operator} (ho : OpR X (binaryOp op) (rOfS T X.K F)) (ha : DE X T qa ra a ma) (hb : DE X T qb rb b mb) (hq : ra = false ∨ qb = true) : DE X T (qa && (qb && true)) false (.BinOp a op b pos) (mBinS F ma mb) := fun W tk =>
  peImp (pe_op ho (ha W tk) (hb W tk)) fun σ H Q ⟨g, r, S, R, k⟩ => by
    refine ⟨g, r, S, R, okE.bindE (qb := qb && true) k fun d1 r1 S1 v1 H1 g1 _ R1 is1 st1 k1 => ?_⟩
    refine ⟨g1, r1, S1, R1, okE.bindE (qb := true) k1 fun d2 r2 S2 v2 H2 g2 _ R2 is2 st2 k2 => ?_⟩
    obtain ⟨d, hd⟩ := lift_none k2
    exact ⟨g2, r2, S2, σ, d1, d2, d, R2, is1.carry R2.sub st2 hq, is2.isV, hd, KQ.of hd k2⟩
def rLA (T : Tb) (K : PySem.W.Frag) : List V → Hp → VK → Prop := fun xs H Q => ∃ x g r S σ0 dx ys, xs = [x] ∧ Rep T K H g r S σ0 ∧ IsV K H g S.length x dx ∧ lstS S dx = some (.own ys) ∧
  ∀ v' H' g', Rep T K H' g' r (S ++ [.arr ys]) σ0 → IsR K false H' g' (S ++ [Ob.arr ys]).length v' (.ob S.length) → FrO H g v' (.ob S.length) → Stp true true H g S.length H' g' (S ++ [Ob.arr ys]).length → Q v' H'
theorem cb_listA : CallR X (.type "list") (rLA T X.K) := by
  intro pins s σ H xs us Q I rv ⟨x, g, r, S, σ0, dx, ys, e, R, ix, hF, k⟩
  subst e
  have fin : ∀ {l : Addr} {vs : List V}, H l = none → IsFs X.K g.G g.io S.length vs ys → Q (.ref l) (upd H l (.lst vs)) := fun {l vs} hl h2 => by
    obtain ⟨a, b, c⟩ := R.box hl h2
    exact k _ _ _ a (IsR.ofF c) (FrO.ofF c) b
  unfold lstS at hF
  split at hF
  · rename_i kk
    obtain ⟨zs, e1, e2⟩ := Option.map_eq_some_iff.mp hF
    cases e2
    obtain ⟨a, vs, rfl, h1, h2⟩ := arr_V R ix e1
    exact call_list_of pins s σ H _ us Q I rv ⟨_, _, rfl, .inl h1, fun l hl => fin hl h2⟩
  · obtain ⟨ds, e1, e2⟩ := Option.map_eq_some_iff.mp hF
    cases e2
    obtain ⟨p, vs, rfl, h1, h2⟩ := seqD_V R.sub e1 ix
    exact call_list_of pins s σ H _ us Q I rv ⟨p, vs, rfl, h1, fun l hl => fin hl h2⟩
theorem de_listA (hg : Gl X x) (hm : X.mg x = none) (hv : bootBuiltins x = some (.type "list")) (hne : x ≠ "__name__") (hd : (x == ("__debug__" : Str)) = false) (ha : DE X T qa ra e ma) (hn : nst e = true) :
    DE X T (qa && true) false (.Call (.Name x p) [e] [] pos) (mUnA lstS ma) := fun W tk =>
  peImp (pe_callTy (cb_listA (T := T)) hg hm hv (pa_cons (ha W tk) pa_nil (starC hn)) hne hd (starC hn) rfl) fun σ H Q ⟨g, r, S, R, k⟩ => by
    refine ⟨g, r, S, R, okE.bindE (qb := true) k fun d1 r1 S1 v1 H1 g1 _ R1 is1 st1 k1 => ?_⟩
    split at k1
    · rename_i ys hF
      exact ⟨v1, g1, r1, S1, σ, d1, ys, rfl, R1, is1.isV, hF, k1⟩
    · exact k1.elim
end
end DD

set_option Elab.async false
set_option linter.all false
set_option maxRecDepth 100000
set_option maxHeartbeats 4000000
namespace DD
open PySem PySem.Spec PyProof.Rows L2
section
variable {X : Cx} {T : Tb} {q ra : Bool} {e : Expr} {mo : M D} {pos p1 p2 : Pos}
theorem de_dnew : DE X T true ra (.Dict [] [] pos) (M.ret (.dct [])) := fun W tk =>
  peImp pe_dnewK fun σ H Q ⟨g, r, S, R, k⟩ => fun p hp => by
    obtain ⟨R2, st2⟩ := finFrz (q := true) (o := .dK []) R hp
    have is : IsF X.K (upd g.G p (.dK [])) g.io S.length (.ref p) (.dct []) := .dct upd_same
    exact k _ _ _ R2 (IsR.ofF is) (FrO.ofF is) st2
theorem de_ddisp {i j : Int} {n1 n2 : Nat} : DE X T true ra (.Dict [some (.Constant (.int i) n1 p1)] [.Constant (.int j) n2 p2] pos) (M.ret (.dct [])) := fun W tk =>
  peImp (pe_disp (pps_cons (pe_int (i := i)) (pe_int (i := j)) pps_nil) rfl rfl (by simp) (by simp)) fun σ H Q ⟨g, r, S, R, k⟩ => fun p hp => by
    obtain ⟨R2, st2⟩ := finFrz (q := true) (o := .dK (mergeK [] [(Sum.inl i, V.int j)])) R hp
    refine ⟨upd_same, [(Sum.inl i, V.int j)], rfl, by simp, ?_⟩
    rw [upd_upd]
    have is : IsF X.K (upd g.G p (.dK (mergeK [] [(Sum.inl i, V.int j)]))) g.io S.length (.ref p) (.dct []) := .dct upd_same
    exact k _ _ _ R2 (IsR.ofF is) (FrO.ofF is) st2
def fldX (isxf : Str → Str → Bool) (f : Str) (mo : M D) : M D := M.bind mo fun x => match x with
  | .exc c fs => if c ≠ "" ∧ isxf c f = true then lift (fs.lookup f) else M.fail
  | _ => M.fail
structure XfOk (K : PySem.W.Frag) (isxf : Str → Str → Bool) : Prop where
  at_ : ∀ c f, isxf c f = true → XfC K (He.ga K c) ∧ PySem.W.findIn K (.ref (He.ga K c)) f = some none
theorem zip_lookup {K : PySem.W.Frag} {G : Hp} {io : Nat → Addr} {n : Nat} {f : Str} {d : D} : ∀ {ns : List Str} {vs : List V} {ds : List D}, IsFs K G io n vs ds → (ns.zip ds).lookup f = some d → ∃ v, (ns.zip vs).lookup f = some v ∧ IsF K G io n v d
  | [], _, _, _, h => by simp at h
  | _ :: _, _, _, .nil, h => by simp at h
  | m :: ns, _, _, .cons h1 hs, h => by
    rw [List.zip_cons_cons, List.lookup_cons] at h
    rw [List.zip_cons_cons, List.lookup_cons]
    cases e : f == m with
    | true =>
      rw [e] at h
      cases h
      exact ⟨_, rfl, h1⟩
    | false =>
      rw [e] at h
      exact zip_lookup hs h
def tXfD (K : PySem.W.Frag) (te : TE) (f : Str) : TE := fun σ H Q => te σ H fun x H1 => ∃ a C dd fs v, x = .ref a ∧ H1 a = some (.ext (ExcAt C a (some dd))) ∧ H1 dd = some (.xd fs) ∧ fs.lookup f = some v ∧ XfC K C ∧ PySem.W.findIn K (.ref C) f = some none ∧ Q v H1
theorem pe_xfD {te : TE} {f : Str} (he : PE X e te) (hb : attributeBase e f X.env (eval e X.env) = eval e X.env) : PE X (.Attribute e f pos) (tXfD X.K te f) := by
  refine ⟨fun pins s σ H Q I h => ?_⟩
  refine attr_of hb (thn (he.run pins s σ H _ I h) fun u s1 hh => ?_)
  obtain ⟨x, H1, I1, rx, a, C, dd, fs, v, ex, ea, ed, l, T, hno, q⟩ := hh
  subst ex
  obtain rfl : u = Value.ref a := rx
  obtain ⟨⟨oe, vs, ha, hz, hd⟩, _, _⟩ : ObjOk X.prog X.w H1 s1.heap a (.ext (ExcAt C a (some dd))) := I1.hok a _ ea
  have hx : ObjOk X.prog X.w H1 s1.heap dd (.xd fs) := I1.hok dd _ ed
  obtain ⟨mA, hns, hr⟩ := hx
  obtain ⟨od, ho, hl⟩ := lookIn_ns hns
  obtain ⟨u, hu, ru⟩ := RelO.some_of (v := v) (o := mA f) (by rw [← l]; exact hr f)
  have J : PySem.W.InstAt s1.heap a oe C (some od) := ⟨ha, hz.1, by unfold PySem.W.notCls; rw [hd] <;> rfl, by rw [hz.2]; exact ho⟩
  exact HandSPX.exc_get I1.kIn J T.ga T.gg T.exC (PySem.W.findObj_own T.hdC hno rfl (by rw [hl, hu])) (handed_of ru) ⟨v, H1, I1.tok _, ru, q⟩
theorem de_xf {isxf : Str → Str → Bool} {f : Str} (hx : XfOk X.K isxf) (ho : DE X T q ra e mo) (hb : attributeBase e f X.env (eval e X.env) = eval e X.env) : DE X T (q && true) false (.Attribute e f pos) (fldX isxf f mo) := fun W tk =>
  peImp (pe_xfD (ho W tk) hb) fun σ H Q ⟨g, r, S, R, k⟩ => by
    refine ⟨g, r, S, R, okE.bindE (qb := true) k fun d1 r1 S1 v1 H1 g1 e1 R1 is1 st1 k1 => ?_⟩
    cases d1 with
    | exc c fs =>
      simp only at k1
      split at k1
      · rename_i hc
        obtain ⟨d, hd⟩ := lift_none k1
        have k2 := KQ.of hd k1
        obtain ⟨x1, x2⟩ := hx.at_ c f hc.2
        have is2 : IsF X.K g1.G g1.io S1.length v1 (.exc c fs) := is1
        cases is2 with
        | opq => exact absurd rfl hc.1
        | exc h1 h2 => simp at hd
        | excf h1 h2 h3 h4 h5 h6 =>
          rename_i a d' ns vs ds
          subst h4
          obtain ⟨v, hv, hf⟩ := zip_lookup h6 hd
          exact ⟨a, _, d', _, v, rfl, R1.sub _ _ h2, R1.sub _ _ h3, hv, x1, x2, k2.f R1 hf⟩
      · exact k1.elim
    | _ => exact k1.elim
end
end DD
namespace DD
open PySem PySem.Spec PyProof.Rows L2
def xfnB (K : PySem.W.Frag) (C : Addr) (f : Str) : Bool := decide (PySem.W.findIn K (.ref C) f = some none)
theorem xfnB_ok {K : PySem.W.Frag} {C : Addr} {f : Str} (h : xfnB K C f = true) : PySem.W.findIn K (.ref C) f = some none := of_decide_eq_true h
end DD

set_option Elab.async false
set_option linter.all false
set_option maxRecDepth 100000
set_option maxHeartbeats 4000000
namespace DD
open PySem PySem.Spec PyProof.Rows L2

structure LamD (N : List Str) (p0 : Str) (sc scope : Scope) : Prop where
  kind : scope.kind = .function
  co : scope.isCoroutine = false
  gen : scope.isGenerator = false
  own : ∀ y ∈ scope.names, y.2 ≠ .cell ∧ (y.2 = .local → y.1 ∉ N)
  par : scope.names.lookup p0 = some .local
  free : ∀ y ∈ scope.names, y.2 = .free → sc.names.lookup y.1 = some .cell ∨ sc.names.lookup y.1 = some .free
def lamDB (N : List Str) (p0 : Str) (sc scope : Scope) : Bool :=
  decide (scope.kind = .function) && !scope.isCoroutine && !scope.isGenerator && decide (scope.names.lookup p0 = some .local) && scope.names.all fun y => (!decide (y.2 = .cell) && (!decide (y.2 = .local) || !decide (y.1 ∈ N))) && (!decide (y.2 = .free) || decide (sc.names.lookup y.1 = some .cell) || decide (sc.names.lookup y.1 = some .free))
theorem lamD_by {N : List Str} {p0 : Str} {sc scope : Scope} (h : lamDB N p0 sc scope = true) : LamD N p0 sc scope := by
  unfold lamDB at h
  simp only [Bool.and_eq_true, Bool.or_eq_true, Bool.not_eq_true', decide_eq_true_eq, decide_eq_false_iff_not, List.all_eq_true] at h
  obtain ⟨⟨⟨⟨h1, h2⟩, h3⟩, hp⟩, h4⟩ := h
  refine ⟨h1, h2, h3, fun y hy => ⟨(h4 y hy).1.1, fun e => ?_⟩, hp, fun y hy e => ?_⟩
  · rcases (h4 y hy).1.2 with z | z
    · exact absurd e z
    · exact z
  · rcases (h4 y hy).2 with (z | z) | z
    · exact absurd e z
    · exact .inl z
    · exact .inr z
section
variable {X : Cx} {scope : Scope} {p0 : Str}
theorem LamD.has (L : LamD X.N p0 X.env.scope scope) (ok : X.Ok) : ∀ y ∈ scope.names, y.2 = .free → ∃ c, X.env.cells.lookup y.1 = some c := fun y hy e => by
  rcases L.free y hy e with k | k
  · exact ok.has _ (.inl k)
  · exact ok.has _ (.inr k)
variable {pins : List (Addr × Obj)} {σ : L2.St} {H HZ : Hp} {s s1 : Shared}
theorem lam_startD {A : Around} {outer : List Env} {E : XK} {f c' : Addr} {h₁ : Heap} {tk : Nat} {bs : List (Str × Value)} (I : Inv X pins σ H s) (L : LamD X.N p0 X.env.scope scope) (e0 : Env0 X.prog X.w X.K X.mg X.base A outer s1 HZ) (hd : A.handled = none)
    (un : Un (frs X.stack) [] H HZ s.heap s1.heap) (hns : h₁.Ns s1.heap.objs.size fun y => bs.reverse.lookup y) (kp : ∀ b o, s1.heap.get? b = some o → h₁.get? b = some o) :
    Inv (LamX.lamCx X A outer s1 HZ E scope f c') [] σ HZ { s1 with heap := h₁, toks := tk } := by
  have hfree := L.has I.ok
  have cm : ∀ {y c}, (cloFrom X.env.cells scope.names []).lookup y = some c → X.env.cells.lookup y = some c := fun {y c} e => by
    rcases cloFrom_mem (PySem.mem_of_lookup e) with hm | ⟨h1, h2⟩
    · cases hm
    · obtain ⟨c1, hc⟩ := hfree _ h1 rfl
      have hc : X.env.cells.lookup y = some c1 := hc
      have e2 : c = c1 := by
        rw [h2, hc] <;> rfl
      rw [e2]
      exact hc
  have look : ∀ {y}, scope.names.lookup y = some .free → ∃ c, (cloFrom X.env.cells scope.names []).lookup y = some c := fun {y} hl => by
    have hy : (y, NameKind.free) ∈ scope.names := PySem.mem_of_lookup hl
    exact mem_lookup (cloFrom_has (cells := X.env.cells) (acc := []) hy)
  have cellK : ∀ {c : Addr} {v : Option Value}, H c = none → s.heap.IsCell c v → h₁.IsCell c v := fun {c v} n ⟨o, ho, hd⟩ => by
    obtain ⟨sl, q⟩ := un.any ho n (by simp)
    exact ⟨_, kp _ _ q, hd⟩
  have noA : ∀ b : Addr, b ∉ (LamX.lamCx X A outer s1 HZ E scope f c').ex := fun b z => absurd (show b ∈ ([] : List Addr) from z) (by simp)
  refine ⟨⟨e0.mod, L.kind, rfl, rfl, Nat.le_refl _, fun y z c e1 e2 => I.ok.inj y z c (cm e1) (cm e2), fun y hy => ?_, fun y c z _ => ?_, fun _ => hd, Around.frames_deeper e0.frames, .inr ⟨rfl, rfl⟩, fun b z => absurd z (noA b), e0.bs, e0.bsz, fun b _ _ => noA b,
      fun b z => absurd z (noA b), e0.funs, e0.frf⟩,
    rfl, e0.bare, Un.kept kp, ⟨_, hns, fun i y v e1 e2 e3 => ?_⟩, fun y c e => ?_, e0.hok.fresh (Nat.le_refl _), fun y c e => ?_, fun q hq => absurd (show q ∈ ([] : List (Addr × Obj)) ++ [] from hq) (by simp), e0.hok.kept kp, I.len⟩
  · have hy : scope.names.lookup y = some .cell ∨ scope.names.lookup y = some .free := hy
    rcases hy with hy | hy
    · exact absurd rfl (L.own _ (PySem.mem_of_lookup hy)).1
    · exact look hy
  · have z : false = true := z
    cases z
  · have e3 : Vis scope y := e3
    have e1 : X.N[i]? = some y := e1
    rcases e3 with k | k | k
    · exact absurd (List.mem_of_getElem? e1) ((L.own _ (PySem.mem_of_lookup k)).2 rfl)
    · exact absurd rfl (L.own _ (PySem.mem_of_lookup k)).1
    · obtain ⟨m, hn, hl⟩ := I.loc
      have hvis : Vis X.env.scope y := (L.free _ (PySem.mem_of_lookup k) rfl).elim (fun k => .inr (.inl k)) (fun k => .inr (.inr k))
      obtain ⟨w', r, q⟩ := hl i y v e1 e2 hvis
      obtain ⟨c2, h2⟩ := look k
      refine ⟨w', r, .inr ⟨.inr k, c2, h2, ?_⟩⟩
      have c1 := cm h2
      rcases q with ⟨k', _⟩ | ⟨_, c3, e', z⟩
      · have k' : X.env.scope.names.lookup y = some .local := k'
        rcases L.free _ (PySem.mem_of_lookup k) rfl with k2 | k2 <;> rw [show X.env.scope.names.lookup y = _ from k2] at k' <;> cases k'
      · rw [c1] at e'
        cases e'
        exact cellK (I.freeC y _ c1) z
  · obtain ⟨w', z⟩ := I.cell y c (cm e)
    exact ⟨w', cellK (I.freeC y c (cm e)) z⟩
  · obtain ⟨v, o, ho, hd⟩ := I.cell y c (cm e)
    exact un.free c o ho (I.freeC y c (cm e)) (by simp)
end
section
variable {X : Cx} {T : Tb} {pins : List (Addr × Obj)} {σ : L2.St} {H : Hp} {s : Shared} {g : Gh} {r : Rho} {S : Sto}
def AtD (h : Heap) (f d : Addr) (q : Str) (params : Arguments) (body : Expr) (scope : Scope) (cl : List (Str × Addr)) (doc pm : Value) (c' : Addr) (ctv : Value) (z : Int) : Prop :=
  h.get? f = some (PySem.W.kdv_obj "<lambda>" q params (.expr body) scope cl (.ref d) doc pm c' ctv) ∧ ∃ t, h.get? d = some (PySem.W.kdv_tup [.int z t])
theorem lam_tailD {t : Nat} {c P d : Addr} {tz : Tok} {params : Arguments} {body : Expr} {scope : Scope} {pos : Pos} {E Q : Value → Shared → Prop} {z : Int} (I : Inv X pins σ H s) (R : Rep T X.K H g r S σ) (ht : S[t]? = some (.tab (X.env.qual ++ "<lambda>"))) (eP : g.io t = P) (B : LamX.TabB X.base X.mg c P) (hcode : X.env.code = .ref c)
    (hfree : ∀ y ∈ scope.names, y.2 = .free → ∃ c, X.env.cells.lookup y.1 = some c) (hd : s.heap.get? d = some (PySem.W.kdv_tup [.int z tz])) (nd : H d = none) (fd : d ∉ frs X.stack)
    (h : ∀ (f d c' : Addr) (doc pm ctv : Value) (H1 : Hp) (g1 : Gh) (s1 : Shared), Inv X pins σ H1 s1 → Rep T X.K H1 g1 r S σ → Stp false true H g S.length H1 g1 S.length →
      AtD s1.heap f d (X.env.qual ++ "<lambda>") params body scope (cloFrom X.env.cells scope.names []) doc pm c' ctv z → H1 f = none → f ∉ frs X.stack → H1 d = none → d ∉ frs X.stack → g1.G c' = some (LamX.CodeO c' (X.env.qual ++ "<lambda>")) → Q (.ref f) s1) :
    wpAny (model X.prog X.w) X.A (makeTail "<lambda>" (X.env.qual ++ "<lambda>") params (.expr body) scope X.env (.ref d) .none none pos pos.line) Q E s := by
  obtain ⟨ps, hP, ok⟩ := R.obj t _ ht
  have hP0 : H P = some (.tbl ps) := eP ▸ hP
  have bm : s.heap.BuiltinsAt X.mg P := B.bm.keeps I.bk
  have oP : s.heap.get? P = some { cls := .none, data := .fields ps } := I.hok P _ hP0
  have out : ∀ f, s.heap.objs.size ≤ f → f ∉ frs X.stack := fun f hf m => (List.mem_cons.mp (I.stkSub _ m)).elim (fun e => absurd (Nat.lt_of_lt_of_le (e ▸ I.lt) hf) (Nat.lt_irrefl _)) fun e => I.nofs hf e
  have dP : d ≠ P := fun e => by rw [e, hP0] at nd; cases nd
  cases am : codeAmong pos ps.toList with
  | some cv =>
    obtain ⟨c', rfl, hG⟩ := ok.2 pos cv am
    refine PySem.W.kdv_makeTailHit (mg := X.mg) (c := c) (P := P) (ps := ps) (closure_ok hfree) I.ok.glob (I.mod.glob.keeps I.bk) hcode (B.code.keeps I.bk) oP ok.1 am bm fun ctv doc h1 tk kp sz => ?_
    exact h _ d c' doc ((X.mg "__name__").getD .none) ctv H g _ (I.kept (t' := tk) fun b o e => Heap.get?_push_of_some _ (kp b o e)) R Stp.refl ⟨Heap.get?_push_size _ rfl, tz, Heap.get?_push_of_some _ (kp _ _ hd)⟩ (I.hok.fresh sz) (out _ sz) nd fd hG
  | none =>
    refine PySem.W.kdv_makeTail (mg := X.mg) (c := c) (P := P) (ps := ps) (closure_ok hfree) I.ok.glob (I.mod.glob.keeps I.bk) hcode (B.code.keeps I.bk) oP ok.1 am B.gP bm fun c' ctv doc h1 tk kp ge lt rec tb => ?_
    obtain ⟨c2, oc, vs, tq, e2, g2, d2, v2⟩ := rec
    cases e2
    have nC : H c' = none := I.hok.fresh ge
    have sz : s.heap.objs.size ≤ h1.objs.size := Nat.le_trans ge (Nat.le_of_lt lt)
    have J := LamX.inv_table (t' := tk) (more := #[rawInt pos.line, rawInt pos.col, .ref c']) (h' := h1.push (PySem.W.kdv_obj "<lambda>" (X.env.qual ++ "<lambda>") params (.expr body) scope (cloFrom X.env.cells scope.names []) (.ref d) doc ((X.mg "__name__").getD .none) c' ctv)) I hP0
      (fun b o n e => Heap.get?_push_of_some _ (kp b o n e)) (Heap.get?_push_of_some _ tb) ge ⟨oc, vs, tq, Heap.get?_push_of_some _ g2, d2, v2⟩
    obtain ⟨R1, st1⟩ := tab_more (pos := pos) R ht hP ok nC
    rw [eP] at R1 st1
    have dc : d ≠ c' := Nat.ne_of_lt (Nat.lt_of_lt_of_le (Heap.lt_size hd) ge)
    refine h h1.objs.size d c' doc ((X.mg "__name__").getD .none) ctv _ _ _ J R1 st1 ⟨Heap.get?_push_size _ rfl, tz, Heap.get?_push_of_some _ (kp _ _ dP hd)⟩ ?_ (out _ sz) ?_ fd upd_same
    · rw [upd_ne (Nat.ne_of_gt lt), upd_ne (Nat.ne_of_gt (Nat.lt_of_lt_of_le (Heap.lt_size oP) sz))]
      exact I.hok.fresh sz
    · rw [upd_ne dc, upd_ne dP]
      exact nd
theorem lam_newD {t : Nat} {c P : Addr} {params : Arguments} {body : Expr} {scope : Scope} {pos : Pos} {E Q : Value → Shared → Prop} {z : Int} {jz : Nat} {pz : Pos} (I : Inv X pins σ H s) (R : Rep T X.K H g r S σ) (ht : S[t]? = some (.tab (X.env.qual ++ "<lambda>"))) (eP : g.io t = P) (B : LamX.TabB X.base X.mg c P) (hcode : X.env.code = .ref c)
    (hdf : params.defaults = [.Constant (.int z) jz pz]) (hkd : params.kw_defaults = []) (hfree : ∀ y ∈ scope.names, y.2 = .free → ∃ c, X.env.cells.lookup y.1 = some c)
    (h : ∀ (f d c' : Addr) (doc pm ctv : Value) (H1 : Hp) (g1 : Gh) (s1 : Shared), Inv X pins σ H1 s1 → Rep T X.K H1 g1 r S σ → Stp false true H g S.length H1 g1 S.length →
      AtD s1.heap f d (X.env.qual ++ "<lambda>") params body scope (cloFrom X.env.cells scope.names []) doc pm c' ctv z → H1 f = none → f ∉ frs X.stack → H1 d = none → d ∉ frs X.stack → g1.G c' = some (LamX.CodeO c' (X.env.qual ++ "<lambda>")) → Q (.ref f) s1) :
    wpAny (model X.prog X.w) X.A (eval (.Lambda params body scope pos) X.env) Q E s := by
  refine PySem.W.kdv_lam (by rw [hdf]; rfl) hkd ?_
  rw [hdf]
  refine PySem.W.kdv_all1 (wpAny_Constant_int (PySem.W.kdv_all0 ?_))
  rw [makeFunction_eq]
  simp only [List.zip_nil_right, List.filterMap_nil, List.isEmpty_nil, List.isEmpty_cons, if_true, pure_bind, Bool.false_eq_true, if_false]
  refine wpAny_bind (wpAny_newTextTuple ?_)
  have I1 : Inv X pins σ H { s with heap := s.heap.push { cls := .type "tuple", data := .seq [Value.int z s.toks].toArray }, toks := s.toks + 1 } := I.kept fun b o e => Heap.get?_push_of_some _ e
  exact lam_tailD I1 R ht eP B hcode hfree (Heap.get?_push_size _ rfl) (I.hok.fresh (Nat.le_refl _)) (fun m => (List.mem_cons.mp (I.stkSub _ m)).elim (fun e => absurd (e ▸ I.lt) (Nat.lt_irrefl _)) fun e => I.nofs (Nat.le_refl _) e) h
end
section
variable {X : Cx} {T : Tb} {pins : List (Addr × Obj)} {σ : L2.St} {H : Hp} {s : Shared} {g : Gh} {r : Rho} {S : Sto}
def BindD (params : Arguments) (body : Expr) (scope : Scope) (p0 : Str) (z : Int) : Prop :=
  ∀ (q : Str) (cl : List (Str × Addr)) (d : Addr) (doc pm cv ctv : Value) (t : Tok), ∃ k : Option (Array Value) → Sem (List (Str × Value)),
    bindArgs (PySem.W.kdv_fn "<lambda>" q params (.expr body) scope cl (.ref d) doc pm cv ctv) ⟨[], []⟩ = seqItems? (.ref d) >>= k ∧ k (some [Value.int z t].toArray) = pure [(p0, .int z t)]
theorem de_actD {E : XK} {Ng : List Str} {qg a p0 : Str} {sg scope : Scope} {fg f d c' : Addr} {cdg doc pm ctv : Value} {params : Arguments} {body : Expr} {k i : Nat} {pn : List (Addr × Obj)} {xe : Value → Shared → Prop} {q ra : Bool} {mb : M D} {caps : List Nat} {p1 p2 : Pos} {z : Int}
    (I : Inv X pins σ H s) (RX : Rep T X.K H g r S σ) (L : LamD X.N p0 X.env.scope scope) (at0 : AtD s.heap f d (X.env.qual ++ "<lambda>") params body scope (cloFrom X.env.cells scope.names []) doc pm c' ctv z) (hfn : H f = none) (hfr : f ∉ frs X.stack) (hdn : H d = none) (hdr : d ∉ frs X.stack)
    (hc : g.G c' = some (LamX.CodeO c' (X.env.qual ++ "<lambda>"))) (hbind : BindD params body scope p0 z)
    (hr : Room (k + 1) (X.A.deeper (envOfC qg sg s.heap.objs.size fg cdg))) (hgd : X.A.guards = some [])
    (hbody : ∀ (A : Around) (outer : List Env) (s2 : Shared) (H2 : Hp) (E2 : XK), Room k (A.deeper (LamX.lamEnv X scope s2.heap.objs.size f c')) → A.guards = some [] → DE (LamX.lamCx X A outer s2 H2 E2 scope f c') (T.at g S.length) q ra body mb)
    (hN : Ng[i]? = some a) (hv : Vis sg a) (hd : (a == ("__debug__" : Str)) = false := by decide) (hcd : (a == ("__classdict__" : Str)) = false := by decide) :
    DE ((cxOf (L2.CX X.prog X.w) X.prog X.w X.K X.mg X.base Ng qg sg fg cdg X.A X.stack s H E).tr pn xe) (T.at g S.length) q false (.Call (.Name a p1) [] [] p2) (mAct i f (lamF mb (capR caps r))) := fun W tk => by
  refine ⟨fun pz sz σz HZ Q IZ ⟨gz, rz, Sz, RZ, k1⟩ => ?_⟩
  unfold mAct at k1
  split at k1
  case isFalse => exact k1.elim
  rename_i hl
  have hl' := hl
  obtain ⟨dd, hrd, _⟩ := isLam_V (K := X.K) (H := HZ) (g := gz) (n := Sz.length) (v := .non) (i := i) hl
  obtain ⟨v0, hσ, hs⟩ := RZ.slot i dd hrd
  obtain ⟨d', e', toF⟩ := isLam_V (K := X.K) (H := HZ) (g := gz) (n := Sz.length) (v := v0) (i := i) hl'
  rw [hrd] at e'
  cases e'
  cases toF hs
  refine wpAny_Call_Name_kw (thn ((pe_var (pos := p1) (i := i) hN hv hd hcd).run pz sz σz HZ (fun v H1 => v = .ref f ∧ H1 = HZ) IZ ⟨.ref f, hσ, rfl, rfl⟩) fun u s1 ⟨v, H1, I1, r1, e1, e2⟩ => ?_)
  subst e1 e2
  cases (show u = Value.ref f from r1)
  obtain ⟨hf, tz, hdt⟩ := at0
  have at1 : s1.heap.get? f = some (PySem.W.kdv_obj "<lambda>" (X.env.qual ++ "<lambda>") params (.expr body) scope (cloFrom X.env.cells scope.names []) (.ref d) doc pm c' ctv) := I1.base.keep f _ hf hfn hfr (fun z => List.not_mem_nil z)
  have at2 : s1.heap.get? d = some (PySem.W.kdv_tup [.int z tz]) := I1.base.keep d _ hdt hdn hdr (fun z => List.not_mem_nil z)
  refine PySem.W.callWith_F0 ⟨_, _, _, _, at1⟩ ?_
  have cH : H1 c' = some (LamX.CodeO c' (X.env.qual ++ "<lambda>")) := RZ.sub _ _ (RZ.bse.gG _ _ hc)
  obtain ⟨⟨oc, vs, tq, g1, g2, g3⟩, _, _⟩ := I1.hok c' _ cH
  have RL := cap_rep (n := 0) (caps := caps) RX RZ
  have ok1 := okF_of RZ k1
  refine wpAny_call (codeAny_mono (?_ : codeAny (model X.prog X.w) (X.A.deeper (envOfC qg sg s.heap.objs.size fg cdg)) (.call (.ref f) ⟨[], []⟩) (CR (L2.CX X.prog X.w) (envOfC qg sg s.heap.objs.size fg cdg :: X.stack) X.prog X.w H1 s1 Q (fun cls d H' => W cls d σz H')) s1) fun res s2 hres => ?_)
  · obtain ⟨kk, hb1, hb2⟩ := hbind (X.env.qual ++ "<lambda>") (cloFrom X.env.cells scope.names []) d doc pm (.ref c') ctv tz
    have bt : BindsTo s1 (PySem.W.kdv_fn "<lambda>" (X.env.qual ++ "<lambda>") params (.expr body) scope (cloFrom X.env.cells scope.names []) (.ref d) doc pm (.ref c') ctv) ⟨[], []⟩ [(p0, .int z tz)] := BindsTo.of_defaults rfl at2 rfl hb1 hb2
    refine PySem.W.kla_callFunE hr.depth at1 rfl L.co L.gen rfl ⟨c', oc, vs, tq, rfl, g1, g2, g3⟩ (bt _ _ _ _ ?_)
    refine wpAny_newFunctionEnv (fun y hy => (L.own y hy).1) (fun y hy => by rw [List.mem_singleton.mp hy]; exact L.par) (fun h2 ns2 sb => ⟨I1.nolimit.fresh _ sb, ?_⟩) L.kind
    show codeAny _ _ (.expr body (LamX.lamEnv X scope s1.heap.objs.size f c')) _ _
    have kp : ∀ b o, s1.heap.get? b = some o → h2.get? b = some o := fun b o e => sb.extBut b o (Nat.ne_of_lt (Heap.lt_size e)) (Heap.get?_push_of_some _ e)
    have J := lam_startD (A := X.A.deeper (envOfC qg sg s.heap.objs.size fg cdg)) (outer := envOfC qg sg s.heap.objs.size fg cdg :: X.stack) (E := fun cls d H' => W cls d σz H') (f := f) (c' := c') (tk := s1.toks + ([(p0, Value.int z tz)] : List (Str × Value)).length) I L I1.env0 hr.hd I1.base ns2 kp
    have tk2 : Takes (LamX.lamCx X (X.A.deeper (envOfC qg sg s.heap.objs.size fg cdg)) (envOfC qg sg s.heap.objs.size fg cdg :: X.stack) s1 H1 (fun cls d H' => W cls d σz H') scope f c') (fun cls d _ H' => W cls d σz H') := takes_of rfl rfl rfl rfl
    refine PySem.W.kla_codeExpr (wpAny_mono ((hbody _ _ s1 H1 (fun cls d H' => W cls d σz H') (hr.deeper _) hgd _ tk2).run [] _ _ H1 Q J ⟨noSl gz, _, Sz, RL, okE_lam (fun a i h => noSl_no gz a i h) ok1⟩) (fun v s' hq => ?_) fun e s' hq => hq)
    obtain ⟨w', H', J', rv, hq⟩ := hq
    exact ⟨w', H', J'.os, J'.bare, J'.base, J'.hok, rv, hq⟩
  · cases res with
    | error e => exact tk e s2 (XE.of_call I1 (fun cls d H' h => h) hres)
    | ok fl =>
      cases fl with
      | ret u => exact I1.after hres
      | next => exact hres.elim
      | brk => exact hres.elim
      | cont => exact hres.elim
end
section
variable {X : Cx} {T0 : Tb} {gb : Gh} {nb : Nat} {tabs : List (Nat × Addr)}
theorem de_lamcallD {q ql ra : Bool} {k kg : Nat} {fg c P : Addr} {t : Nat} {x a qg p0 : Str} {Ng : List Str} {sg scope : Scope} {φ : Nat → (Sto → Out D) → Fn} {params : Arguments} {body : Expr} {mb : M D} {caps : List Nat} {p lpos pos : Pos} {z : Int} {jz : Nat} {pz : Pos}
    (F : FnL X.prog X.w T0 tabs X.K X.mg X.base q kg fg a Ng qg sg φ) (like : Like T0 (T0.at gb nb) tabs) (hr : Room (k + 2) X.A) (hk : kg ≤ k + 2) (hgd : X.A.guards = some []) (hg : Gl X x) (hm : X.mg x = some (.ref fg)) (hkp : PySem.W.keepIn X.K (.ref fg) = true)
    (hN : Ng[0]? = some a) (hv : Vis sg a) (ht : (t, P) ∈ tabs) (B : LamX.TabB X.base X.mg c P) (hcode : X.env.code = .ref c) (hdf : params.defaults = [.Constant (.int z) jz pz]) (hkd : params.kw_defaults = []) (L : LamD X.N p0 X.env.scope scope)
    (hbind : BindD params body scope p0 z)
    (hbody : ∀ (gb : Gh) (nb : Nat) (f c' : Addr) (A : Around) (outer : List Env) (s2 : Shared) (H2 : Hp) (E2 : XK), Like T0 (T0.at gb nb) tabs → Room k (A.deeper (LamX.lamEnv X scope s2.heap.objs.size f c')) → A.guards = some [] → DE (LamX.lamCx X A outer s2 H2 E2 scope f c') (T0.at gb nb) ql ra body mb)
    (hdb : (x == ("__debug__" : Str)) = false := by decide) (hd : (a == ("__debug__" : Str)) = false := by decide) (hcd : (a == ("__classdict__" : Str)) = false := by decide) :
    DE X (T0.at gb nb) false false (.Call (.Name x p) [.Lambda params body scope lpos] [] pos) (mLam t (X.env.qual ++ "<lambda>") caps φ mb) := fun W tk => by
  refine ⟨fun pins s σ H Q I ⟨g, r, S, R, k0⟩ => ?_⟩
  unfold mLam mAll at k0
  split at k0
  case isFalse => exact k0.elim
  rename_i hall
  have k1 : ∀ f, okE (T0.at gb nb) X.K false false H g S.length σ (if isTab (X.env.qual ++ "<lambda>") S[t]? = true then callM (φ f (lamF mb (capR caps r))) [lamD f] r S else .no) Q W := fun f => by
    rw [← hall f] at k0
    exact k0
  have hS : S[t]? = some (.tab (X.env.qual ++ "<lambda>")) := by
    have z := k1 0
    split at z
    · rename_i e
      unfold isTab at e
      split at e
      · rename_i p' e'
        rw [e', eq_of_beq e]
      · cases e
    · exact z.elim
  have hT : isTab (X.env.qual ++ "<lambda>") S[t]? = true := by rw [hS]; exact beq_self_eq_true _
  have eP : g.io t = P := (R.bse.gi _ (like.tb _ ht).1).trans (like.tb _ ht).2
  refine wpAny_Call_Name_kw (ld_glob I hg hm ?_ hdb)
  refine PySem.W.callWith_K (h₀ := X.base) I.ok.mod.kin hkp ?_ (by rfl) (by rfl)
  show wpAny _ _ (spliced ((false, eval (.Lambda params body scope lpos) X.env) :: backTo pos (starEach [] X.env))) _ _ s
  refine Calls.spliced_cons (lam_newD I R hS eP B hcode hdf hkd (L.has I.ok) fun f d c' doc pm ctv H1 g1 s1 I1 R1 st1 at1 n1 fr1 nd1 fd1 hG => Calls.spliced_nil ⟨I1.kIn, ?_⟩)
  have k2 := k1 f
  rw [if_pos hT] at k2
  have k3 := okF_of R1 (okE.after (qa := false) (qb := false) st1 k2)
  have run : codeAny (model X.prog X.w) X.A (.call (.ref fg) ⟨[.ref f], []⟩) (CR (L2.CX X.prog X.w) X.stack X.prog X.w H1 s1 Q (fun cls d H' => W cls d σ H')) s1 :=
    F.run g1 S.length X.A X.stack s1 H1 f (lamF mb (capR caps r)) Q _ (Like.at (T := T0.at gb nb) like R1.bse) (hr.mono hk) hgd I1.env0
      (fun cd pn xe p1 p2 => de_q (de_actD (T := T0.at gb nb) (q := ql) (ra := ra) I1 R1 L at1 n1 fr1 nd1 fd1 hG hbind (hr.deeper _) hgd (fun A outer s2 H2 E2 r2 g2 => hbody _ _ f c' A outer s2 H2 E2 (Like.at (T := T0.at gb nb) like R1.bse) r2 g2) hN hv hd hcd))
      ⟨noSl g1, S, R1.rebase.inn, fun a i h => noSl_no g1 a i h, okF.rebase (T := T0.at gb nb) (R1.bse.step (Sub.refl _) (fun _ _ => rfl) (Nat.le_refl _)) (okF.wkq (T := T0.at gb nb) (q' := q) k3 fun z => by cases z)⟩
  refine wpAny_call (codeAny_mono run fun res s2 z => ?_)
  cases res with
  | error e => exact tk e s2 (XE.of_call I1 (fun cls d H' h => h) z)
  | ok fl =>
    cases fl with
    | ret u => exact I1.after z
    | next => exact z.elim
    | brk => exact z.elim
    | cont => exact z.elim
end
end DD

set_option Elab.async false
set_option linter.all false
set_option maxRecDepth 100000
set_option maxHeartbeats 4000000
namespace DD
open PySem PySem.Spec PyProof.Rows L2

def FunO (f : Addr) (o : Obj) : HO := .ext fun h => h.get? f = some o
theorem funO_ok {P : Program} {w : World} {H : Hp} {h : Heap} {f : Addr} {o : Obj} (e : h.get? f = some o) : ObjOk P w H h f (FunO f o) := ⟨e, ⟨o, e⟩, fun h1 h2 a st => st _ a⟩
def LamG (X : Cx) (G : Hp) (f : Addr) (params : Arguments) (body : Expr) (scope : Scope) (z : Int) : Prop :=
  ∃ (d c' : Addr) (doc pm ctv : Value) (tz : Tok), G f = some (FunO f (PySem.W.kdv_obj "<lambda>" (X.env.qual ++ "<lambda>") params (.expr body) scope (cloFrom X.env.cells scope.names []) (.ref d) doc pm c' ctv)) ∧ G d = some (FunO d (PySem.W.kdv_tup [.int z tz])) ∧ G c' = some (LamX.CodeO c' (X.env.qual ++ "<lambda>"))
theorem LamG.mono {X : Cx} {G G' : Hp} {f : Addr} {params : Arguments} {body : Expr} {scope : Scope} {z : Int} (h : LamG X G f params body scope z) (s : Sub G G') : LamG X G' f params body scope z := by
  obtain ⟨d, c', doc, pm, ctv, tz, h1, h2, h3⟩ := h
  exact ⟨d, c', doc, pm, ctv, tz, s _ _ h1, s _ _ h2, s _ _ h3⟩
section
variable {X : Cx} {T : Tb} {pins : List (Addr × Obj)} {σ : L2.St} {H : Hp} {s : Shared} {g : Gh} {r : Rho} {S : Sto}
theorem lam_tailT {t : Nat} {c P d : Addr} {tz : Tok} {params : Arguments} {body : Expr} {scope : Scope} {pos : Pos} {E Q : Value → Shared → Prop} {z : Int} (I : Inv X pins σ H s) (R : Rep T X.K H g r S σ) (ht : S[t]? = some (.tab (X.env.qual ++ "<lambda>"))) (eP : g.io t = P) (B : LamX.TabB X.base X.mg c P) (hcode : X.env.code = .ref c)
    (hfree : ∀ y ∈ scope.names, y.2 = .free → ∃ c, X.env.cells.lookup y.1 = some c) (hd : g.G d = some (FunO d (PySem.W.kdv_tup [.int z tz])))
    (h : ∀ (f : Addr) (H1 : Hp) (g1 : Gh) (s1 : Shared), Inv X pins σ H1 s1 → Rep T X.K H1 g1 r S σ → Stp false true H g S.length H1 g1 S.length → LamG X g1.G f params body scope z → Q (.ref f) s1) :
    wpAny (model X.prog X.w) X.A (makeTail "<lambda>" (X.env.qual ++ "<lambda>") params (.expr body) scope X.env (.ref d) .none none pos pos.line) Q E s := by
  obtain ⟨ps, hP, ok⟩ := R.obj t _ ht
  have hP0 : H P = some (.tbl ps) := eP ▸ hP
  have bm : s.heap.BuiltinsAt X.mg P := B.bm.keeps I.bk
  have oP : s.heap.get? P = some { cls := .none, data := .fields ps } := I.hok P _ hP0
  cases am : codeAmong pos ps.toList with
  | some cv =>
    obtain ⟨c', rfl, hG⟩ := ok.2 pos cv am
    refine PySem.W.kdv_makeTailHit (mg := X.mg) (c := c) (P := P) (ps := ps) (closure_ok hfree) I.ok.glob (I.mod.glob.keeps I.bk) hcode (B.code.keeps I.bk) oP ok.1 am bm fun ctv doc h1 tk kp sz => ?_
    have nF : H h1.objs.size = none := I.hok.fresh sz
    have I1 := I.laid (a := h1.objs.size) (o := FunO h1.objs.size (PySem.W.kdv_obj "<lambda>" (X.env.qual ++ "<lambda>") params (.expr body) scope (cloFrom X.env.cells scope.names []) (.ref d) doc ((X.mg "__name__").getD .none) c' ctv)) (h' := h1.push (PySem.W.kdv_obj "<lambda>" (X.env.qual ++ "<lambda>") params (.expr body) scope (cloFrom X.env.cells scope.names []) (.ref d) doc ((X.mg "__name__").getD .none) c' ctv)) (t' := tk) (fun b o e => Heap.get?_push_of_some _ (kp b o e)) sz (funO_ok (Heap.get?_push_size _ rfl))
    obtain ⟨R1, st1⟩ := finFrz (q := false) (o := FunO h1.objs.size (PySem.W.kdv_obj "<lambda>" (X.env.qual ++ "<lambda>") params (.expr body) scope (cloFrom X.env.cells scope.names []) (.ref d) doc ((X.mg "__name__").getD .none) c' ctv)) R nF
    exact h _ _ _ _ I1 R1 st1 ⟨d, c', doc, _, ctv, tz, upd_same, st1.gm _ _ hd, st1.gm _ _ hG⟩
  | none =>
    refine PySem.W.kdv_makeTail (mg := X.mg) (c := c) (P := P) (ps := ps) (closure_ok hfree) I.ok.glob (I.mod.glob.keeps I.bk) hcode (B.code.keeps I.bk) oP ok.1 am B.gP bm fun c' ctv doc h1 tk kp ge lt rec tb => ?_
    obtain ⟨c2, oc, vs, tq, e2, g2, d2, v2⟩ := rec
    cases e2
    have nC : H c' = none := I.hok.fresh ge
    have J := LamX.inv_table (t' := tk) (more := #[rawInt pos.line, rawInt pos.col, .ref c']) (h' := h1) I hP0 kp tb ge ⟨oc, vs, tq, g2, d2, v2⟩
    obtain ⟨R1, st1⟩ := tab_more (pos := pos) R ht hP ok nC
    rw [eP] at R1 st1
    have nF := J.hok.fresh (Nat.le_refl h1.objs.size)
    have J1 := J.laid (a := h1.objs.size) (o := FunO h1.objs.size (PySem.W.kdv_obj "<lambda>" (X.env.qual ++ "<lambda>") params (.expr body) scope (cloFrom X.env.cells scope.names []) (.ref d) doc ((X.mg "__name__").getD .none) c' ctv)) (h' := h1.push (PySem.W.kdv_obj "<lambda>" (X.env.qual ++ "<lambda>") params (.expr body) scope (cloFrom X.env.cells scope.names []) (.ref d) doc ((X.mg "__name__").getD .none) c' ctv)) (t' := tk) (fun b o e => Heap.get?_push_of_some _ e) (Nat.le_refl _) (funO_ok (Heap.get?_push_size _ rfl))
    obtain ⟨R2, st2⟩ := finFrz (q := true) (o := FunO h1.objs.size (PySem.W.kdv_obj "<lambda>" (X.env.qual ++ "<lambda>") params (.expr body) scope (cloFrom X.env.cells scope.names []) (.ref d) doc ((X.mg "__name__").getD .none) c' ctv)) R1 nF
    exact h _ _ _ _ J1 R2 (st1.trans st2) ⟨d, c', doc, _, ctv, tz, upd_same, st2.gm _ _ (st1.gm _ _ hd), st2.gm _ _ upd_same⟩
theorem lam_newT {t : Nat} {c P : Addr} {params : Arguments} {body : Expr} {scope : Scope} {pos : Pos} {E Q : Value → Shared → Prop} {z : Int} {jz : Nat} {pz : Pos} (I : Inv X pins σ H s) (R : Rep T X.K H g r S σ) (ht : S[t]? = some (.tab (X.env.qual ++ "<lambda>"))) (eP : g.io t = P) (B : LamX.TabB X.base X.mg c P) (hcode : X.env.code = .ref c)
    (hdf : params.defaults = [.Constant (.int z) jz pz]) (hkd : params.kw_defaults = []) (hfree : ∀ y ∈ scope.names, y.2 = .free → ∃ c, X.env.cells.lookup y.1 = some c)
    (h : ∀ (f : Addr) (H1 : Hp) (g1 : Gh) (s1 : Shared), Inv X pins σ H1 s1 → Rep T X.K H1 g1 r S σ → Stp false true H g S.length H1 g1 S.length → LamG X g1.G f params body scope z → Q (.ref f) s1) :
    wpAny (model X.prog X.w) X.A (eval (.Lambda params body scope pos) X.env) Q E s := by
  refine PySem.W.kdv_lam (by rw [hdf]; rfl) hkd ?_
  rw [hdf]
  refine PySem.W.kdv_all1 (wpAny_Constant_int (PySem.W.kdv_all0 ?_))
  rw [makeFunction_eq]
  simp only [List.zip_nil_right, List.filterMap_nil, List.isEmpty_nil, List.isEmpty_cons, if_true, pure_bind, Bool.false_eq_true, if_false]
  refine wpAny_bind (wpAny_newTextTuple ?_)
  have nD : H s.heap.objs.size = none := I.hok.fresh (Nat.le_refl _)
  have I1 := I.laid (a := s.heap.objs.size) (o := FunO s.heap.objs.size (PySem.W.kdv_tup [.int z s.toks])) (h' := s.heap.push { cls := .type "tuple", data := .seq [Value.int z s.toks].toArray }) (t' := s.toks + 1) (fun b o e => Heap.get?_push_of_some _ e) (Nat.le_refl _) (funO_ok (Heap.get?_push_size _ rfl))
  obtain ⟨R1, st1⟩ := finFrz (q := true) (o := FunO s.heap.objs.size (PySem.W.kdv_tup [.int z s.toks])) R nD
  exact lam_tailT I1 R1 ht eP B hcode hfree upd_same fun f H2 g2 s2 I2 R2 st2 L => h f H2 g2 s2 I2 R2 (st1.trans st2) L
end
structure LD where
  key : Str
  params : Arguments
  body : Expr
  scope : Scope
  p0 : Str
  z : Int
  caps : List Nat
  mb : M D
structure LdOk (X : Cx) (l : LD) : Prop where
  hdf : ∃ jz pz, l.params.defaults = [.Constant (.int l.z) jz pz]
  hkd : l.params.kw_defaults = []
  L : LamD X.N l.p0 X.env.scope l.scope
  hb : BindD l.params l.body l.scope l.p0 l.z
inductive LDs (X : Cx) : List (Option Expr) → List Expr → List LD → Prop
  | nil : LDs X [] [] []
  | cons {l : LD} {ls : List LD} {ks : List (Option Expr)} {vs : List Expr} {j : Nat} {p p2 : Pos} (ok : LdOk X l) (h : LDs X ks vs ls) : LDs X (some (.Constant (.str l.key) j p) :: ks) (.Lambda l.params l.body l.scope p2 :: vs) (l :: ls)
inductive LamsG (X : Cx) (G : Hp) : List LD → List Addr → Prop
  | nil : LamsG X G [] []
  | cons {l : LD} {ls : List LD} {f : Addr} {fs : List Addr} (h : LamG X G f l.params l.body l.scope l.z) (t : LamsG X G ls fs) : LamsG X G (l :: ls) (f :: fs)
theorem LamsG.mono {X : Cx} {G G' : Hp} (s : Sub G G') : ∀ {ls : List LD} {fs : List Addr}, LamsG X G ls fs → LamsG X G' ls fs
  | _, _, .nil => .nil
  | _, _, .cons h t => .cons (h.mono s) (t.mono s)
def kvOf (ls : List LD) (fs : List Addr) : List (Key × V) := ls.zipWith (fun l f => ((Sum.inr l.key : Key), V.ref f)) fs
section
variable {X : Cx} {T : Tb}
theorem lds_run {t : Nat} {c P : Addr} {dpos : Pos} (B : LamX.TabB X.base X.mg c P) (hcode : X.env.code = .ref c) : ∀ {ks : List (Option Expr)} {vs : List Expr} {ls : List LD}, LDs X ks vs ls →
    ∃ trs, PPs X dpos ks vs trs ∧ ∀ (σ : L2.St) (H : Hp) (Q : List (V × V) → Hp → Prop) (g : Gh) (r : Rho) (S : Sto), Rep T X.K H g r S σ → S[t]? = some (.tab (X.env.qual ++ "<lambda>")) → g.io t = P →
      (∀ fs H1 g1, Rep T X.K H1 g1 r S σ → Stp false true H g S.length H1 g1 S.length → LamsG X g1.G ls fs → fs.length = ls.length → Q ((kvOf ls fs).map fun kv => (kV kv.1, kv.2)) H1) → tPairs trs σ H Q
  | _, _, _, .nil => ⟨[], pps_nil, fun σ H Q g r S R ht eP k => k [] H g R Stp.refl .nil rfl⟩
  | _, _, _, .cons (l := l) (ls := ls) (j := j) (p := p) (p2 := p2) ok h => by
    obtain ⟨trs, pp, ih⟩ := lds_run B hcode h
    obtain ⟨⟨jz, pz, hdf⟩, hkd, L, hb⟩ := ok
    let tl : TE := fun σ H Q => ∃ (g : Gh) (r : Rho) (S : Sto), Rep T X.K H g r S σ ∧ S[t]? = some (.tab (X.env.qual ++ "<lambda>")) ∧ g.io t = P ∧ ∀ f H1 g1, Rep T X.K H1 g1 r S σ → Stp false true H g S.length H1 g1 S.length → LamG X g1.G f l.params l.body l.scope l.z → Q (.ref f) H1
    have pl : PE X (.Lambda l.params l.body l.scope p2) tl := ⟨fun pins s σ H Q I ⟨g, r, S, R, ht, eP, k⟩ => lam_newT I R ht eP B hcode hdf hkd (L.has I.ok) fun f H1 g1 s1 I1 R1 st1 LG => ⟨.ref f, H1, I1, rfl, k f H1 g1 R1 st1 LG⟩⟩
    refine ⟨_, pps_cons (pe_str (x := l.key)) pl pp, fun σ H Q g r S R ht eP k => ?_⟩
    show tl σ H fun y H2 => tPairs trs σ H2 fun ps H3 => Q ((.str l.key, y) :: ps) H3
    refine ⟨g, r, S, R, ht, eP, fun f H1 g1 R1 st1 LG => ih σ H1 _ g1 r S R1 ht ((st1.im t (List.getElem?_eq_some_iff.mp ht).1).trans eP) fun fs H2 g2 R2 st2 LGs el => ?_⟩
    exact k (f :: fs) H2 g2 R2 (st1.trans st2) (.cons (LG.mono st2.gm) LGs) (by simp [el])
end
end DD

set_option Elab.async false
set_option linter.all false
set_option maxRecDepth 100000
set_option maxHeartbeats 4000000
namespace DD
open PySem PySem.Spec PyProof.Rows L2
section
variable {X : Cx} {T : Tb} {pins : List (Addr × Obj)} {σ : L2.St} {H : Hp} {s : Shared} {g : Gh} {r : Rho} {S : Sto}
theorem de_actT {E : XK} {Ng : List Str} {qg a p0 : Str} {sg scope : Scope} {fg f : Addr} {cdg : Value} {params : Arguments} {body : Expr} {k i : Nat} {pn : List (Addr × Obj)} {xe : Value → Shared → Prop} {q ra : Bool} {mb : M D} {caps : List Nat} {p1 p2 : Pos} {z : Int}
    (I : Inv X pins σ H s) (RX : Rep T X.K H g r S σ) (L : LamD X.N p0 X.env.scope scope) (LG : LamG X g.G f params body scope z)
    (hbind : BindD params body scope p0 z)
    (hr : Room (k + 1) (X.A.deeper (envOfC qg sg s.heap.objs.size fg cdg))) (hgd : X.A.guards = some [])
    (hbody : ∀ (c' : Addr) (A : Around) (outer : List Env) (s2 : Shared) (H2 : Hp) (E2 : XK), Room k (A.deeper (LamX.lamEnv X scope s2.heap.objs.size f c')) → A.guards = some [] → DE (LamX.lamCx X A outer s2 H2 E2 scope f c') (T.at g S.length) q ra body mb)
    (hN : Ng[i]? = some a) (hv : Vis sg a) (hd : (a == ("__debug__" : Str)) = false := by decide) (hcd : (a == ("__classdict__" : Str)) = false := by decide) :
    DE ((cxOf (L2.CX X.prog X.w) X.prog X.w X.K X.mg X.base Ng qg sg fg cdg X.A X.stack s H E).tr pn xe) (T.at g S.length) q false (.Call (.Name a p1) [] [] p2) (mAct i f (lamF mb (capR caps r))) := fun W tk => by
  refine ⟨fun pz sz σz HZ Q IZ ⟨gz, rz, Sz, RZ, k1⟩ => ?_⟩
  unfold mAct at k1
  split at k1
  case isFalse => exact k1.elim
  rename_i hl
  have hl' := hl
  obtain ⟨dd, hrd, _⟩ := isLam_V (K := X.K) (H := HZ) (g := gz) (n := Sz.length) (v := .non) (i := i) hl
  obtain ⟨v0, hσ, hs⟩ := RZ.slot i dd hrd
  obtain ⟨d', e', toF⟩ := isLam_V (K := X.K) (H := HZ) (g := gz) (n := Sz.length) (v := v0) (i := i) hl'
  rw [hrd] at e'
  cases e'
  cases toF hs
  refine wpAny_Call_Name_kw (thn ((pe_var (pos := p1) (i := i) hN hv hd hcd).run pz sz σz HZ (fun v H1 => v = .ref f ∧ H1 = HZ) IZ ⟨.ref f, hσ, rfl, rfl⟩) fun u s1 ⟨v, H1, I1, r1, e1, e2⟩ => ?_)
  subst e1 e2
  cases (show u = Value.ref f from r1)
  obtain ⟨d, c', doc, pm, ctv, tz, hgf, hgd2, hgc⟩ := LG
  have tr : ∀ {a o}, g.G a = some o → H1 a = some o := fun {a o} e => RZ.sub _ _ (RZ.bse.gG _ _ e)
  obtain ⟨at1, _, _⟩ := I1.hok f _ (tr hgf)
  obtain ⟨at2, _, _⟩ := I1.hok d _ (tr hgd2)
  refine PySem.W.callWith_F0 ⟨_, _, _, _, at1⟩ ?_
  have cH : H1 c' = some (LamX.CodeO c' (X.env.qual ++ "<lambda>")) := tr hgc
  obtain ⟨⟨oc, vs, tq, g1, g2, g3⟩, _, _⟩ := I1.hok c' _ cH
  have RL := cap_rep (n := 0) (caps := caps) RX RZ
  have ok1 := okF_of RZ k1
  refine wpAny_call (codeAny_mono (?_ : codeAny (model X.prog X.w) (X.A.deeper (envOfC qg sg s.heap.objs.size fg cdg)) (.call (.ref f) ⟨[], []⟩) (CR (L2.CX X.prog X.w) (envOfC qg sg s.heap.objs.size fg cdg :: X.stack) X.prog X.w H1 s1 Q (fun cls d H' => W cls d σz H')) s1) fun res s2 hres => ?_)
  · obtain ⟨kk, hb1, hb2⟩ := hbind (X.env.qual ++ "<lambda>") (cloFrom X.env.cells scope.names []) d doc pm (.ref c') ctv tz
    have bt : BindsTo s1 (PySem.W.kdv_fn "<lambda>" (X.env.qual ++ "<lambda>") params (.expr body) scope (cloFrom X.env.cells scope.names []) (.ref d) doc pm (.ref c') ctv) ⟨[], []⟩ [(p0, .int z tz)] := BindsTo.of_defaults rfl at2 rfl hb1 hb2
    refine PySem.W.kla_callFunE hr.depth at1 rfl L.co L.gen rfl ⟨c', oc, vs, tq, rfl, g1, g2, g3⟩ (bt _ _ _ _ ?_)
    refine wpAny_newFunctionEnv (fun y hy => (L.own y hy).1) (fun y hy => by rw [List.mem_singleton.mp hy]; exact L.par) (fun h2 ns2 sb => ⟨I1.nolimit.fresh _ sb, ?_⟩) L.kind
    show codeAny _ _ (.expr body (LamX.lamEnv X scope s1.heap.objs.size f c')) _ _
    have kp : ∀ b o, s1.heap.get? b = some o → h2.get? b = some o := fun b o e => sb.extBut b o (Nat.ne_of_lt (Heap.lt_size e)) (Heap.get?_push_of_some _ e)
    have J := lam_startD (A := X.A.deeper (envOfC qg sg s.heap.objs.size fg cdg)) (outer := envOfC qg sg s.heap.objs.size fg cdg :: X.stack) (E := fun cls d H' => W cls d σz H') (f := f) (c' := c') (tk := s1.toks + ([(p0, Value.int z tz)] : List (Str × Value)).length) I L I1.env0 hr.hd I1.base ns2 kp
    have tk2 : Takes (LamX.lamCx X (X.A.deeper (envOfC qg sg s.heap.objs.size fg cdg)) (envOfC qg sg s.heap.objs.size fg cdg :: X.stack) s1 H1 (fun cls d H' => W cls d σz H') scope f c') (fun cls d _ H' => W cls d σz H') := takes_of rfl rfl rfl rfl
    refine PySem.W.kla_codeExpr (wpAny_mono ((hbody c' _ _ s1 H1 (fun cls d H' => W cls d σz H') (hr.deeper _) hgd _ tk2).run [] _ _ H1 Q J ⟨noSl gz, _, Sz, RL, okE_lam (fun a i h => noSl_no gz a i h) ok1⟩) (fun v s' hq => ?_) fun e s' hq => hq)
    obtain ⟨w', H', J', rv, hq⟩ := hq
    exact ⟨w', H', J'.os, J'.bare, J'.base, J'.hok, rv, hq⟩
  · cases res with
    | error e => exact tk e s2 (XE.of_call I1 (fun cls d H' h => h) hres)
    | ok fl =>
      cases fl with
      | ret u => exact I1.after hres
      | next => exact hres.elim
      | brk => exact hres.elim
      | cont => exact hres.elim
end
section
variable {T : Tb} {K : PySem.W.Frag} {H H1 : Hp} {g g1 : Gh} {r : Rho} {S : Sto} {σ : L2.St} {q : Bool} {n n1 : Nat}
theorem Rep.setN (R : Rep T K H g r S σ) (i : Nat) (v : V) : Rep T K H g (r.set i none) S (σ.set i (some v)) := by
  refine ⟨R.sub, by rw [List.length_set, List.length_set]; exact R.len, fun j d hd => ?_, R.obj, R.inj, R.apG, R.apW, R.gw, R.wd, R.bse⟩
  have hji : j ≠ i := fun e => by
    subst e
    by_cases hl : j < r.length
    · rw [List.getElem?_set_self hl] at hd; cases hd
    · rw [List.getElem?_eq_none (by simpa using hl)] at hd; cases hd
  rw [List.getElem?_set_ne (Ne.symm hji)] at hd
  rw [List.getElem?_set_ne (Ne.symm hji)]
  exact R.slot j d hd
theorem Stp.frzNew {p : Addr} {o : HO} (st : Stp q true H g n H1 g1 n1) (hp : H p = none) (hG : g.G p = none) : Stp q true H g n H1 { g1 with G := upd g1.G p o } n1 :=
  ⟨st.kp, st.dm, fun a u e => by
    show upd g1.G p o a = some u
    rw [upd_ne (fun z => by rw [z, hG] at e; cases e)]
    exact st.gm _ _ e, st.im, st.nm, st.nf, st.om, fun a u e => by
    by_cases h : a = p
    · exact .inr (.inr (h ▸ hp))
    · have e' : upd g1.G p o a = some u := e
      rw [upd_ne h] at e'
      exact st.fm a u e', st.tm, fun z a i h => by
    rcases st.wm z a i h with w | ⟨u, w⟩
    · exact .inl w
    · refine .inr ?_
      show ∃ x, upd g1.G p o a = some x
      by_cases h : a = p
      · subst h; exact ⟨o, upd_same⟩
      · rw [upd_ne h]; exact ⟨u, w⟩⟩
theorem fz_rep (R : Rep T K H g r S σ) (i : Nat) : ∃ g', Rep T K H g' (fzS i r) S σ ∧ Stp true true H g S.length H g' S.length := by
  unfold fzS
  cases e1 : r[i]? with
  | none => exact ⟨g, R, Stp.refl⟩
  | some o =>
    cases o with
    | none => exact ⟨g, R, Stp.refl⟩
    | some d =>
      cases d with
      | own xs =>
        obtain ⟨v, hσ, a, vs, rfl, h1, h2, hW⟩ := R.slot i _ e1
        have hG := R.gw a _ hW
        have R2 := (R.drop hW).freeze (o := .lst vs) h1 hG unW_same (R.neI hW)
        have is2 : IsF K (upd g.G a (.lst vs)) g.io S.length (.ref a) (.lst xs) := .lst upd_same (h2.mono (sub_new hG) (fun _ _ => rfl) (Nat.le_refl _))
        have R3 := R2.tell hσ (SlotP.ofF is2)
        rw [List.set_set] at R3
        exact ⟨_, R3, Stp.frzSlot hW hG⟩
      | _ => exact ⟨g, R, Stp.refl⟩
end
theorem valV_merge (k : Key) : ∀ (kvs acc : List (Key × V)), (kvs.map (·.1)).Nodup → valV (mergeK acc kvs) k = (valV kvs k).or (valV acc k)
  | [], acc, _ => rfl
  | p :: rest, acc, h => by
    rw [List.map_cons, List.nodup_cons] at h
    show valV (mergeK (putK acc p.1 p.2) rest) k = _
    rw [valV_merge k rest _ h.2, valV_put]
    by_cases e : k = p.1
    · have nn : valV rest k = none := by
        unfold valV
        rw [Option.map_eq_none_iff, List.find?_eq_none]
        intro x hx hd
        exact h.1 (List.mem_map.mpr ⟨x, hx, (of_decide_eq_true hd).trans e⟩)
      rw [if_pos e, nn, valV_pos e.symm]
      rfl
    · rw [if_neg e, valV_neg (fun z => e z.symm)]
theorem kv_look {X : Cx} {G : Hp} (x : Str) : ∀ {ls : List LD} {fs : List Addr} {l : LD}, LamsG X G ls fs → ls.find? (fun l => l.key == x) = some l → ∃ f, valV (kvOf ls fs) (.inr x) = some (.ref f) ∧ LamG X G f l.params l.body l.scope l.z
  | _, _, _, .nil, e => by cases e
  | _, _, l0, .cons (l := l) (ls := ls) (f := f) (fs := fs) h t, e => by
    rw [List.find?_cons] at e
    by_cases hx : (l.key == x) = true
    · rw [hx] at e
      cases e
      refine ⟨f, ?_, h⟩
      have : l0.key = x := eq_of_beq hx
      show valV ((Sum.inr l0.key, V.ref f) :: kvOf ls fs) (.inr x) = _
      rw [valV_pos (by rw [this])]
    · have hx' : (l.key == x) = false := Bool.eq_false_iff.mpr hx
      rw [hx'] at e
      obtain ⟨f', e1, e2⟩ := kv_look x t e
      refine ⟨f', ?_, e2⟩
      show valV ((Sum.inr l.key, V.ref f) :: kvOf ls fs) (.inr x) = _
      rw [valV_neg (fun z => hx (by cases z; exact beq_self_eq_true _)), e1]
theorem kv_nodup : ∀ {ls : List LD} {fs : List Addr}, (ls.map (·.key)).Nodup → ((kvOf ls fs).map (·.1)).Nodup
  | [], _, _ => List.nodup_nil
  | _ :: _, [], _ => List.nodup_nil
  | l :: ls, f :: fs, h => by
    rw [List.map_cons, List.nodup_cons] at h
    show (Sum.inr l.key :: (kvOf ls fs).map (·.1)).Nodup
    rw [List.nodup_cons]
    refine ⟨fun hm => ?_, kv_nodup h.2⟩
    obtain ⟨p, hp, e⟩ := List.mem_map.mp hm
    obtain ⟨i, hi⟩ := List.mem_iff_getElem?.mp hp
    unfold kvOf at hi
    rw [List.getElem?_zipWith] at hi
    cases e1 : ls[i]? with
    | none => rw [e1] at hi; cases hi
    | some l2 =>
      cases e2 : fs[i]? with
      | none => rw [e1, e2] at hi; cases hi
      | some f2 =>
        rw [e1, e2] at hi
        cases hi
        have : l2.key = l.key := Sum.inr.inj e
        exact h.1 (this ▸ List.mem_map.mpr ⟨l2, List.mem_of_getElem? e1, rfl⟩)
end DD

set_option Elab.async false
set_option linter.all false
set_option maxRecDepth 100000
set_option maxHeartbeats 4000000
namespace DD
open PySem PySem.Spec PyProof.Rows L2
noncomputable def mPick (t : Nat) (q : Str) (φ : Nat → (Sto → Out D) → Fn) (ls : List LD) (mk : M D) : M D := M.bind mk fun d => match d with
  | .str x => (match ls.find? (fun l => l.key == x) with
    | some l => mFzs l.caps (mLam t q l.caps φ l.mb)
    | none => M.fail)
  | _ => M.fail
noncomputable def mLamDict (t : Nat) (q : Str) (ja i : Nat) (φ : Nat → (Sto → Out D) → Fn) (ls : List LD) (mk : M D) : M Fl := fun r S =>
  if isTab q S[t]? = true ∧ ja < r.length then mSetS i (mPick t q φ ls mk) (r.set ja none) S else .no
def fzAll : List Nat → Rho → Rho
  | [], r => r
  | i :: is, r => fzAll is (fzS i r)
theorem mFzs_eq : ∀ (is : List Nat) (m : M D) (r : Rho) (S : Sto), mFzs is m r S = m (fzAll is r) S
  | [], _, _, _ => rfl
  | i :: is, m, r, S => mFzs_eq is m (fzS i r) S
theorem fz_reps {T : Tb} {K : PySem.W.Frag} {H : Hp} {S : Sto} {σ : L2.St} : ∀ (is : List Nat) {g : Gh} {r : Rho}, Rep T K H g r S σ → ∃ g', Rep T K H g' (fzAll is r) S σ ∧ Stp true true H g S.length H g' S.length
  | [], g, r, R => ⟨g, R, Stp.refl⟩
  | i :: is, g, r, R => by
    obtain ⟨g1, R1, s1⟩ := fz_rep R i
    obtain ⟨g2, R2, s2⟩ := fz_reps is R1
    exact ⟨g2, R2, s1.trans s2⟩
theorem bodies_cons {P : LD → Prop} {l : LD} {ls : List LD} (h : P l) (t : ∀ x ∈ ls, P x) : ∀ x ∈ l :: ls, P x := fun x hx => by
  rcases List.mem_cons.mp hx with rfl | hx
  · exact h
  · exact t x hx
theorem bodies_nil {P : LD → Prop} : ∀ x ∈ ([] : List LD), P x := fun x hx => by cases hx
section
variable {X : Cx} {T0 : Tb} {gb : Gh} {nb : Nat} {tabs : List (Nat × Addr)}
theorem pe_pick {W : WX} (tk : Takes X W) {q qk rk : Bool} {k kg : Nat} {fg P : Addr} {t ja : Nat} {x a qg xa : Str} {Ng : List Str} {sg : Scope} {φ : Nat → (Sto → Out D) → Fn} {ls : List LD} {key : Expr} {mk : M D} {p pa pk pos : Pos}
    (F : FnL X.prog X.w T0 tabs X.K X.mg X.base q kg fg a Ng qg sg φ) (like : Like T0 (T0.at gb nb) tabs) (hr : Room (k + 2) X.A) (hu : X.A.units + 1 < cLine) (hk : kg ≤ k + 2) (hgd : X.A.guards = some []) (hg : Gl X x) (hm : X.mg x = some (.ref fg)) (hkp : PySem.W.keepIn X.K (.ref fg) = true)
    (hN : Ng[0]? = some a) (hv : Vis sg a) (ht : (t, P) ∈ tabs) (hNa : X.N[ja]? = some xa) (hva : Vis X.env.scope xa) (hkey : DE X (T0.at gb nb) qk rk key mk) (hs : L2.NoSl key) (hnd : (ls.map (·.key)).Nodup) (hok : ∀ l ∈ ls, LdOk X l)
    (hbody : ∀ l ∈ ls, ∃ ql ra, ∀ (gb : Gh) (nb : Nat) (f c' : Addr) (A : Around) (outer : List Env) (s2 : Shared) (H2 : Hp) (E2 : XK), Like T0 (T0.at gb nb) tabs → Room k (A.deeper (LamX.lamEnv X l.scope s2.heap.objs.size f c')) → A.guards = some [] → DE (LamX.lamCx X A outer s2 H2 E2 l.scope f c') (T0.at gb nb) ql ra l.body l.mb)
    (hdb : (x == ("__debug__" : Str)) = false := by decide) (hd : (a == ("__debug__" : Str)) = false := by decide) (hcd : (a == ("__classdict__" : Str)) = false := by decide) (hdb2 : (xa == ("__debug__" : Str)) = false := by decide) (hcd2 : (xa == ("__classdict__" : Str)) = false := by decide) :
    PE X (.Call (.Name x p) [.Subscript (.Name xa pa) key pk] [] pos) (fun σ H Q => ∃ (g : Gh) (r : Rho) (S : Sto) (pd : Addr) (fs : List Addr), Rep (T0.at gb nb) X.K H g r S σ ∧ σ[ja]? = some (some (.ref pd)) ∧ g.G pd = some (.dK (mergeK [] (kvOf ls fs))) ∧ LamsG X g.G ls fs ∧ okE (T0.at gb nb) X.K false false H g S.length σ (mPick t (X.env.qual ++ "<lambda>") φ ls mk r S) Q W) := by
  refine ⟨fun pins s σ H Q I ⟨g, r, S, pd, fs, R, hσ, hG, LG, k0⟩ => ?_⟩
  refine wpAny_Call_Name_kw (ld_glob I hg hm ?_ hdb)
  refine PySem.W.callWith_K (h₀ := X.base) I.ok.mod.kin hkp ?_ (by rfl) (by rfl)
  show wpAny _ _ (spliced ((false, eval (.Subscript (.Name xa pa) key pk) X.env) :: backTo pos (starEach [] X.env))) _ _ s
  let Q1 : VK := fun v H' => ∃ (f : Addr) (l : LD) (g' : Gh) (r' : Rho) (S' : Sto), v = .ref f ∧ l ∈ ls ∧ Rep (T0.at gb nb) X.K H' g' r' S' σ ∧ LamG X g'.G f l.params l.body l.scope l.z ∧ okE (T0.at gb nb) X.K false false H' g' S'.length σ (mLam t (X.env.qual ++ "<lambda>") l.caps φ l.mb r' S') Q W
  have sub : tDGet (tVar ja) (teOf (T0.at gb nb) X.K false rk mk W) σ H Q1 := by
    refine ⟨.ref pd, hσ, g, r, S, R, ?_⟩
    unfold mPick at k0
    refine okE.bindE (qa := false) (qb := false) k0 fun d r1 S1 y H2 g2 _ R2 is2 st2 k2 => ?_
    cases d with
    | str x =>
      have is3 : IsF X.K g2.G g2.io S1.length y (.str x) := is2
      cases is3
      simp only at k2
      cases e : ls.find? (fun l => l.key == x) with
      | none => rw [e] at k2; exact k2.elim
      | some l =>
        rw [e] at k2
        obtain ⟨f, hv2, LGf⟩ := kv_look x (LG.mono st2.gm) e
        have hp2 : H2 pd = some (.dK (mergeK [] (kvOf ls fs))) := R2.sub _ _ (st2.gm _ _ hG)
        have dg : DGet H2 pd (kV (.inr x)) (valV (mergeK [] (kvOf ls fs)) (.inr x)) := DGet.k hp2
        rw [valV_merge _ _ _ (kv_nodup hnd), hv2] at dg
        refine ⟨pd, .ref f, rfl, dg, ?_⟩
        simp only [mFzs_eq] at k2
        obtain ⟨g3, R3, st3⟩ := fz_reps l.caps R2
        exact ⟨f, l, g3, _, S1, rfl, List.mem_of_find?_eq_some e, R3, LGf.mono st3.gm, okE.after (qa := true) (qb := false) st3 k2⟩
    | _ => exact k2.elim
  refine Calls.spliced_cons (thn ((pe_dget hu (pe_var (pos := pa) (i := ja) hNa hva hdb2 hcd2) (de_q hkey W tk) hs (pos := pk)).run pins s σ H Q1 I sub) fun u s1 ⟨v, H1, I1, rv, f, l, g1, r1, S1, ev, hl, R1, LGf, k1⟩ => Calls.spliced_nil ⟨I1.kIn, ?_⟩)
  subst ev
  obtain rfl : u = Value.ref f := rv
  obtain ⟨ql, ra, hb⟩ := hbody l hl
  obtain ⟨_, _, L, hbind⟩ := hok l hl
  unfold mLam mAll at k1
  split at k1
  case isFalse => exact k1.elim
  rename_i hall
  have k2 : okE (T0.at gb nb) X.K false false H1 g1 S1.length σ (if isTab (X.env.qual ++ "<lambda>") S1[t]? = true then callM (φ f (lamF l.mb (capR l.caps r1))) [lamD f] r1 S1 else .no) Q W := by
    rw [← hall f] at k1
    exact k1
  split at k2
  case isFalse => exact k2.elim
  have k3 := okF_of R1 k2
  have run : codeAny (model X.prog X.w) X.A (.call (.ref fg) ⟨[.ref f], []⟩) (CR (L2.CX X.prog X.w) X.stack X.prog X.w H1 s1 Q (fun cls d H' => W cls d σ H')) s1 :=
    F.run g1 S1.length X.A X.stack s1 H1 f (lamF l.mb (capR l.caps r1)) Q _ (Like.at (T := T0.at gb nb) like R1.bse) (hr.mono hk) hgd I1.env0
      (fun cd pn xe p1 p2 => de_q (de_actT (T := T0.at gb nb) (q := ql) (ra := ra) I1 R1 L LGf hbind (hr.deeper _) hgd (fun c' A outer s2 H2 E2 r2 g2 => hb _ _ f c' A outer s2 H2 E2 (Like.at (T := T0.at gb nb) like R1.bse) r2 g2) hN hv hd hcd))
      ⟨noSl g1, S1, R1.rebase.inn, fun a i h => noSl_no g1 a i h, okF.rebase (T := T0.at gb nb) (R1.bse.step (Sub.refl _) (fun _ _ => rfl) (Nat.le_refl _)) (okF.wkq (T := T0.at gb nb) (q' := q) k3 fun z => by cases z)⟩
  refine wpAny_call (codeAny_mono run fun res s2 z => ?_)
  cases res with
  | error e => exact tk e s2 (XE.of_call I1 (fun cls d H' h => h) z)
  | ok fl =>
    cases fl with
    | ret u => exact I1.after z
    | next => exact z.elim
    | brk => exact z.elim
    | cont => exact z.elim
end
end DD

set_option Elab.async false
set_option linter.all false
set_option maxRecDepth 100000
set_option maxHeartbeats 4000000
namespace DD
open PySem PySem.Spec PyProof.Rows L2
section
variable {T : Tb} {K : PySem.W.Frag} {H : Hp} {g : Gh} {r : Rho} {S : Sto} {σ : L2.St} {qa : Bool}
theorem setOk {W : WX} {E : Ends} {i : Nat} {m : M D} {ra : Bool} (k : okS T K qa H g S.length (mSetS i m r S) E W) : okE T K qa ra H g S.length σ (m r S) (fun v H1 => gName i v σ H1 E.nx) W := by
  unfold mSetS at k
  cases em : m r S with
  | exc x r1 S1 => unfold M.bind at k; rw [em] at k; exact fun H' g' dd a b c => k σ H' g' dd a b.stm c
  | no => unfold M.bind at k; rw [em] at k; exact k.elim
  | ok d r1 S1 =>
    rw [bind_at em] at k
    intro v H1 g1 R1 is1 fo1 st1
    by_cases hb : borD d = true
    · rw [if_pos hb] at k; exact k.elim
    · rw [if_neg hb] at k
      obtain ⟨g', R', st', _⟩ := storeS (i := i) R1 is1 fo1 st1 (by simpa using hb)
      exact k _ H1 g' R' st'
end
section
variable {X : Cx} {T0 : Tb} {gb : Gh} {nb : Nat} {tabs : List (Nat × Addr)}
theorem dss_lamdict {q qk qb rk : Bool} {k kg : Nat} {fg c P : Addr} {t ja i : Nat} {x a qg xa xh : Str} {Ng : List Str} {sg : Scope} {φ : Nat → (Sto → Out D) → Fn} {ls : List LD} {key : Expr} {mk : M D} {p pa pa1 ph pk pd pos ps1 ps2 : Pos} {ks : List (Option Expr)} {vs : List Expr} {rest : List Stmt} {mr : M Fl}
    (hX : X.N.Nodup) (hNa : X.N[ja]? = some xa) (hxa : Loc X.env.scope xa) (hfa : X.fn xa = true ∨ X.env.scope.names.lookup xa = some .local) (hva : Vis X.env.scope xa) (hih : X.N[i]? = some xh) (hxh : Loc X.env.scope xh) (hfh : X.fn xh = true ∨ X.env.scope.names.lookup xh = some .local)
    (F : FnL X.prog X.w T0 tabs X.K X.mg X.base q kg fg a Ng qg sg φ) (like : Like T0 (T0.at gb nb) tabs) (hr : Room (k + 2) X.A) (hu : X.A.units + 1 < cLine) (hk : kg ≤ k + 2) (hgd : X.A.guards = some []) (hg : Gl X x) (hm : X.mg x = some (.ref fg)) (hkp : PySem.W.keepIn X.K (.ref fg) = true)
    (hN : Ng[0]? = some a) (hv : Vis sg a) (ht : (t, P) ∈ tabs) (B : LamX.TabB X.base X.mg c P) (hcode : X.env.code = .ref c) (hkey : DE X (T0.at gb nb) qk rk key mk) (hs : L2.NoSl key) (hnd : (ls.map (·.key)).Nodup)
    (hks : LDs X ks vs ls) (hok : ∀ l ∈ ls, LdOk X l) (hall : ks.all (·.isSome) = true) (hl : ks.length = vs.length) (h0 : ks ≠ []) (h15 : ks.length ≤ 15) (hl15 : ls.length ≤ 15)
    (hbody : ∀ l ∈ ls, ∃ ql ra, ∀ (gb : Gh) (nb : Nat) (f c' : Addr) (A : Around) (outer : List Env) (s2 : Shared) (H2 : Hp) (E2 : XK), Like T0 (T0.at gb nb) tabs → Room k (A.deeper (LamX.lamEnv X l.scope s2.heap.objs.size f c')) → A.guards = some [] → DE (LamX.lamCx X A outer s2 H2 E2 l.scope f c') (T0.at gb nb) ql ra l.body l.mb)
    (hs1 : swapsWith (.Dict ks vs pd) (some (.Name xa pa1)) ps1.line X.env = pure false) (hs2 : swapsWith (.Call (.Name x p) [.Subscript (.Name xa pa) key pk] [] pos) (some (.Name xh ph)) ps2.line X.env = pure false)
    (hrest : DSs X (T0.at gb nb) qb rest mr)
    (hdb : (x == ("__debug__" : Str)) = false := by decide) (hd : (a == ("__debug__" : Str)) = false := by decide) (hcd : (a == ("__classdict__" : Str)) = false := by decide) (hdb2 : (xa == ("__debug__" : Str)) = false := by decide) (hcd2 : (xa == ("__classdict__" : Str)) = false := by decide) :
    DSs X (T0.at gb nb) false (.Assign [.Name xa pa1] (.Dict ks vs pd) ps1 :: .Assign [.Name xh ph] (.Call (.Name x p) [.Subscript (.Name xa pa) key pk] [] pos) ps2 :: rest) (mSeq (mLamDict t (X.env.qual ++ "<lambda>") ja i φ ls mk) mr) := fun W tk => by
  obtain ⟨trs, pp, run⟩ := lds_run (T := T0.at gb nb) (dpos := pd) B hcode hks
  refine pssImp (pss_cons (ps_set hX hNa hxa (pe_disp pp hall hl h0 h15) hs1 hfa) (pss_cons (ps_set hX hih hxh (pe_pick tk F like hr hu hk hgd hg hm hkp hN hv ht hNa hva hkey hs hnd hok hbody hdb hd hcd hdb2 hcd2) hs2 hfh) (hrest W tk))) fun E σ H ⟨g, r, S, R, k0⟩ => ?_
  have eP : g.io t = P := (R.bse.gi _ (like.tb _ ht).1).trans (like.tb _ ht).2
  by_cases hc : isTab (X.env.qual ++ "<lambda>") S[t]? = true ∧ ja < r.length
  case neg =>
    have z : mLamDict t (X.env.qual ++ "<lambda>") ja i φ ls mk r S = .no := by unfold mLamDict; rw [if_neg hc]
    unfold mSeq at k0
    rw [z] at k0
    exact k0.elim
  obtain ⟨hT, hj⟩ := hc
  have hS : S[t]? = some (.tab (X.env.qual ++ "<lambda>")) := by
    unfold isTab at hT
    split at hT
    · rename_i p' e'
      rw [e', eq_of_beq hT]
    · cases hT
  have z : mLamDict t (X.env.qual ++ "<lambda>") ja i φ ls mk r S = mSetS i (mPick t (X.env.qual ++ "<lambda>") φ ls mk) (r.set ja none) S := by unfold mLamDict; rw [if_pos ⟨hT, hj⟩]
  unfold mSeq at k0
  rw [z] at k0
  let E1 : Ends := { E with nx := tsOf (T0.at gb nb) X.K qb mr W E }
  have k1 : okS (T0.at gb nb) X.K false H g S.length (mSetS i (mPick t (X.env.qual ++ "<lambda>") φ ls mk) (r.set ja none) S) E1 W := by
    cases e : mSetS i (mPick t (X.env.qual ++ "<lambda>") φ ls mk) (r.set ja none) S with
    | ok f r1 S1 =>
      rw [e] at k0
      cases f with
      | nx => exact fun σ' H' g' R' st' => ⟨g', r1, S1, R', okS.after (qa := false) (qb := qb) st' k0⟩
      | bk => exact k0
      | ct => exact k0
      | rt d => exact k0
    | exc x r1 S1 => rw [e] at k0; exact k0
    | no => rw [e] at k0; exact k0.elim
  unfold tSeq tAsg tDisp
  intro pd' hp
  have R0 := R.tmp (o := .dK []) hp
  have st0 : Stp true true H g S.length (upd H pd' (.dK [])) (tmpW g pd') S.length := Stp.tmp R hp
  refine run σ _ _ (tmpW g pd') r S R0 hS eP fun fs H2 g2 R2 st2 LG el => ?_
  have hp2 : H2 pd' = some (.dK []) := st2.kp pd' _ upd_same (.inr ⟨R.newI hp, fun rt h => .inl ⟨false, by rw [tmpW_same] at h; cases h; rfl⟩⟩)
  have hW2 : g2.W pd' = some (.tmp false) := st2.tm pd' false tmpW_same
  refine ⟨hp2, kvOf ls fs, rfl, by unfold kvOf; rw [List.length_zipWith]; omega, ?_⟩
  have R3 := (R2.poke (o := .dK (mergeK [] (kvOf ls fs))) hW2 hp2).untmp hW2
  have st02 := st0.trans st2
  have st3 := (st02.poke (o := .dK (mergeK [] (kvOf ls fs))) hp).untmp (R.newW hp) hW2
  have hG2 : (unW g2 pd').G pd' = none := R2.gw pd' _ hW2
  have R4 := R3.freeze (o := .dK (mergeK [] (kvOf ls fs))) upd_same hG2 unW_same (R2.neI hW2)
  have st4 := st3.frzNew (o := .dK (mergeK [] (kvOf ls fs))) hp (R.newG hp)
  have R5 := R4.setN ja (.ref pd')
  refine ⟨_, r.set ja none, S, pd', fs, R5, List.getElem?_set_self (by rw [← R.len]; exact hj), upd_same, LG.mono (fun a u e => ?_), setOk (E := E1) (okS.after (qa := false) (qb := false) st4.stm k1)⟩
  show upd g2.G pd' _ a = some u
  rw [upd_ne (fun e2 => by rw [e2] at e; have := R2.gw pd' _ hW2; rw [this] at e; cases e)]
  exact e
end
end DD

set_option Elab.async false
set_option linter.all false
set_option maxRecDepth 100000
set_option maxHeartbeats 4000000
namespace DD
open PySem PySem.Spec PyProof.Rows L2
theorem bb_ValueError : bootBuiltins "ValueError" = some (.type "ValueError") := by decide +kernel
theorem rU1 {k : Nat} {A : Around} (r : Room k A) : A.units + 1 < cLine := by have := r.un; omega
abbrev LRow := Str × List Nat × M D
def LD.row (l : LD) : LRow := (l.key, l.caps, l.mb)
noncomputable def mPickR (t : Nat) (q : Str) (φ : Nat → (Sto → Out D) → Fn) (rs : List LRow) (mk : M D) : M D := M.bind mk fun d => match d with
  | .str x => (match rs.find? (fun l => l.1 == x) with
    | some l => mFzs l.2.1 (mLam t q l.2.1 φ l.2.2)
    | none => M.fail)
  | _ => M.fail
noncomputable def mDictL (t : Nat) (q : Str) (ja i : Nat) (φ : Nat → (Sto → Out D) → Fn) (rs : List LRow) (mk : M D) : M Fl := fun r S =>
  if isTab q S[t]? = true ∧ ja < r.length then mSetS i (mPickR t q φ rs mk) (r.set ja none) S else .no
theorem pickR_eq (t : Nat) (q : Str) (φ : Nat → (Sto → Out D) → Fn) (ls : List LD) (mk : M D) : mPickR t q φ (ls.map LD.row) mk = mPick t q φ ls mk := by
  unfold mPickR mPick
  refine congrArg _ (funext fun d => ?_)
  cases d with
  | str x =>
    have e : (ls.map LD.row).find? (fun l => l.1 == x) = (ls.find? (fun l => l.key == x)).map LD.row := by
      rw [List.find?_map]; rfl
    simp only [e]
    cases ls.find? (fun l => l.key == x) <;> rfl
  | _ => rfl
theorem dictL_eq (t : Nat) (q : Str) (ja i : Nat) (φ : Nat → (Sto → Out D) → Fn) (ls : List LD) (mk : M D) : mDictL t q ja i φ (ls.map LD.row) mk = mLamDict t q ja i φ ls mk := by
  unfold mDictL mLamDict
  rw [pickR_eq]
def LBody (X : Cx) (T0 : Tb) (tabs : List (Nat × Addr)) (k : Nat) (scope : Scope) (body : Expr) (mb : M D) : Prop :=
  ∃ ql ra, ∀ (gb : Gh) (nb : Nat) (f c' : Addr) (A : Around) (outer : List Env) (s2 : Shared) (H2 : Hp) (E2 : XK), Like T0 (T0.at gb nb) tabs → Room k (A.deeper (LamX.lamEnv X scope s2.heap.objs.size f c')) → A.guards = some [] → DE (LamX.lamCx X A outer s2 H2 E2 scope f c') (T0.at gb nb) ql ra body mb
inductive LRows (X : Cx) (T0 : Tb) (tabs : List (Nat × Addr)) (k : Nat) : List (Option Expr) → List Expr → List LRow → Prop
  | nil : LRows X T0 tabs k [] [] []
  | cons {ks : List (Option Expr)} {vs : List Expr} {rs : List LRow} {key p0 : Str} {params : Arguments} {body : Expr} {scope : Scope} {z : Int} {jz j : Nat} {pz p p2 : Pos} {caps : List Nat} {mb : M D}
    (hdf : params.defaults = [.Constant (.int z) jz pz]) (hkd : params.kw_defaults = []) (L : LamD X.N p0 X.env.scope scope) (hb : BindD params body scope p0 z) (hbody : LBody X T0 tabs k scope body mb) (h : LRows X T0 tabs k ks vs rs) :
    LRows X T0 tabs k (some (.Constant (.str key) j p) :: ks) (.Lambda params body scope p2 :: vs) ((key, caps, mb) :: rs)
theorem LRows.get {X : Cx} {T0 : Tb} {tabs : List (Nat × Addr)} {k : Nat} : ∀ {ks : List (Option Expr)} {vs : List Expr} {rs : List LRow}, LRows X T0 tabs k ks vs rs →
    ∃ ls : List LD, rs = ls.map LD.row ∧ LDs X ks vs ls ∧ (∀ l ∈ ls, LdOk X l) ∧ (∀ l ∈ ls, LBody X T0 tabs k l.scope l.body l.mb)
  | _, _, _, .nil => ⟨[], rfl, .nil, bodies_nil, bodies_nil⟩
  | _, _, _, .cons (key := key) (p0 := p0) (params := params) (body := body) (scope := scope) (z := z) (caps := caps) (mb := mb) hdf hkd L hb hbody h => by
    obtain ⟨ls, e, h1, h2, h3⟩ := h.get
    refine ⟨⟨key, params, body, scope, p0, z, caps, mb⟩ :: ls, by rw [List.map_cons, ← e]; rfl, .cons (l := ⟨key, params, body, scope, p0, z, caps, mb⟩) ⟨⟨_, _, hdf⟩, hkd, L, hb⟩ h1, bodies_cons ⟨⟨_, _, hdf⟩, hkd, L, hb⟩ h2, bodies_cons hbody h3⟩
section
variable {X : Cx} {T0 : Tb} {gb : Gh} {nb : Nat} {tabs : List (Nat × Addr)}
theorem dss_dictL {q qk qb rk : Bool} {k kg : Nat} {fg c P : Addr} {t ja i : Nat} {x a qg xa xh : Str} {Ng : List Str} {sg : Scope} {φ : Nat → (Sto → Out D) → Fn} {rs : List LRow} {key : Expr} {mk : M D} {p pa pa1 ph pk pd pos ps1 ps2 : Pos} {ks : List (Option Expr)} {vs : List Expr} {rest : List Stmt} {mr : M Fl}
    (hX : X.N.Nodup) (hNa : X.N[ja]? = some xa) (hxa : Loc X.env.scope xa) (hfa : X.fn xa = true ∨ X.env.scope.names.lookup xa = some .local) (hva : Vis X.env.scope xa) (hih : X.N[i]? = some xh) (hxh : Loc X.env.scope xh) (hfh : X.fn xh = true ∨ X.env.scope.names.lookup xh = some .local)
    (F : FnL X.prog X.w T0 tabs X.K X.mg X.base q kg fg a Ng qg sg φ) (like : Like T0 (T0.at gb nb) tabs) (hr : Room (k + 2) X.A) (hu : X.A.units + 1 < cLine) (hk : kg ≤ k + 2) (hgd : X.A.guards = some []) (hg : Gl X x) (hm : X.mg x = some (.ref fg)) (hkp : PySem.W.keepIn X.K (.ref fg) = true)
    (hN : Ng[0]? = some a) (hv : Vis sg a) (ht : (t, P) ∈ tabs) (B : LamX.TabB X.base X.mg c P) (hcode : X.env.code = .ref c) (hkey : DE X (T0.at gb nb) qk rk key mk) (hs : L2.NoSl key)
    (hrows : LRows X T0 tabs k ks vs rs) (hnd : (rs.map (·.1)).Nodup) (hall : ks.all (·.isSome) = true) (hl : ks.length = vs.length) (h0 : ks ≠ []) (h15 : ks.length ≤ 15) (hl15 : rs.length ≤ 15)
    (hs1 : swapsWith (.Dict ks vs pd) (some (.Name xa pa1)) ps1.line X.env = pure false) (hs2 : swapsWith (.Call (.Name x p) [.Subscript (.Name xa pa) key pk] [] pos) (some (.Name xh ph)) ps2.line X.env = pure false)
    (hrest : DSs X (T0.at gb nb) qb rest mr)
    (hdb : (x == ("__debug__" : Str)) = false := by decide) (hd : (a == ("__debug__" : Str)) = false := by decide) (hcd : (a == ("__classdict__" : Str)) = false := by decide) (hdb2 : (xa == ("__debug__" : Str)) = false := by decide) (hcd2 : (xa == ("__classdict__" : Str)) = false := by decide) :
    DSs X (T0.at gb nb) false (.Assign [.Name xa pa1] (.Dict ks vs pd) ps1 :: .Assign [.Name xh ph] (.Call (.Name x p) [.Subscript (.Name xa pa) key pk] [] pos) ps2 :: rest) (mSeq (mDictL t (X.env.qual ++ "<lambda>") ja i φ rs mk) mr) := by
  obtain ⟨ls, rfl, h1, h2, h3⟩ := hrows.get
  rw [dictL_eq]
  rw [List.map_map] at hnd
  exact dss_lamdict hX hNa hxa hfa hva hih hxh hfh F like hr hu hk hgd hg hm hkp hN hv ht B hcode hkey hs hnd h1 h2 hall hl h0 h15 (by simpa using hl15) h3 hs1 hs2 hrest hdb hd hcd hdb2 hcd2
end
end DD

set_option Elab.async false
set_option linter.all false
set_option maxRecDepth 100000
set_option maxHeartbeats 0
namespace LW
open PySem PySem.Spec PyProof.Rows L2 DD
def top (i : Nat) : Stmt := PySem.Challenge.pw_ownseen_k61_fuses.main.body.getD i (.Pass ⟨0, 0, 0, 0⟩)
def d_law_pail : DX := { ad := fun K => He.ga K "_law_pail", name := "_law_pail", qual := "_law_pail", st := top 20 }
def d_is_integer : DX := { ad := fun K => He.ga K "is_integer", name := "is_integer", qual := "is_integer", st := top 7 }
def d_is_within : DX := { ad := fun K => He.ga K "is_within", name := "is_within", qual := "is_within", st := top 8 }
def d_need_number : DX := { ad := fun K => He.ga K "need_number", name := "need_number", qual := "need_number", st := top 10 }
def d_Disk_init : DX := { ad := fun K => He.ma K (He.ga K "Disk") "__init__", name := "__init__", qual := "Disk.__init__", st := cBody 0 (top 18) }
def d_law_dip : DX := { ad := fun K => He.ga K "_law_dip", name := "_law_dip", qual := "_law_dip", st := top 21 }
def d_law_pick : DX := { ad := fun K => He.ga K "_law_pick", name := "_law_pick", qual := "_law_pick", st := top 22 }
def d_law_heard : DX := { ad := fun K => He.ga K "_law_heard", name := "_law_heard", qual := "_law_heard", st := top 23 }
def d_Disk_fuse : DX := { ad := fun K => He.ma K (He.ga K "Disk") "fuse", name := "fuse", qual := "Disk.fuse", st := cBody 6 (top 18) }
def d_law_refused_right : DX := { ad := fun K => He.ga K "_law_refused_right", name := "_law_refused_right", qual := "_law_refused_right", st := top 25 }
def d_Disk_waiting : DX := { ad := fun K => He.ma K (He.ga K "Disk") "waiting", name := "waiting", qual := "Disk.waiting", st := cBody 8 (top 18) }
def d_Disk_kept : DX := { ad := fun K => He.ma K (He.ga K "Disk") "kept", name := "kept", qual := "Disk.kept", st := cBody 10 (top 18) }
def d_Disk_look : DX := { ad := fun K => He.ma K (He.ga K "Disk") "look", name := "look", qual := "Disk.look", st := cBody 9 (top 18) }
def d_law_is : DX := { ad := fun K => He.ga K "_law_is", name := "_law_is", qual := "_law_is", st := top 24 }
def d_Disk_spend : DX := { ad := fun K => He.ma K (He.ga K "Disk") "spend", name := "spend", qual := "Disk.spend", st := cBody 1 (top 18) }
def d_is_block : DX := { ad := fun K => He.ga K "is_block", name := "is_block", qual := "is_block", st := top 16, dfl := fun K => [V.int 8] }
def d_Disk_write : DX := { ad := fun K => He.ma K (He.ga K "Disk") "write", name := "write", qual := "Disk.write", st := cBody 2 (top 18) }
def d_blocks_behind : DX := { ad := fun K => He.ga K "blocks_behind", name := "blocks_behind", qual := "blocks_behind", st := top 17 }
def d_Disk_flush : DX := { ad := fun K => He.ma K (He.ga K "Disk") "flush", name := "flush", qual := "Disk.flush", st := cBody 3 (top 18) }
def d_is_lot : DX := { ad := fun K => He.ga K "is_lot", name := "is_lot", qual := "is_lot", st := top 9 }
def d_need_lot : DX := { ad := fun K => He.ga K "need_lot", name := "need_lot", qual := "need_lot", st := top 11 }
def d_Disk_left_by : DX := { ad := fun K => He.ma K (He.ga K "Disk") "left_by", name := "left_by", qual := "Disk.left_by", st := cBody 4 (top 18) }
def d_Disk_cut : DX := { ad := fun K => He.ma K (He.ga K "Disk") "cut", name := "cut", qual := "Disk.cut", st := cBody 5 (top 18), dfl := fun K => [.ref (dflA K (He.ma K (He.ga K "Disk") "cut") 0)] }
def d_Disk_no_fuse : DX := { ad := fun K => He.ma K (He.ga K "Disk") "no_fuse", name := "no_fuse", qual := "Disk.no_fuse", st := cBody 7 (top 18) }
def d_law : DX := { ad := fun K => He.ga K "law", name := "law", qual := "law", st := top 26 }
def d_BadLot_init : DX := { ad := fun K => He.ma K (He.ga K "BadLot") "__init__", name := "__init__", qual := "BadLot.__init__", st := cBody 0 (top 3), clo := ["__class__"] }
def d_BadNumber_init : DX := { ad := fun K => He.ma K (He.ga K "BadNumber") "__init__", name := "__init__", qual := "BadNumber.__init__", st := cBody 0 (top 2), clo := ["__class__"] }
def d_Out_init : DX := { ad := fun K => He.ma K (He.ga K "Out") "__init__", name := "__init__", qual := "Out.__init__", st := cBody 0 (top 5), clo := ["__class__"] }
def fn0 : List DX := [d_law_pail, d_is_integer, d_is_within, d_need_number, d_Disk_init, d_law_dip, d_law_pick, d_law_heard, d_Disk_fuse, d_law_refused_right, d_Disk_waiting, d_Disk_kept, d_Disk_look, d_law_is, d_Disk_spend, d_is_block]
def fn1 : List DX := [d_Disk_write, d_blocks_behind, d_Disk_flush, d_is_lot, d_need_lot, d_Disk_left_by, d_Disk_cut, d_Disk_no_fuse, d_law]
def fnE : List DX := [d_BadLot_init, d_BadNumber_init, d_Out_init]
def fn : List DX := fn0 ++ fn1 ++ fnE
def names0 : List Str := ["SeenError", "BadNumber", "BadLot", "Misfit", "Out", "is_integer", "is_within", "is_lot", "need_number", "need_lot", "LEAST_BLOCKS", "MOST_BLOCKS", "MOST_IN_BLOCK", "is_block", "blocks_behind", "Disk"]
def names1 : List Str := ["_law_pail", "_law_dip", "_law_pick", "_law_heard", "_law_is", "_law_refused_right"]
def names : List Str := names0 ++ names1
abbrev PP : Program := PySem.Challenge.rw_ownseen_k61_fuses.prog
def tabX : List Str := ["_law_refused_right", "law"]
def isXF (x f : Str) : Bool := if x = "BadLot" ∧ f = "part" then true else if x = "BadNumber" ∧ f = "part" then true else false
def isx_SeenError : Str → Option Bool := fun x => if x = "BadLot" then some true else if x = "BadNumber" then some true else if x = "Out" then some true else none
def cAt (K : PySem.W.Frag) : Nat → Addr := fun i => match i with
  | 0 => He.ga K "Disk"
  | _ => 0
def tb (K : PySem.W.Frag) : Tb := ⟨cAt K, He.ga K, ⟨fun _ => none, fun _ => 0, fun _ => none⟩, 0⟩
def isF : Nat → Str → Bool
  | 0, f => [("many" : Str), ("blocks" : Str), ("writes" : Str), ("left" : Str)].contains f
  | _, _ => false
def kitTab : List ((Ty × Ty) × Bool) := [((.c 0, .x "BadLot"), false), ((.c 0, .x "BadNumber"), false), ((.c 0, .x "Misfit"), false), ((.c 0, .x "Out"), false), ((.c 0, .b "ValueError"), false), ((.c 0, .b "bool"), false), ((.c 0, .b "int"), false), ((.c 0, .b "list"), false), ((.c 0, .b "tuple"), false), ((.b "NoneType", .x "BadLot"), false), ((.b "NoneType", .x "BadNumber"), false), ((.b "NoneType", .x "Misfit"), false), ((.b "NoneType", .x "Out"), false), ((.b "bool", .x "BadLot"), false), ((.b "bool", .x "BadNumber"), false), ((.b "bool", .x "Misfit"), false), ((.b "bool", .x "Out"), false), ((.b "int", .x "BadLot"), false), ((.b "int", .x "BadNumber"), false), ((.b "int", .x "Misfit"), false), ((.b "int", .x "Out"), false), ((.b "str", .x "BadLot"), false), ((.b "str", .x "BadNumber"), false), ((.b "str", .x "Misfit"), false), ((.b "str", .x "Out"), false), ((.b "tuple", .x "BadLot"), false), ((.b "tuple", .x "BadNumber"), false), ((.b "tuple", .x "Misfit"), false), ((.b "tuple", .x "Out"), false), ((.b "list", .x "BadLot"), false), ((.b "list", .x "BadNumber"), false), ((.b "list", .x "Misfit"), false), ((.b "list", .x "Out"), false), ((.x "BadLot", .x "BadLot"), true), ((.x "BadLot", .x "BadNumber"), false), ((.x "BadLot", .x "Misfit"), false), ((.x "BadLot", .x "Out"), false), ((.x "BadLot", .b "ValueError"), true), ((.x "BadLot", .b "bool"), false), ((.x "BadLot", .b "int"), false), ((.x "BadLot", .b "list"), false), ((.x "BadLot", .b "tuple"), false), ((.x "BadNumber", .x "BadLot"), false), ((.x "BadNumber", .x "BadNumber"), true), ((.x "BadNumber", .x "Misfit"), false), ((.x "BadNumber", .x "Out"), false), ((.x "BadNumber", .b "ValueError"), true), ((.x "BadNumber", .b "bool"), false), ((.x "BadNumber", .b "int"), false), ((.x "BadNumber", .b "list"), false), ((.x "BadNumber", .b "tuple"), false), ((.x "Out", .x "BadLot"), false), ((.x "Out", .x "BadNumber"), false), ((.x "Out", .x "Misfit"), false), ((.x "Out", .x "Out"), true), ((.x "Out", .b "ValueError"), true), ((.x "Out", .b "bool"), false), ((.x "Out", .b "int"), false), ((.x "Out", .b "list"), false), ((.x "Out", .b "tuple"), false)]
@[irreducible] def isub : Ty → Ty → Option Bool := subOf kitTab
theorem isub_eq : isub = subOf kitTab := by unfold isub; rfl
def N_law_pail : List Str := ["_law_script", "_law_cell"]
def m_law_pail : M Fl := mRet (mArr (mCons (frz (mLc (mIter true (mSl (varB 0) (M.ret none) (mPart (M.ret (.int 63))))) (.nm 1) (mYes) (mUn intOfD (varB 1)) [1])) (mCons (M.ret (.int 0)) (mCons (M.ret (.int 0)) (mNil)))))
def phi_law_pail : Fn := fnOf N_law_pail m_law_pail
def N_is_integer : List Str := ["value"]
def m_is_integer : M Fl := mRet (mAndV (mIsi isub [.b "int"] (varB 0)) (mNotV (mIsi isub [.b "bool"] (varB 0))))
def phi_is_integer : Fn := fnOf N_is_integer m_is_integer
def N_is_within : List Str := ["value", "least", "most"]
def m_is_within : M Fl := mSeq (mIfS (mNot (mTru (mCall phi_is_integer [.p 0] [] 1 (mCons (varF 0) (mNil)) (mNil)))) (mRet (M.ret (.bl false))) (M.ret .nx)) (mRet (mAndV (mOrV (mBin isD (varB 1) (M.ret .non)) (mBin geD (varB 0) (varB 1))) (mOrV (mBin isD (varB 2) (M.ret .non)) (mBin leD (varB 0) (varB 2)))))
def phi_is_within : Fn := fnOf N_is_within m_is_within
def N_need_number : List Str := ["value", "part", "least", "most"]
def m_need_number : M Fl := mIfS (mNot (mTru (mCall phi_is_within [.p 0, .p 1, .p 2] [] 3 (mCons (varF 0) (mCons (varF 2) (mCons (varF 3) (mNil)))) (mNil)))) (mRaise "BadNumber" ["part"] (mCons (varF 1) (mNil))) (M.ret .nx)
def phi_need_number : Fn := fnOf N_need_number m_need_number
def N_Disk_init : List Str := ["self", "many", "at"]
def m_Disk_init : M Fl := mSeq (mDrop (mCall phi_need_number [.p 0, .p 1, .p 2, .p 3] [] 4 (mCons (varF 1) (mCons (M.ret (.str "many")) (mCons (M.ret (.int 4)) (mCons (M.ret (.int 128)) (mNil))))) (mNil))) (mSeq (mSetF isF "many" (varF 0) (varF 1)) (mSeq (mSetF isF "blocks" (varF 0) (mLc (mRng1 (mCons (varF 1) (mNil))) (.nm 2) (mYes) (mTup (mNil)) [2])) (mSeq (mSetF isF "writes" (varF 0) (mLst (mNil))) (mSetF isF "left" (varF 0) (M.ret .non)))))
def phi_Disk_init : Fn := fnOf N_Disk_init m_Disk_init
def N_law_dip : List Str := ["_law_pail_here", "_law_many", "_law_rest", "_law_turn", "_law_cell", "_law_mixed"]
def m_law_dip : M Fl := mSeq (mIfS (mTru (mBin gtD (mBinS idxS (varB 0) (M.ret (.int 2))) (M.ret (.int 0)))) (mSeq (mSetS 2 (mUn intOfD (mBinS idxS (varB 0) (M.ret (.int 2))))) (mSeq (mSetI (varF 0) (M.ret (.int 2)) (frz (mBin divD (varB 2) (varB 1)))) (mRet (mBin modD (mUn intOfD (varB 2)) (varB 1))))) (M.ret .nx)) (mSeq (mSetS 3 (mBinS idxS (varB 0) (M.ret (.int 1)))) (mSeq (mSetI (varF 0) (M.ret (.int 1)) (frz (mBin addD (varB 3) (M.ret (.int 1))))) (mSeq (mSetS 4 (mBin addD (mBin mulD (M.ret (.int 61151)) (varB 3)) (M.ret (.int 5939)))) (mSeq (mIfS (mTru (mBin neD (mBinS idxS (varB 0) (M.ret (.int 0))) (mLst (mNil)))) (mSetS 4 (mBinS idxS (mBinS idxS (varB 0) (M.ret (.int 0))) (mBin modD (mUn intOfD (varB 3)) (mUn lenD (mBinS idxS (varB 0) (M.ret (.int 0))))))) (M.ret .nx)) (mSeq (mIfS (mAnd (mTru (mBin ltD (varB 3) (mUn lenD (mBinS idxS (varB 0) (M.ret (.int 0)))))) (mTru (mBin geD (mUn absD (varB 4)) (mBin powD (M.ret (.int 10)) (M.ret (.int 18)))))) (mSeq (mSetS 2 (mBin addD (mBin mulD (M.ret (.int 2)) (mBin subD (mUn absD (varB 4)) (mBin powD (M.ret (.int 10)) (M.ret (.int 18))))) (mUn intOfD (mBin ltD (varB 4) (M.ret (.int 0)))))) (mSeq (mSetI (varF 0) (M.ret (.int 2)) (frz (mBin divD (mUn intOfD (varB 2)) (varB 1)))) (mRet (mBin modD (mUn intOfD (varB 2)) (varB 1))))) (M.ret .nx)) (mSeq (mSetS 5 (mBin modD (mUn intOfD (mBin powD (mBin addD (mBin addD (mBin modD (mUn intOfD (varB 4)) (M.ret (.int 2147483549))) (mBin mulD (M.ret (.int 39139)) (varB 3))) (M.ret (.int 5939))) (M.ret (.int 5)))) (M.ret (.int 2147483587)))) (mSeq (mSetS 5 (mBin modD (mUn intOfD (mBin powD (mBin addD (mBin addD (mBin mulD (varB 5) (mBin addD (mBin mulD (M.ret (.int 2)) (varB 3)) (M.ret (.int 4409)))) (mBin mulD (mBin mulD (M.ret (.int 61151)) (varB 3)) (varB 3))) (M.ret (.int 39139))) (M.ret (.int 3)))) (M.ret (.int 2147483563)))) (mRet (mBin modD (mUn intOfD (mBin divD (varB 5) (M.ret (.int 64)))) (varB 1))))))))))
def phi_law_dip : Fn := fnOf N_law_dip m_law_dip
def N_law_pick : List Str := ["_law_pail_here", "_law_some"]
def m_law_pick : M Fl := mRet (mBinS idxS (varB 1) (mCall phi_law_dip [.p 0, .p 1] [] 2 (mCons (varF 0) (mCons (frz (mUn lenD (varB 1))) (mNil))) (mNil)))
def phi_law_pick : Fn := fnOf N_law_pick m_law_pick
def N_law_heard : List Str := ["_law_ask", "_law_caught", "_law_told", "error", "_law_kinds", "_law_words", "_law_word", "_law_is_so"]
def m_law_heard (f_ : Nat) (act_ : Sto → Out D) : M Fl := mSeq (mSetNs [1, 2] (mCons (M.ret .non) (mCons (M.ret (.int 0)) (mNil)))) (mSeq (mTryAs isx_SeenError 3 (mSetS 2 (mAct 0 f_ act_)) (mSetS 1 (varF 3))) (mSeq (mIfS (mTru (mBin isD (varB 1) (M.ret .non))) (mRet (mIfE (mTru (mBin isD (varB 2) (M.ret .non))) (M.ret (.str "fine")) (M.ret (.str "told")))) (M.ret .nx)) (mSeq (mSetS 4 (mLst (mCons (mTup (mCons (M.ret (.str "number")) (mCons (frz (mIsi isub [.x "BadNumber"] (varB 1))) (mNil)))) (mCons (mTup (mCons (M.ret (.str "lot")) (mCons (frz (mIsi isub [.x "BadLot"] (varB 1))) (mNil)))) (mCons (mTup (mCons (M.ret (.str "misfit")) (mCons (frz (mIsi isub [.x "Misfit"] (varB 1))) (mNil)))) (mNil)))))) (mSeq (mSetS 5 (mLc (mIter true (varB 4)) (.tp [.nm 6, .nm 7]) (mTru (varB 7)) (varF 6) [6, 7])) (mSeq (mIfS (mTru (mIsi isub [.x "Out"] (varB 1))) (mRet (mIfE (mAnd (mTru (mBin eqD (varB 5) (mLst (mNil)))) (mTru (mIsi isub [.b "ValueError"] (varB 1)))) (M.ret (.str "out")) (M.ret (.str "other")))) (M.ret .nx)) (mRet (mIfE (mTru (mBin eqD (mUn lenD (varB 5)) (M.ret (.int 1)))) (mTup (mCons (mBinS idxS (varB 5) (M.ret (.int 0))) (mCons (fldX isXF "part" (varF 1)) (mNil)))) (M.ret (.str "other")))))))))
def phi_law_heard (f_ : Nat) (act_ : Sto → Out D) : Fn := fnOf N_law_heard (m_law_heard f_ act_)
def N_Disk_fuse : List Str := ["self", "many"]
def m_Disk_fuse : M Fl := mSeq (mDrop (mCall phi_need_number [.p 0, .p 1, .p 2, .p 3] [] 4 (mCons (varF 1) (mCons (M.ret (.str "many")) (mCons (M.ret (.int 1)) (mCons (M.ret .non) (mNil))))) (mNil))) (mSetF isF "left" (varF 0) (varF 1))
def phi_Disk_fuse : Fn := fnOf N_Disk_fuse m_Disk_fuse
def N_law_refused_right : List Str := ["_law_pail_here", "_law_disk", "_law_value"]
noncomputable def m_law_refused_right : M Fl := mSeq (mFor (.nm 2) (mIter false (mLst (mCons (M.ret .non) (mCons (M.ret (.int 0)) (mCons (mUn negD (M.ret (.int 1))) (mCons (M.ret (.bl true)) (mCons (M.ret (.str "1")) (mCons (frz (mLst (mCons (M.ret (.int 1)) (mNil)))) (mCons (frz (mBin subD (mUn negD (M.ret (.int 1))) (mCall phi_law_dip [.p 0, .p 1] [] 2 (mCons (varF 0) (mCons (frz (mBin powD (M.ret (.int 10)) (M.ret (.int 20)))) (mNil))) (mNil)))) (mNil)))))))))) (mIfS (mTru (mBin neD (mFzs [1, 2] (mLam 0 (lamN "_law_refused_right") [1, 2] phi_law_heard (mMeth "fuse" (mtL [(0, ⟨phi_Disk_fuse, [.p 0, .p 1], [], 2⟩)]) (varF 1) (mCons (varF 2) (mNil)) (mNil)))) (mTup (mCons (M.ret (.str "number")) (mCons (M.ret (.str "many")) (mNil)))))) (mRet (M.ret (.bl false))) (M.ret .nx))) (mRet (M.ret (.bl true)))
noncomputable def phi_law_refused_right : Fn := fnOf N_law_refused_right m_law_refused_right
def N_Disk_waiting : List Str := ["self"]
def m_Disk_waiting : M Fl := mRet (mUn lenD (fldB isF "writes" (varF 0)))
def phi_Disk_waiting : Fn := fnOf N_Disk_waiting m_Disk_waiting
def N_Disk_kept : List Str := ["self"]
def m_Disk_kept : M Fl := mRet (mUn tupOfD (fldB isF "blocks" (varF 0)))
def phi_Disk_kept : Fn := fnOf N_Disk_kept m_Disk_kept
def N_Disk_look : List Str := ["self", "at", "mine", "spot", "block"]
def m_Disk_look : M Fl := mSeq (mDrop (mCall phi_need_number [.p 0, .p 1, .p 2, .p 3] [] 4 (mCons (varF 1) (mCons (M.ret (.str "at")) (mCons (M.ret (.int 0)) (mCons (frz (mBin subD (fldB isF "many" (varF 0)) (M.ret (.int 1)))) (mNil))))) (mNil))) (mSeq (mSetS 2 (mLc (mIter true (fldB isF "writes" (varF 0))) (.tp [.nm 3, .nm 4]) (mTru (mBin eqD (varB 3) (varB 1))) (varF 4) [3, 4])) (mRet (mIfE (mTru (mBin neD (varB 2) (mLst (mNil)))) (mBinS idxS (varB 2) (mUn negD (M.ret (.int 1)))) (mBinS idxS (fldB isF "blocks" (varF 0)) (varB 1)))))
def phi_Disk_look : Fn := fnOf N_Disk_look m_Disk_look
def N_law_is : List Str := ["_law_disk", "_law_kept", "_law_waits", "_law_reads", "_law_at", "_law_block"]
def m_law_is : M Fl := mSeq (mSetS 3 (mUn listOfD (varB 1))) (mSeq (mFor (.tp [.nm 4, .nm 5]) (mIterV 2) (mSetIV 3 (varB 4) (varF 5))) (mSeq (mIfS (mOr (mTru (mBin neD (mUn reprD (mMeth "kept" (mtL [(0, ⟨phi_Disk_kept, [.p 0], [], 1⟩)]) (varF 0) (mNil) (mNil))) (mUn reprD (mUn tupOfD (varB 1))))) (mTru (mBin neD (mMeth "waiting" (mtL [(0, ⟨phi_Disk_waiting, [.p 0], [], 1⟩)]) (varF 0) (mNil) (mNil)) (mUn lenD (varB 2))))) (mRet (M.ret (.bl false))) (M.ret .nx)) (mRet (mBin eqD (mUn reprD (mLc (mRng1 (mCons (frz (mUn lenD (varB 1))) (mNil))) (.nm 4) (mYes) (mMeth "look" (mtL [(0, ⟨phi_Disk_look, [.p 0, .p 1], [], 2⟩)]) (varF 0) (mCons (varF 4) (mNil)) (mNil)) [4])) (mUn reprD (varB 3))))))
def phi_law_is : Fn := fnOf N_law_is m_law_is
def N_Disk_spend : List Str := ["self"]
def m_Disk_spend : M Fl := mIfS (mTru (mBin isNotD (fldB isF "left" (varF 0)) (M.ret .non))) (mSeq (mIfS (mTru (mBin eqD (fldB isF "left" (varF 0)) (M.ret (.int 1)))) (mRaise "Out" [] mNil) (M.ret .nx)) (mSetF isF "left" (varF 0) (mBin subD (fldB isF "left" (varF 0)) (M.ret (.int 1))))) (M.ret .nx)
def phi_Disk_spend : Fn := fnOf N_Disk_spend m_Disk_spend
def N_is_block : List Str := ["value", "most", "each"]
def m_is_block : M Fl := mRet (mAndV (mIsi isub [.b "list", .b "tuple"] (varB 0)) (mAndV (mBin leD (mUn lenD (varB 0)) (varB 1)) (mUn allD (mLc (mIter true (varB 0)) (.nm 2) (mYes) (mCall phi_is_integer [.p 0] [] 1 (mCons (varF 2) (mNil)) (mNil)) [2]))))
def phi_is_block : Fn := fnOf N_is_block m_is_block
def N_Disk_write : List Str := ["self", "at", "block"]
def m_Disk_write : M Fl := mSeq (mDrop (mCall phi_need_number [.p 0, .p 1, .p 2, .p 3] [] 4 (mCons (varF 1) (mCons (M.ret (.str "at")) (mCons (M.ret (.int 0)) (mCons (frz (mBin subD (fldB isF "many" (varF 0)) (M.ret (.int 1)))) (mNil))))) (mNil))) (mSeq (mIfS (mNot (mTru (mCall phi_is_block [.p 0, .d 0] [.int 8] 2 (mCons (varF 2) (mNil)) (mNil)))) (mRaise "BadNumber" ["part"] (mCons (M.ret (.str "block")) (mNil))) (M.ret .nx)) (mSeq (mDrop (mMeth "spend" (mtL [(0, ⟨phi_Disk_spend, [.p 0], [], 1⟩)]) (varF 0) (mNil) (mNil))) (mAppF isF 0 "writes" (mTup (mCons (varF 1) (mCons (frz (mUn tupOfD (varB 2))) (mNil)))))))
def phi_Disk_write : Fn := fnOf N_Disk_write m_Disk_write
def N_blocks_behind : List Str := ["blocks", "writes", "lands", "torn", "found", "number", "at", "block"]
def m_blocks_behind : M Fl := mSeq (mSetS 4 (mUn listOfD (varB 0))) (mSeq (mFor (.tp [.nm 5, .tp [.nm 6, .nm 7]]) (mEnum false (mCons (varF 1) (mNil))) (mIfS (mTru (mBin inD (varB 5) (varB 2))) (mSetIV 4 (varB 6) (varF 7)) (mIfS (mTru (mBin inD (varB 5) (varB 3))) (mSetIV 4 (varB 6) (mTup (mNil))) (M.ret .nx)))) (mRetV 4))
def phi_blocks_behind : Fn := fnOf N_blocks_behind m_blocks_behind
def N_Disk_flush : List Str := ["self"]
def m_Disk_flush : M Fl := mSeq (mDrop (mMeth "spend" (mtL [(0, ⟨phi_Disk_spend, [.p 0], [], 1⟩)]) (varF 0) (mNil) (mNil))) (mSeq (mSetF isF "blocks" (varF 0) (mCall phi_blocks_behind [.p 0, .p 1, .p 2, .p 3] [] 4 (mCons (fldF isF "blocks" (varF 0)) (mCons (fldF isF "writes" (varF 0)) (mCons (frz (mUn lstRg1 (mUn lenD (fldB isF "writes" (varF 0))))) (mCons (frz (mLst (mNil))) (mNil))))) (mNil))) (mSetF isF "writes" (varF 0) (mLst (mNil))))
def phi_Disk_flush : Fn := fnOf N_Disk_flush m_Disk_flush
def N_is_lot : List Str := ["value", "many", "each", "one", "other"]
def m_is_lot : M Fl := mSeq (mIfS (mOr (mNot (mTru (mIsi isub [.b "list", .b "tuple"] (varB 0)))) (mNot (mTru (mUn allD (mLc (mIter true (varB 0)) (.nm 2) (mYes) (mCall phi_is_within [.p 0, .p 1, .p 2] [] 3 (mCons (varF 2) (mCons (M.ret (.int 0)) (mCons (frz (mBin subD (varB 1) (M.ret (.int 1)))) (mNil)))) (mNil)) [2]))))) (mRet (M.ret (.bl false))) (M.ret .nx)) (mRet (mUn allD (mLc (mZip true (mCons (varF 0) (mCons (frz (mSl (varB 0) (mPart (M.ret (.int 1))) (M.ret none))) (mNil)))) (.tp [.nm 3, .nm 4]) (mYes) (mBin ltD (varB 3) (varB 4)) [3, 4])))
def phi_is_lot : Fn := fnOf N_is_lot m_is_lot
def N_need_lot : List Str := ["value", "part", "many"]
def m_need_lot : M Fl := mSeq (mIfS (mNot (mTru (mCall phi_is_lot [.p 0, .p 1] [] 2 (mCons (varF 0) (mCons (varF 2) (mNil))) (mNil)))) (mRaise "BadLot" ["part"] (mCons (varF 1) (mNil))) (M.ret .nx)) (mRet (mUn tupOfD (varB 0)))
def phi_need_lot : Fn := fnOf N_need_lot m_need_lot
def N_Disk_left_by : List Str := ["self", "lands", "torn", "mine", "its", "number"]
def m_Disk_left_by : M Fl := mSeq (mSetS 3 (mCall phi_need_lot [.p 0, .p 1, .p 2] [] 3 (mCons (varF 1) (mCons (M.ret (.str "lands")) (mCons (frz (mUn lenD (fldB isF "writes" (varF 0)))) (mNil)))) (mNil))) (mSeq (mSetS 4 (mCall phi_need_lot [.p 0, .p 1, .p 2] [] 3 (mCons (varF 2) (mCons (M.ret (.str "torn")) (mCons (frz (mUn lenD (fldB isF "writes" (varF 0)))) (mNil)))) (mNil))) (mSeq (mIfS (mTru (mUn anyD (mLc (mIter true (varB 3)) (.nm 5) (mYes) (mBin inD (varB 5) (varB 4)) [5]))) (M.fail) (M.ret .nx)) (mRet (mCall phi_blocks_behind [.p 0, .p 1, .p 2, .p 3] [] 4 (mCons (fldF isF "blocks" (varF 0)) (mCons (fldF isF "writes" (varF 0)) (mCons (varF 3) (mCons (varF 4) (mNil))))) (mNil)))))
def phi_Disk_left_by : Fn := fnOf N_Disk_left_by m_Disk_left_by
def N_Disk_cut : List Str := ["self", "lands", "torn"]
def m_Disk_cut : M Fl := mSeq (mSetF isF "blocks" (varF 0) (mMeth "left_by" (mtL [(0, ⟨phi_Disk_left_by, [.p 0, .p 1, .p 2], [], 3⟩)]) (varF 0) (mCons (varF 1) (mCons (varF 2) (mNil))) (mNil))) (mSeq (mSetF isF "writes" (varF 0) (mLst (mNil))) (mSetF isF "left" (varF 0) (M.ret .non)))
def phi_Disk_cut : Fn := fnOf N_Disk_cut m_Disk_cut
def N_Disk_no_fuse : List Str := ["self"]
def m_Disk_no_fuse : M Fl := mSetF isF "left" (varF 0) (M.ret .non)
def phi_Disk_no_fuse : Fn := fnOf N_Disk_no_fuse m_Disk_no_fuse
def N_law : List Str := ["_law_script", "_law_pail_here", "_law_many", "_law_disk", "_law_kept", "_law_waits", "_law_left", "_law_turn", "_law_deed", "_law_due", "_law_at", "_law_block", "_law_heard_here", "_law_spot", "_law_its", "_law_asks", "_law_number"]
noncomputable def m_law : M Fl := mSeq (mSetS 1 (mCall phi_law_pail [.p 0] [] 1 (mCons (varF 0) (mNil)) (mNil))) (mSeq (mSetS 2 (mBin addD (M.ret (.int 4)) (mCall phi_law_pick [.p 0, .p 1] [] 2 (mCons (varF 1) (mCons (frz (mLst (mCons (M.ret (.int 0)) (mCons (M.ret (.int 2)) (mCons (M.ret (.int 16)) (mNil)))))) (mNil))) (mNil)))) (mSeq (mSetS 3 (mMake 0 phi_Disk_init [.p 0, .p 1] [] 2 (mCons (varF 2) (mNil)) (mNil))) (mSeq (mSetNs [4, 5, 6] (mCons (mUn listOfD (mMeth "kept" (mtL [(0, ⟨phi_Disk_kept, [.p 0], [], 1⟩)]) (varF 3) (mNil) (mNil))) (mCons (mLst (mNil)) (mCons (M.ret .non) (mNil))))) (mSeq (mFor (.nm 7) (mRng1 (mCons (frz (mBin addD (M.ret (.int 5)) (mCall phi_law_dip [.p 0, .p 1] [] 2 (mCons (varF 1) (mCons (M.ret (.int 36)) (mNil))) (mNil)))) (mNil))) (mSeq (mSetS 8 (mCall phi_law_pick [.p 0, .p 1] [] 2 (mCons (varF 1) (mCons (frz (mLst (mCons (M.ret (.str "write")) (mCons (M.ret (.str "write")) (mCons (M.ret (.str "flush")) (mCons (M.ret (.str "fuse")) (mCons (M.ret (.str "write")) (mCons (M.ret (.str "cut")) (mCons (M.ret (.str "none")) (mCons (M.ret (.str "odd")) (mCons (M.ret (.str "write")) (mCons (M.ret (.str "flush")) (mNil))))))))))))) (mNil))) (mNil))) (mSeq (mSetS 9 (mIfE (mAnd (mTru (mBin eqD (varB 6) (M.ret (.int 1)))) (mTru (mBin inD (varB 8) (mTup (mCons (M.ret (.str "write")) (mCons (M.ret (.str "flush")) (mNil))))))) (M.ret (.str "out")) (M.ret (.str "fine")))) (mSeq (mIfS (mAnd (mTru (mBin inD (varB 8) (mTup (mCons (M.ret (.str "write")) (mCons (M.ret (.str "flush")) (mNil)))))) (mTru (mBin isNotD (varB 6) (M.ret .non)))) (mSetS 6 (mBin max2D (M.ret (.int 1)) (mBin subD (varB 6) (M.ret (.int 1))))) (M.ret .nx)) (mSeq (mSetNs [10, 11] (mCons (mCall phi_law_dip [.p 0, .p 1] [] 2 (mCons (varF 1) (mCons (varF 2) (mNil))) (mNil)) (mCons (mUn tupOfD (mLc (mRng1 (mCons (frz (mCall phi_law_dip [.p 0, .p 1] [] 2 (mCons (varF 1) (mCons (M.ret (.int 3)) (mNil))) (mNil))) (mNil))) (.nm 16) (mYes) (mCall phi_law_dip [.p 0, .p 1] [] 2 (mCons (varF 1) (mCons (M.ret (.int 50)) (mNil))) (mNil)) [16])) (mNil)))) (mSeq (mIfS (mTru (mBin eqD (varB 8) (M.ret (.str "write")))) (mSeq (mSetS 12 (mFzs [3, 10, 11] (mLam 1 (lamN "law") [3, 10, 11] phi_law_heard (mMeth "write" (mtL [(0, ⟨phi_Disk_write, [.p 0, .p 1, .p 2], [], 3⟩)]) (varF 3) (mCons (varF 10) (mCons (frz (mUn listOfD (varB 11))) (mNil))) (mNil))))) (mSetS 5 (mBin addD (varB 5) (mBin mulD (mLst (mCons (mTup (mCons (varF 10) (mCons (varF 11) (mNil)))) (mNil))) (mUn intOfD (mBin eqD (varB 9) (M.ret (.str "fine")))))))) (mIfS (mTru (mBin eqD (varB 8) (M.ret (.str "flush")))) (mSeq (mSetS 12 (mFzs [3] (mLam 1 (lamN "law") [3] phi_law_heard (mMeth "flush" (mtL [(0, ⟨phi_Disk_flush, [.p 0], [], 1⟩)]) (varF 3) (mNil) (mNil))))) (mIfS (mTru (mBin eqD (varB 9) (M.ret (.str "fine")))) (mSeq (mFor (.tp [.nm 13, .nm 14]) (mIterV 5) (mSetIV 4 (varB 13) (varF 14))) (mSetS 5 (mLst (mNil)))) (M.ret .nx))) (mIfS (mTru (mBin eqD (varB 8) (M.ret (.str "fuse")))) (mSeq (mSetS 6 (mCall phi_law_pick [.p 0, .p 1] [] 2 (mCons (varF 1) (mCons (frz (mLst (mCons (M.ret (.int 1)) (mCons (M.ret (.int 2)) (mCons (M.ret (.int 3)) (mCons (frz (mBin powD (M.ret (.int 10)) (M.ret (.int 20)))) (mCons (frz (mBin addD (M.ret (.int 1)) (mCall phi_law_dip [.p 0, .p 1] [] 2 (mCons (varF 1) (mCons (M.ret (.int 9)) (mNil))) (mNil)))) (mNil)))))))) (mNil))) (mNil))) (mSetS 12 (mFzs [3, 6] (mLam 1 (lamN "law") [3, 6] phi_law_heard (mMeth "fuse" (mtL [(0, ⟨phi_Disk_fuse, [.p 0, .k 0], [], 2⟩)]) (varF 3) (mNil) (mCons (varF 6) (mNil))))))) (mIfS (mTru (mBin eqD (varB 8) (M.ret (.str "cut")))) (mSetNs [12, 5, 6] (mCons (mFzs [3] (mLam 1 (lamN "law") [3] phi_law_heard (mMeth "cut" (mtL [(0, ⟨phi_Disk_cut, [.p 0, .p 1, .d 0], [.tup []], 3⟩)]) (varF 3) (mCons (frz (mLst (mNil))) (mNil)) (mNil)))) (mCons (mLst (mNil)) (mCons (M.ret .non) (mNil))))) (mIfS (mTru (mBin eqD (varB 8) (M.ret (.str "none")))) (mSetNs [12, 6] (mCons (mFzs [3] (mLam 1 (lamN "law") [3] phi_law_heard (mMeth "no_fuse" (mtL [(0, ⟨phi_Disk_no_fuse, [.p 0], [], 1⟩)]) (varF 3) (mNil) (mNil)))) (mCons (M.ret .non) (mNil)))) (mSeq (mSetS 9 (mCall phi_law_pick [.p 0, .p 1] [] 2 (mCons (varF 1) (mCons (frz (mLst (mCons (mTup (mCons (M.ret (.str "number")) (mCons (M.ret (.str "at")) (mNil)))) (mCons (mTup (mCons (M.ret (.str "number")) (mCons (M.ret (.str "block")) (mNil)))) (mCons (mTup (mCons (M.ret (.str "lot")) (mCons (M.ret (.str "lands")) (mNil)))) (mCons (mTup (mCons (M.ret (.str "lot")) (mCons (M.ret (.str "torn")) (mNil)))) (mNil))))))) (mNil))) (mNil))) (mSeq (mDictL 1 (lamN "law") 15 12 phi_law_heard [("at", [2, 3, 11], mMeth "write" (mtL [(0, ⟨phi_Disk_write, [.p 0, .p 1, .p 2], [], 3⟩)]) (varF 3) (mCons (varF 2) (mCons (varF 11) (mNil))) (mNil)), ("block", [3, 10], mMeth "write" (mtL [(0, ⟨phi_Disk_write, [.p 0, .p 1, .p 2], [], 3⟩)]) (varF 3) (mCons (varF 10) (mCons (M.ret .non) (mNil))) (mNil)), ("lands", [3, 5], mMeth "cut" (mtL [(0, ⟨phi_Disk_cut, [.p 0, .p 1, .d 0], [.tup []], 3⟩)]) (varF 3) (mCons (frz (mLst (mCons (frz (mUn lenD (varB 5))) (mNil)))) (mNil)) (mNil)), ("torn", [3], mMeth "cut" (mtL [(0, ⟨phi_Disk_cut, [.p 0, .p 1, .p 2], [.tup []], 3⟩)]) (varF 3) (mCons (frz (mLst (mNil))) (mCons (frz (mLst (mCons (mUn negD (M.ret (.int 1))) (mNil)))) (mNil))) (mNil))] (mBinS idxS (varB 9) (M.ret (.int 1)))) (M.ret .nx)))))))) (mIfS (mOr (mTru (mBin neD (varB 12) (varB 9))) (mNot (mTru (mCall phi_law_is [.p 0, .p 1, .p 2] [] 3 (mCons (varF 3) (mCons (varB 4) (mCons (varF 5) (mNil)))) (mNil))))) (mRet (M.ret (.bl false))) (M.ret .nx)))))))) (mRet (mAndV (mCall phi_law_refused_right [.p 0, .p 1] [] 2 (mCons (varF 1) (mCons (varF 3) (mNil))) (mNil)) (mCall phi_law_is [.p 0, .p 1, .p 2] [] 3 (mCons (varF 3) (mCons (varB 4) (mCons (varF 5) (mNil)))) (mNil))))))))
noncomputable def phi_law : Fn := fnOf N_law m_law
def exs (K : PySem.W.Frag) : List Bool := [
  (He.Fa.cls "Disk").ok K,
  (He.Fa.mkr "Disk").ok K,
  ownB K (He.ga K "Disk"),
  [("many" : Str), ("blocks" : Str), ("writes" : Str), ("left" : Str)].all fun f => (He.Fa.noat "Disk" f).ok K,
  (He.Fa.meth "Disk" "fuse").ok K,
  (He.Fa.meth "Disk" "waiting").ok K,
  (He.Fa.meth "Disk" "kept").ok K,
  (He.Fa.meth "Disk" "look").ok K,
  (He.Fa.meth "Disk" "spend").ok K,
  (He.Fa.meth "Disk" "write").ok K,
  (He.Fa.meth "Disk" "flush").ok K,
  (He.Fa.meth "Disk" "left_by").ok K,
  (He.Fa.meth "Disk" "cut").ok K,
  itB K (dflA K (He.ma K (He.ga K "Disk") "cut") 0) [],
  (He.Fa.meth "Disk" "no_fuse").ok K,
  (He.Fa.glo "BadLot").ok K,
  (He.Fa.glo "BadNumber").ok K,
  (He.Fa.glo "Disk").ok K,
  (He.Fa.glo "Misfit").ok K,
  (He.Fa.glo "Out").ok K,
  (He.Fa.glo "SeenError").ok K,
  (He.Fa.glo "_law_dip").ok K,
  (He.Fa.glo "_law_heard").ok K,
  (He.Fa.glo "_law_is").ok K,
  (He.Fa.glo "_law_pail").ok K,
  (He.Fa.glo "_law_pick").ok K,
  (He.Fa.glo "_law_refused_right").ok K,
  (He.Fa.glo "blocks_behind").ok K,
  (He.Fa.glo "is_block").ok K,
  (He.Fa.glo "is_integer").ok K,
  (He.Fa.glo "is_lot").ok K,
  (He.Fa.glo "is_within").ok K,
  (He.Fa.glo "law").ok K,
  (He.Fa.glo "need_lot").ok K,
  (He.Fa.glo "need_number").ok K,
  (He.Fa.free "ValueError").ok K,
  (He.Fa.free "abs").ok K,
  (He.Fa.free "all").ok K,
  (He.Fa.free "any").ok K,
  (He.Fa.free "bool").ok K,
  (He.Fa.free "enumerate").ok K,
  (He.Fa.free "int").ok K,
  (He.Fa.free "isinstance").ok K,
  (He.Fa.free "len").ok K,
  (He.Fa.free "list").ok K,
  (He.Fa.free "max").ok K,
  (He.Fa.free "range").ok K,
  (He.Fa.free "repr").ok K,
  (He.Fa.free "super").ok K,
  (He.Fa.free "tuple").ok K,
  (He.Fa.free "zip").ok K,
  (He.Fa.int "LEAST_BLOCKS" 4).ok K,
  (He.Fa.int "MOST_BLOCKS" 128).ok K,
  supB PP K (He.ga K "BadLot") (d_BadLot_init.ad K) ["part"],
  xfB K (He.ga K "BadLot"),
  xfnB K (He.ga K "BadLot") "part",
  xcB K (He.ga K "BadLot"),
  (He.Fa.exm "BadLot" "SeenError" true).ok K,
  supB PP K (He.ga K "BadNumber") (d_BadNumber_init.ad K) ["part"],
  xfB K (He.ga K "BadNumber"),
  xfnB K (He.ga K "BadNumber") "part",
  xcB K (He.ga K "BadNumber"),
  (He.Fa.exm "BadNumber" "SeenError" true).ok K,
  supB PP K (He.ga K "Out") (d_Out_init.ad K) [],
  xfB K (He.ga K "Out"),
  xcB K (He.ga K "Out"),
  (He.Fa.exm "Out" "SeenError" true).ok K,
  tabsB K tabX,
  kitTab.all fun p => kitB' K (tb K) p.1.1 p.1.2 p.2]
def ex (K : PySem.W.Frag) : Bool := allB (exs K)
abbrev R : PySem.W.OpenRow := PySem.W.OpenLaw.row PySem.Challenge.rw_ownseen_k61_fuses
def hk : PySem.W.Hook where
  α := AlM
  obs := fun s => obsG (asM s.heap.get?) ex fn s.heap.get?
  val := fun _ => valM fn
  says := fun _ h => ∃ K : PySem.W.Frag, K.In h ∧ SaysM ex fn K
  of := fun _ _ e => ⟨_, He.frG_in, ⟨e⟩⟩
  keeps := fun _ _ _ ⟨K, hK, c⟩ k => ⟨K, PySem.W.Frag.In.keeps hK k, c⟩
def ob (s : PySem.W.SharedT) : AlM := obsG (asM (HandSHeadRun.getT s)) ex fn (HandSHeadRun.getT s)
theorem ob_eq (s : PySem.W.SharedT) : ob s = hk.obs s.abs := by
  have e : HandSHeadRun.getT s = s.abs.heap.get? := funext (HandSHeadRun.getT_eq s)
  show obsG (asM (HandSHeadRun.getT s)) ex fn (HandSHeadRun.getT s) = obsG (asM s.abs.heap.get?) ex fn s.abs.heap.get?
  rw [e]
theorem sups_BadLot : SupS d_BadLot_init "self" ["part"] := ⟨rfl, rfl, fun _ => rfl, ⟨_, _, _, _, _, _, _, _, _, _, rfl, rfl, rfl, by decide +kernel, by decide +kernel, rfl, rfl, rfl, by decide +kernel, by decide +kernel, (fun s xs _ _ _ _ _ _ _ h => by
    match xs, h with
    | [a, b], _ => rfl), (fun _ _ _ _ => .cons rfl rfl (by show List.lookup _ (sScope LW.d_BadLot_init.st).names = _; decide +kernel) ( .nil)), (fun _ _ _ _ => ⟨_, rfl⟩), (fun _ _ _ _ => rfl), (fun _ _ _ _ => rfl), by decide⟩, by decide, by decide, by decide⟩
theorem sups_BadNumber : SupS d_BadNumber_init "self" ["part"] := ⟨rfl, rfl, fun _ => rfl, ⟨_, _, _, _, _, _, _, _, _, _, rfl, rfl, rfl, by decide +kernel, by decide +kernel, rfl, rfl, rfl, by decide +kernel, by decide +kernel, (fun s xs _ _ _ _ _ _ _ h => by
    match xs, h with
    | [a, b], _ => rfl), (fun _ _ _ _ => .cons rfl rfl (by show List.lookup _ (sScope LW.d_BadNumber_init.st).names = _; decide +kernel) ( .nil)), (fun _ _ _ _ => ⟨_, rfl⟩), (fun _ _ _ _ => rfl), (fun _ _ _ _ => rfl), by decide⟩, by decide, by decide, by decide⟩
theorem sups_Out : SupS d_Out_init "self" [] := ⟨rfl, rfl, fun _ => rfl, ⟨_, _, _, _, _, _, _, _, _, _, rfl, rfl, rfl, by decide +kernel, by decide +kernel, rfl, rfl, rfl, by decide +kernel, by decide +kernel, (fun s xs _ _ _ _ _ _ _ h => by
    match xs, h with
    | [a], _ => rfl), (fun _ _ _ _ =>  .nil), (fun _ _ _ _ => ⟨_, rfl⟩), (fun _ _ _ _ => rfl), (fun _ _ _ _ => rfl), by decide⟩, by decide, by decide, by decide⟩
structure Ctx (K : PySem.W.Frag) (mg : Str → Option Value) : Prop where
  g_BadLot : mg "BadLot" = some (.ref (He.ga K "BadLot"))
  g_BadNumber : mg "BadNumber" = some (.ref (He.ga K "BadNumber"))
  g_Disk : mg "Disk" = some (.ref (He.ga K "Disk"))
  g_Misfit : mg "Misfit" = some (.ref (He.ga K "Misfit"))
  g_Out : mg "Out" = some (.ref (He.ga K "Out"))
  g_SeenError : mg "SeenError" = some (.ref (He.ga K "SeenError"))
  g__law_dip : mg "_law_dip" = some (.ref (He.ga K "_law_dip"))
  g__law_heard : mg "_law_heard" = some (.ref (He.ga K "_law_heard"))
  g__law_is : mg "_law_is" = some (.ref (He.ga K "_law_is"))
  g__law_pail : mg "_law_pail" = some (.ref (He.ga K "_law_pail"))
  g__law_pick : mg "_law_pick" = some (.ref (He.ga K "_law_pick"))
  g__law_refused_right : mg "_law_refused_right" = some (.ref (He.ga K "_law_refused_right"))
  g_blocks_behind : mg "blocks_behind" = some (.ref (He.ga K "blocks_behind"))
  g_is_block : mg "is_block" = some (.ref (He.ga K "is_block"))
  g_is_integer : mg "is_integer" = some (.ref (He.ga K "is_integer"))
  g_is_lot : mg "is_lot" = some (.ref (He.ga K "is_lot"))
  g_is_within : mg "is_within" = some (.ref (He.ga K "is_within"))
  g_law : mg "law" = some (.ref (He.ga K "law"))
  g_need_lot : mg "need_lot" = some (.ref (He.ga K "need_lot"))
  g_need_number : mg "need_number" = some (.ref (He.ga K "need_number"))
  free_ValueError : mg "ValueError" = none
  free_abs : mg "abs" = none
  free_all : mg "all" = none
  free_any : mg "any" = none
  free_bool : mg "bool" = none
  free_enumerate : mg "enumerate" = none
  free_int : mg "int" = none
  free_isinstance : mg "isinstance" = none
  free_len : mg "len" = none
  free_list : mg "list" = none
  free_max : mg "max" = none
  free_range : mg "range" = none
  free_repr : mg "repr" = none
  free_super : mg "super" = none
  free_tuple : mg "tuple" = none
  free_zip : mg "zip" = none
  gc_LEAST_BLOCKS : GlobC K mg "LEAST_BLOCKS" (.int 4)
  gc_MOST_BLOCKS : GlobC K mg "MOST_BLOCKS" (.int 128)
  cls_0 : Cls K ((tb K).cA 0)
  mk_0 : Mk K ((tb K).cA 0) (He.ma K ((tb K).cA 0) "__init__")
  fld : FldOk K (tb K) isF
  kit : KitOk K (tb K) isub
  xf : XfOk K isXF
  sup_BadLot : SupC PP K (He.ga K "BadLot") (LW.d_BadLot_init.ad K) "self" ["part"]
  sup_BadNumber : SupC PP K (He.ga K "BadNumber") (LW.d_BadNumber_init.ad K) "self" ["part"]
  sup_Out : SupC PP K (He.ga K "Out") (LW.d_Out_init.ad K) "self" []
  exm_SeenError : ExmOk K (.ref (He.ga K "SeenError")) isx_SeenError
  tab_law_refused_right : PySem.W.tabIn K "_law_refused_right" = some (tabP K "_law_refused_right")
  tab_law : PySem.W.tabIn K "law" = some (tabP K "law")
  d_law_pail : FnS K LW.d_law_pail (fdOf K (LW.d_law_pail.ad K))
  d_is_integer : FnS K LW.d_is_integer (fdOf K (LW.d_is_integer.ad K))
  d_is_within : FnS K LW.d_is_within (fdOf K (LW.d_is_within.ad K))
  d_need_number : FnS K LW.d_need_number (fdOf K (LW.d_need_number.ad K))
  d_Disk_init : FnS K LW.d_Disk_init (fdOf K (LW.d_Disk_init.ad K))
  d_law_dip : FnS K LW.d_law_dip (fdOf K (LW.d_law_dip.ad K))
  d_law_pick : FnS K LW.d_law_pick (fdOf K (LW.d_law_pick.ad K))
  d_law_heard : FnS K LW.d_law_heard (fdOf K (LW.d_law_heard.ad K))
  d_Disk_fuse : FnS K LW.d_Disk_fuse (fdOf K (LW.d_Disk_fuse.ad K))
  meth_Disk_fuse : Meth K ((tb K).cA 0) "fuse" (LW.d_Disk_fuse.ad K)
  d_law_refused_right : FnS K LW.d_law_refused_right (fdOf K (LW.d_law_refused_right.ad K))
  d_Disk_waiting : FnS K LW.d_Disk_waiting (fdOf K (LW.d_Disk_waiting.ad K))
  meth_Disk_waiting : Meth K ((tb K).cA 0) "waiting" (LW.d_Disk_waiting.ad K)
  d_Disk_kept : FnS K LW.d_Disk_kept (fdOf K (LW.d_Disk_kept.ad K))
  meth_Disk_kept : Meth K ((tb K).cA 0) "kept" (LW.d_Disk_kept.ad K)
  d_Disk_look : FnS K LW.d_Disk_look (fdOf K (LW.d_Disk_look.ad K))
  meth_Disk_look : Meth K ((tb K).cA 0) "look" (LW.d_Disk_look.ad K)
  d_law_is : FnS K LW.d_law_is (fdOf K (LW.d_law_is.ad K))
  d_Disk_spend : FnS K LW.d_Disk_spend (fdOf K (LW.d_Disk_spend.ad K))
  meth_Disk_spend : Meth K ((tb K).cA 0) "spend" (LW.d_Disk_spend.ad K)
  d_is_block : FnS K LW.d_is_block (fdOf K (LW.d_is_block.ad K))
  d_Disk_write : FnS K LW.d_Disk_write (fdOf K (LW.d_Disk_write.ad K))
  meth_Disk_write : Meth K ((tb K).cA 0) "write" (LW.d_Disk_write.ad K)
  d_blocks_behind : FnS K LW.d_blocks_behind (fdOf K (LW.d_blocks_behind.ad K))
  d_Disk_flush : FnS K LW.d_Disk_flush (fdOf K (LW.d_Disk_flush.ad K))
  meth_Disk_flush : Meth K ((tb K).cA 0) "flush" (LW.d_Disk_flush.ad K)
  d_is_lot : FnS K LW.d_is_lot (fdOf K (LW.d_is_lot.ad K))
  d_need_lot : FnS K LW.d_need_lot (fdOf K (LW.d_need_lot.ad K))
  d_Disk_left_by : FnS K LW.d_Disk_left_by (fdOf K (LW.d_Disk_left_by.ad K))
  meth_Disk_left_by : Meth K ((tb K).cA 0) "left_by" (LW.d_Disk_left_by.ad K)
  d_Disk_cut : FnS K LW.d_Disk_cut (fdOf K (LW.d_Disk_cut.ad K))
  meth_Disk_cut : Meth K ((tb K).cA 0) "cut" (LW.d_Disk_cut.ad K)
  d_Disk_no_fuse : FnS K LW.d_Disk_no_fuse (fdOf K (LW.d_Disk_no_fuse.ad K))
  meth_Disk_no_fuse : Meth K ((tb K).cA 0) "no_fuse" (LW.d_Disk_no_fuse.ad K)
  d_law : FnS K LW.d_law (fdOf K (LW.d_law.ad K))
  bA_is_integer_1 : BindA K (fdOf K (LW.d_is_integer.ad K)) ["value"] 1 [] [.p 0] []
  bA_is_within_3 : BindA K (fdOf K (LW.d_is_within.ad K)) ["value", "least", "most"] 3 [] [.p 0, .p 1, .p 2] []
  bA_need_number_4 : BindA K (fdOf K (LW.d_need_number.ad K)) ["value", "part", "least", "most"] 4 [] [.p 0, .p 1, .p 2, .p 3] []
  bA_law_dip_2 : BindA K (fdOf K (LW.d_law_dip.ad K)) ["_law_pail_here", "_law_many"] 2 [] [.p 0, .p 1] []
  bA_Disk_fuse_2 : BindA K (fdOf K (LW.d_Disk_fuse.ad K)) ["self", "many"] 2 [] [.p 0, .p 1] []
  bA_Disk_look_2 : BindA K (fdOf K (LW.d_Disk_look.ad K)) ["self", "at"] 2 [] [.p 0, .p 1] []
  bA_Disk_waiting_1 : BindA K (fdOf K (LW.d_Disk_waiting.ad K)) ["self"] 1 [] [.p 0] []
  bA_Disk_kept_1 : BindA K (fdOf K (LW.d_Disk_kept.ad K)) ["self"] 1 [] [.p 0] []
  bA_Disk_spend_1 : BindA K (fdOf K (LW.d_Disk_spend.ad K)) ["self"] 1 [] [.p 0] []
  bA_is_block_1 : BindA K (fdOf K (LW.d_is_block.ad K)) ["value", "most"] 1 [] [.p 0, .d 0] [.int 8]
  bA_blocks_behind_4 : BindA K (fdOf K (LW.d_blocks_behind.ad K)) ["blocks", "writes", "lands", "torn"] 4 [] [.p 0, .p 1, .p 2, .p 3] []
  bA_is_lot_2 : BindA K (fdOf K (LW.d_is_lot.ad K)) ["value", "many"] 2 [] [.p 0, .p 1] []
  bA_need_lot_3 : BindA K (fdOf K (LW.d_need_lot.ad K)) ["value", "part", "many"] 3 [] [.p 0, .p 1, .p 2] []
  bA_Disk_left_by_3 : BindA K (fdOf K (LW.d_Disk_left_by.ad K)) ["self", "lands", "torn"] 3 [] [.p 0, .p 1, .p 2] []
  bA_law_is_3 : BindA K (fdOf K (LW.d_law_is.ad K)) ["_law_disk", "_law_kept", "_law_waits"] 3 [] [.p 0, .p 1, .p 2] []
  bA_law_refused_right_2 : BindA K (fdOf K (LW.d_law_refused_right.ad K)) ["_law_pail_here", "_law_disk"] 2 [] [.p 0, .p 1] []
  bA_Disk_write_3 : BindA K (fdOf K (LW.d_Disk_write.ad K)) ["self", "at", "block"] 3 [] [.p 0, .p 1, .p 2] []
  bA_Disk_flush_1 : BindA K (fdOf K (LW.d_Disk_flush.ad K)) ["self"] 1 [] [.p 0] []
  bA_Disk_fuse_1_many : BindA K (fdOf K (LW.d_Disk_fuse.ad K)) ["self", "many"] 1 ["many"] [.p 0, .k 0] []
  bA_law_pick_2 : BindA K (fdOf K (LW.d_law_pick.ad K)) ["_law_pail_here", "_law_some"] 2 [] [.p 0, .p 1] []
  bA_Disk_cut_2 : BindA K (fdOf K (LW.d_Disk_cut.ad K)) ["self", "lands", "torn"] 2 [] [.p 0, .p 1, .d 0] [.tup []]
  bA_Disk_no_fuse_1 : BindA K (fdOf K (LW.d_Disk_no_fuse.ad K)) ["self"] 1 [] [.p 0] []
  bA_Disk_cut_3 : BindA K (fdOf K (LW.d_Disk_cut.ad K)) ["self", "lands", "torn"] 3 [] [.p 0, .p 1, .p 2] [.tup []]
  bA_Disk_init_2 : BindA K (fdOf K (LW.d_Disk_init.ad K)) ["self", "many"] 2 [] [.p 0, .p 1] []
  bA_law_pail_1 : BindA K (fdOf K (LW.d_law_pail.ad K)) ["_law_script"] 1 [] [.p 0] []
theorem ctx {K : PySem.W.Frag} {h : Heap} {mg : Str → Option Value} (X : K.In h) (G : h.Ns mainGlobals mg) (c : SaysM ex fn K) : Ctx K mg := by
  have fa : ∀ i, (exs K).getD i true = true := fun i => allB_at c.more i
  have cls_0 : Cls K ((tb K).cA 0) := He.cls_ok (x := "Disk") (fa 0)
  have d_law_pail : FnS K LW.d_law_pail (fdOf K (LW.d_law_pail.ad K)) := c.fn_ 0 rfl
  have d_is_integer : FnS K LW.d_is_integer (fdOf K (LW.d_is_integer.ad K)) := c.fn_ 1 rfl
  have d_is_within : FnS K LW.d_is_within (fdOf K (LW.d_is_within.ad K)) := c.fn_ 2 rfl
  have d_need_number : FnS K LW.d_need_number (fdOf K (LW.d_need_number.ad K)) := c.fn_ 3 rfl
  have d_Disk_init : FnS K LW.d_Disk_init (fdOf K (LW.d_Disk_init.ad K)) := c.fn_ 4 rfl
  have d_law_dip : FnS K LW.d_law_dip (fdOf K (LW.d_law_dip.ad K)) := c.fn_ 5 rfl
  have d_law_pick : FnS K LW.d_law_pick (fdOf K (LW.d_law_pick.ad K)) := c.fn_ 6 rfl
  have d_law_heard : FnS K LW.d_law_heard (fdOf K (LW.d_law_heard.ad K)) := c.fn_ 7 rfl
  have d_Disk_fuse : FnS K LW.d_Disk_fuse (fdOf K (LW.d_Disk_fuse.ad K)) := c.fn_ 8 rfl
  have d_law_refused_right : FnS K LW.d_law_refused_right (fdOf K (LW.d_law_refused_right.ad K)) := c.fn_ 9 rfl
  have d_Disk_waiting : FnS K LW.d_Disk_waiting (fdOf K (LW.d_Disk_waiting.ad K)) := c.fn_ 10 rfl
  have d_Disk_kept : FnS K LW.d_Disk_kept (fdOf K (LW.d_Disk_kept.ad K)) := c.fn_ 11 rfl
  have d_Disk_look : FnS K LW.d_Disk_look (fdOf K (LW.d_Disk_look.ad K)) := c.fn_ 12 rfl
  have d_law_is : FnS K LW.d_law_is (fdOf K (LW.d_law_is.ad K)) := c.fn_ 13 rfl
  have d_Disk_spend : FnS K LW.d_Disk_spend (fdOf K (LW.d_Disk_spend.ad K)) := c.fn_ 14 rfl
  have d_is_block : FnS K LW.d_is_block (fdOf K (LW.d_is_block.ad K)) := c.fn_ 15 rfl
  have d_Disk_write : FnS K LW.d_Disk_write (fdOf K (LW.d_Disk_write.ad K)) := c.fn_ 16 rfl
  have d_blocks_behind : FnS K LW.d_blocks_behind (fdOf K (LW.d_blocks_behind.ad K)) := c.fn_ 17 rfl
  have d_Disk_flush : FnS K LW.d_Disk_flush (fdOf K (LW.d_Disk_flush.ad K)) := c.fn_ 18 rfl
  have d_is_lot : FnS K LW.d_is_lot (fdOf K (LW.d_is_lot.ad K)) := c.fn_ 19 rfl
  have d_need_lot : FnS K LW.d_need_lot (fdOf K (LW.d_need_lot.ad K)) := c.fn_ 20 rfl
  have d_Disk_left_by : FnS K LW.d_Disk_left_by (fdOf K (LW.d_Disk_left_by.ad K)) := c.fn_ 21 rfl
  have d_Disk_cut : FnS K LW.d_Disk_cut (fdOf K (LW.d_Disk_cut.ad K)) := c.fn_ 22 rfl
  have d_Disk_no_fuse : FnS K LW.d_Disk_no_fuse (fdOf K (LW.d_Disk_no_fuse.ad K)) := c.fn_ 23 rfl
  have d_law : FnS K LW.d_law (fdOf K (LW.d_law.ad K)) := c.fn_ 24 rfl
  exact {
    g_BadLot := He.glo_ok X G (x := "BadLot") (fa 15)
    g_BadNumber := He.glo_ok X G (x := "BadNumber") (fa 16)
    g_Disk := He.glo_ok X G (x := "Disk") (fa 17)
    g_Misfit := He.glo_ok X G (x := "Misfit") (fa 18)
    g_Out := He.glo_ok X G (x := "Out") (fa 19)
    g_SeenError := He.glo_ok X G (x := "SeenError") (fa 20)
    g__law_dip := He.glo_ok X G (x := "_law_dip") (fa 21)
    g__law_heard := He.glo_ok X G (x := "_law_heard") (fa 22)
    g__law_is := He.glo_ok X G (x := "_law_is") (fa 23)
    g__law_pail := He.glo_ok X G (x := "_law_pail") (fa 24)
    g__law_pick := He.glo_ok X G (x := "_law_pick") (fa 25)
    g__law_refused_right := He.glo_ok X G (x := "_law_refused_right") (fa 26)
    g_blocks_behind := He.glo_ok X G (x := "blocks_behind") (fa 27)
    g_is_block := He.glo_ok X G (x := "is_block") (fa 28)
    g_is_integer := He.glo_ok X G (x := "is_integer") (fa 29)
    g_is_lot := He.glo_ok X G (x := "is_lot") (fa 30)
    g_is_within := He.glo_ok X G (x := "is_within") (fa 31)
    g_law := He.glo_ok X G (x := "law") (fa 32)
    g_need_lot := He.glo_ok X G (x := "need_lot") (fa 33)
    g_need_number := He.glo_ok X G (x := "need_number") (fa 34)
    free_ValueError := He.free_ok X G (x := "ValueError") (fa 35)
    free_abs := He.free_ok X G (x := "abs") (fa 36)
    free_all := He.free_ok X G (x := "all") (fa 37)
    free_any := He.free_ok X G (x := "any") (fa 38)
    free_bool := He.free_ok X G (x := "bool") (fa 39)
    free_enumerate := He.free_ok X G (x := "enumerate") (fa 40)
    free_int := He.free_ok X G (x := "int") (fa 41)
    free_isinstance := He.free_ok X G (x := "isinstance") (fa 42)
    free_len := He.free_ok X G (x := "len") (fa 43)
    free_list := He.free_ok X G (x := "list") (fa 44)
    free_max := He.free_ok X G (x := "max") (fa 45)
    free_range := He.free_ok X G (x := "range") (fa 46)
    free_repr := He.free_ok X G (x := "repr") (fa 47)
    free_super := He.free_ok X G (x := "super") (fa 48)
    free_tuple := He.free_ok X G (x := "tuple") (fa 49)
    free_zip := He.free_ok X G (x := "zip") (fa 50)
    gc_LEAST_BLOCKS := gcI (He.int_ok X G (x := "LEAST_BLOCKS") (fa 51))
    gc_MOST_BLOCKS := gcI (He.int_ok X G (x := "MOST_BLOCKS") (fa 52))
    cls_0 := cls_0
    mk_0 := He.mkr_ok (x := "Disk") (fa 1)
    fld := ⟨fun i f hf => by
      match i, hf with
      | 0, hf => exact ⟨cls_0, He.noat_ok (x := "Disk") (List.all_eq_true.mp (fa 3) f (by have z := hf; simpa [isF] using z))⟩
      | i + 1, hf => simp [isF] at hf⟩
    sup_BadLot := supC_ok (c.val_ 25 rfl) (fa 53) sups_BadLot (by kernel_rfl)
    sup_BadNumber := supC_ok (c.val_ 26 rfl) (fa 58) sups_BadNumber (by kernel_rfl)
    sup_Out := supC_ok (c.val_ 27 rfl) (fa 63) sups_Out (by kernel_rfl)
    xf := ⟨fun x b e => by
      unfold isXF at e
      split at e
      · rename_i e1
        obtain ⟨e1, e2⟩ := e1
        subst e1 e2
        exact ⟨xfB_ok (fa 54), xfnB_ok (fa 55)⟩
      split at e
      · rename_i e1
        obtain ⟨e1, e2⟩ := e1
        subst e1 e2
        exact ⟨xfB_ok (fa 59), xfnB_ok (fa 60)⟩
      cases e⟩
    exm_SeenError := fun x b e => by
      unfold isx_SeenError at e
      split at e
      · rename_i e1
        subst e1
        cases e
        exact ⟨by decide, He.exm_ok (fa 57)⟩
      split at e
      · rename_i e1
        subst e1
        cases e
        exact ⟨by decide, He.exm_ok (fa 62)⟩
      split at e
      · rename_i e1
        subst e1
        cases e
        exact ⟨by decide, He.exm_ok (fa 66)⟩
      cases e
    tab_law_refused_right := tab_some (xs := tabX) (fa 67) (by simp [tabX])
    tab_law := tab_some (xs := tabX) (fa 67) (by simp [tabX])
    kit := by
      rw [isub_eq]
      exact kitOk_of (fun p hp => List.all_eq_true.mp (fa 68) p hp) (fun p hp i e => by
      have o0 : OwnT K ((tb K).cA 0) := ownB_ok cls_0 (fa 2)
      match i with
      | 0 => exact o0
      | i + 1 =>
        have hne : ∀ p ∈ kitTab, ∀ i, p.1.1 ≠ Ty.c (i + 1) := by
          intro p hp i
          simp only [kitTab, List.mem_cons, List.not_mem_nil, or_false] at hp
          rcases hp with rfl | rfl | rfl | rfl | rfl | rfl | rfl | rfl | rfl | rfl | rfl | rfl | rfl | rfl | rfl | rfl | rfl | rfl | rfl | rfl | rfl | rfl | rfl | rfl | rfl | rfl | rfl | rfl | rfl | rfl | rfl | rfl | rfl | rfl | rfl | rfl | rfl | rfl | rfl | rfl | rfl | rfl | rfl | rfl | rfl | rfl | rfl | rfl | rfl | rfl | rfl | rfl | rfl | rfl | rfl | rfl | rfl | rfl | rfl | rfl <;> simp
        exact absurd e (hne p hp i)) (fun p hp c e => by
      have hx : ∀ p ∈ kitTab, ∀ c, p.1.1 = Ty.x c → c = "BadLot" ∨ c = "BadNumber" ∨ c = "Out" := by
        intro p hp c e
        simp only [kitTab, List.mem_cons, List.not_mem_nil, or_false] at hp
        rcases hp with rfl | rfl | rfl | rfl | rfl | rfl | rfl | rfl | rfl | rfl | rfl | rfl | rfl | rfl | rfl | rfl | rfl | rfl | rfl | rfl | rfl | rfl | rfl | rfl | rfl | rfl | rfl | rfl | rfl | rfl | rfl | rfl | rfl | rfl | rfl | rfl | rfl | rfl | rfl | rfl | rfl | rfl | rfl | rfl | rfl | rfl | rfl | rfl | rfl | rfl | rfl | rfl | rfl | rfl | rfl | rfl | rfl | rfl | rfl | rfl <;> simp at e <;> simp [e.symm]
      rcases hx p hp c e with rfl | rfl | rfl
      · exact ⟨rfl, xcB_ok (fa 56)⟩
      · exact ⟨rfl, xcB_ok (fa 61)⟩
      · exact ⟨rfl, xcB_ok (fa 65)⟩
      )
    d_law_pail := d_law_pail
    d_is_integer := d_is_integer
    d_is_within := d_is_within
    d_need_number := d_need_number
    d_Disk_init := d_Disk_init
    d_law_dip := d_law_dip
    d_law_pick := d_law_pick
    d_law_heard := d_law_heard
    d_Disk_fuse := d_Disk_fuse
    meth_Disk_fuse := He.meth_ok (x := "Disk") (m := "fuse") (fa 4)
    d_law_refused_right := d_law_refused_right
    d_Disk_waiting := d_Disk_waiting
    meth_Disk_waiting := He.meth_ok (x := "Disk") (m := "waiting") (fa 5)
    d_Disk_kept := d_Disk_kept
    meth_Disk_kept := He.meth_ok (x := "Disk") (m := "kept") (fa 6)
    d_Disk_look := d_Disk_look
    meth_Disk_look := He.meth_ok (x := "Disk") (m := "look") (fa 7)
    d_law_is := d_law_is
    d_Disk_spend := d_Disk_spend
    meth_Disk_spend := He.meth_ok (x := "Disk") (m := "spend") (fa 8)
    d_is_block := d_is_block
    d_Disk_write := d_Disk_write
    meth_Disk_write := He.meth_ok (x := "Disk") (m := "write") (fa 9)
    d_blocks_behind := d_blocks_behind
    d_Disk_flush := d_Disk_flush
    meth_Disk_flush := He.meth_ok (x := "Disk") (m := "flush") (fa 10)
    d_is_lot := d_is_lot
    d_need_lot := d_need_lot
    d_Disk_left_by := d_Disk_left_by
    meth_Disk_left_by := He.meth_ok (x := "Disk") (m := "left_by") (fa 11)
    d_Disk_cut := d_Disk_cut
    meth_Disk_cut := He.meth_ok (x := "Disk") (m := "cut") (fa 12)
    d_Disk_no_fuse := d_Disk_no_fuse
    meth_Disk_no_fuse := He.meth_ok (x := "Disk") (m := "no_fuse") (fa 14)
    d_law := d_law
    bA_is_integer_1 := bindA_0 d_is_integer fun _ _ _ _ _ _ us ws xs hu hw hx => by
      match us, hu, ws, hw with
      | [a], _, [], _ => cases hx; rfl
    bA_is_within_3 := bindA_0 d_is_within fun _ _ _ _ _ _ us ws xs hu hw hx => by
      match us, hu, ws, hw with
      | [a, b, c], _, [], _ => cases hx; rfl
    bA_need_number_4 := bindA_0 d_need_number fun _ _ _ _ _ _ us ws xs hu hw hx => by
      match us, hu, ws, hw with
      | [a, b, c, d], _, [], _ => cases hx; rfl
    bA_law_dip_2 := bindA_0 d_law_dip fun _ _ _ _ _ _ us ws xs hu hw hx => by
      match us, hu, ws, hw with
      | [a, b], _, [], _ => cases hx; rfl
    bA_Disk_fuse_2 := bindA_0 d_Disk_fuse fun _ _ _ _ _ _ us ws xs hu hw hx => by
      match us, hu, ws, hw with
      | [a, b], _, [], _ => cases hx; rfl
    bA_Disk_look_2 := bindA_0 d_Disk_look fun _ _ _ _ _ _ us ws xs hu hw hx => by
      match us, hu, ws, hw with
      | [a, b], _, [], _ => cases hx; rfl
    bA_Disk_waiting_1 := bindA_0 d_Disk_waiting fun _ _ _ _ _ _ us ws xs hu hw hx => by
      match us, hu, ws, hw with
      | [a], _, [], _ => cases hx; rfl
    bA_Disk_kept_1 := bindA_0 d_Disk_kept fun _ _ _ _ _ _ us ws xs hu hw hx => by
      match us, hu, ws, hw with
      | [a], _, [], _ => cases hx; rfl
    bA_Disk_spend_1 := bindA_0 d_Disk_spend fun _ _ _ _ _ _ us ws xs hu hw hx => by
      match us, hu, ws, hw with
      | [a], _, [], _ => cases hx; rfl
    bA_is_block_1 := bindA_1 d_is_block (by simp [LW.d_is_block]) (.cons (.int _) (IsFs.nil)) fun _ _ _ _ _ _ _ us ws its xs hu hw hi hx => by
      match us, hu, ws, hw, its, hi with
      | [a], _, [], _, [ia], _ => cases hx; exact ⟨_, rfl, rfl⟩
    bA_blocks_behind_4 := bindA_0 d_blocks_behind fun _ _ _ _ _ _ us ws xs hu hw hx => by
      match us, hu, ws, hw with
      | [a, b, c, d], _, [], _ => cases hx; rfl
    bA_is_lot_2 := bindA_0 d_is_lot fun _ _ _ _ _ _ us ws xs hu hw hx => by
      match us, hu, ws, hw with
      | [a, b], _, [], _ => cases hx; rfl
    bA_need_lot_3 := bindA_0 d_need_lot fun _ _ _ _ _ _ us ws xs hu hw hx => by
      match us, hu, ws, hw with
      | [a, b, c], _, [], _ => cases hx; rfl
    bA_Disk_left_by_3 := bindA_0 d_Disk_left_by fun _ _ _ _ _ _ us ws xs hu hw hx => by
      match us, hu, ws, hw with
      | [a, b, c], _, [], _ => cases hx; rfl
    bA_law_is_3 := bindA_0 d_law_is fun _ _ _ _ _ _ us ws xs hu hw hx => by
      match us, hu, ws, hw with
      | [a, b, c], _, [], _ => cases hx; rfl
    bA_law_refused_right_2 := bindA_0 d_law_refused_right fun _ _ _ _ _ _ us ws xs hu hw hx => by
      match us, hu, ws, hw with
      | [a, b], _, [], _ => cases hx; rfl
    bA_Disk_write_3 := bindA_0 d_Disk_write fun _ _ _ _ _ _ us ws xs hu hw hx => by
      match us, hu, ws, hw with
      | [a, b, c], _, [], _ => cases hx; rfl
    bA_Disk_flush_1 := bindA_0 d_Disk_flush fun _ _ _ _ _ _ us ws xs hu hw hx => by
      match us, hu, ws, hw with
      | [a], _, [], _ => cases hx; rfl
    bA_Disk_fuse_1_many := bindA_0 d_Disk_fuse fun _ _ _ _ _ _ us ws xs hu hw hx => by
      match us, hu, ws, hw with
      | [a], _, [ka], _ => cases hx; rfl
    bA_law_pick_2 := bindA_0 d_law_pick fun _ _ _ _ _ _ us ws xs hu hw hx => by
      match us, hu, ws, hw with
      | [a, b], _, [], _ => cases hx; rfl
    bA_Disk_cut_2 := bindA_1 d_Disk_cut (by simp [LW.d_Disk_cut]) (.cons (itF (is := []) (fa 13) _ _ _) (IsFs.nil)) fun _ _ _ _ _ _ _ us ws its xs hu hw hi hx => by
      match us, hu, ws, hw, its, hi with
      | [a, b], _, [], _, [ia], _ => cases hx; exact ⟨_, rfl, rfl⟩
    bA_Disk_no_fuse_1 := bindA_0 d_Disk_no_fuse fun _ _ _ _ _ _ us ws xs hu hw hx => by
      match us, hu, ws, hw with
      | [a], _, [], _ => cases hx; rfl
    bA_Disk_cut_3 := bindA_1 d_Disk_cut (by simp [LW.d_Disk_cut]) (.cons (itF (is := []) (fa 13) _ _ _) (IsFs.nil)) fun _ _ _ _ _ _ _ us ws its xs hu hw hi hx => by
      match us, hu, ws, hw, its, hi with
      | [a, b, c], _, [], _, [ia], _ => cases hx; exact ⟨_, rfl, rfl⟩
    bA_Disk_init_2 := bindA_0 d_Disk_init fun _ _ _ _ _ _ us ws xs hu hw hx => by
      match us, hu, ws, hw with
      | [a, b], _, [], _ => cases hx; rfl
    bA_law_pail_1 := bindA_0 d_law_pail fun _ _ _ _ _ _ us ws xs hu hw hx => by
      match us, hu, ws, hw with
      | [a], _, [], _ => cases hx; rfl
  }
section
variable {w : World} {K : PySem.W.Frag} {mg : Str → Option Value} {base : Heap}
abbrev Lk (K : PySem.W.Frag) (gb : Gh) (nb : Nat) : Prop := Like (tb K) ((tb K).at gb nb) (tabNs K tabX)
theorem sc_law_pail : FnScope N_law_pail ["_law_script"] (sScope d_law_pail.st) := ⟨rfl, rfl, rfl, by decide +kernel, rfl, by decide +kernel, by decide +kernel⟩
theorem fn_law_pail (C : Ctx K mg) : ∀ gb nb, Lk K gb nb → FnG PP w ((tb K).at gb nb) K mg base true 1 (d_law_pail.ad K) (fdOf K (d_law_pail.ad K)) ["_law_script"] phi_law_pail := by
  have sc := sc_law_pail
  intro gb nb hT
  refine fnG_of C.d_law_pail sc fun cdv A outer s H E hr hgd => ?_
  exact dss_one (qa := true) (ds_ret (qa := true) (ra := false) (de_arr (qa := true) (da_cons (qa := true) (qb := true) (de_frz (q := true) (rb := false) (de_lc (qi := true) (qc := true) (qe := true) (re := false) (fl := true) (own := [("_law_cell", 1)]) (LcOk.mk (qi := true) (qc := true) (qe := true) (re := false) (fl := true) (own := [("_law_cell", 1)]) rfl sc.nd (di_any (qa := true) (ra := false) (fl := true) (de_slice (qa := true) (qb := true) (qc := true) (ra := false) (de_varB (i := 0) rfl (.inl rfl) rfl rfl) (do_none) (do_some (qa := true) (ra := false) (de_int)) (.inl rfl))) (blkOk_by rfl) (fun _ => rfl) (by decide) (fun _ _ _ _ _ => tg_nm sc.nd rfl (.inl rfl) (.inr rfl)) (fun _ _ _ _ _ => dts_nil) (fun _ _ _ _ _ => de_t1 (qa := true) (ra := false) cb_int rfl C.free_int bb_int (by decide) rfl (de_varB (i := 1) rfl (.inl rfl) rfl rfl) rfl) (fun _ => rfl)))) (da_cons (qa := true) (qb := true) (de_int) (da_cons (qa := true) (qb := true) (de_int) (da_nil) rfl) rfl) rfl)))
theorem sc_is_integer : FnScope N_is_integer ["value"] (sScope d_is_integer.st) := ⟨rfl, rfl, rfl, by decide +kernel, rfl, by decide +kernel, by decide +kernel⟩
theorem fn_is_integer (C : Ctx K mg) : ∀ gb nb, Lk K gb nb → FnG PP w ((tb K).at gb nb) K mg base true 1 (d_is_integer.ad K) (fdOf K (d_is_integer.ad K)) ["value"] phi_is_integer := by
  have sc := sc_is_integer
  intro gb nb hT
  refine fnG_of C.d_is_integer sc fun cdv A outer s H E hr hgd => ?_
  exact dss_one (qa := true) (ds_ret (qa := true) (ra := false) (de_andV (qa := true) (qb := true) (ra := false) (rb := false) (de_isi1 (q := true) (ra := false) C.kit.at rfl C.free_isinstance (de_varB (i := 0) rfl (.inl rfl) rfl rfl) (pe_bltn rfl C.free_int bb_int rfl) rfl rfl) (de_one (qa := true) (ra := false) (de_notV (qa := true) (ra := false) (de_isi1 (q := true) (ra := false) C.kit.at rfl C.free_isinstance (de_varB (i := 0) rfl (.inl rfl) rfl rfl) (pe_bltn rfl C.free_bool bb_bool rfl) rfl rfl)))))
theorem sc_is_within : FnScope N_is_within ["value", "least", "most"] (sScope d_is_within.st) := ⟨rfl, rfl, rfl, by decide +kernel, rfl, by decide +kernel, by decide +kernel⟩
theorem fn_is_within (C : Ctx K mg) (F_is_integer : ∀ gb nb, Lk K gb nb → FnG PP w ((tb K).at gb nb) K mg base true 1 (d_is_integer.ad K) (fdOf K (d_is_integer.ad K)) ["value"] phi_is_integer) : ∀ gb nb, Lk K gb nb → FnG PP w ((tb K).at gb nb) K mg base true 2 (d_is_within.ad K) (fdOf K (d_is_within.ad K)) ["value", "least", "most"] phi_is_within := by
  have sc := sc_is_within
  intro gb nb hT
  refine fnG_of C.d_is_within sc fun cdv A outer s H E hr hgd => ?_
  exact dss_cons (qa := true) (qb := true) (ds_if (qc := true) (qa := true) (qb := true) (dt_not (qa := true) (dt_val (qa := true) (ra := false) (fun _ => rfl) (de_call (qa := true) (qb := true) (qf := true) (ps := ["value"]) (F_is_integer _ _ hT) (hr.mono (by decide)) hgd rfl C.g_is_integer C.d_is_integer.kp C.bA_is_integer_1 rfl (da_cons (qa := true) (qb := true) (de_varF (i := 0) rfl (.inl rfl) rfl rfl) (da_nil) rfl) (dk_nil) rfl rfl (LenA.cons (LenA.nil)) (LenK.nil)))) (dss_one (qa := true) (ds_ret (qa := true) (ra := false) (de_bl))) (dss_nil)) (dss_one (qa := true) (ds_ret (qa := true) (ra := false) (de_andV (qa := true) (qb := true) (ra := false) (rb := false) (de_orV (qa := true) (qb := true) (ra := false) (rb := false) (de_cmp (qa := true) (qb := true) (ra := false) (rb := false) op_isDD (de_varB (i := 1) rfl (.inl rfl) rfl rfl) (de_non) (.inl rfl) rfl) (de_one (qa := true) (ra := false) (de_cmp (qa := true) (qb := true) (ra := false) (rb := false) op_geD (de_varB (i := 0) rfl (.inl rfl) rfl rfl) (de_varB (i := 1) rfl (.inl rfl) rfl rfl) (.inl rfl) rfl))) (de_one (qa := true) (ra := false) (de_orV (qa := true) (qb := true) (ra := false) (rb := false) (de_cmp (qa := true) (qb := true) (ra := false) (rb := false) op_isDD (de_varB (i := 2) rfl (.inl rfl) rfl rfl) (de_non) (.inl rfl) rfl) (de_one (qa := true) (ra := false) (de_cmp (qa := true) (qb := true) (ra := false) (rb := false) op_leD (de_varB (i := 0) rfl (.inl rfl) rfl rfl) (de_varB (i := 2) rfl (.inl rfl) rfl rfl) (.inl rfl) rfl)))))))
theorem sc_need_number : FnScope N_need_number ["value", "part", "least", "most"] (sScope d_need_number.st) := ⟨rfl, rfl, rfl, by decide +kernel, rfl, by decide +kernel, by decide +kernel⟩
theorem fn_need_number (C : Ctx K mg) (F_is_within : ∀ gb nb, Lk K gb nb → FnG PP w ((tb K).at gb nb) K mg base true 2 (d_is_within.ad K) (fdOf K (d_is_within.ad K)) ["value", "least", "most"] phi_is_within) : ∀ gb nb, Lk K gb nb → FnG PP w ((tb K).at gb nb) K mg base true 3 (d_need_number.ad K) (fdOf K (d_need_number.ad K)) ["value", "part", "least", "most"] phi_need_number := by
  have sc := sc_need_number
  intro gb nb hT
  refine fnG_of C.d_need_number sc fun cdv A outer s H E hr hgd => ?_
  exact dss_one (qa := true) (ds_if (qc := true) (qa := true) (qb := true) (dt_not (qa := true) (dt_val (qa := true) (ra := false) (fun _ => rfl) (de_call (qa := true) (qb := true) (qf := true) (ps := ["value", "least", "most"]) (F_is_within _ _ hT) (hr.mono (by decide)) hgd rfl C.g_is_within C.d_is_within.kp C.bA_is_within_3 rfl (da_cons (qa := true) (qb := true) (de_varF (i := 0) rfl (.inl rfl) rfl rfl) (da_cons (qa := true) (qb := true) (de_varF (i := 2) rfl (.inl rfl) rfl rfl) (da_cons (qa := true) (qb := true) (de_varF (i := 3) rfl (.inl rfl) rfl rfl) (da_nil) rfl) rfl) rfl) (dk_nil) rfl rfl (LenA.cons (LenA.cons (LenA.cons (LenA.nil)))) (LenK.nil)))) (dss_one (qa := true) (ds_raise (qa := true) (k := 0) C.sup_BadNumber (hr.mono (by decide)) rfl C.g_BadNumber C.free_super (da_cons (qa := true) (qb := true) (de_varF (i := 1) rfl (.inl rfl) rfl rfl) (da_nil) rfl))) (dss_nil))
theorem sc_Disk_init : FnScope N_Disk_init ["self", "many"] (sScope d_Disk_init.st) := ⟨rfl, rfl, rfl, by decide +kernel, rfl, by decide +kernel, by decide +kernel⟩
theorem fn_Disk_init (C : Ctx K mg) (F_need_number : ∀ gb nb, Lk K gb nb → FnG PP w ((tb K).at gb nb) K mg base true 3 (d_need_number.ad K) (fdOf K (d_need_number.ad K)) ["value", "part", "least", "most"] phi_need_number) : ∀ gb nb, Lk K gb nb → FnG PP w ((tb K).at gb nb) K mg base false 4 (d_Disk_init.ad K) (fdOf K (d_Disk_init.ad K)) ["self", "many"] phi_Disk_init := by
  have sc := sc_Disk_init
  intro gb nb hT
  refine fnG_of C.d_Disk_init sc fun cdv A outer s H E hr hgd => ?_
  exact dss_cons (qa := true) (qb := false) (ds_expr (qa := true) (ra := false) (de_call (qa := true) (qb := true) (qf := true) (ps := ["value", "part", "least", "most"]) (F_need_number _ _ hT) (hr.mono (by decide)) hgd rfl C.g_need_number C.d_need_number.kp C.bA_need_number_4 rfl (da_cons (qa := true) (qb := true) (de_varF (i := 1) rfl (.inl rfl) rfl rfl) (da_cons (qa := true) (qb := true) (de_str) (da_cons (qa := true) (qb := true) (de_glob rfl C.gc_LEAST_BLOCKS rfl) (da_cons (qa := true) (qb := true) (de_glob rfl C.gc_MOST_BLOCKS rfl) (da_nil) rfl) rfl) rfl) rfl) (dk_nil) rfl rfl (LenA.cons (LenA.cons (LenA.cons (LenA.cons (LenA.nil))))) (LenK.nil)) rfl) (dss_cons (qa := false) (qb := false) (ds_fld (qo := true) (qv := true) (ro := false) C.fld.at (de_varF (i := 0) rfl (.inl rfl) rfl rfl) (de_varF (i := 1) rfl (.inl rfl) rfl rfl) rfl) (dss_cons (qa := false) (qb := false) (ds_fld (qo := true) (qv := true) (ro := false) C.fld.at (de_varF (i := 0) rfl (.inl rfl) rfl rfl) (de_lc (qi := true) (qc := true) (qe := true) (re := false) (fl := true) (own := [("at", 2)]) (LcOk.mk (qi := true) (qc := true) (qe := true) (re := false) (fl := true) (own := [("at", 2)]) rfl sc.nd (di_rng1 (qa := true) (fl := true) rfl C.free_range (da_cons (qa := true) (qb := true) (de_varF (i := 1) rfl (.inl rfl) rfl rfl) (da_nil) rfl) rfl) (blkOk_by rfl) (fun _ => rfl) (by decide) (fun _ _ _ _ _ => tg_nm sc.nd rfl (.inl rfl) (.inr rfl)) (fun _ _ _ _ _ => dts_nil) (fun _ _ _ _ _ => de_tup (qa := true) (da_nil)) (fun _ => rfl))) rfl) (dss_cons (qa := false) (qb := false) (ds_fld (qo := true) (qv := true) (ro := false) C.fld.at (de_varF (i := 0) rfl (.inl rfl) rfl rfl) (de_lst (qa := true) (da_nil)) rfl) (dss_one (qa := false) (ds_fld (qo := true) (qv := true) (ro := false) C.fld.at (de_varF (i := 0) rfl (.inl rfl) rfl rfl) (de_non) rfl)))))
theorem sc_law_dip : FnScope N_law_dip ["_law_pail_here", "_law_many"] (sScope d_law_dip.st) := ⟨rfl, rfl, rfl, by decide +kernel, rfl, by decide +kernel, by decide +kernel⟩
theorem fn_law_dip (C : Ctx K mg) : ∀ gb nb, Lk K gb nb → FnG PP w ((tb K).at gb nb) K mg base false 1 (d_law_dip.ad K) (fdOf K (d_law_dip.ad K)) ["_law_pail_here", "_law_many"] phi_law_dip := by
  have sc := sc_law_dip
  intro gb nb hT
  refine fnG_of C.d_law_dip sc fun cdv A outer s H E hr hgd => ?_
  exact dss_cons (qa := false) (qb := false) (ds_if (qc := true) (qa := false) (qb := true) (dt_cmp (qa := true) (qb := true) (ra := false) (rb := false) op_gtD bl_gt (de_ixS (qa := true) (qb := true) (ra := false) (rb := false) (de_varB (i := 0) rfl (.inl rfl) rfl rfl) (de_int) (.inl rfl) (fun _ _ => rfl)) (de_int) (.inl rfl) rfl) (dss_cons (qa := true) (qb := false) (ds_set (qa := true) (ra := false) (i := 2) sc.nd rfl (.inl rfl) (.inr rfl) (de_t1 (qa := true) (ra := false) cb_int rfl C.free_int bb_int (by decide) rfl (de_ixS (qa := true) (qb := true) (ra := false) (rb := false) (de_varB (i := 0) rfl (.inl rfl) rfl rfl) (de_int) (.inl rfl) (fun _ _ => rfl)) rfl) rfl) (dss_cons (qa := false) (qb := true) (ds_setI (qo := true) (qi := true) (qv := true) (ro := false) (ri := false) (de_frz (q := true) (rb := false) (de_bin (qa := true) (qb := true) (ra := false) (rb := false) op_divD (de_varB (i := 2) rfl (.inl rfl) rfl rfl) (de_varB (i := 1) rfl (.inl rfl) rfl rfl) (.inl rfl))) (de_varF (i := 0) rfl (.inl rfl) rfl rfl) (de_int) (fun _ => rfl) rfl rfl rfl) (dss_one (qa := true) (ds_ret (qa := true) (ra := false) (de_bin (qa := true) (qb := true) (ra := false) (rb := false) op_modD (de_t1 (qa := true) (ra := false) cb_int rfl C.free_int bb_int (by decide) rfl (de_varB (i := 2) rfl (.inl rfl) rfl rfl) rfl) (de_varB (i := 1) rfl (.inl rfl) rfl rfl) (.inl rfl)))))) (dss_nil)) (dss_cons (qa := true) (qb := false) (ds_set (qa := true) (ra := false) (i := 3) sc.nd rfl (.inl rfl) (.inr rfl) (de_ixS (qa := true) (qb := true) (ra := false) (rb := false) (de_varB (i := 0) rfl (.inl rfl) rfl rfl) (de_int) (.inl rfl) (fun _ _ => rfl)) rfl) (dss_cons (qa := false) (qb := false) (ds_setI (qo := true) (qi := true) (qv := true) (ro := false) (ri := false) (de_frz (q := true) (rb := false) (de_bin (qa := true) (qb := true) (ra := false) (rb := false) op_addD (de_varB (i := 3) rfl (.inl rfl) rfl rfl) (de_int) (.inl rfl))) (de_varF (i := 0) rfl (.inl rfl) rfl rfl) (de_int) (fun _ => rfl) rfl rfl rfl) (dss_cons (qa := true) (qb := false) (ds_set (qa := true) (ra := false) (i := 4) sc.nd rfl (.inl rfl) (.inr rfl) (de_bin (qa := true) (qb := true) (ra := false) (rb := false) op_addD (de_bin (qa := true) (qb := true) (ra := false) (rb := false) op_mulD (de_int) (de_varB (i := 3) rfl (.inl rfl) rfl rfl) (.inl rfl)) (de_int) (.inl rfl)) rfl) (dss_cons (qa := true) (qb := false) (ds_if (qc := true) (qa := true) (qb := true) (dt_cmp (qa := true) (qb := true) (ra := false) (rb := false) (op_neDD (rU64 hr)) bl_ne (de_ixS (qa := true) (qb := true) (ra := false) (rb := false) (de_varB (i := 0) rfl (.inl rfl) rfl rfl) (de_int) (.inl rfl) (fun _ _ => rfl)) (de_lst (qa := true) (da_nil)) (.inl rfl) rfl) (dss_one (qa := true) (ds_set (qa := true) (ra := false) (i := 4) sc.nd rfl (.inl rfl) (.inr rfl) (de_ixS (qa := true) (qb := true) (ra := false) (rb := false) (de_ixS (qa := true) (qb := true) (ra := false) (rb := false) (de_varB (i := 0) rfl (.inl rfl) rfl rfl) (de_int) (.inl rfl) (fun _ _ => rfl)) (de_bin (qa := true) (qb := true) (ra := false) (rb := false) op_modD (de_t1 (qa := true) (ra := false) cb_int rfl C.free_int bb_int (by decide) rfl (de_varB (i := 3) rfl (.inl rfl) rfl rfl) rfl) (de_b1 (qa := true) (ra := false) cb_len rfl C.free_len bb_len (by decide) rfl (de_ixS (qa := true) (qb := true) (ra := false) (rb := false) (de_varB (i := 0) rfl (.inl rfl) rfl rfl) (de_int) (.inl rfl) (fun _ _ => rfl)) rfl) (.inl rfl)) (.inl rfl) (fun _ _ => rfl)) rfl)) (dss_nil)) (dss_cons (qa := false) (qb := true) (ds_if (qc := true) (qa := false) (qb := true) (DW.dt (q := true) (dw_and (qa := true) (qb := true) (dt_cmp (qa := true) (qb := true) (ra := false) (rb := false) (op_ltD (rU0 hr)) bl_lt (de_varB (i := 3) rfl (.inl rfl) rfl rfl) (de_b1 (qa := true) (ra := false) cb_len rfl C.free_len bb_len (by decide) rfl (de_ixS (qa := true) (qb := true) (ra := false) (rb := false) (de_varB (i := 0) rfl (.inl rfl) rfl rfl) (de_int) (.inl rfl) (fun _ _ => rfl)) rfl) (.inl rfl) rfl) (dw_and1 (qa := true) (dt_cmp (qa := true) (qb := true) (ra := false) (rb := false) op_geD bl_ge (de_b1 (qa := true) (ra := false) cb_abs rfl C.free_abs bb_abs (by decide) rfl (de_varB (i := 4) rfl (.inl rfl) rfl rfl) rfl) (de_bin (qa := true) (qb := true) (ra := false) (rb := false) op_powD (de_int) (de_int) (.inl rfl)) (.inl rfl) rfl)))) (dss_cons (qa := true) (qb := false) (ds_set (qa := true) (ra := false) (i := 2) sc.nd rfl (.inl rfl) (.inr rfl) (de_bin (qa := true) (qb := true) (ra := false) (rb := false) op_addD (de_bin (qa := true) (qb := true) (ra := false) (rb := false) op_mulD (de_int) (de_bin (qa := true) (qb := true) (ra := false) (rb := false) op_subD (de_b1 (qa := true) (ra := false) cb_abs rfl C.free_abs bb_abs (by decide) rfl (de_varB (i := 4) rfl (.inl rfl) rfl rfl) rfl) (de_bin (qa := true) (qb := true) (ra := false) (rb := false) op_powD (de_int) (de_int) (.inl rfl)) (.inl rfl)) (.inl rfl)) (de_t1 (qa := true) (ra := false) cb_int rfl C.free_int bb_int (by decide) rfl (de_cmp (qa := true) (qb := true) (ra := false) (rb := false) (op_ltD (rU0 hr)) (de_varB (i := 4) rfl (.inl rfl) rfl rfl) (de_int) (.inl rfl) rfl) rfl) (.inl rfl)) rfl) (dss_cons (qa := false) (qb := true) (ds_setI (qo := true) (qi := true) (qv := true) (ro := false) (ri := false) (de_frz (q := true) (rb := false) (de_bin (qa := true) (qb := true) (ra := false) (rb := false) op_divD (de_t1 (qa := true) (ra := false) cb_int rfl C.free_int bb_int (by decide) rfl (de_varB (i := 2) rfl (.inl rfl) rfl rfl) rfl) (de_varB (i := 1) rfl (.inl rfl) rfl rfl) (.inl rfl))) (de_varF (i := 0) rfl (.inl rfl) rfl rfl) (de_int) (fun _ => rfl) rfl rfl rfl) (dss_one (qa := true) (ds_ret (qa := true) (ra := false) (de_bin (qa := true) (qb := true) (ra := false) (rb := false) op_modD (de_t1 (qa := true) (ra := false) cb_int rfl C.free_int bb_int (by decide) rfl (de_varB (i := 2) rfl (.inl rfl) rfl rfl) rfl) (de_varB (i := 1) rfl (.inl rfl) rfl rfl) (.inl rfl)))))) (dss_nil)) (dss_cons (qa := true) (qb := true) (ds_set (qa := true) (ra := false) (i := 5) sc.nd rfl (.inl rfl) (.inr rfl) (de_bin (qa := true) (qb := true) (ra := false) (rb := false) op_modD (de_t1 (qa := true) (ra := false) cb_int rfl C.free_int bb_int (by decide) rfl (de_bin (qa := true) (qb := true) (ra := false) (rb := false) op_powD (de_bin (qa := true) (qb := true) (ra := false) (rb := false) op_addD (de_bin (qa := true) (qb := true) (ra := false) (rb := false) op_addD (de_bin (qa := true) (qb := true) (ra := false) (rb := false) op_modD (de_t1 (qa := true) (ra := false) cb_int rfl C.free_int bb_int (by decide) rfl (de_varB (i := 4) rfl (.inl rfl) rfl rfl) rfl) (de_int) (.inl rfl)) (de_bin (qa := true) (qb := true) (ra := false) (rb := false) op_mulD (de_int) (de_varB (i := 3) rfl (.inl rfl) rfl rfl) (.inl rfl)) (.inl rfl)) (de_int) (.inl rfl)) (de_int) (.inl rfl)) rfl) (de_int) (.inl rfl)) rfl) (dss_cons (qa := true) (qb := true) (ds_set (qa := true) (ra := false) (i := 5) sc.nd rfl (.inl rfl) (.inr rfl) (de_bin (qa := true) (qb := true) (ra := false) (rb := false) op_modD (de_t1 (qa := true) (ra := false) cb_int rfl C.free_int bb_int (by decide) rfl (de_bin (qa := true) (qb := true) (ra := false) (rb := false) op_powD (de_bin (qa := true) (qb := true) (ra := false) (rb := false) op_addD (de_bin (qa := true) (qb := true) (ra := false) (rb := false) op_addD (de_bin (qa := true) (qb := true) (ra := false) (rb := false) op_mulD (de_varB (i := 5) rfl (.inl rfl) rfl rfl) (de_bin (qa := true) (qb := true) (ra := false) (rb := false) op_addD (de_bin (qa := true) (qb := true) (ra := false) (rb := false) op_mulD (de_int) (de_varB (i := 3) rfl (.inl rfl) rfl rfl) (.inl rfl)) (de_int) (.inl rfl)) (.inl rfl)) (de_bin (qa := true) (qb := true) (ra := false) (rb := false) op_mulD (de_bin (qa := true) (qb := true) (ra := false) (rb := false) op_mulD (de_int) (de_varB (i := 3) rfl (.inl rfl) rfl rfl) (.inl rfl)) (de_varB (i := 3) rfl (.inl rfl) rfl rfl) (.inl rfl)) (.inl rfl)) (de_int) (.inl rfl)) (de_int) (.inl rfl)) rfl) (de_int) (.inl rfl)) rfl) (dss_one (qa := true) (ds_ret (qa := true) (ra := false) (de_bin (qa := true) (qb := true) (ra := false) (rb := false) op_modD (de_t1 (qa := true) (ra := false) cb_int rfl C.free_int bb_int (by decide) rfl (de_bin (qa := true) (qb := true) (ra := false) (rb := false) op_divD (de_varB (i := 5) rfl (.inl rfl) rfl rfl) (de_int) (.inl rfl)) rfl) (de_varB (i := 1) rfl (.inl rfl) rfl rfl) (.inl rfl)))))))))))
theorem sc_law_pick : FnScope N_law_pick ["_law_pail_here", "_law_some"] (sScope d_law_pick.st) := ⟨rfl, rfl, rfl, by decide +kernel, rfl, by decide +kernel, by decide +kernel⟩
theorem fn_law_pick (C : Ctx K mg) (F_law_dip : ∀ gb nb, Lk K gb nb → FnG PP w ((tb K).at gb nb) K mg base false 1 (d_law_dip.ad K) (fdOf K (d_law_dip.ad K)) ["_law_pail_here", "_law_many"] phi_law_dip) : ∀ gb nb, Lk K gb nb → FnG PP w ((tb K).at gb nb) K mg base false 2 (d_law_pick.ad K) (fdOf K (d_law_pick.ad K)) ["_law_pail_here", "_law_some"] phi_law_pick := by
  have sc := sc_law_pick
  intro gb nb hT
  refine fnG_of C.d_law_pick sc fun cdv A outer s H E hr hgd => ?_
  exact dss_one (qa := false) (ds_ret (qa := false) (ra := false) (de_ixS (qa := true) (qb := false) (ra := false) (rb := false) (de_varB (i := 1) rfl (.inl rfl) rfl rfl) (de_call (qa := true) (qb := true) (qf := false) (ps := ["_law_pail_here", "_law_many"]) (F_law_dip _ _ hT) (hr.mono (by decide)) hgd rfl C.g__law_dip C.d_law_dip.kp C.bA_law_dip_2 rfl (da_cons (qa := true) (qb := true) (de_varF (i := 0) rfl (.inl rfl) rfl rfl) (da_cons (qa := true) (qb := true) (de_frz (q := true) (rb := false) (de_b1 (qa := true) (ra := false) cb_len rfl C.free_len bb_len (by decide) rfl (de_varB (i := 1) rfl (.inl rfl) rfl rfl) rfl)) (da_nil) rfl) rfl) (dk_nil) rfl rfl (LenA.cons (LenA.cons (LenA.nil))) (LenK.nil)) (.inl rfl) (fun _ _ => rfl)))
theorem sc_law_heard : FnScope N_law_heard ["_law_ask"] (sScope d_law_heard.st) := ⟨rfl, rfl, rfl, by decide +kernel, rfl, by decide +kernel, by decide +kernel⟩
theorem fn_law_heard (C : Ctx K mg) : FnL PP w (tb K) (tabNs K tabX) K mg base false 1 (d_law_heard.ad K) "_law_ask" N_law_heard "_law_heard" (sScope d_law_heard.st) phi_law_heard := by
  have sc := sc_law_heard
  refine fnL_of C.d_law_heard sc (fun s u => L2.FunD.bindsA (ps := ["_law_ask"]) C.d_law_heard (fun _ _ _ _ _ _ us hl => match us, hl with | [_], _ => rfl) s [u] rfl) fun gb nb f_ act_ cdv A outer s H E hT hr hgd ha => ?_
  exact dss_cons (qa := true) (qb := false) (ds_parN (qa := true) rfl (.cons (pg_name (i := 1) sc.nd rfl (.inl rfl) (.inr rfl)) rfl (.cons (pg_name (i := 2) sc.nd rfl (.inl rfl) (.inr rfl)) rfl (.nil))) (da_cons (qa := true) (qb := true) (de_non) (da_cons (qa := true) (qb := true) (de_int) (da_nil) rfl) rfl) rfl rfl rfl) (dss_cons (qa := false) (qb := true) (ds_try_as (qa := false) (qb := true) (i := 3) C.exm_SeenError rfl rfl rfl sc.nd rfl rfl ⟨rfl, by decide, .inl C.g_SeenError⟩ (fun pn xe => dss_one (qa := false) (ds_set (qa := false) (ra := false) (i := 2) sc.nd rfl (.inl rfl) (.inr rfl) (ha _ _ _ _) rfl)) (fun a pn => dss_one (qa := true) (ds_set (qa := true) (ra := false) (i := 1) sc.nd rfl (.inl rfl) (.inr rfl) (de_varF (i := 3) rfl (.inl rfl) rfl rfl) rfl))) (dss_cons (qa := true) (qb := true) (ds_if (qc := true) (qa := true) (qb := true) (dt_cmp (qa := true) (qb := true) (ra := false) (rb := false) op_isDD bl_is (de_varB (i := 1) rfl (.inl rfl) rfl rfl) (de_non) (.inl rfl) rfl) (dss_one (qa := true) (ds_ret (qa := true) (ra := false) (de_ifE (qc := true) (qa := true) (qb := true) (ra := false) (rb := false) (dt_cmp (qa := true) (qb := true) (ra := false) (rb := false) op_isDD bl_is (de_varB (i := 2) rfl (.inl rfl) rfl rfl) (de_non) (.inl rfl) rfl) (de_str) (de_str)))) (dss_nil)) (dss_cons (qa := true) (qb := true) (ds_set (qa := true) (ra := false) (i := 4) sc.nd rfl (.inl rfl) (.inr rfl) (de_lst (qa := true) (da_cons (qa := true) (qb := true) (de_tup (qa := true) (da_cons (qa := true) (qb := true) (de_str) (da_cons (qa := true) (qb := true) (de_frz (q := true) (rb := false) (de_isi1 (q := true) (ra := false) C.kit.at rfl C.free_isinstance (de_varB (i := 1) rfl (.inl rfl) rfl rfl) (pe_glob rfl C.g_BadNumber rfl rfl) rfl rfl)) (da_nil) rfl) rfl)) (da_cons (qa := true) (qb := true) (de_tup (qa := true) (da_cons (qa := true) (qb := true) (de_str) (da_cons (qa := true) (qb := true) (de_frz (q := true) (rb := false) (de_isi1 (q := true) (ra := false) C.kit.at rfl C.free_isinstance (de_varB (i := 1) rfl (.inl rfl) rfl rfl) (pe_glob rfl C.g_BadLot rfl rfl) rfl rfl)) (da_nil) rfl) rfl)) (da_cons (qa := true) (qb := true) (de_tup (qa := true) (da_cons (qa := true) (qb := true) (de_str) (da_cons (qa := true) (qb := true) (de_frz (q := true) (rb := false) (de_isi1 (q := true) (ra := false) C.kit.at rfl C.free_isinstance (de_varB (i := 1) rfl (.inl rfl) rfl rfl) (pe_glob rfl C.g_Misfit rfl rfl) rfl rfl)) (da_nil) rfl) rfl)) (da_nil) rfl) rfl) rfl)) rfl) (dss_cons (qa := true) (qb := true) (ds_setLc (qi := true) (qc := true) (qe := true) (re := false) (fl := true) (own := [("_law_word", 6), ("_law_is_so", 7)]) (i := 5) (LcOk.mk (qi := true) (qc := true) (qe := true) (re := false) (fl := true) (own := [("_law_word", 6), ("_law_is_so", 7)]) rfl sc.nd (di_any (qa := true) (ra := false) (fl := true) (de_varB (i := 4) rfl (.inl rfl) rfl rfl)) (blkOk_by rfl) (fun _ => rfl) (by decide) (fun _ _ _ _ _ => tg_tp rfl (.cons (tg_nm sc.nd rfl (.inl rfl) (.inr rfl)) rfl (.cons (tg_nm sc.nd rfl (.inl rfl) (.inr rfl)) rfl (.nil)))) (fun _ _ _ _ _ => dts_one (q := true) (dt_val (qa := true) (ra := false) (fun _ => rfl) (de_varB (i := 7) rfl (.inl rfl) rfl rfl))) (fun _ _ _ _ _ => de_varF (i := 6) rfl (.inl rfl) rfl rfl) (fun _ => rfl)) rfl rfl (sw_true rfl rfl rfl rfl)) (dss_cons (qa := true) (qb := true) (ds_if (qc := true) (qa := true) (qb := true) (dt_val (qa := true) (ra := false) (fun _ => rfl) (de_isi1 (q := true) (ra := false) C.kit.at rfl C.free_isinstance (de_varB (i := 1) rfl (.inl rfl) rfl rfl) (pe_glob rfl C.g_Out rfl rfl) rfl rfl)) (dss_one (qa := true) (ds_ret (qa := true) (ra := false) (de_ifE (qc := true) (qa := true) (qb := true) (ra := false) (rb := false) (DW.dt (q := true) (dw_and (qa := true) (qb := true) (dt_cmp (qa := true) (qb := true) (ra := false) (rb := false) (op_eqDD (rU64 hr)) bl_eq (de_varB (i := 5) rfl (.inl rfl) rfl rfl) (de_lst (qa := true) (da_nil)) (.inl rfl) rfl) (dw_and1 (qa := true) (dt_val (qa := true) (ra := false) (fun _ => rfl) (de_isi1 (q := true) (ra := false) C.kit.at rfl C.free_isinstance (de_varB (i := 1) rfl (.inl rfl) rfl rfl) (pe_bltn rfl C.free_ValueError bb_ValueError rfl) rfl rfl))))) (de_str) (de_str)))) (dss_nil)) (dss_one (qa := true) (ds_ret (qa := true) (ra := false) (de_ifE (qc := true) (qa := true) (qb := true) (ra := false) (rb := false) (dt_cmp (qa := true) (qb := true) (ra := false) (rb := false) (op_eqDD (rU64 hr)) bl_eq (de_b1 (qa := true) (ra := false) cb_len rfl C.free_len bb_len (by decide) rfl (de_varB (i := 5) rfl (.inl rfl) rfl rfl) rfl) (de_int) (.inl rfl) rfl) (de_tup (qa := true) (da_cons (qa := true) (qb := true) (de_ixS (qa := true) (qb := true) (ra := false) (rb := false) (de_varB (i := 5) rfl (.inl rfl) rfl rfl) (de_int) (.inl rfl) (fun _ _ => rfl)) (da_cons (qa := true) (qb := true) (de_xf C.xf (de_varF (i := 1) rfl (.inl rfl) rfl rfl) rfl) (da_nil) rfl) rfl)) (de_str)))))))))
theorem sc_Disk_fuse : FnScope N_Disk_fuse ["self", "many"] (sScope d_Disk_fuse.st) := ⟨rfl, rfl, rfl, by decide +kernel, rfl, by decide +kernel, by decide +kernel⟩
theorem fn_Disk_fuse (C : Ctx K mg) (F_need_number : ∀ gb nb, Lk K gb nb → FnG PP w ((tb K).at gb nb) K mg base true 3 (d_need_number.ad K) (fdOf K (d_need_number.ad K)) ["value", "part", "least", "most"] phi_need_number) : ∀ gb nb, Lk K gb nb → FnG PP w ((tb K).at gb nb) K mg base false 4 (d_Disk_fuse.ad K) (fdOf K (d_Disk_fuse.ad K)) ["self", "many"] phi_Disk_fuse := by
  have sc := sc_Disk_fuse
  intro gb nb hT
  refine fnG_of C.d_Disk_fuse sc fun cdv A outer s H E hr hgd => ?_
  exact dss_cons (qa := true) (qb := false) (ds_expr (qa := true) (ra := false) (de_call (qa := true) (qb := true) (qf := true) (ps := ["value", "part", "least", "most"]) (F_need_number _ _ hT) (hr.mono (by decide)) hgd rfl C.g_need_number C.d_need_number.kp C.bA_need_number_4 rfl (da_cons (qa := true) (qb := true) (de_varF (i := 1) rfl (.inl rfl) rfl rfl) (da_cons (qa := true) (qb := true) (de_str) (da_cons (qa := true) (qb := true) (de_int) (da_cons (qa := true) (qb := true) (de_non) (da_nil) rfl) rfl) rfl) rfl) (dk_nil) rfl rfl (LenA.cons (LenA.cons (LenA.cons (LenA.cons (LenA.nil))))) (LenK.nil)) rfl) (dss_one (qa := false) (ds_fld (qo := true) (qv := true) (ro := false) C.fld.at (de_varF (i := 0) rfl (.inl rfl) rfl rfl) (de_varF (i := 1) rfl (.inl rfl) rfl rfl) rfl))
theorem sc_law_refused_right : FnScope N_law_refused_right ["_law_pail_here", "_law_disk"] (sScope d_law_refused_right.st) := ⟨rfl, rfl, rfl, by decide +kernel, rfl, by decide +kernel, by decide +kernel⟩
theorem fn_law_refused_right (C : Ctx K mg) (hTB : ∀ p ∈ tabsOf K tabX, LamX.TabB base mg p.1 p.2) (F_law_dip : ∀ gb nb, Lk K gb nb → FnG PP w ((tb K).at gb nb) K mg base false 1 (d_law_dip.ad K) (fdOf K (d_law_dip.ad K)) ["_law_pail_here", "_law_many"] phi_law_dip) (F_law_heard : FnL PP w (tb K) (tabNs K tabX) K mg base false 1 (d_law_heard.ad K) "_law_ask" N_law_heard "_law_heard" (sScope d_law_heard.st) phi_law_heard) (F_Disk_fuse : ∀ gb nb, Lk K gb nb → FnG PP w ((tb K).at gb nb) K mg base false 4 (d_Disk_fuse.ad K) (fdOf K (d_Disk_fuse.ad K)) ["self", "many"] phi_Disk_fuse) : ∀ gb nb, Lk K gb nb → FnG PP w ((tb K).at gb nb) K mg base false 7 (d_law_refused_right.ad K) (fdOf K (d_law_refused_right.ad K)) ["_law_pail_here", "_law_disk"] phi_law_refused_right := by
  have sc := sc_law_refused_right
  intro gb nb hT
  refine fnG_ofC C.d_law_refused_right sc (code_tab C.tab_law_refused_right) fun A outer s H E hr hgd => ?_
  exact dss_cons (qa := false) (qb := true) (ds_for (qi := false) (qb := false) (tg := .nm 2) (fun _ _ => passes_of rfl) rfl (di_any (qa := false) (ra := false) (fl := false) (de_lst (qa := false) (da_cons (qa := true) (qb := false) (de_non) (da_cons (qa := true) (qb := false) (de_int) (da_cons (qa := true) (qb := false) (de_un (qa := true) (ra := false) un_negD (de_int)) (da_cons (qa := true) (qb := false) (de_bl) (da_cons (qa := true) (qb := false) (de_str) (da_cons (qa := true) (qb := false) (de_frz (q := true) (rb := false) (de_lst (qa := true) (da_cons (qa := true) (qb := true) (de_int) (da_nil) rfl))) (da_cons (qa := false) (qb := true) (de_frz (q := false) (rb := false) (de_bin (qa := true) (qb := false) (ra := false) (rb := false) op_subD (de_un (qa := true) (ra := false) un_negD (de_int)) (de_call (qa := true) (qb := true) (qf := false) (ps := ["_law_pail_here", "_law_many"]) (F_law_dip _ _ hT) (hr.mono (by decide)) hgd rfl C.g__law_dip C.d_law_dip.kp C.bA_law_dip_2 rfl (da_cons (qa := true) (qb := true) (de_varF (i := 0) rfl (.inl rfl) rfl rfl) (da_cons (qa := true) (qb := true) (de_frz (q := true) (rb := false) (de_bin (qa := true) (qb := true) (ra := false) (rb := false) op_powD (de_int) (de_int) (.inl rfl))) (da_nil) rfl) rfl) (dk_nil) rfl rfl (LenA.cons (LenA.cons (LenA.nil))) (LenK.nil)) (.inl rfl))) (da_nil) rfl) rfl) rfl) rfl) rfl) rfl) rfl))) (tg_nm sc.nd rfl (.inr rfl) (.inl rfl)) (dss_one (qa := false) (ds_if (qc := false) (qa := true) (qb := true) (dt_cmp (qa := false) (qb := true) (ra := false) (rb := false) (op_neDD (rU64 hr)) bl_ne (de_fz _ (de_lamcall (k := 4) (ql := false) (ra := false) F_law_heard hT (hr.mono (by decide)) (by decide) hgd rfl C.g__law_heard C.d_law_heard.kp rfl (.inl rfl) (tabNs_at (xs := tabX) (t := 0) rfl C.tab_law_refused_right) (tabB_at hTB (xs := tabX) (by simp [tabX]) C.tab_law_refused_right) rfl rfl (LamX.lamS_by rfl) (fun _ _ _ _ _ => rfl) (fun gb nb f_ c_ A outer s2 H2 E2 hT hr hgd => de_meth (qo := true) (ro := false) (qa := true) (qb := true) (qf := false) (de_varF (i := 1) rfl (.inr (.inr rfl)) rfl rfl) (mtL_ok (all1 ⟨⟨_, _, _, _, C.cls_0, C.meth_Disk_fuse, (F_Disk_fuse _ _ hT), hr.mono (by decide), C.bA_Disk_fuse_2, rfl⟩⟩)) hgd (da_cons (qa := true) (qb := true) (de_varF (i := 2) rfl (.inr (.inr rfl)) rfl rfl) (da_nil) rfl) (dk_nil) rfl rfl (LenA.cons (LenA.nil)) (LenK.nil) ⟨_, rfl⟩))) (de_tup (qa := true) (da_cons (qa := true) (qb := true) (de_str) (da_cons (qa := true) (qb := true) (de_str) (da_nil) rfl) rfl)) (.inl rfl) rfl) (dss_one (qa := true) (ds_ret (qa := true) (ra := false) (de_bl))) (dss_nil))) (fun _ => rfl)) (dss_one (qa := true) (ds_ret (qa := true) (ra := false) (de_bl)))
theorem sc_Disk_waiting : FnScope N_Disk_waiting ["self"] (sScope d_Disk_waiting.st) := ⟨rfl, rfl, rfl, by decide +kernel, rfl, by decide +kernel, by decide +kernel⟩
theorem fn_Disk_waiting (C : Ctx K mg) : ∀ gb nb, Lk K gb nb → FnG PP w ((tb K).at gb nb) K mg base true 1 (d_Disk_waiting.ad K) (fdOf K (d_Disk_waiting.ad K)) ["self"] phi_Disk_waiting := by
  have sc := sc_Disk_waiting
  intro gb nb hT
  refine fnG_of C.d_Disk_waiting sc fun cdv A outer s H E hr hgd => ?_
  exact dss_one (qa := true) (ds_ret (qa := true) (ra := false) (de_b1 (qa := true) (ra := true) cb_len rfl C.free_len bb_len (by decide) rfl (de_fldB (qo := true) (ro := false) C.fld.at (de_varF (i := 0) rfl (.inl rfl) rfl rfl) rfl) rfl))
theorem sc_Disk_kept : FnScope N_Disk_kept ["self"] (sScope d_Disk_kept.st) := ⟨rfl, rfl, rfl, by decide +kernel, rfl, by decide +kernel, by decide +kernel⟩
theorem fn_Disk_kept (C : Ctx K mg) : ∀ gb nb, Lk K gb nb → FnG PP w ((tb K).at gb nb) K mg base true 1 (d_Disk_kept.ad K) (fdOf K (d_Disk_kept.ad K)) ["self"] phi_Disk_kept := by
  have sc := sc_Disk_kept
  intro gb nb hT
  refine fnG_of C.d_Disk_kept sc fun cdv A outer s H E hr hgd => ?_
  exact dss_one (qa := true) (ds_ret (qa := true) (ra := false) (de_t1 (qa := true) (ra := true) cb_tuple rfl C.free_tuple bb_tuple (by decide) rfl (de_fldB (qo := true) (ro := false) C.fld.at (de_varF (i := 0) rfl (.inl rfl) rfl rfl) rfl) rfl))
theorem sc_Disk_look : FnScope N_Disk_look ["self", "at"] (sScope d_Disk_look.st) := ⟨rfl, rfl, rfl, by decide +kernel, rfl, by decide +kernel, by decide +kernel⟩
theorem fn_Disk_look (C : Ctx K mg) (F_need_number : ∀ gb nb, Lk K gb nb → FnG PP w ((tb K).at gb nb) K mg base true 3 (d_need_number.ad K) (fdOf K (d_need_number.ad K)) ["value", "part", "least", "most"] phi_need_number) : ∀ gb nb, Lk K gb nb → FnG PP w ((tb K).at gb nb) K mg base true 4 (d_Disk_look.ad K) (fdOf K (d_Disk_look.ad K)) ["self", "at"] phi_Disk_look := by
  have sc := sc_Disk_look
  intro gb nb hT
  refine fnG_of C.d_Disk_look sc fun cdv A outer s H E hr hgd => ?_
  exact dss_cons (qa := true) (qb := true) (ds_expr (qa := true) (ra := false) (de_call (qa := true) (qb := true) (qf := true) (ps := ["value", "part", "least", "most"]) (F_need_number _ _ hT) (hr.mono (by decide)) hgd rfl C.g_need_number C.d_need_number.kp C.bA_need_number_4 rfl (da_cons (qa := true) (qb := true) (de_varF (i := 1) rfl (.inr (.inl rfl)) rfl rfl) (da_cons (qa := true) (qb := true) (de_str) (da_cons (qa := true) (qb := true) (de_int) (da_cons (qa := true) (qb := true) (de_frz (q := true) (rb := false) (de_bin (qa := true) (qb := true) (ra := true) (rb := false) op_subD (de_fldB (qo := true) (ro := false) C.fld.at (de_varF (i := 0) rfl (.inl rfl) rfl rfl) rfl) (de_int) (.inr rfl))) (da_nil) rfl) rfl) rfl) rfl) (dk_nil) rfl rfl (LenA.cons (LenA.cons (LenA.cons (LenA.cons (LenA.nil))))) (LenK.nil)) rfl) (dss_cons (qa := true) (qb := true) (ds_setLc (qi := true) (qc := true) (qe := true) (re := false) (fl := true) (own := [("spot", 3), ("block", 4)]) (i := 2) (LcOk.mk (qi := true) (qc := true) (qe := true) (re := false) (fl := true) (own := [("spot", 3), ("block", 4)]) rfl sc.nd (di_any (qa := true) (ra := true) (fl := true) (de_fldB (qo := true) (ro := false) C.fld.at (de_varF (i := 0) rfl (.inl rfl) rfl rfl) rfl)) (blkOk_by rfl) (fun _ => rfl) (by decide) (fun _ _ _ _ _ => tg_tp rfl (.cons (tg_nm sc.nd rfl (.inl rfl) (.inr rfl)) rfl (.cons (tg_nm sc.nd rfl (.inl rfl) (.inr rfl)) rfl (.nil)))) (fun _ _ _ _ _ => dts_one (q := true) (dt_cmp (qa := true) (qb := true) (ra := false) (rb := false) (op_eqDD (rU64 hr)) bl_eq (de_varB (i := 3) rfl (.inl rfl) rfl rfl) (de_varB (i := 1) rfl (by first | exact .inr (.inl rfl) | exact .inr (.inr rfl) | exact .inl rfl) rfl rfl) (.inl rfl) rfl)) (fun _ _ _ _ _ => de_varF (i := 4) rfl (.inl rfl) rfl rfl) (fun _ => rfl)) rfl rfl (sw_true rfl rfl rfl rfl)) (dss_one (qa := true) (ds_ret (qa := true) (ra := false) (de_ifE (qc := true) (qa := true) (qb := true) (ra := false) (rb := false) (dt_cmp (qa := true) (qb := true) (ra := false) (rb := false) (op_neDD (rU64 hr)) bl_ne (de_varB (i := 2) rfl (.inl rfl) rfl rfl) (de_lst (qa := true) (da_nil)) (.inl rfl) rfl) (de_ixS (qa := true) (qb := true) (ra := false) (rb := false) (de_varB (i := 2) rfl (.inl rfl) rfl rfl) (de_un (qa := true) (ra := false) un_negD (de_int)) (.inl rfl) (fun _ _ => rfl)) (de_ixS (qa := true) (qb := true) (ra := true) (rb := false) (de_fldB (qo := true) (ro := false) C.fld.at (de_varF (i := 0) rfl (.inl rfl) rfl rfl) rfl) (de_varB (i := 1) rfl (.inr (.inl rfl)) rfl rfl) (.inr rfl) (fun _ _ => rfl))))))
theorem sc_law_is : FnScope N_law_is ["_law_disk", "_law_kept", "_law_waits"] (sScope d_law_is.st) := ⟨rfl, rfl, rfl, by decide +kernel, rfl, by decide +kernel, by decide +kernel⟩
theorem fn_law_is (C : Ctx K mg) (F_Disk_look : ∀ gb nb, Lk K gb nb → FnG PP w ((tb K).at gb nb) K mg base true 4 (d_Disk_look.ad K) (fdOf K (d_Disk_look.ad K)) ["self", "at"] phi_Disk_look) (F_Disk_waiting : ∀ gb nb, Lk K gb nb → FnG PP w ((tb K).at gb nb) K mg base true 1 (d_Disk_waiting.ad K) (fdOf K (d_Disk_waiting.ad K)) ["self"] phi_Disk_waiting) (F_Disk_kept : ∀ gb nb, Lk K gb nb → FnG PP w ((tb K).at gb nb) K mg base true 1 (d_Disk_kept.ad K) (fdOf K (d_Disk_kept.ad K)) ["self"] phi_Disk_kept) : ∀ gb nb, Lk K gb nb → FnG PP w ((tb K).at gb nb) K mg base false 5 (d_law_is.ad K) (fdOf K (d_law_is.ad K)) ["_law_disk", "_law_kept", "_law_waits"] phi_law_is := by
  have sc := sc_law_is
  intro gb nb hT
  refine fnG_of C.d_law_is sc fun cdv A outer s H E hr hgd => ?_
  exact dss_cons (qa := true) (qb := false) (ds_set (qa := true) (ra := false) (i := 3) sc.nd rfl (.inl rfl) (.inr rfl) (de_t1 (qa := true) (ra := false) cb_list rfl C.free_list bb_list (by decide) rfl (de_varB (i := 1) rfl (.inl rfl) rfl rfl) rfl) rfl) (dss_cons (qa := false) (qb := true) (ds_for (qi := true) (qb := false) (tg := .tp [.nm 4, .nm 5]) (fun _ _ => passes_of rfl) rfl (di_name (i := 2) rfl (.inl rfl) rfl rfl) (tg_tp rfl (.cons (tg_nm sc.nd rfl (.inl rfl) (.inr rfl)) rfl (.cons (tg_nm sc.nd rfl (.inl rfl) (.inr rfl)) rfl (.nil)))) (dss_one (qa := false) (ds_setIV (qi := true) (qv := true) (ri := false) (j := 3) (de_varF (i := 5) rfl (.inl rfl) rfl rfl) rfl (.inl rfl) rfl rfl (de_varB (i := 4) rfl (.inl rfl) rfl rfl) (fun _ => rfl) rfl rfl rfl)) (fun _ => rfl)) (dss_cons (qa := true) (qb := true) (ds_if (qc := true) (qa := true) (qb := true) (DW.dt (q := true) (dw_or (qa := true) (qb := true) (dt_cmp (qa := true) (qb := true) (ra := false) (rb := false) (op_neDD (rU64 hr)) bl_ne (de_b1 (qa := true) (ra := false) (cb_repr hgd (rU64 hr)) rfl C.free_repr bb_repr (by decide) rfl (de_meth (qo := true) (ro := false) (qa := true) (qb := true) (qf := true) (de_varF (i := 0) rfl (.inr (.inl rfl)) rfl rfl) (mtL_ok (all1 ⟨⟨_, _, _, _, C.cls_0, C.meth_Disk_kept, (F_Disk_kept _ _ hT), hr.mono (by decide), C.bA_Disk_kept_1, rfl⟩⟩)) hgd (da_nil) (dk_nil) rfl rfl (LenA.nil) (LenK.nil) ⟨_, rfl⟩) rfl) (de_b1 (qa := true) (ra := false) (cb_repr hgd (rU64 hr)) rfl C.free_repr bb_repr (by decide) rfl (de_t1 (qa := true) (ra := false) cb_tuple rfl C.free_tuple bb_tuple (by decide) rfl (de_varB (i := 1) rfl (.inl rfl) rfl rfl) rfl) rfl) (.inl rfl) rfl) (dw_or1 (qa := true) (dt_cmp (qa := true) (qb := true) (ra := false) (rb := false) (op_neDD (rU64 hr)) bl_ne (de_meth (qo := true) (ro := false) (qa := true) (qb := true) (qf := true) (de_varF (i := 0) rfl (.inr (.inl rfl)) rfl rfl) (mtL_ok (all1 ⟨⟨_, _, _, _, C.cls_0, C.meth_Disk_waiting, (F_Disk_waiting _ _ hT), hr.mono (by decide), C.bA_Disk_waiting_1, rfl⟩⟩)) hgd (da_nil) (dk_nil) rfl rfl (LenA.nil) (LenK.nil) ⟨_, rfl⟩) (de_b1 (qa := true) (ra := false) cb_len rfl C.free_len bb_len (by decide) rfl (de_varB (i := 2) rfl (.inl rfl) rfl rfl) rfl) (.inl rfl) rfl)))) (dss_one (qa := true) (ds_ret (qa := true) (ra := false) (de_bl))) (dss_nil)) (dss_one (qa := true) (ds_ret (qa := true) (ra := false) (de_cmp (qa := true) (qb := true) (ra := false) (rb := false) (op_eqDD (rU64 hr)) (de_b1 (qa := true) (ra := false) (cb_repr hgd (rU64 hr)) rfl C.free_repr bb_repr (by decide) rfl (de_lc (qi := true) (qc := true) (qe := true) (re := false) (fl := true) (own := [("_law_at", 4)]) (LcOk.mk (qi := true) (qc := true) (qe := true) (re := false) (fl := true) (own := [("_law_at", 4)]) rfl sc.nd (di_rng1 (qa := true) (fl := true) rfl C.free_range (da_cons (qa := true) (qb := true) (de_frz (q := true) (rb := false) (de_b1 (qa := true) (ra := false) cb_len rfl C.free_len bb_len (by decide) rfl (de_varB (i := 1) rfl (.inl rfl) rfl rfl) rfl)) (da_nil) rfl) rfl) (blkOk_by rfl) (fun _ => rfl) (by decide) (fun _ _ _ _ _ => tg_nm sc.nd rfl (.inl rfl) (.inr rfl)) (fun _ _ _ _ _ => dts_nil) (fun _ _ _ _ _ => de_meth (qo := true) (ro := false) (qa := true) (qb := true) (qf := true) (de_varF (i := 0) rfl (by first | exact .inr (.inl rfl) | exact .inr (.inr rfl) | exact .inl rfl) rfl rfl) (mtL_ok (all1 ⟨⟨_, _, _, _, C.cls_0, C.meth_Disk_look, (F_Disk_look _ _ hT), hr.mono (by decide), C.bA_Disk_look_2, rfl⟩⟩)) hgd (da_cons (qa := true) (qb := true) (de_varF (i := 4) rfl (.inl rfl) rfl rfl) (da_nil) rfl) (dk_nil) rfl rfl (LenA.cons (LenA.nil)) (LenK.nil) ⟨_, rfl⟩) (fun _ => rfl))) rfl) (de_b1 (qa := true) (ra := false) (cb_repr hgd (rU64 hr)) rfl C.free_repr bb_repr (by decide) rfl (de_varB (i := 3) rfl (.inl rfl) rfl rfl) rfl) (.inl rfl) rfl)))))
theorem sc_Disk_spend : FnScope N_Disk_spend ["self"] (sScope d_Disk_spend.st) := ⟨rfl, rfl, rfl, by decide +kernel, rfl, by decide +kernel, by decide +kernel⟩
theorem fn_Disk_spend (C : Ctx K mg) : ∀ gb nb, Lk K gb nb → FnG PP w ((tb K).at gb nb) K mg base false 2 (d_Disk_spend.ad K) (fdOf K (d_Disk_spend.ad K)) ["self"] phi_Disk_spend := by
  have sc := sc_Disk_spend
  intro gb nb hT
  refine fnG_of C.d_Disk_spend sc fun cdv A outer s H E hr hgd => ?_
  exact dss_one (qa := false) (ds_if (qc := true) (qa := false) (qb := true) (dt_cmp (qa := true) (qb := true) (ra := true) (rb := false) op_isNotDD bl_isN (de_fldB (qo := true) (ro := false) C.fld.at (de_varF (i := 0) rfl (.inl rfl) rfl rfl) rfl) (de_non) (.inr rfl) rfl) (dss_cons (qa := true) (qb := false) (ds_if (qc := true) (qa := true) (qb := true) (dt_cmp (qa := true) (qb := true) (ra := true) (rb := false) (op_eqDD (rU64 hr)) bl_eq (de_fldB (qo := true) (ro := false) C.fld.at (de_varF (i := 0) rfl (.inl rfl) rfl rfl) rfl) (de_int) (.inr rfl) rfl) (dss_one (qa := true) (ds_raise0 (k := 0) C.sup_Out (hr.mono (by decide)) rfl C.g_Out C.free_super)) (dss_nil)) (dss_one (qa := false) (ds_fld (qo := true) (qv := true) (ro := false) C.fld.at (de_varF (i := 0) rfl (.inl rfl) rfl rfl) (de_bin (qa := true) (qb := true) (ra := true) (rb := false) op_subD (de_fldB (qo := true) (ro := false) C.fld.at (de_varF (i := 0) rfl (.inl rfl) rfl rfl) rfl) (de_int) (.inr rfl)) rfl))) (dss_nil))
theorem sc_is_block : FnScope N_is_block ["value", "most"] (sScope d_is_block.st) := ⟨rfl, rfl, rfl, by decide +kernel, rfl, by decide +kernel, by decide +kernel⟩
theorem fn_is_block (C : Ctx K mg) (F_is_integer : ∀ gb nb, Lk K gb nb → FnG PP w ((tb K).at gb nb) K mg base true 1 (d_is_integer.ad K) (fdOf K (d_is_integer.ad K)) ["value"] phi_is_integer) : ∀ gb nb, Lk K gb nb → FnG PP w ((tb K).at gb nb) K mg base true 2 (d_is_block.ad K) (fdOf K (d_is_block.ad K)) ["value", "most"] phi_is_block := by
  have sc := sc_is_block
  intro gb nb hT
  refine fnG_of C.d_is_block sc fun cdv A outer s H E hr hgd => ?_
  exact dss_one (qa := true) (ds_ret (qa := true) (ra := false) (de_andV (qa := true) (qb := true) (ra := false) (rb := false) (de_isiT (q := true) (ra := false) C.kit.at rfl C.free_isinstance (de_varB (i := 0) rfl (.inl rfl) rfl rfl) (.cons (pe_bltn rfl C.free_list bb_list rfl) rfl (.cons (pe_bltn rfl C.free_tuple bb_tuple rfl) rfl (.nil))) (by decide) rfl (by decide)) (de_andV (qa := true) (qb := true) (ra := false) (rb := false) (de_cmp (qa := true) (qb := true) (ra := false) (rb := false) op_leD (de_b1 (qa := true) (ra := false) cb_len rfl C.free_len bb_len (by decide) rfl (de_varB (i := 0) rfl (.inl rfl) rfl rfl) rfl) (de_varB (i := 1) rfl (.inl rfl) rfl rfl) (.inl rfl) rfl) (de_one (qa := true) (ra := false) (de_b1 (qa := true) (ra := false) (cb_all rfl) rfl C.free_all bb_all (by decide) rfl (de_lc (qi := true) (qc := true) (qe := true) (re := false) (fl := true) (own := [("each", 2)]) (LcOk.mk (qi := true) (qc := true) (qe := true) (re := false) (fl := true) (own := [("each", 2)]) rfl sc.nd (di_any (qa := true) (ra := false) (fl := true) (de_varB (i := 0) rfl (.inl rfl) rfl rfl)) (blkOk_by rfl) (fun _ => rfl) (by decide) (fun _ _ _ _ _ => tg_nm sc.nd rfl (.inl rfl) (.inr rfl)) (fun _ _ _ _ _ => dts_nil) (fun _ _ _ _ _ => de_call (qa := true) (qb := true) (qf := true) (ps := ["value"]) (F_is_integer _ _ hT) (hr.mono (by decide)) hgd rfl C.g_is_integer C.d_is_integer.kp C.bA_is_integer_1 rfl (da_cons (qa := true) (qb := true) (de_varF (i := 2) rfl (.inl rfl) rfl rfl) (da_nil) rfl) (dk_nil) rfl rfl (LenA.cons (LenA.nil)) (LenK.nil)) (fun _ => rfl))) rfl)))))
theorem sc_Disk_write : FnScope N_Disk_write ["self", "at", "block"] (sScope d_Disk_write.st) := ⟨rfl, rfl, rfl, by decide +kernel, rfl, by decide +kernel, by decide +kernel⟩
theorem fn_Disk_write (C : Ctx K mg) (F_Disk_spend : ∀ gb nb, Lk K gb nb → FnG PP w ((tb K).at gb nb) K mg base false 2 (d_Disk_spend.ad K) (fdOf K (d_Disk_spend.ad K)) ["self"] phi_Disk_spend) (F_is_block : ∀ gb nb, Lk K gb nb → FnG PP w ((tb K).at gb nb) K mg base true 2 (d_is_block.ad K) (fdOf K (d_is_block.ad K)) ["value", "most"] phi_is_block) (F_need_number : ∀ gb nb, Lk K gb nb → FnG PP w ((tb K).at gb nb) K mg base true 3 (d_need_number.ad K) (fdOf K (d_need_number.ad K)) ["value", "part", "least", "most"] phi_need_number) : ∀ gb nb, Lk K gb nb → FnG PP w ((tb K).at gb nb) K mg base false 4 (d_Disk_write.ad K) (fdOf K (d_Disk_write.ad K)) ["self", "at", "block"] phi_Disk_write := by
  have sc := sc_Disk_write
  intro gb nb hT
  refine fnG_of C.d_Disk_write sc fun cdv A outer s H E hr hgd => ?_
  exact dss_cons (qa := true) (qb := false) (ds_expr (qa := true) (ra := false) (de_call (qa := true) (qb := true) (qf := true) (ps := ["value", "part", "least", "most"]) (F_need_number _ _ hT) (hr.mono (by decide)) hgd rfl C.g_need_number C.d_need_number.kp C.bA_need_number_4 rfl (da_cons (qa := true) (qb := true) (de_varF (i := 1) rfl (.inl rfl) rfl rfl) (da_cons (qa := true) (qb := true) (de_str) (da_cons (qa := true) (qb := true) (de_int) (da_cons (qa := true) (qb := true) (de_frz (q := true) (rb := false) (de_bin (qa := true) (qb := true) (ra := true) (rb := false) op_subD (de_fldB (qo := true) (ro := false) C.fld.at (de_varF (i := 0) rfl (.inl rfl) rfl rfl) rfl) (de_int) (.inr rfl))) (da_nil) rfl) rfl) rfl) rfl) (dk_nil) rfl rfl (LenA.cons (LenA.cons (LenA.cons (LenA.cons (LenA.nil))))) (LenK.nil)) rfl) (dss_cons (qa := true) (qb := false) (ds_if (qc := true) (qa := true) (qb := true) (dt_not (qa := true) (dt_val (qa := true) (ra := false) (fun _ => rfl) (de_call (qa := true) (qb := true) (qf := true) (ps := ["value", "most"]) (F_is_block _ _ hT) (hr.mono (by decide)) hgd rfl C.g_is_block C.d_is_block.kp C.bA_is_block_1 rfl (da_cons (qa := true) (qb := true) (de_varF (i := 2) rfl (.inl rfl) rfl rfl) (da_nil) rfl) (dk_nil) rfl rfl (LenA.cons (LenA.nil)) (LenK.nil)))) (dss_one (qa := true) (ds_raise (qa := true) (k := 0) C.sup_BadNumber (hr.mono (by decide)) rfl C.g_BadNumber C.free_super (da_cons (qa := true) (qb := true) (de_str) (da_nil) rfl))) (dss_nil)) (dss_cons (qa := false) (qb := false) (ds_expr (qa := false) (ra := false) (de_meth (qo := true) (ro := false) (qa := true) (qb := true) (qf := false) (de_varF (i := 0) rfl (.inl rfl) rfl rfl) (mtL_ok (all1 ⟨⟨_, _, _, _, C.cls_0, C.meth_Disk_spend, (F_Disk_spend _ _ hT), hr.mono (by decide), C.bA_Disk_spend_1, rfl⟩⟩)) hgd (da_nil) (dk_nil) rfl rfl (LenA.nil) (LenK.nil) ⟨_, rfl⟩) rfl) (dss_one (qa := false) (ds_appF (ra := false) (j := 0) C.fld.at rfl (.inl rfl) rfl rfl (de_tup (qa := true) (da_cons (qa := true) (qb := true) (de_varF (i := 1) rfl (.inl rfl) rfl rfl) (da_cons (qa := true) (qb := true) (de_frz (q := true) (rb := false) (de_t1 (qa := true) (ra := false) cb_tuple rfl C.free_tuple bb_tuple (by decide) rfl (de_varB (i := 2) rfl (.inl rfl) rfl rfl) rfl)) (da_nil) rfl) rfl)) rfl rfl rfl rfl rfl rfl))))
theorem sc_blocks_behind : FnScope N_blocks_behind ["blocks", "writes", "lands", "torn"] (sScope d_blocks_behind.st) := ⟨rfl, rfl, rfl, by decide +kernel, rfl, by decide +kernel, by decide +kernel⟩
theorem fn_blocks_behind (C : Ctx K mg) : ∀ gb nb, Lk K gb nb → FnG PP w ((tb K).at gb nb) K mg base false 1 (d_blocks_behind.ad K) (fdOf K (d_blocks_behind.ad K)) ["blocks", "writes", "lands", "torn"] phi_blocks_behind := by
  have sc := sc_blocks_behind
  intro gb nb hT
  refine fnG_of C.d_blocks_behind sc fun cdv A outer s H E hr hgd => ?_
  exact dss_cons (qa := true) (qb := false) (ds_set (qa := true) (ra := false) (i := 4) sc.nd rfl (.inl rfl) (.inr rfl) (de_t1 (qa := true) (ra := false) cb_list rfl C.free_list bb_list (by decide) rfl (de_varB (i := 0) rfl (.inl rfl) rfl rfl) rfl) rfl) (dss_cons (qa := false) (qb := true) (ds_for (qi := true) (qb := false) (tg := .tp [.nm 5, .tp [.nm 6, .nm 7]]) (fun _ _ => passes_of rfl) rfl (di_enum (qa := true) (fl := false) rfl C.free_enumerate (da_cons (qa := true) (qb := true) (de_varF (i := 1) rfl (.inl rfl) rfl rfl) (da_nil) rfl) rfl) (tg_tp rfl (.cons (tg_nm sc.nd rfl (.inl rfl) (.inr rfl)) rfl (.cons (tg_tp rfl (.cons (tg_nm sc.nd rfl (.inl rfl) (.inr rfl)) rfl (.cons (tg_nm sc.nd rfl (.inl rfl) (.inr rfl)) rfl (.nil)))) rfl (.nil)))) (dss_one (qa := false) (ds_if (qc := true) (qa := false) (qb := false) (dt_cmp (qa := true) (qb := true) (ra := false) (rb := false) (op_inDD (rU65 hr)) bl_in (de_varB (i := 5) rfl (.inl rfl) rfl rfl) (de_varB (i := 2) rfl (.inl rfl) rfl rfl) (.inl rfl) rfl) (dss_one (qa := false) (ds_setIV (qi := true) (qv := true) (ri := false) (j := 4) (de_varF (i := 7) rfl (.inl rfl) rfl rfl) rfl (.inl rfl) rfl rfl (de_varB (i := 6) rfl (.inl rfl) rfl rfl) (fun _ => rfl) rfl rfl rfl)) (dss_one (qa := false) (ds_if (qc := true) (qa := false) (qb := true) (dt_cmp (qa := true) (qb := true) (ra := false) (rb := false) (op_inDD (rU65 hr)) bl_in (de_varB (i := 5) rfl (.inl rfl) rfl rfl) (de_varB (i := 3) rfl (.inl rfl) rfl rfl) (.inl rfl) rfl) (dss_one (qa := false) (ds_setIV (qi := true) (qv := true) (ri := false) (j := 4) (de_tup (qa := true) (da_nil)) rfl (.inl rfl) rfl rfl (de_varB (i := 6) rfl (.inl rfl) rfl rfl) (fun _ => rfl) rfl rfl rfl)) (dss_nil))))) (fun _ => rfl)) (dss_one (qa := true) (ds_retV (i := 4) rfl (.inl rfl) rfl rfl)))
theorem sc_Disk_flush : FnScope N_Disk_flush ["self"] (sScope d_Disk_flush.st) := ⟨rfl, rfl, rfl, by decide +kernel, rfl, by decide +kernel, by decide +kernel⟩
theorem fn_Disk_flush (C : Ctx K mg) (F_blocks_behind : ∀ gb nb, Lk K gb nb → FnG PP w ((tb K).at gb nb) K mg base false 1 (d_blocks_behind.ad K) (fdOf K (d_blocks_behind.ad K)) ["blocks", "writes", "lands", "torn"] phi_blocks_behind) (F_Disk_spend : ∀ gb nb, Lk K gb nb → FnG PP w ((tb K).at gb nb) K mg base false 2 (d_Disk_spend.ad K) (fdOf K (d_Disk_spend.ad K)) ["self"] phi_Disk_spend) : ∀ gb nb, Lk K gb nb → FnG PP w ((tb K).at gb nb) K mg base false 3 (d_Disk_flush.ad K) (fdOf K (d_Disk_flush.ad K)) ["self"] phi_Disk_flush := by
  have sc := sc_Disk_flush
  intro gb nb hT
  refine fnG_of C.d_Disk_flush sc fun cdv A outer s H E hr hgd => ?_
  exact dss_cons (qa := false) (qb := false) (ds_expr (qa := false) (ra := false) (de_meth (qo := true) (ro := false) (qa := true) (qb := true) (qf := false) (de_varF (i := 0) rfl (.inl rfl) rfl rfl) (mtL_ok (all1 ⟨⟨_, _, _, _, C.cls_0, C.meth_Disk_spend, (F_Disk_spend _ _ hT), hr.mono (by decide), C.bA_Disk_spend_1, rfl⟩⟩)) hgd (da_nil) (dk_nil) rfl rfl (LenA.nil) (LenK.nil) ⟨_, rfl⟩) rfl) (dss_cons (qa := false) (qb := false) (ds_fld (qo := true) (qv := false) (ro := false) C.fld.at (de_varF (i := 0) rfl (.inl rfl) rfl rfl) (de_call (qa := true) (qb := true) (qf := false) (ps := ["blocks", "writes", "lands", "torn"]) (F_blocks_behind _ _ hT) (hr.mono (by decide)) hgd rfl C.g_blocks_behind C.d_blocks_behind.kp C.bA_blocks_behind_4 rfl (da_cons (qa := true) (qb := true) (de_fldF (qo := true) (ro := false) C.fld.at (de_varF (i := 0) rfl (.inl rfl) rfl rfl) rfl) (da_cons (qa := true) (qb := true) (de_fldF (qo := true) (ro := false) C.fld.at (de_varF (i := 0) rfl (.inl rfl) rfl rfl) rfl) (da_cons (qa := true) (qb := true) (de_frz (q := true) (rb := false) (de_listRg1 (qa := true) (ra := false) rfl rfl C.free_list rfl C.free_range (de_b1 (qa := true) (ra := true) cb_len rfl C.free_len bb_len (by decide) rfl (de_fldB (qo := true) (ro := false) C.fld.at (de_varF (i := 0) rfl (.inl rfl) rfl rfl) rfl) rfl) rfl)) (da_cons (qa := true) (qb := true) (de_frz (q := true) (rb := false) (de_lst (qa := true) (da_nil))) (da_nil) rfl) rfl) rfl) rfl) (dk_nil) rfl rfl (LenA.cons (LenA.cons (LenA.cons (LenA.cons (LenA.nil))))) (LenK.nil)) rfl) (dss_one (qa := false) (ds_fld (qo := true) (qv := true) (ro := false) C.fld.at (de_varF (i := 0) rfl (.inl rfl) rfl rfl) (de_lst (qa := true) (da_nil)) rfl)))
theorem sc_is_lot : FnScope N_is_lot ["value", "many"] (sScope d_is_lot.st) := ⟨rfl, rfl, rfl, by decide +kernel, rfl, by decide +kernel, by decide +kernel⟩
theorem fn_is_lot (C : Ctx K mg) (F_is_within : ∀ gb nb, Lk K gb nb → FnG PP w ((tb K).at gb nb) K mg base true 2 (d_is_within.ad K) (fdOf K (d_is_within.ad K)) ["value", "least", "most"] phi_is_within) : ∀ gb nb, Lk K gb nb → FnG PP w ((tb K).at gb nb) K mg base true 3 (d_is_lot.ad K) (fdOf K (d_is_lot.ad K)) ["value", "many"] phi_is_lot := by
  have sc := sc_is_lot
  intro gb nb hT
  refine fnG_of C.d_is_lot sc fun cdv A outer s H E hr hgd => ?_
  exact dss_cons (qa := true) (qb := true) (ds_if (qc := true) (qa := true) (qb := true) (DW.dt (q := true) (dw_or (qa := true) (qb := true) (dt_not (qa := true) (dt_val (qa := true) (ra := false) (fun _ => rfl) (de_isiT (q := true) (ra := false) C.kit.at rfl C.free_isinstance (de_varB (i := 0) rfl (.inl rfl) rfl rfl) (.cons (pe_bltn rfl C.free_list bb_list rfl) rfl (.cons (pe_bltn rfl C.free_tuple bb_tuple rfl) rfl (.nil))) (by decide) rfl (by decide)))) (dw_or1 (qa := true) (dt_not (qa := true) (dt_val (qa := true) (ra := false) (fun _ => rfl) (de_b1 (qa := true) (ra := false) (cb_all rfl) rfl C.free_all bb_all (by decide) rfl (de_lc (qi := true) (qc := true) (qe := true) (re := false) (fl := true) (own := [("each", 2)]) (LcOk.mk (qi := true) (qc := true) (qe := true) (re := false) (fl := true) (own := [("each", 2)]) rfl sc.nd (di_any (qa := true) (ra := false) (fl := true) (de_varB (i := 0) rfl (.inl rfl) rfl rfl)) (blkOk_by rfl) (fun _ => rfl) (by decide) (fun _ _ _ _ _ => tg_nm sc.nd rfl (.inl rfl) (.inr rfl)) (fun _ _ _ _ _ => dts_nil) (fun _ _ _ _ _ => de_call (qa := true) (qb := true) (qf := true) (ps := ["value", "least", "most"]) (F_is_within _ _ hT) (hr.mono (by decide)) hgd rfl C.g_is_within C.d_is_within.kp C.bA_is_within_3 rfl (da_cons (qa := true) (qb := true) (de_varF (i := 2) rfl (.inl rfl) rfl rfl) (da_cons (qa := true) (qb := true) (de_int) (da_cons (qa := true) (qb := true) (de_frz (q := true) (rb := false) (de_bin (qa := true) (qb := true) (ra := false) (rb := false) op_subD (de_varB (i := 1) rfl (by first | exact .inr (.inl rfl) | exact .inr (.inr rfl) | exact .inl rfl) rfl rfl) (de_int) (.inl rfl))) (da_nil) rfl) rfl) rfl) (dk_nil) rfl rfl (LenA.cons (LenA.cons (LenA.cons (LenA.nil)))) (LenK.nil)) (fun _ => rfl))) rfl)))))) (dss_one (qa := true) (ds_ret (qa := true) (ra := false) (de_bl))) (dss_nil)) (dss_one (qa := true) (ds_ret (qa := true) (ra := false) (de_b1 (qa := true) (ra := false) (cb_all rfl) rfl C.free_all bb_all (by decide) rfl (de_lc (qi := true) (qc := true) (qe := true) (re := false) (fl := true) (own := [("one", 3), ("other", 4)]) (LcOk.mk (qi := true) (qc := true) (qe := true) (re := false) (fl := true) (own := [("one", 3), ("other", 4)]) rfl sc.nd (di_zip (qa := true) (fl := true) rfl C.free_zip (da_cons (qa := true) (qb := true) (de_varF (i := 0) rfl (.inl rfl) rfl rfl) (da_cons (qa := true) (qb := true) (de_frz (q := true) (rb := false) (de_slice (qa := true) (qb := true) (qc := true) (ra := false) (de_varB (i := 0) rfl (.inl rfl) rfl rfl) (do_some (qa := true) (ra := false) (de_int)) (do_none) (.inl rfl))) (da_nil) rfl) rfl) rfl rfl) (blkOk_by rfl) (fun _ => rfl) (by decide) (fun _ _ _ _ _ => tg_tp rfl (.cons (tg_nm sc.nd rfl (.inl rfl) (.inr rfl)) rfl (.cons (tg_nm sc.nd rfl (.inl rfl) (.inr rfl)) rfl (.nil)))) (fun _ _ _ _ _ => dts_nil) (fun _ _ _ _ _ => de_cmp (qa := true) (qb := true) (ra := false) (rb := false) (op_ltD (rU0 hr)) (de_varB (i := 3) rfl (.inl rfl) rfl rfl) (de_varB (i := 4) rfl (.inl rfl) rfl rfl) (.inl rfl) rfl) (fun _ => rfl))) rfl)))
theorem sc_need_lot : FnScope N_need_lot ["value", "part", "many"] (sScope d_need_lot.st) := ⟨rfl, rfl, rfl, by decide +kernel, rfl, by decide +kernel, by decide +kernel⟩
theorem fn_need_lot (C : Ctx K mg) (F_is_lot : ∀ gb nb, Lk K gb nb → FnG PP w ((tb K).at gb nb) K mg base true 3 (d_is_lot.ad K) (fdOf K (d_is_lot.ad K)) ["value", "many"] phi_is_lot) : ∀ gb nb, Lk K gb nb → FnG PP w ((tb K).at gb nb) K mg base true 4 (d_need_lot.ad K) (fdOf K (d_need_lot.ad K)) ["value", "part", "many"] phi_need_lot := by
  have sc := sc_need_lot
  intro gb nb hT
  refine fnG_of C.d_need_lot sc fun cdv A outer s H E hr hgd => ?_
  exact dss_cons (qa := true) (qb := true) (ds_if (qc := true) (qa := true) (qb := true) (dt_not (qa := true) (dt_val (qa := true) (ra := false) (fun _ => rfl) (de_call (qa := true) (qb := true) (qf := true) (ps := ["value", "many"]) (F_is_lot _ _ hT) (hr.mono (by decide)) hgd rfl C.g_is_lot C.d_is_lot.kp C.bA_is_lot_2 rfl (da_cons (qa := true) (qb := true) (de_varF (i := 0) rfl (.inl rfl) rfl rfl) (da_cons (qa := true) (qb := true) (de_varF (i := 2) rfl (.inl rfl) rfl rfl) (da_nil) rfl) rfl) (dk_nil) rfl rfl (LenA.cons (LenA.cons (LenA.nil))) (LenK.nil)))) (dss_one (qa := true) (ds_raise (qa := true) (k := 0) C.sup_BadLot (hr.mono (by decide)) rfl C.g_BadLot C.free_super (da_cons (qa := true) (qb := true) (de_varF (i := 1) rfl (.inl rfl) rfl rfl) (da_nil) rfl))) (dss_nil)) (dss_one (qa := true) (ds_ret (qa := true) (ra := false) (de_t1 (qa := true) (ra := false) cb_tuple rfl C.free_tuple bb_tuple (by decide) rfl (de_varB (i := 0) rfl (.inl rfl) rfl rfl) rfl)))
theorem sc_Disk_left_by : FnScope N_Disk_left_by ["self", "lands", "torn"] (sScope d_Disk_left_by.st) := ⟨rfl, rfl, rfl, by decide +kernel, rfl, by decide +kernel, by decide +kernel⟩
theorem fn_Disk_left_by (C : Ctx K mg) (F_blocks_behind : ∀ gb nb, Lk K gb nb → FnG PP w ((tb K).at gb nb) K mg base false 1 (d_blocks_behind.ad K) (fdOf K (d_blocks_behind.ad K)) ["blocks", "writes", "lands", "torn"] phi_blocks_behind) (F_need_lot : ∀ gb nb, Lk K gb nb → FnG PP w ((tb K).at gb nb) K mg base true 4 (d_need_lot.ad K) (fdOf K (d_need_lot.ad K)) ["value", "part", "many"] phi_need_lot) : ∀ gb nb, Lk K gb nb → FnG PP w ((tb K).at gb nb) K mg base false 5 (d_Disk_left_by.ad K) (fdOf K (d_Disk_left_by.ad K)) ["self", "lands", "torn"] phi_Disk_left_by := by
  have sc := sc_Disk_left_by
  intro gb nb hT
  refine fnG_of C.d_Disk_left_by sc fun cdv A outer s H E hr hgd => ?_
  exact dss_cons (qa := true) (qb := false) (ds_set (qa := true) (ra := false) (i := 3) sc.nd rfl (.inl rfl) (.inr rfl) (de_call (qa := true) (qb := true) (qf := true) (ps := ["value", "part", "many"]) (F_need_lot _ _ hT) (hr.mono (by decide)) hgd rfl C.g_need_lot C.d_need_lot.kp C.bA_need_lot_3 rfl (da_cons (qa := true) (qb := true) (de_varF (i := 1) rfl (.inl rfl) rfl rfl) (da_cons (qa := true) (qb := true) (de_str) (da_cons (qa := true) (qb := true) (de_frz (q := true) (rb := false) (de_b1 (qa := true) (ra := true) cb_len rfl C.free_len bb_len (by decide) rfl (de_fldB (qo := true) (ro := false) C.fld.at (de_varF (i := 0) rfl (.inl rfl) rfl rfl) rfl) rfl)) (da_nil) rfl) rfl) rfl) (dk_nil) rfl rfl (LenA.cons (LenA.cons (LenA.cons (LenA.nil)))) (LenK.nil)) rfl) (dss_cons (qa := true) (qb := false) (ds_set (qa := true) (ra := false) (i := 4) sc.nd rfl (.inr rfl) (.inl rfl) (de_call (qa := true) (qb := true) (qf := true) (ps := ["value", "part", "many"]) (F_need_lot _ _ hT) (hr.mono (by decide)) hgd rfl C.g_need_lot C.d_need_lot.kp C.bA_need_lot_3 rfl (da_cons (qa := true) (qb := true) (de_varF (i := 2) rfl (.inl rfl) rfl rfl) (da_cons (qa := true) (qb := true) (de_str) (da_cons (qa := true) (qb := true) (de_frz (q := true) (rb := false) (de_b1 (qa := true) (ra := true) cb_len rfl C.free_len bb_len (by decide) rfl (de_fldB (qo := true) (ro := false) C.fld.at (de_varF (i := 0) rfl (.inl rfl) rfl rfl) rfl) rfl)) (da_nil) rfl) rfl) rfl) (dk_nil) rfl rfl (LenA.cons (LenA.cons (LenA.cons (LenA.nil)))) (LenK.nil)) rfl) (dss_cons (qa := true) (qb := false) (ds_if (qc := true) (qa := true) (qb := true) (dt_val (qa := true) (ra := false) (fun _ => rfl) (de_b1 (qa := true) (ra := false) (cb_any rfl) rfl C.free_any bb_any (by decide) rfl (de_lc (qi := true) (qc := true) (qe := true) (re := false) (fl := true) (own := [("number", 5)]) (LcOk.mk (qi := true) (qc := true) (qe := true) (re := false) (fl := true) (own := [("number", 5)]) rfl sc.nd (di_any (qa := true) (ra := false) (fl := true) (de_varB (i := 3) rfl (.inl rfl) rfl rfl)) (blkOk_by rfl) (fun _ => rfl) (by decide) (fun _ _ _ _ _ => tg_nm sc.nd rfl (.inl rfl) (.inr rfl)) (fun _ _ _ _ _ => dts_nil) (fun _ _ _ _ _ => de_cmp (qa := true) (qb := true) (ra := false) (rb := false) (op_inDD (rU65 hr)) (de_varB (i := 5) rfl (.inl rfl) rfl rfl) (de_varB (i := 4) rfl (by first | exact .inr (.inl rfl) | exact .inr (.inr rfl) | exact .inl rfl) rfl rfl) (.inl rfl) rfl) (fun _ => rfl))) rfl)) (dss_one (qa := true) (ds_never)) (dss_nil)) (dss_one (qa := false) (ds_ret (qa := false) (ra := false) (de_call (qa := true) (qb := true) (qf := false) (ps := ["blocks", "writes", "lands", "torn"]) (F_blocks_behind _ _ hT) (hr.mono (by decide)) hgd rfl C.g_blocks_behind C.d_blocks_behind.kp C.bA_blocks_behind_4 rfl (da_cons (qa := true) (qb := true) (de_fldF (qo := true) (ro := false) C.fld.at (de_varF (i := 0) rfl (.inl rfl) rfl rfl) rfl) (da_cons (qa := true) (qb := true) (de_fldF (qo := true) (ro := false) C.fld.at (de_varF (i := 0) rfl (.inl rfl) rfl rfl) rfl) (da_cons (qa := true) (qb := true) (de_varF (i := 3) rfl (.inl rfl) rfl rfl) (da_cons (qa := true) (qb := true) (de_varF (i := 4) rfl (.inr (.inl rfl)) rfl rfl) (da_nil) rfl) rfl) rfl) rfl) (dk_nil) rfl rfl (LenA.cons (LenA.cons (LenA.cons (LenA.cons (LenA.nil))))) (LenK.nil))))))
theorem sc_Disk_cut : FnScope N_Disk_cut ["self", "lands", "torn"] (sScope d_Disk_cut.st) := ⟨rfl, rfl, rfl, by decide +kernel, rfl, by decide +kernel, by decide +kernel⟩
theorem fn_Disk_cut (C : Ctx K mg) (F_Disk_left_by : ∀ gb nb, Lk K gb nb → FnG PP w ((tb K).at gb nb) K mg base false 5 (d_Disk_left_by.ad K) (fdOf K (d_Disk_left_by.ad K)) ["self", "lands", "torn"] phi_Disk_left_by) : ∀ gb nb, Lk K gb nb → FnG PP w ((tb K).at gb nb) K mg base false 6 (d_Disk_cut.ad K) (fdOf K (d_Disk_cut.ad K)) ["self", "lands", "torn"] phi_Disk_cut := by
  have sc := sc_Disk_cut
  intro gb nb hT
  refine fnG_of C.d_Disk_cut sc fun cdv A outer s H E hr hgd => ?_
  exact dss_cons (qa := false) (qb := false) (ds_fld (qo := true) (qv := false) (ro := false) C.fld.at (de_varF (i := 0) rfl (.inl rfl) rfl rfl) (de_meth (qo := true) (ro := false) (qa := true) (qb := true) (qf := false) (de_varF (i := 0) rfl (.inl rfl) rfl rfl) (mtL_ok (all1 ⟨⟨_, _, _, _, C.cls_0, C.meth_Disk_left_by, (F_Disk_left_by _ _ hT), hr.mono (by decide), C.bA_Disk_left_by_3, rfl⟩⟩)) hgd (da_cons (qa := true) (qb := true) (de_varF (i := 1) rfl (.inl rfl) rfl rfl) (da_cons (qa := true) (qb := true) (de_varF (i := 2) rfl (.inl rfl) rfl rfl) (da_nil) rfl) rfl) (dk_nil) rfl rfl (LenA.cons (LenA.cons (LenA.nil))) (LenK.nil) ⟨_, rfl⟩) rfl) (dss_cons (qa := false) (qb := false) (ds_fld (qo := true) (qv := true) (ro := false) C.fld.at (de_varF (i := 0) rfl (.inl rfl) rfl rfl) (de_lst (qa := true) (da_nil)) rfl) (dss_one (qa := false) (ds_fld (qo := true) (qv := true) (ro := false) C.fld.at (de_varF (i := 0) rfl (.inl rfl) rfl rfl) (de_non) rfl)))
theorem sc_Disk_no_fuse : FnScope N_Disk_no_fuse ["self"] (sScope d_Disk_no_fuse.st) := ⟨rfl, rfl, rfl, by decide +kernel, rfl, by decide +kernel, by decide +kernel⟩
theorem fn_Disk_no_fuse (C : Ctx K mg) : ∀ gb nb, Lk K gb nb → FnG PP w ((tb K).at gb nb) K mg base false 1 (d_Disk_no_fuse.ad K) (fdOf K (d_Disk_no_fuse.ad K)) ["self"] phi_Disk_no_fuse := by
  have sc := sc_Disk_no_fuse
  intro gb nb hT
  refine fnG_of C.d_Disk_no_fuse sc fun cdv A outer s H E hr hgd => ?_
  exact dss_one (qa := false) (ds_fld (qo := true) (qv := true) (ro := false) C.fld.at (de_varF (i := 0) rfl (.inl rfl) rfl rfl) (de_non) rfl)
theorem sc_law : FnScope N_law ["_law_script"] (sScope d_law.st) := ⟨rfl, rfl, rfl, by decide +kernel, rfl, by decide +kernel, by decide +kernel⟩
theorem fn_law (C : Ctx K mg) (hTB : ∀ p ∈ tabsOf K tabX, LamX.TabB base mg p.1 p.2) (F_law_is : ∀ gb nb, Lk K gb nb → FnG PP w ((tb K).at gb nb) K mg base false 5 (d_law_is.ad K) (fdOf K (d_law_is.ad K)) ["_law_disk", "_law_kept", "_law_waits"] phi_law_is) (F_law_refused_right : ∀ gb nb, Lk K gb nb → FnG PP w ((tb K).at gb nb) K mg base false 7 (d_law_refused_right.ad K) (fdOf K (d_law_refused_right.ad K)) ["_law_pail_here", "_law_disk"] phi_law_refused_right) (F_law_dip : ∀ gb nb, Lk K gb nb → FnG PP w ((tb K).at gb nb) K mg base false 1 (d_law_dip.ad K) (fdOf K (d_law_dip.ad K)) ["_law_pail_here", "_law_many"] phi_law_dip) (F_law_heard : FnL PP w (tb K) (tabNs K tabX) K mg base false 1 (d_law_heard.ad K) "_law_ask" N_law_heard "_law_heard" (sScope d_law_heard.st) phi_law_heard) (F_Disk_write : ∀ gb nb, Lk K gb nb → FnG PP w ((tb K).at gb nb) K mg base false 4 (d_Disk_write.ad K) (fdOf K (d_Disk_write.ad K)) ["self", "at", "block"] phi_Disk_write) (F_Disk_flush : ∀ gb nb, Lk K gb nb → FnG PP w ((tb K).at gb nb) K mg base false 3 (d_Disk_flush.ad K) (fdOf K (d_Disk_flush.ad K)) ["self"] phi_Disk_flush) (F_Disk_fuse : ∀ gb nb, Lk K gb nb → FnG PP w ((tb K).at gb nb) K mg base false 4 (d_Disk_fuse.ad K) (fdOf K (d_Disk_fuse.ad K)) ["self", "many"] phi_Disk_fuse) (F_law_pick : ∀ gb nb, Lk K gb nb → FnG PP w ((tb K).at gb nb) K mg base false 2 (d_law_pick.ad K) (fdOf K (d_law_pick.ad K)) ["_law_pail_here", "_law_some"] phi_law_pick) (F_Disk_cut : ∀ gb nb, Lk K gb nb → FnG PP w ((tb K).at gb nb) K mg base false 6 (d_Disk_cut.ad K) (fdOf K (d_Disk_cut.ad K)) ["self", "lands", "torn"] phi_Disk_cut) (F_Disk_no_fuse : ∀ gb nb, Lk K gb nb → FnG PP w ((tb K).at gb nb) K mg base false 1 (d_Disk_no_fuse.ad K) (fdOf K (d_Disk_no_fuse.ad K)) ["self"] phi_Disk_no_fuse) (F_Disk_kept : ∀ gb nb, Lk K gb nb → FnG PP w ((tb K).at gb nb) K mg base true 1 (d_Disk_kept.ad K) (fdOf K (d_Disk_kept.ad K)) ["self"] phi_Disk_kept) (F_Disk_init : ∀ gb nb, Lk K gb nb → FnG PP w ((tb K).at gb nb) K mg base false 4 (d_Disk_init.ad K) (fdOf K (d_Disk_init.ad K)) ["self", "many"] phi_Disk_init) (F_law_pail : ∀ gb nb, Lk K gb nb → FnG PP w ((tb K).at gb nb) K mg base true 1 (d_law_pail.ad K) (fdOf K (d_law_pail.ad K)) ["_law_script"] phi_law_pail) : ∀ gb nb, Lk K gb nb → FnG PP w ((tb K).at gb nb) K mg base false 9 (d_law.ad K) (fdOf K (d_law.ad K)) ["_law_script"] phi_law := by
  have sc := sc_law
  intro gb nb hT
  refine fnG_ofC C.d_law sc (code_tab C.tab_law) fun A outer s H E hr hgd => ?_
  exact dss_cons (qa := true) (qb := false) (ds_set (qa := true) (ra := false) (i := 1) sc.nd rfl (.inr rfl) (.inl rfl) (de_call (qa := true) (qb := true) (qf := true) (ps := ["_law_script"]) (F_law_pail _ _ hT) (hr.mono (by decide)) hgd rfl C.g__law_pail C.d_law_pail.kp C.bA_law_pail_1 rfl (da_cons (qa := true) (qb := true) (de_varF (i := 0) rfl (.inl rfl) rfl rfl) (da_nil) rfl) (dk_nil) rfl rfl (LenA.cons (LenA.nil)) (LenK.nil)) rfl) (dss_cons (qa := false) (qb := false) (ds_set (qa := false) (ra := false) (i := 2) sc.nd rfl (.inr rfl) (.inl rfl) (de_bin (qa := true) (qb := false) (ra := false) (rb := false) op_addD (de_int) (de_call (qa := true) (qb := true) (qf := false) (ps := ["_law_pail_here", "_law_some"]) (F_law_pick _ _ hT) (hr.mono (by decide)) hgd rfl C.g__law_pick C.d_law_pick.kp C.bA_law_pick_2 rfl (da_cons (qa := true) (qb := true) (de_varF (i := 1) rfl (.inr (.inl rfl)) rfl rfl) (da_cons (qa := true) (qb := true) (de_frz (q := true) (rb := false) (de_lst (qa := true) (da_cons (qa := true) (qb := true) (de_int) (da_cons (qa := true) (qb := true) (de_int) (da_cons (qa := true) (qb := true) (de_int) (da_nil) rfl) rfl) rfl))) (da_nil) rfl) rfl) (dk_nil) rfl rfl (LenA.cons (LenA.cons (LenA.nil))) (LenK.nil)) (.inl rfl)) rfl) (dss_cons (qa := false) (qb := false) (ds_set (qa := false) (ra := false) (i := 3) sc.nd rfl (.inr rfl) (.inl rfl) (de_make (qa := true) (qb := true) (qf := false) (ps := ["self", "many"]) (c := 0) C.mk_0 (F_Disk_init _ _ hT) (hr.mono (by decide)) hgd rfl C.g_Disk C.bA_Disk_init_2 rfl (da_cons (qa := true) (qb := true) (de_varF (i := 2) rfl (.inr (.inl rfl)) rfl rfl) (da_nil) rfl) (dk_nil) rfl rfl (LenA.cons (LenA.nil)) (LenK.nil)) rfl) (dss_cons (qa := true) (qb := false) (ds_parN (qa := true) rfl (.cons (pg_name (i := 4) sc.nd rfl (.inl rfl) (.inr rfl)) rfl (.cons (pg_name (i := 5) sc.nd rfl (.inr rfl) (.inl rfl)) rfl (.cons (pg_name (i := 6) sc.nd rfl (.inr rfl) (.inl rfl)) rfl (.nil)))) (da_cons (qa := true) (qb := true) (de_t1 (qa := true) (ra := false) cb_list rfl C.free_list bb_list (by decide) rfl (de_meth (qo := true) (ro := false) (qa := true) (qb := true) (qf := true) (de_varF (i := 3) rfl (.inr (.inl rfl)) rfl rfl) (mtL_ok (all1 ⟨⟨_, _, _, _, C.cls_0, C.meth_Disk_kept, (F_Disk_kept _ _ hT), hr.mono (by decide), C.bA_Disk_kept_1, rfl⟩⟩)) hgd (da_nil) (dk_nil) rfl rfl (LenA.nil) (LenK.nil) ⟨_, rfl⟩) rfl) (da_cons (qa := true) (qb := true) (de_lst (qa := true) (da_nil)) (da_cons (qa := true) (qb := true) (de_non) (da_nil) rfl) rfl) rfl) rfl rfl rfl) (dss_cons (qa := false) (qb := false) (ds_for (qi := false) (qb := false) (tg := .nm 7) (fun _ _ => passes_of rfl) rfl (di_rng1 (qa := false) (fl := false) rfl C.free_range (da_cons (qa := false) (qb := true) (de_frz (q := false) (rb := false) (de_bin (qa := true) (qb := false) (ra := false) (rb := false) op_addD (de_int) (de_call (qa := true) (qb := true) (qf := false) (ps := ["_law_pail_here", "_law_many"]) (F_law_dip _ _ hT) (hr.mono (by decide)) hgd rfl C.g__law_dip C.d_law_dip.kp C.bA_law_dip_2 rfl (da_cons (qa := true) (qb := true) (de_varF (i := 1) rfl (.inr (.inl rfl)) rfl rfl) (da_cons (qa := true) (qb := true) (de_int) (da_nil) rfl) rfl) (dk_nil) rfl rfl (LenA.cons (LenA.cons (LenA.nil))) (LenK.nil)) (.inl rfl))) (da_nil) rfl) rfl) (tg_nm sc.nd rfl (.inl rfl) (.inr rfl)) (dss_cons (qa := false) (qb := false) (ds_set (qa := false) (ra := false) (i := 8) sc.nd rfl (.inl rfl) (.inr rfl) (de_call (qa := true) (qb := true) (qf := false) (ps := ["_law_pail_here", "_law_some"]) (F_law_pick _ _ hT) (hr.mono (by decide)) hgd rfl C.g__law_pick C.d_law_pick.kp C.bA_law_pick_2 rfl (da_cons (qa := true) (qb := true) (de_varF (i := 1) rfl (.inr (.inl rfl)) rfl rfl) (da_cons (qa := true) (qb := true) (de_frz (q := true) (rb := false) (de_lst (qa := true) (da_cons (qa := true) (qb := true) (de_str) (da_cons (qa := true) (qb := true) (de_str) (da_cons (qa := true) (qb := true) (de_str) (da_cons (qa := true) (qb := true) (de_str) (da_cons (qa := true) (qb := true) (de_str) (da_cons (qa := true) (qb := true) (de_str) (da_cons (qa := true) (qb := true) (de_str) (da_cons (qa := true) (qb := true) (de_str) (da_cons (qa := true) (qb := true) (de_str) (da_cons (qa := true) (qb := true) (de_str) (da_nil) rfl) rfl) rfl) rfl) rfl) rfl) rfl) rfl) rfl) rfl))) (da_nil) rfl) rfl) (dk_nil) rfl rfl (LenA.cons (LenA.cons (LenA.nil))) (LenK.nil)) rfl) (dss_cons (qa := true) (qb := false) (ds_set (qa := true) (ra := false) (i := 9) sc.nd rfl (.inl rfl) (.inr rfl) (de_ifE (qc := true) (qa := true) (qb := true) (ra := false) (rb := false) (DW.dt (q := true) (dw_and (qa := true) (qb := true) (dt_cmp (qa := true) (qb := true) (ra := false) (rb := false) (op_eqDD (rU64 hr)) bl_eq (de_varB (i := 6) rfl (.inr (.inl rfl)) rfl rfl) (de_int) (.inl rfl) rfl) (dw_and1 (qa := true) (dt_cmp (qa := true) (qb := true) (ra := false) (rb := false) (op_inDD (rU65 hr)) bl_in (de_varB (i := 8) rfl (.inl rfl) rfl rfl) (de_tup (qa := true) (da_cons (qa := true) (qb := true) (de_str) (da_cons (qa := true) (qb := true) (de_str) (da_nil) rfl) rfl)) (.inl rfl) rfl)))) (de_str) (de_str)) rfl) (dss_cons (qa := true) (qb := false) (ds_if (qc := true) (qa := true) (qb := true) (DW.dt (q := true) (dw_and (qa := true) (qb := true) (dt_cmp (qa := true) (qb := true) (ra := false) (rb := false) (op_inDD (rU65 hr)) bl_in (de_varB (i := 8) rfl (.inl rfl) rfl rfl) (de_tup (qa := true) (da_cons (qa := true) (qb := true) (de_str) (da_cons (qa := true) (qb := true) (de_str) (da_nil) rfl) rfl)) (.inl rfl) rfl) (dw_and1 (qa := true) (dt_cmp (qa := true) (qb := true) (ra := false) (rb := false) op_isNotDD bl_isN (de_varB (i := 6) rfl (.inr (.inl rfl)) rfl rfl) (de_non) (.inl rfl) rfl)))) (dss_one (qa := true) (ds_set (qa := true) (ra := false) (i := 6) sc.nd rfl (.inr rfl) (.inl rfl) (de_b2 (qa := true) (qb := true) (ra := false) (rb := false) (cb_max2 rfl) rfl C.free_max bb_max (by decide) rfl (de_int) (de_bin (qa := true) (qb := true) (ra := false) (rb := false) op_subD (de_varB (i := 6) rfl (.inr (.inl rfl)) rfl rfl) (de_int) (.inl rfl)) (.inl rfl) rfl rfl) rfl)) (dss_nil)) (dss_cons (qa := false) (qb := false) (ds_parN (qa := false) rfl (.cons (pg_name (i := 10) sc.nd rfl (.inr rfl) (.inl rfl)) rfl (.cons (pg_name (i := 11) sc.nd rfl (.inr rfl) (.inl rfl)) rfl (.nil))) (da_cons (qa := false) (qb := false) (de_call (qa := true) (qb := true) (qf := false) (ps := ["_law_pail_here", "_law_many"]) (F_law_dip _ _ hT) (hr.mono (by decide)) hgd rfl C.g__law_dip C.d_law_dip.kp C.bA_law_dip_2 rfl (da_cons (qa := true) (qb := true) (de_varF (i := 1) rfl (.inr (.inl rfl)) rfl rfl) (da_cons (qa := true) (qb := true) (de_varF (i := 2) rfl (.inr (.inl rfl)) rfl rfl) (da_nil) rfl) rfl) (dk_nil) rfl rfl (LenA.cons (LenA.cons (LenA.nil))) (LenK.nil)) (da_cons (qa := false) (qb := true) (de_t1 (qa := false) (ra := false) cb_tuple rfl C.free_tuple bb_tuple (by decide) rfl (de_lc (qi := false) (qc := true) (qe := false) (re := false) (fl := false) (own := [("_law_number", 16)]) (LcOk.mk (qi := false) (qc := true) (qe := false) (re := false) (fl := false) (own := [("_law_number", 16)]) rfl sc.nd (di_rng1 (qa := false) (fl := false) rfl C.free_range (da_cons (qa := false) (qb := true) (de_frz (q := false) (rb := false) (de_call (qa := true) (qb := true) (qf := false) (ps := ["_law_pail_here", "_law_many"]) (F_law_dip _ _ hT) (hr.mono (by decide)) hgd rfl C.g__law_dip C.d_law_dip.kp C.bA_law_dip_2 rfl (da_cons (qa := true) (qb := true) (de_varF (i := 1) rfl (.inr (.inl rfl)) rfl rfl) (da_cons (qa := true) (qb := true) (de_int) (da_nil) rfl) rfl) (dk_nil) rfl rfl (LenA.cons (LenA.cons (LenA.nil))) (LenK.nil))) (da_nil) rfl) rfl) (blkOk_by rfl) (fun z => nomatch z) (by decide) (fun _ _ _ _ _ => tg_nm sc.nd rfl (.inl rfl) (.inr rfl)) (fun _ _ _ _ _ => dts_nil) (fun _ _ _ _ _ => de_call (qa := true) (qb := true) (qf := false) (ps := ["_law_pail_here", "_law_many"]) (F_law_dip _ _ hT) (hr.mono (by decide)) hgd rfl C.g__law_dip C.d_law_dip.kp C.bA_law_dip_2 rfl (da_cons (qa := true) (qb := true) (de_varF (i := 1) rfl (by first | exact .inr (.inl rfl) | exact .inr (.inr rfl) | exact .inl rfl) rfl rfl) (da_cons (qa := true) (qb := true) (de_int) (da_nil) rfl) rfl) (dk_nil) rfl rfl (LenA.cons (LenA.cons (LenA.nil))) (LenK.nil)) (fun _ => rfl))) rfl) (da_nil) rfl) rfl) rfl rfl rfl) (dss_cons (qa := false) (qb := false) (ds_if (qc := true) (qa := false) (qb := false) (dt_cmp (qa := true) (qb := true) (ra := false) (rb := false) (op_eqDD (rU64 hr)) bl_eq (de_varB (i := 8) rfl (.inl rfl) rfl rfl) (de_str) (.inl rfl) rfl) (dss_cons (qa := false) (qb := true) (ds_set (qa := false) (ra := false) (i := 12) sc.nd rfl (.inl rfl) (.inr rfl) (de_fz _ (de_lamcall (k := 4) (ql := false) (ra := false) F_law_heard hT (hr.mono (by decide)) (by decide) hgd rfl C.g__law_heard C.d_law_heard.kp rfl (.inl rfl) (tabNs_at (xs := tabX) (t := 1) rfl C.tab_law) (tabB_at hTB (xs := tabX) (by simp [tabX]) C.tab_law) rfl rfl (LamX.lamS_by rfl) (fun _ _ _ _ _ => rfl) (fun gb nb f_ c_ A outer s2 H2 E2 hT hr hgd => de_meth (qo := true) (ro := false) (qa := true) (qb := true) (qf := false) (de_varF (i := 3) rfl (.inr (.inr rfl)) rfl rfl) (mtL_ok (all1 ⟨⟨_, _, _, _, C.cls_0, C.meth_Disk_write, (F_Disk_write _ _ hT), hr.mono (by decide), C.bA_Disk_write_3, rfl⟩⟩)) hgd (da_cons (qa := true) (qb := true) (de_varF (i := 10) rfl (.inr (.inr rfl)) rfl rfl) (da_cons (qa := true) (qb := true) (de_frz (q := true) (rb := false) (de_t1 (qa := true) (ra := false) cb_list rfl C.free_list bb_list (by decide) rfl (de_varB (i := 11) rfl (.inr (.inr rfl)) rfl rfl) rfl)) (da_nil) rfl) rfl) (dk_nil) rfl rfl (LenA.cons (LenA.cons (LenA.nil))) (LenK.nil) ⟨_, rfl⟩))) rfl) (dss_one (qa := true) (ds_set (qa := true) (ra := false) (i := 5) sc.nd rfl (.inr rfl) (.inl rfl) (de_bin (qa := true) (qb := true) (ra := false) (rb := false) op_addD (de_varB (i := 5) rfl (.inr (.inl rfl)) rfl rfl) (de_bin (qa := true) (qb := true) (ra := false) (rb := false) op_mulD (de_lst (qa := true) (da_cons (qa := true) (qb := true) (de_tup (qa := true) (da_cons (qa := true) (qb := true) (de_varF (i := 10) rfl (.inr (.inl rfl)) rfl rfl) (da_cons (qa := true) (qb := true) (de_varF (i := 11) rfl (.inr (.inl rfl)) rfl rfl) (da_nil) rfl) rfl)) (da_nil) rfl)) (de_t1 (qa := true) (ra := false) cb_int rfl C.free_int bb_int (by decide) rfl (de_cmp (qa := true) (qb := true) (ra := false) (rb := false) (op_eqDD (rU64 hr)) (de_varB (i := 9) rfl (.inl rfl) rfl rfl) (de_str) (.inl rfl) rfl) rfl) (.inl rfl)) (.inl rfl)) rfl))) (dss_one (qa := false) (ds_if (qc := true) (qa := false) (qb := false) (dt_cmp (qa := true) (qb := true) (ra := false) (rb := false) (op_eqDD (rU64 hr)) bl_eq (de_varB (i := 8) rfl (.inl rfl) rfl rfl) (de_str) (.inl rfl) rfl) (dss_cons (qa := false) (qb := false) (ds_set (qa := false) (ra := false) (i := 12) sc.nd rfl (.inl rfl) (.inr rfl) (de_fz _ (de_lamcall (k := 3) (ql := false) (ra := false) F_law_heard hT (hr.mono (by decide)) (by decide) hgd rfl C.g__law_heard C.d_law_heard.kp rfl (.inl rfl) (tabNs_at (xs := tabX) (t := 1) rfl C.tab_law) (tabB_at hTB (xs := tabX) (by simp [tabX]) C.tab_law) rfl rfl (LamX.lamS_by rfl) (fun _ _ _ _ _ => rfl) (fun gb nb f_ c_ A outer s2 H2 E2 hT hr hgd => de_meth (qo := true) (ro := false) (qa := true) (qb := true) (qf := false) (de_varF (i := 3) rfl (.inr (.inr rfl)) rfl rfl) (mtL_ok (all1 ⟨⟨_, _, _, _, C.cls_0, C.meth_Disk_flush, (F_Disk_flush _ _ hT), hr.mono (by decide), C.bA_Disk_flush_1, rfl⟩⟩)) hgd (da_nil) (dk_nil) rfl rfl (LenA.nil) (LenK.nil) ⟨_, rfl⟩))) rfl) (dss_one (qa := false) (ds_if (qc := true) (qa := false) (qb := true) (dt_cmp (qa := true) (qb := true) (ra := false) (rb := false) (op_eqDD (rU64 hr)) bl_eq (de_varB (i := 9) rfl (.inl rfl) rfl rfl) (de_str) (.inl rfl) rfl) (dss_cons (qa := false) (qb := true) (ds_for (qi := true) (qb := false) (tg := .tp [.nm 13, .nm 14]) (fun _ _ => passes_of rfl) rfl (di_name (i := 5) rfl (.inr (.inl rfl)) rfl rfl) (tg_tp rfl (.cons (tg_nm sc.nd rfl (.inl rfl) (.inr rfl)) rfl (.cons (tg_nm sc.nd rfl (.inl rfl) (.inr rfl)) rfl (.nil)))) (dss_one (qa := false) (ds_setIV (qi := true) (qv := true) (ri := false) (j := 4) (de_varF (i := 14) rfl (.inl rfl) rfl rfl) rfl (.inl rfl) rfl rfl (de_varB (i := 13) rfl (.inl rfl) rfl rfl) (fun _ => rfl) rfl rfl rfl)) (fun _ => rfl)) (dss_one (qa := true) (ds_set (qa := true) (ra := false) (i := 5) sc.nd rfl (.inr rfl) (.inl rfl) (de_lst (qa := true) (da_nil)) rfl))) (dss_nil)))) (dss_one (qa := false) (ds_if (qc := true) (qa := false) (qb := false) (dt_cmp (qa := true) (qb := true) (ra := false) (rb := false) (op_eqDD (rU64 hr)) bl_eq (de_varB (i := 8) rfl (.inl rfl) rfl rfl) (de_str) (.inl rfl) rfl) (dss_cons (qa := false) (qb := false) (ds_set (qa := false) (ra := false) (i := 6) sc.nd rfl (.inr rfl) (.inl rfl) (de_call (qa := false) (qb := true) (qf := false) (ps := ["_law_pail_here", "_law_some"]) (F_law_pick _ _ hT) (hr.mono (by decide)) hgd rfl C.g__law_pick C.d_law_pick.kp C.bA_law_pick_2 rfl (da_cons (qa := true) (qb := false) (de_varF (i := 1) rfl (.inr (.inl rfl)) rfl rfl) (da_cons (qa := false) (qb := true) (de_frz (q := false) (rb := false) (de_lst (qa := false) (da_cons (qa := true) (qb := false) (de_int) (da_cons (qa := true) (qb := false) (de_int) (da_cons (qa := true) (qb := false) (de_int) (da_cons (qa := true) (qb := false) (de_frz (q := true) (rb := false) (de_bin (qa := true) (qb := true) (ra := false) (rb := false) op_powD (de_int) (de_int) (.inl rfl))) (da_cons (qa := false) (qb := true) (de_frz (q := false) (rb := false) (de_bin (qa := true) (qb := false) (ra := false) (rb := false) op_addD (de_int) (de_call (qa := true) (qb := true) (qf := false) (ps := ["_law_pail_here", "_law_many"]) (F_law_dip _ _ hT) (hr.mono (by decide)) hgd rfl C.g__law_dip C.d_law_dip.kp C.bA_law_dip_2 rfl (da_cons (qa := true) (qb := true) (de_varF (i := 1) rfl (.inr (.inl rfl)) rfl rfl) (da_cons (qa := true) (qb := true) (de_int) (da_nil) rfl) rfl) (dk_nil) rfl rfl (LenA.cons (LenA.cons (LenA.nil))) (LenK.nil)) (.inl rfl))) (da_nil) rfl) rfl) rfl) rfl) rfl))) (da_nil) rfl) rfl) (dk_nil) rfl rfl (LenA.cons (LenA.cons (LenA.nil))) (LenK.nil)) rfl) (dss_one (qa := false) (ds_set (qa := false) (ra := false) (i := 12) sc.nd rfl (.inl rfl) (.inr rfl) (de_fz _ (de_lamcall (k := 4) (ql := false) (ra := false) F_law_heard hT (hr.mono (by decide)) (by decide) hgd rfl C.g__law_heard C.d_law_heard.kp rfl (.inl rfl) (tabNs_at (xs := tabX) (t := 1) rfl C.tab_law) (tabB_at hTB (xs := tabX) (by simp [tabX]) C.tab_law) rfl rfl (LamX.lamS_by rfl) (fun _ _ _ _ _ => rfl) (fun gb nb f_ c_ A outer s2 H2 E2 hT hr hgd => de_meth (qo := true) (ro := false) (qa := true) (qb := true) (qf := false) (de_varF (i := 3) rfl (.inr (.inr rfl)) rfl rfl) (mtL_ok (all1 ⟨⟨_, _, _, _, C.cls_0, C.meth_Disk_fuse, (F_Disk_fuse _ _ hT), hr.mono (by decide), C.bA_Disk_fuse_1_many, rfl⟩⟩)) hgd (da_nil) (dk_cons (qa := true) (qb := true) (de_varF (i := 6) rfl (.inr (.inr rfl)) rfl rfl) (dk_nil)) rfl rfl (LenA.nil) (LenK.cons (LenK.nil)) ⟨_, rfl⟩))) rfl))) (dss_one (qa := false) (ds_if (qc := true) (qa := false) (qb := false) (dt_cmp (qa := true) (qb := true) (ra := false) (rb := false) (op_eqDD (rU64 hr)) bl_eq (de_varB (i := 8) rfl (.inl rfl) rfl rfl) (de_str) (.inl rfl) rfl) (dss_one (qa := false) (ds_parN (qa := false) rfl (.cons (pg_name (i := 12) sc.nd rfl (.inl rfl) (.inr rfl)) rfl (.cons (pg_name (i := 5) sc.nd rfl (.inr rfl) (.inl rfl)) rfl (.cons (pg_name (i := 6) sc.nd rfl (.inr rfl) (.inl rfl)) rfl (.nil)))) (da_cons (qa := false) (qb := true) (de_fz _ (de_lamcall (k := 6) (ql := false) (ra := false) F_law_heard hT (hr.mono (by decide)) (by decide) hgd rfl C.g__law_heard C.d_law_heard.kp rfl (.inl rfl) (tabNs_at (xs := tabX) (t := 1) rfl C.tab_law) (tabB_at hTB (xs := tabX) (by simp [tabX]) C.tab_law) rfl rfl (LamX.lamS_by rfl) (fun _ _ _ _ _ => rfl) (fun gb nb f_ c_ A outer s2 H2 E2 hT hr hgd => de_meth (qo := true) (ro := false) (qa := true) (qb := true) (qf := false) (de_varF (i := 3) rfl (.inr (.inr rfl)) rfl rfl) (mtL_ok (all1 ⟨⟨_, _, _, _, C.cls_0, C.meth_Disk_cut, (F_Disk_cut _ _ hT), hr.mono (by decide), C.bA_Disk_cut_2, rfl⟩⟩)) hgd (da_cons (qa := true) (qb := true) (de_frz (q := true) (rb := false) (de_lst (qa := true) (da_nil))) (da_nil) rfl) (dk_nil) rfl rfl (LenA.cons (LenA.nil)) (LenK.nil) ⟨_, rfl⟩))) (da_cons (qa := true) (qb := true) (de_lst (qa := true) (da_nil)) (da_cons (qa := true) (qb := true) (de_non) (da_nil) rfl) rfl) rfl) rfl rfl rfl)) (dss_one (qa := false) (ds_if (qc := true) (qa := false) (qb := false) (dt_cmp (qa := true) (qb := true) (ra := false) (rb := false) (op_eqDD (rU64 hr)) bl_eq (de_varB (i := 8) rfl (.inl rfl) rfl rfl) (de_str) (.inl rfl) rfl) (dss_one (qa := false) (ds_parN (qa := false) rfl (.cons (pg_name (i := 12) sc.nd rfl (.inl rfl) (.inr rfl)) rfl (.cons (pg_name (i := 6) sc.nd rfl (.inr rfl) (.inl rfl)) rfl (.nil))) (da_cons (qa := false) (qb := true) (de_fz _ (de_lamcall (k := 1) (ql := false) (ra := false) F_law_heard hT (hr.mono (by decide)) (by decide) hgd rfl C.g__law_heard C.d_law_heard.kp rfl (.inl rfl) (tabNs_at (xs := tabX) (t := 1) rfl C.tab_law) (tabB_at hTB (xs := tabX) (by simp [tabX]) C.tab_law) rfl rfl (LamX.lamS_by rfl) (fun _ _ _ _ _ => rfl) (fun gb nb f_ c_ A outer s2 H2 E2 hT hr hgd => de_meth (qo := true) (ro := false) (qa := true) (qb := true) (qf := false) (de_varF (i := 3) rfl (.inr (.inr rfl)) rfl rfl) (mtL_ok (all1 ⟨⟨_, _, _, _, C.cls_0, C.meth_Disk_no_fuse, (F_Disk_no_fuse _ _ hT), hr.mono (by decide), C.bA_Disk_no_fuse_1, rfl⟩⟩)) hgd (da_nil) (dk_nil) rfl rfl (LenA.nil) (LenK.nil) ⟨_, rfl⟩))) (da_cons (qa := true) (qb := true) (de_non) (da_nil) rfl) rfl) rfl rfl rfl)) (dss_cons (qa := false) (qb := false) (ds_set (qa := false) (ra := false) (i := 9) sc.nd rfl (.inl rfl) (.inr rfl) (de_call (qa := true) (qb := true) (qf := false) (ps := ["_law_pail_here", "_law_some"]) (F_law_pick _ _ hT) (hr.mono (by decide)) hgd rfl C.g__law_pick C.d_law_pick.kp C.bA_law_pick_2 rfl (da_cons (qa := true) (qb := true) (de_varF (i := 1) rfl (.inr (.inl rfl)) rfl rfl) (da_cons (qa := true) (qb := true) (de_frz (q := true) (rb := false) (de_lst (qa := true) (da_cons (qa := true) (qb := true) (de_tup (qa := true) (da_cons (qa := true) (qb := true) (de_str) (da_cons (qa := true) (qb := true) (de_str) (da_nil) rfl) rfl)) (da_cons (qa := true) (qb := true) (de_tup (qa := true) (da_cons (qa := true) (qb := true) (de_str) (da_cons (qa := true) (qb := true) (de_str) (da_nil) rfl) rfl)) (da_cons (qa := true) (qb := true) (de_tup (qa := true) (da_cons (qa := true) (qb := true) (de_str) (da_cons (qa := true) (qb := true) (de_str) (da_nil) rfl) rfl)) (da_cons (qa := true) (qb := true) (de_tup (qa := true) (da_cons (qa := true) (qb := true) (de_str) (da_cons (qa := true) (qb := true) (de_str) (da_nil) rfl) rfl)) (da_nil) rfl) rfl) rfl) rfl))) (da_nil) rfl) rfl) (dk_nil) rfl rfl (LenA.cons (LenA.cons (LenA.nil))) (LenK.nil)) rfl) (dss_dictL (k := 6) (qk := true) (rk := false) (qb := true) (t := 1) (ja := 15) (i := 12) sc.nd rfl (.inl rfl) (.inr rfl) (.inl rfl) rfl (.inl rfl) (.inr rfl) F_law_heard hT (hr.mono (by decide)) (rU1 hr) (by decide) hgd rfl C.g__law_heard C.d_law_heard.kp rfl (.inl rfl) (tabNs_at (xs := tabX) (t := 1) rfl C.tab_law) (tabB_at hTB (xs := tabX) (by simp [tabX]) C.tab_law) rfl (de_ixS (qa := true) (qb := true) (ra := false) (rb := false) (de_varB (i := 9) rfl (.inl rfl) rfl rfl) (de_int) (.inl rfl) (fun _ _ => rfl)) (fun _ _ => rfl) (.cons (p0 := "_law_a1") rfl rfl (lamD_by rfl) (fun _ _ _ _ _ _ _ _ => ⟨_, rfl, rfl⟩) ⟨false, false, fun gb nb f_ c_ A outer s2 H2 E2 hT hr hgd => de_meth (qo := true) (ro := false) (qa := true) (qb := true) (qf := false) (de_varF (i := 3) rfl (.inr (.inr rfl)) rfl rfl) (mtL_ok (all1 ⟨⟨_, _, _, _, C.cls_0, C.meth_Disk_write, (F_Disk_write _ _ hT), hr.mono (by decide), C.bA_Disk_write_3, rfl⟩⟩)) hgd (da_cons (qa := true) (qb := true) (de_varF (i := 2) rfl (.inr (.inr rfl)) rfl rfl) (da_cons (qa := true) (qb := true) (de_varF (i := 11) rfl (.inr (.inr rfl)) rfl rfl) (da_nil) rfl) rfl) (dk_nil) rfl rfl (LenA.cons (LenA.cons (LenA.nil))) (LenK.nil) ⟨_, rfl⟩⟩ (.cons (p0 := "_law_a2") rfl rfl (lamD_by rfl) (fun _ _ _ _ _ _ _ _ => ⟨_, rfl, rfl⟩) ⟨false, false, fun gb nb f_ c_ A outer s2 H2 E2 hT hr hgd => de_meth (qo := true) (ro := false) (qa := true) (qb := true) (qf := false) (de_varF (i := 3) rfl (.inr (.inr rfl)) rfl rfl) (mtL_ok (all1 ⟨⟨_, _, _, _, C.cls_0, C.meth_Disk_write, (F_Disk_write _ _ hT), hr.mono (by decide), C.bA_Disk_write_3, rfl⟩⟩)) hgd (da_cons (qa := true) (qb := true) (de_varF (i := 10) rfl (.inr (.inr rfl)) rfl rfl) (da_cons (qa := true) (qb := true) (de_non) (da_nil) rfl) rfl) (dk_nil) rfl rfl (LenA.cons (LenA.cons (LenA.nil))) (LenK.nil) ⟨_, rfl⟩⟩ (.cons (p0 := "_law_a3") rfl rfl (lamD_by rfl) (fun _ _ _ _ _ _ _ _ => ⟨_, rfl, rfl⟩) ⟨false, false, fun gb nb f_ c_ A outer s2 H2 E2 hT hr hgd => de_meth (qo := true) (ro := false) (qa := true) (qb := true) (qf := false) (de_varF (i := 3) rfl (.inr (.inr rfl)) rfl rfl) (mtL_ok (all1 ⟨⟨_, _, _, _, C.cls_0, C.meth_Disk_cut, (F_Disk_cut _ _ hT), hr.mono (by decide), C.bA_Disk_cut_2, rfl⟩⟩)) hgd (da_cons (qa := true) (qb := true) (de_frz (q := true) (rb := false) (de_lst (qa := true) (da_cons (qa := true) (qb := true) (de_frz (q := true) (rb := false) (de_b1 (qa := true) (ra := false) cb_len rfl C.free_len bb_len (by decide) rfl (de_varB (i := 5) rfl (.inr (.inr rfl)) rfl rfl) rfl)) (da_nil) rfl))) (da_nil) rfl) (dk_nil) rfl rfl (LenA.cons (LenA.nil)) (LenK.nil) ⟨_, rfl⟩⟩ (.cons (p0 := "_law_a4") rfl rfl (lamD_by rfl) (fun _ _ _ _ _ _ _ _ => ⟨_, rfl, rfl⟩) ⟨false, false, fun gb nb f_ c_ A outer s2 H2 E2 hT hr hgd => de_meth (qo := true) (ro := false) (qa := true) (qb := true) (qf := false) (de_varF (i := 3) rfl (.inr (.inr rfl)) rfl rfl) (mtL_ok (all1 ⟨⟨_, _, _, _, C.cls_0, C.meth_Disk_cut, (F_Disk_cut _ _ hT), hr.mono (by decide), C.bA_Disk_cut_3, rfl⟩⟩)) hgd (da_cons (qa := true) (qb := true) (de_frz (q := true) (rb := false) (de_lst (qa := true) (da_nil))) (da_cons (qa := true) (qb := true) (de_frz (q := true) (rb := false) (de_lst (qa := true) (da_cons (qa := true) (qb := true) (de_un (qa := true) (ra := false) un_negD (de_int)) (da_nil) rfl))) (da_nil) rfl) rfl) (dk_nil) rfl rfl (LenA.cons (LenA.cons (LenA.nil))) (LenK.nil) ⟨_, rfl⟩⟩ (.nil))))) (by decide) rfl rfl (by simp) (by decide) (by decide) rfl rfl (dss_nil)))))))))))) (dss_one (qa := false) (ds_if (qc := false) (qa := true) (qb := true) (DW.dt (q := false) (dw_or (qa := true) (qb := false) (dt_cmp (qa := true) (qb := true) (ra := false) (rb := false) (op_neDD (rU64 hr)) bl_ne (de_varB (i := 12) rfl (.inl rfl) rfl rfl) (de_varB (i := 9) rfl (.inl rfl) rfl rfl) (.inl rfl) rfl) (dw_or1 (qa := false) (dt_not (qa := false) (dt_val (qa := false) (ra := false) (fun _ => rfl) (de_call (qa := true) (qb := true) (qf := false) (ps := ["_law_disk", "_law_kept", "_law_waits"]) (F_law_is _ _ hT) (hr.mono (by decide)) hgd rfl C.g__law_is C.d_law_is.kp C.bA_law_is_3 rfl (da_cons (qa := true) (qb := true) (de_varF (i := 3) rfl (.inr (.inl rfl)) rfl rfl) (da_cons (qa := true) (qb := true) (de_varB (i := 4) rfl (.inl rfl) rfl rfl) (da_cons (qa := true) (qb := true) (de_varF (i := 5) rfl (.inr (.inl rfl)) rfl rfl) (da_nil) rfl) rfl) rfl) (dk_nil) rfl rfl (LenA.cons (LenA.cons (LenA.cons (LenA.nil)))) (LenK.nil))))))) (dss_one (qa := true) (ds_ret (qa := true) (ra := false) (de_bl))) (dss_nil)))))))) (fun _ => rfl)) (dss_one (qa := false) (ds_ret (qa := false) (ra := false) (de_andV (qa := false) (qb := false) (ra := false) (rb := false) (de_call (qa := true) (qb := true) (qf := false) (ps := ["_law_pail_here", "_law_disk"]) (F_law_refused_right _ _ hT) (hr.mono (by decide)) hgd rfl C.g__law_refused_right C.d_law_refused_right.kp C.bA_law_refused_right_2 rfl (da_cons (qa := true) (qb := true) (de_varF (i := 1) rfl (.inr (.inl rfl)) rfl rfl) (da_cons (qa := true) (qb := true) (de_varF (i := 3) rfl (.inr (.inl rfl)) rfl rfl) (da_nil) rfl) rfl) (dk_nil) rfl rfl (LenA.cons (LenA.cons (LenA.nil))) (LenK.nil)) (de_one (qa := false) (ra := false) (de_call (qa := true) (qb := true) (qf := false) (ps := ["_law_disk", "_law_kept", "_law_waits"]) (F_law_is _ _ hT) (hr.mono (by decide)) hgd rfl C.g__law_is C.d_law_is.kp C.bA_law_is_3 rfl (da_cons (qa := true) (qb := true) (de_varF (i := 3) rfl (.inr (.inl rfl)) rfl rfl) (da_cons (qa := true) (qb := true) (de_varB (i := 4) rfl (.inl rfl) rfl rfl) (da_cons (qa := true) (qb := true) (de_varF (i := 5) rfl (.inr (.inl rfl)) rfl rfl) (da_nil) rfl) rfl) rfl) (dk_nil) rfl rfl (LenA.cons (LenA.cons (LenA.cons (LenA.nil)))) (LenK.nil))))))))))
theorem all_fn (C : Ctx K mg) (hTB : ∀ p ∈ tabsOf K tabX, LamX.TabB base mg p.1 p.2) : ∀ gb nb, Lk K gb nb → FnG PP w ((tb K).at gb nb) K mg base false 9 (d_law.ad K) (fdOf K (d_law.ad K)) ["_law_script"] phi_law := by
  have F_law_pail := fn_law_pail (w := w) (base := base) C
  have F_is_integer := fn_is_integer (w := w) (base := base) C
  have F_is_within := fn_is_within (w := w) (base := base) C F_is_integer
  have F_need_number := fn_need_number (w := w) (base := base) C F_is_within
  have F_Disk_init := fn_Disk_init (w := w) (base := base) C F_need_number
  have F_law_dip := fn_law_dip (w := w) (base := base) C
  have F_law_pick := fn_law_pick (w := w) (base := base) C F_law_dip
  have F_law_heard := fn_law_heard (w := w) (base := base) C
  have F_Disk_fuse := fn_Disk_fuse (w := w) (base := base) C F_need_number
  have F_law_refused_right := fn_law_refused_right (w := w) (base := base) C hTB F_law_dip F_law_heard F_Disk_fuse
  have F_Disk_waiting := fn_Disk_waiting (w := w) (base := base) C
  have F_Disk_kept := fn_Disk_kept (w := w) (base := base) C
  have F_Disk_look := fn_Disk_look (w := w) (base := base) C F_need_number
  have F_law_is := fn_law_is (w := w) (base := base) C F_Disk_look F_Disk_waiting F_Disk_kept
  have F_Disk_spend := fn_Disk_spend (w := w) (base := base) C
  have F_is_block := fn_is_block (w := w) (base := base) C F_is_integer
  have F_Disk_write := fn_Disk_write (w := w) (base := base) C F_Disk_spend F_is_block F_need_number
  have F_blocks_behind := fn_blocks_behind (w := w) (base := base) C
  have F_Disk_flush := fn_Disk_flush (w := w) (base := base) C F_blocks_behind F_Disk_spend
  have F_is_lot := fn_is_lot (w := w) (base := base) C F_is_within
  have F_need_lot := fn_need_lot (w := w) (base := base) C F_is_lot
  have F_Disk_left_by := fn_Disk_left_by (w := w) (base := base) C F_blocks_behind F_need_lot
  have F_Disk_cut := fn_Disk_cut (w := w) (base := base) C F_Disk_left_by
  have F_Disk_no_fuse := fn_Disk_no_fuse (w := w) (base := base) C
  have F_law := fn_law (w := w) (base := base) C hTB F_law_is F_law_refused_right F_law_dip F_law_heard F_Disk_write F_Disk_flush F_Disk_fuse F_law_pick F_Disk_cut F_Disk_no_fuse F_Disk_kept F_Disk_init F_law_pail
  exact F_law
end
end LW

set_option Elab.async false
set_option linter.all false
set_option maxRecDepth 100000
set_option maxHeartbeats 0
namespace LW
open PySem PySem.Spec PyProof.Rows L2 DD
theorem run (w : World) : HandSHeadRun.RunEq R (PySem.W.view R.prog [25, 26]) hk ob 20000 names w := by
  intro os
  kernel_rfl
end LW

set_option Elab.async false
set_option linter.all false
set_option maxRecDepth 100000
set_option maxHeartbeats 4000000
namespace DD
open PySem PySem.Spec PyProof.Rows L2

section
variable {α β : Type} {r r' : Rho} {S S' : Sto}
def Out.then (o : Out α) (f : α → Rho → Sto → Out β) : Out β := match o with
  | .ok a r S => f a r S
  | .exc e r S => .exc e r S
  | .no => .no
@[simp] theorem then_ok (a : α) (f : α → Rho → Sto → Out β) : (Out.ok a r S).then f = f a r S := (rfl)
@[simp] theorem then_no (f : α → Rho → Sto → Out β) : (Out.no : Out α).then f = .no := (rfl)
@[simp] theorem then_exc (e : Ex) (f : α → Rho → Sto → Out β) : (Out.exc e r S : Out α).then f = .exc e r S := (rfl)
@[simp] theorem bind_ap (m : M α) (f : α → M β) : M.bind m f r S = (m r S).then f := by
  unfold M.bind Out.then
  cases m r S <;> rfl
@[simp] theorem ret_ap (a : α) : M.ret a r S = .ok a r S := (rfl)
@[simp] theorem liftS_ap (a : α) : DD.lift (some a) r S = .ok a r S := (rfl)
@[simp] theorem liftN_ap : DD.lift (none : Option α) r S = .no := (rfl)
@[simp] theorem fail_ap : (M.fail : M α) r S = .no := (rfl)
@[simp] theorem ite_ap {c : Prop} [Decidable c] (a b : M α) : (if c then a else b) r S = if c then a r S else b r S := by split <;> rfl
@[simp] theorem frz_ap (m : M D) : frz m r S = (m r S).then fun d r S => .ok (frzD d) r S := by
  unfold frz Out.then
  cases m r S <;> rfl
@[simp] theorem frzD_own (xs : List D) : frzD (.own xs) = .lst xs := rfl
@[simp] theorem frzD_lst (xs : List D) : frzD (.lst xs) = .lst xs := rfl
@[simp] theorem frzD_bor (xs : List D) : frzD (.bor xs) = .bor xs := rfl
@[simp] theorem frzD_tup (xs : List D) : frzD (.tup xs) = .tup xs := rfl
@[simp] theorem frzD_scr (xs : List D) : frzD (.scr xs) = .scr xs := rfl
@[simp] theorem frzD_int (i : Int) : frzD (.int i) = .int i := rfl
@[simp] theorem frzD_bl (b : Bool) : frzD (.bl b) = .bl b := rfl
@[simp] theorem frzD_str (s : Str) : frzD (.str s) = .str s := rfl
@[simp] theorem frzD_non : frzD .non = .non := rfl
@[simp] theorem frzD_ob (k : Nat) : frzD (.ob k) = .ob k := rfl
@[simp] theorem borD_own (xs : List D) : borD (.own xs) = false := rfl
@[simp] theorem borD_lst (xs : List D) : borD (.lst xs) = false := rfl
@[simp] theorem borD_bor (xs : List D) : borD (.bor xs) = true := rfl
@[simp] theorem borD_tup (xs : List D) : borD (.tup xs) = false := rfl
@[simp] theorem borD_scr (xs : List D) : borD (.scr xs) = false := rfl
@[simp] theorem borD_int (i : Int) : borD (.int i) = false := rfl
@[simp] theorem borD_bl (b : Bool) : borD (.bl b) = false := rfl
@[simp] theorem borD_str (s : Str) : borD (.str s) = false := rfl
@[simp] theorem borD_non : borD .non = false := rfl
@[simp] theorem borD_ob (k : Nat) : borD (.ob k) = false := rfl
@[simp] theorem frO_own (xs : List D) : frO (.own xs) = false := rfl
@[simp] theorem frO_lst (xs : List D) : frO (.lst xs) = true := rfl
@[simp] theorem frO_bor (xs : List D) : frO (.bor xs) = false := rfl
@[simp] theorem frO_tup (xs : List D) : frO (.tup xs) = true := rfl
@[simp] theorem frO_int (i : Int) : frO (.int i) = true := rfl
@[simp] theorem frO_bl (b : Bool) : frO (.bl b) = true := rfl
@[simp] theorem frO_str (s : Str) : frO (.str s) = true := rfl
@[simp] theorem frO_non : frO .non = true := rfl
@[simp] theorem frO_ob (k : Nat) : frO (.ob k) = true := rfl
@[simp] theorem arO_own (xs : List D) : arO (.own xs) = false := rfl
@[simp] theorem arO_lst (xs : List D) : arO (.lst xs) = true := rfl
@[simp] theorem arO_bor (xs : List D) : arO (.bor xs) = true := rfl
@[simp] theorem arO_scr (xs : List D) : arO (.scr xs) = true := rfl
@[simp] theorem arO_tup (xs : List D) : arO (.tup xs) = true := rfl
@[simp] theorem arO_int (i : Int) : arO (.int i) = true := rfl
@[simp] theorem arO_bl (b : Bool) : arO (.bl b) = true := rfl
@[simp] theorem arO_str (s : Str) : arO (.str s) = true := rfl
@[simp] theorem arO_non : arO .non = true := rfl
@[simp] theorem arO_ob (k : Nat) : arO (.ob k) = true := rfl
def Out.seq (o : Out Fl) (b : M Fl) : Out Fl := match o with
  | .ok .nx r S => b r S
  | o => o
@[simp] theorem seq_nx (b : M Fl) : (Out.ok Fl.nx r S).seq b = b r S := (rfl)
@[simp] theorem seq_bk (b : M Fl) : (Out.ok Fl.bk r S).seq b = .ok .bk r S := (rfl)
@[simp] theorem seq_ct (b : M Fl) : (Out.ok Fl.ct r S).seq b = .ok .ct r S := (rfl)
@[simp] theorem seq_rt (b : M Fl) (d : D) : (Out.ok (Fl.rt d) r S).seq b = .ok (.rt d) r S := (rfl)
@[simp] theorem seq_exc (b : M Fl) (e : Ex) : (Out.exc e r S : Out Fl).seq b = .exc e r S := (rfl)
@[simp] theorem seq_no (b : M Fl) : (Out.no : Out Fl).seq b = .no := (rfl)
@[simp] theorem seq_ite (b : M Fl) {c : Prop} [Decidable c] (x y : Out Fl) : (if c then x else y).seq b = if c then x.seq b else y.seq b := by split <;> rfl
@[simp] theorem then_ite {c : Prop} [Decidable c] (x y : Out α) (f : α → Rho → Sto → Out β) : (if c then x else y).then f = if c then x.then f else y.then f := by split <;> rfl
@[simp] theorem mSeq_ap (a b : M Fl) : mSeq a b r S = (a r S).seq b := by
  unfold mSeq Out.seq
  cases a r S with
  | ok f _ _ => cases f <;> rfl
  | _ => rfl
@[simp] theorem mRet_ap (m : M D) : mRet m r S = (m r S).then fun d r S => if borD d = true then .no else .ok (.rt d) r S := by
  unfold mRet
  rw [bind_ap]
  congr
  funext d r S
  by_cases h : borD d = true <;> simp [h]
@[simp] theorem mDrop_ap (m : M D) : mDrop m r S = (m r S).then fun _ r S => .ok .nx r S := by unfold mDrop; rw [bind_ap]; rfl
@[simp] theorem mIfS_ap (c : M Bool) (a b : M Fl) : mIfS c a b r S = (c r S).then fun t r S => if t = true then a r S else b r S := by
  unfold mIfS
  rw [bind_ap]
  congr
  funext t r S
  cases t <;> rfl
@[simp] theorem mSetS_ap (i : Nat) (m : M D) : mSetS i m r S = (m r S).then fun d r S => if borD d = true then .no else .ok .nx (r.set i (some d)) S := by
  unfold mSetS
  rw [bind_ap]
  congr
  funext d r S
  by_cases h : borD d = true <;> simp [h]
@[simp] theorem endFn_nx : endFn (.ok .nx r S) = .ok .non r S := (rfl)
@[simp] theorem endFn_rt (d : D) : endFn (.ok (.rt d) r S) = if borD d = true then .no else .ok d r S := (rfl)
@[simp] theorem endFn_ite {c : Prop} [Decidable c] (x y : Out Fl) : endFn (if c then x else y) = if c then endFn x else endFn y := by split <;> rfl
@[simp] theorem mTru_ap (m : M D) : mTru m r S = (m r S).then fun x r S => DD.lift (truthD x) r S := by unfold mTru; rw [bind_ap]
@[simp] theorem mNot_ap (m : M Bool) : mNot m r S = (m r S).then fun b r S => .ok (!b) r S := by unfold mNot; rw [bind_ap]; rfl
@[simp] theorem mAnd_ap (a b : M Bool) : mAnd a b r S = (a r S).then fun x r S => if x = true then b r S else .ok false r S := by
  unfold mAnd; rw [bind_ap]; congr; funext x r S; cases x <;> rfl
@[simp] theorem mOr_ap (a b : M Bool) : mOr a b r S = (a r S).then fun x r S => if x = true then .ok true r S else b r S := by
  unfold mOr; rw [bind_ap]; congr; funext x r S; cases x <;> rfl
@[simp] theorem mIfE_ap (c : M Bool) (a b : M D) : mIfE c a b r S = (c r S).then fun x r S => if x = true then a r S else b r S := by
  unfold mIfE; rw [bind_ap]; congr; funext x r S; cases x <;> rfl
@[simp] theorem mAndV_ap (a b : M D) : mAndV a b r S = (a r S).then fun x r S => (DD.lift (truthD x) r S).then fun t r S => if t = true then b r S else .ok x r S := by
  unfold mAndV; rw [bind_ap]; congr; funext x r S; rw [bind_ap]; congr; funext t r S; cases t <;> rfl
@[simp] theorem mOrV_ap (a b : M D) : mOrV a b r S = (a r S).then fun x r S => (DD.lift (truthD x) r S).then fun t r S => if t = true then .ok x r S else b r S := by
  unfold mOrV; rw [bind_ap]; congr; funext x r S; rw [bind_ap]; congr; funext t r S; cases t <;> rfl
@[simp] theorem mNotV_ap (a : M D) : mNotV a r S = (a r S).then fun x r S => (DD.lift (truthD x) r S).then fun t r S => .ok (.bl (!t)) r S := by
  unfold mNotV; rw [bind_ap]; first | rfl | (congr; funext x r S; rw [bind_ap])
@[simp] theorem tr_bl (b : Bool) : truthD (.bl b) = some b := rfl
@[simp] theorem tr_int (i : Int) : truthD (.int i) = some (i != 0) := rfl
@[simp] theorem tr_non : truthD .non = some false := rfl
@[simp] theorem mBin_ap (F : D → D → Option D) (a b : M D) : mBin F a b r S = (a r S).then fun x r S => (b r S).then fun y r S => DD.lift (F x y) r S := by
  unfold mBin; rw [bind_ap]; first | rfl | (congr; funext x r S; rw [bind_ap])
@[simp] theorem mBinS_ap (F : Sto → D → D → Option D) (a b : M D) : mBinS F a b r S = (a r S).then fun x r S => (b r S).then fun y r S => DD.lift (F S x y) r S := by
  unfold mBinS; rw [bind_ap]; first | rfl | (congr; funext x r S; rw [bind_ap])
@[simp] theorem mUn_ap (F : D → Option D) (a : M D) : mUn F a r S = (a r S).then fun x r S => DD.lift (F x) r S := by
  unfold mUn; rw [bind_ap]
@[simp] theorem add_i (i j : Int) : addD (.int i) (.int j) = some (.int (i + j)) := rfl
@[simp] theorem sub_i (i j : Int) : subD (.int i) (.int j) = some (.int (i - j)) := rfl
@[simp] theorem neg_i (i : Int) : negD (.int i) = some (.int (-i)) := rfl
@[simp] theorem lt_i (i j : Int) : ltD (.int i) (.int j) = some (.bl (decide (i < j))) := rfl
@[simp] theorem le_i (i j : Int) : leD (.int i) (.int j) = some (.bl (decide (i ≤ j))) := rfl
@[simp] theorem gt_i (i j : Int) : gtD (.int i) (.int j) = some (.bl (decide (j < i))) := rfl
@[simp] theorem ge_i (i j : Int) : geD (.int i) (.int j) = some (.bl (decide (j ≤ i))) := rfl
@[simp] theorem intOf_i (i : Int) : intOfD (.int i) = some (.int i) := rfl
@[simp] theorem intOf_b (b : Bool) : intOfD (.bl b) = some (.int (if b then 1 else 0)) := rfl
@[simp] theorem abs_i (i : Int) : absD (.int i) = some (.int (if i < 0 then -i else i)) := rfl
@[simp] theorem mNil_ap : mNil r S = .ok [] r S := (rfl)
@[simp] theorem mCons_ap (a : M D) (b : M (List D)) : mCons a b r S = (a r S).then fun x r S => (b r S).then fun xs r S => .ok (x :: xs) r S := by
  unfold mCons; rw [bind_ap]; first | rfl | (congr; funext x r S; rw [bind_ap])
@[simp] theorem mTup_ap (m : M (List D)) : mTup m r S = (m r S).then fun xs r S => if xs.all frO = true ∧ xs.length ≤ lim then .ok (.tup xs) r S else .no := by
  unfold mTup; rw [bind_ap]; congr; funext x r S; split <;> rfl
@[simp] theorem mLst_ap (m : M (List D)) : mLst m r S = (m r S).then fun xs r S => if xs.all frO = true ∧ xs.length ≤ lim then .ok (.own xs) r S else .no := by
  unfold mLst; rw [bind_ap]; congr; funext x r S; split <;> rfl
@[simp] theorem mArr_ap (m : M (List D)) : mArr m r S = (m r S).then fun xs r S => if xs.all frO = true ∧ xs.length ≤ lim then .ok (.ob S.length) r (S ++ [.arr xs]) else .no := by
  unfold mArr; rw [bind_ap]; congr; funext x r S; split <;> rfl
@[simp] theorem mArgs_ap (a b : M (List D)) (f : List D → List D → M D) : mArgs a b f r S = (a r S).then fun ds r S => (b r S).then fun es r S => f ds es r S := by
  unfold mArgs; rw [bind_ap]; first | rfl | (congr; funext x r S; rw [bind_ap])
theorem arrM_ap {src : List Src} {dds ds es xs : List D} {np : Nat} {f : List D → M D} (h : arr ds es dds src = some xs) : arrM src dds np ds es f = if xs.length = np ∧ ds.all arO = true ∧ es.all arO = true then f xs else M.fail := by
  unfold arrM; rw [h]
end
theorem call_run {N : List Str} {m : M Fl} {ds : List D} {r : Rho} {S S' : Sto} {d : D} (h : ∃ r1, endFn (m (startR N ds) S) = .ok d r1 S') (hb : borD d = false) : callM (fnOf N m) ds r S = .ok d r S' := by
  obtain ⟨r1, h⟩ := h
  unfold callM fnOf
  rw [h]
  cases d <;> first | rfl | cases hb
end DD

set_option Elab.async false
set_option linter.all false
set_option maxRecDepth 100000
set_option maxHeartbeats 4000000
namespace DD
open PySem PySem.Spec PyProof.Rows L2

def numsD (is : List Int) : List D := is.map .int
theorem toPs_nums : ∀ is : List Int, toPs (numsD is) = some (is.map .int)
  | [] => rfl
  | i :: r => by
    have h := toPs_nums r
    unfold numsD at h ⊢
    rw [List.map_cons, toPs, h]
    simp [toP]
theorem lay_nums : ∀ is : List Int, PyData.canLayAll0 (is.map PyData.int) = true
  | [] => rfl
  | i :: r => by rw [List.map_cons, PyData.canLayAll0, lay_nums r]; rfl
theorem dep_nums : ∀ is : List Int, PyData.depthAll (is.map PyData.int) = 0
  | [] => rfl
  | i :: r => by rw [List.map_cons, PyData.depthAll, dep_nums r]; simp [PyData.depth]
theorem shaped_nums (is : List Int) : SeqAt.shaped (.list (is.map PyData.int)) = true := by
  unfold SeqAt.shaped
  simp [PyData.canLay0, PyData.depth, lay_nums, dep_nums]
theorem ne_nil (is : List Int) : neD (.lst (numsD is)) (.own []) = some (.bl (!is.isEmpty)) := by
  unfold neD eqB
  have h0 := shaped_nums []
  simp only [List.map_nil] at h0
  simp only [toP, toPs_nums, toPs, Option.map_some, shaped_nums, h0, Bool.and_self, if_true]
  cases is with
  | nil => simp [PyData.eqv, PyData.eqvAll]
  | cons i r => simp [PyData.eqv, PyData.eqvAll]
def mDraw (A B P1 A2 B2 P2 C D3 P3 : Int) : M Fl := mSeq (mIfS (mTru (mBin gtD (mBinS idxS (varB 0) (M.ret (.int 2))) (M.ret (.int 0)))) (mSeq (mSetS 2 (mUn intOfD (mBinS idxS (varB 0) (M.ret (.int 2))))) (mSeq (mSetI (varF 0) (M.ret (.int 2)) (frz (mBin divD (varB 2) (varB 1)))) (mRet (mBin modD (mUn intOfD (varB 2)) (varB 1))))) (M.ret .nx)) (mSeq (mSetS 3 (mBinS idxS (varB 0) (M.ret (.int 1)))) (mSeq (mSetI (varF 0) (M.ret (.int 1)) (frz (mBin addD (varB 3) (M.ret (.int 1))))) (mSeq (mSetS 4 (mBin addD (mBin mulD (M.ret (.int A)) (varB 3)) (M.ret (.int B)))) (mSeq (mIfS (mTru (mBin neD (mBinS idxS (varB 0) (M.ret (.int 0))) (mLst (mNil)))) (mSetS 4 (mBinS idxS (mBinS idxS (varB 0) (M.ret (.int 0))) (mBin modD (mUn intOfD (varB 3)) (mUn lenD (mBinS idxS (varB 0) (M.ret (.int 0))))))) (M.ret .nx)) (mSeq (mIfS (mAnd (mTru (mBin ltD (varB 3) (mUn lenD (mBinS idxS (varB 0) (M.ret (.int 0)))))) (mTru (mBin geD (mUn absD (varB 4)) (mBin powD (M.ret (.int 10)) (M.ret (.int 18)))))) (mSeq (mSetS 2 (mBin addD (mBin mulD (M.ret (.int 2)) (mBin subD (mUn absD (varB 4)) (mBin powD (M.ret (.int 10)) (M.ret (.int 18))))) (mUn intOfD (mBin ltD (varB 4) (M.ret (.int 0)))))) (mSeq (mSetI (varF 0) (M.ret (.int 2)) (frz (mBin divD (mUn intOfD (varB 2)) (varB 1)))) (mRet (mBin modD (mUn intOfD (varB 2)) (varB 1))))) (M.ret .nx)) (mSeq (mSetS 5 (mBin modD (mUn intOfD (mBin powD (mBin addD (mBin addD (mBin modD (mUn intOfD (varB 4)) (M.ret (.int P1))) (mBin mulD (M.ret (.int A2)) (varB 3))) (M.ret (.int B2))) (M.ret (.int 5)))) (M.ret (.int P2)))) (mSeq (mSetS 5 (mBin modD (mUn intOfD (mBin powD (mBin addD (mBin addD (mBin mulD (varB 5) (mBin addD (mBin mulD (M.ret (.int 2)) (varB 3)) (M.ret (.int C)))) (mBin mulD (mBin mulD (M.ret (.int A)) (varB 3)) (varB 3))) (M.ret (.int D3))) (M.ret (.int 3)))) (M.ret (.int P3)))) (mRet (mBin modD (mUn intOfD (mBin divD (varB 5) (M.ret (.int 64)))) (varB 1))))))))))
def Bk (S : Sto) (k : Nat) (cells : List Int) (at_ rest : Int) : Prop := arrAt S k = some [.lst (numsD cells), .int at_, .int rest]
def bkOb (cells : List Int) (at_ rest : Int) : Ob := .arr [.lst (numsD cells), .int at_, .int rest]
theorem Bk.set {S : Sto} {k : Nat} {cells cells' : List Int} {a r a' r' : Int} (h : Bk S k cells a r) : Bk (S.set k (bkOb cells' a' r')) k cells' a' r' := by
  have hk := (List.getElem?_eq_some_iff.mp (arrAt_some h)).1
  unfold Bk arrAt
  rw [List.getElem?_set_self hk]
  rfl
@[simp] theorem mSetI_ap (mo mi mv : M D) (r : Rho) (S : Sto) : mSetI mo mi mv r S = (mv r S).then fun d r S => if borD d = true then .no else (frz mo r S).then fun x r S => (mi r S).then fun y r S => match x, y with
    | .ob k, .int i => (match arrAt S k with
      | some xs => (match ixN xs.length i with
        | some j => if frO d then .ok .nx r (S.set k (.arr (xs.set j d))) else .no
        | none => .no)
      | none => .no)
    | _, _ => .no := by
  unfold mSetI
  rw [bind_ap]
  refine congrArg _ (funext fun d => funext fun r => funext fun S => ?_)
  by_cases h : borD d = true
  · rw [if_pos h, if_pos h]; rfl
  · rw [if_neg h, if_neg h, bind_ap]
    refine congrArg _ (funext fun x => funext fun r => funext fun S => ?_)
    rw [bind_ap]
    refine congrArg _ (funext fun y => funext fun r => funext fun S => ?_)
    cases x <;> cases y <;> rfl
theorem ix30 (a b c : D) : atI [a, b, c] 0 = some a := rfl
theorem ix31 (a b c : D) : atI [a, b, c] 1 = some b := rfl
theorem ix32 (a b c : D) : atI [a, b, c] 2 = some c := rfl
theorem ixk3 : ixN 3 0 = some 0 ∧ ixN 3 1 = some 1 ∧ ixN 3 2 = some 2 := ⟨rfl, rfl, rfl⟩
theorem draw_rest {A B P1 A2 B2 P2 C D3 P3 : Int} {N : List Str} (hN : N.length = 6) {S : Sto} {k : Nat} {cells : List Int} {at_ rest many : Int} (h : Bk S k cells at_ rest) (h1 : 0 < rest) (h2 : 0 < many) (h3 : many.natAbs.log2 < 9000) (r : Rho) :
    callM (fnOf N (mDraw A B P1 A2 B2 P2 C D3 P3)) [.ob k, .int many] r S = .ok (.int (rest % many)) r (S.set k (bkOb cells at_ (rest / many))) := by
  refine call_run ?_ rfl
  have hd : divOk many = true := by unfold divOk; simp [h2, h3]
  have e : startR N [.ob k, .int many] = [some (.ob k), some (.int many), none, none, none, none] := by unfold startR; rw [hN]; rfl
  have h' : arrAt S k = some [.lst (numsD cells), .int at_, .int rest] := h
  rw [e]
  unfold mDraw
  simp [varB, varF, idxS, h', ix32, h1, ixk3, divD, modD, hd, h2, bkOb]
theorem arrAt_set {S : Sto} {k : Nat} {xs : List D} (hk : k < S.length) : arrAt (S.set k (.arr xs)) k = some xs := by
  unfold arrAt
  rw [List.getElem?_set_self hk]
theorem mulS {i j : Int} (h : 0 ≤ i) (h2 : i < 2 ^ 64) : mulD (.int i) (.int j) = some (.int (i * j)) := by
  have e : mulOk i j = true := by
    unfold mulOk
    rw [Bool.or_eq_true, Bool.or_eq_true]
    exact .inl (.inl (decide_eq_true ⟨by omega, h2⟩))
  show (if mulOk i j then some (D.int (i * j)) else none) = _
  rw [if_pos e]
theorem powS {i : Int} {j : Nat} (h : i.natAbs < 2 ^ 64) (hj : j ≤ 1000000) : powD (.int i) (.int j) = some (.int (i ^ j)) := by
  have e : powOk i j = true := by
    unfold powOk
    exact decide_eq_true ⟨by omega, by omega, h⟩
  show (if powOk i j then some (D.int (i ^ (j : Int).toNat)) else none) = _
  rw [if_pos e]
  rfl
theorem modS {i j : Int} (h : 0 < j) : modD (.int i) (.int j) = some (.int (i % j)) := by
  show (if 0 < j then some (D.int (i % j)) else none) = _
  rw [if_pos h]
theorem divS {i j : Int} (h : 0 < j) (h2 : j.natAbs.log2 < 9000) : divD (.int i) (.int j) = some (.int (i / j)) := by
  have e : divOk j = true := decide_eq_true ⟨h, h2⟩
  show (if divOk j then some (D.int (i / j)) else none) = _
  rw [if_pos e]
theorem lenD_nums (cells : List Int) : lenD (.lst (numsD cells)) = some (.int cells.length) := by
  show (some (numsD cells)).map (fun xs => D.int (xs.length : Nat)) = _
  simp [numsD]
theorem ix_nums {cells : List Int} {i : Int} (h : 0 ≤ i) (h2 : i < cells.length) : ∃ c, c ∈ cells ∧ atI (numsD cells) i = some (.int c) := by
  have hl : i.toNat < cells.length := by omega
  refine ⟨cells[i.toNat], List.getElem_mem hl, ?_⟩
  unfold atI ixN numsD
  rw [if_pos h, if_pos (by simpa using h2)]
  simp [hl]
theorem p10 : powD (.int 10) (.int 18) = some (.int 1000000000000000000) := (powS (i := 10) (j := 18) (by decide) (by decide)).trans rfl
structure DrC (A B P1 A2 B2 P2 C D3 P3 : Int) : Prop where
  a : 0 ≤ A ∧ A < 2 ^ 20
  b : 0 ≤ B ∧ B < 2 ^ 20
  a2 : 0 ≤ A2 ∧ A2 < 2 ^ 20
  b2 : 0 ≤ B2 ∧ B2 < 2 ^ 20
  c : 0 ≤ C ∧ C < 2 ^ 20
  d3 : 0 ≤ D3 ∧ D3 < 2 ^ 20
  p1 : 0 < P1 ∧ P1 < 2 ^ 32
  p2 : 0 < P2 ∧ P2 < 2 ^ 32
  p3 : 0 < P3 ∧ P3 < 2 ^ 32
theorem draw_new {A B P1 A2 B2 P2 C D3 P3 : Int} (dc : DrC A B P1 A2 B2 P2 C D3 P3) {N : List Str} (hN : N.length = 6) {S : Sto} {k : Nat} {cells : List Int} {at_ many : Int} (h : Bk S k cells at_ 0) (h2 : 0 < many) (h3 : many.natAbs.log2 < 9000) (ha : 0 ≤ at_) (hb : at_ < 2 ^ 20) :
    ∃ v rest, 0 ≤ v ∧ v < many ∧ 0 ≤ rest ∧ ∀ r, callM (fnOf N (mDraw A B P1 A2 B2 P2 C D3 P3)) [.ob k, .int many] r S = .ok (.int v) r (S.set k (bkOb cells (at_ + 1) rest)) := by
  have e : startR N [.ob k, .int many] = [some (.ob k), some (.int many), none, none, none, none] := by unfold startR; rw [hN]; rfl
  have h' : arrAt S k = some [.lst (numsD cells), .int at_, .int 0] := h
  have hk := (List.getElem?_eq_some_iff.mp (arrAt_some h)).1
  have fin : ∀ cell : Int, ∃ v, 0 ≤ v ∧ v < many ∧ ∃ x, powD (.int (cell % P1 + A2 * at_ + B2)) (.int 5) = some (.int x) ∧ ∃ y, powD (.int (x % P2 * (2 * at_ + C) + A * at_ * at_ + D3)) (.int 3) = some (.int y) ∧ v = y % P3 / 64 % many := by
    intro cell
    have m1 := Int.emod_nonneg cell (show P1 ≠ 0 by have := dc.p1; omega)
    have m2 := Int.emod_lt_of_pos cell dc.p1.1
    have t1 : 0 ≤ A2 * at_ := Int.mul_nonneg dc.a2.1 ha
    have t2 : A2 * at_ ≤ 2 ^ 20 * 2 ^ 20 := Int.mul_le_mul (by have := dc.a2; omega) (by omega) ha (by omega)
    have p5 := powS (i := cell % P1 + A2 * at_ + B2) (j := 5) (by have := dc.b2; have := dc.p1; omega) (by omega)
    have m3 := Int.emod_nonneg ((cell % P1 + A2 * at_ + B2) ^ 5) (show P2 ≠ 0 by have := dc.p2; omega)
    have m4 := Int.emod_lt_of_pos ((cell % P1 + A2 * at_ + B2) ^ 5) dc.p2.1
    have t3 : 0 ≤ A * at_ * at_ := Int.mul_nonneg (Int.mul_nonneg dc.a.1 ha) ha
    have t40 : A * at_ ≤ 2 ^ 20 * 2 ^ 20 := Int.mul_le_mul (by have := dc.a; omega) (by omega) ha (by omega)
    have t4 : A * at_ * at_ ≤ (2 ^ 20 * 2 ^ 20) * 2 ^ 20 := Int.mul_le_mul t40 (by omega) ha (by omega)
    have t5 : 0 ≤ (cell % P1 + A2 * at_ + B2) ^ 5 % P2 * (2 * at_ + C) := Int.mul_nonneg m3 (by have := dc.c; omega)
    have t6 : (cell % P1 + A2 * at_ + B2) ^ 5 % P2 * (2 * at_ + C) ≤ 2 ^ 32 * 2 ^ 22 := Int.mul_le_mul (by have := dc.p2; omega) (by have := dc.c; omega) (by have := dc.c; omega) (by omega)
    have p3 := powS (i := (cell % P1 + A2 * at_ + B2) ^ 5 % P2 * (2 * at_ + C) + A * at_ * at_ + D3) (j := 3) (by have := dc.d3; omega) (by omega)
    exact ⟨_, Int.emod_nonneg _ (by omega), Int.emod_lt_of_pos _ h2, _, p5, _, p3, rfl⟩
  have r0 := arrAt_set (S := S) (xs := [.lst (numsD cells), .int (at_ + 1), .int 0]) hk
  have hk2 : k < (S.set k (.arr [.lst (numsD cells), .int (at_ + 1), .int 0])).length := by rw [List.length_set]; exact hk
  have xm : ∀ x : Int, 0 ≤ x % P2 ∧ x % P2 < 2 ^ 64 := fun x => ⟨Int.emod_nonneg x (by have := dc.p2; omega), by have := Int.emod_lt_of_pos x dc.p2.1; have := dc.p2; omega⟩
  have ka : 0 ≤ A * at_ := Int.mul_nonneg dc.a.1 ha
  have kb : A * at_ < 2 ^ 64 := by
    have t40 : A * at_ ≤ 2 ^ 20 * 2 ^ 20 := Int.mul_le_mul (by have := dc.a; omega) (by omega) ha (by omega)
    omega
  have mA := fun j => mulS (j := j) dc.a.1 (by have := dc.a; omega : A < 2 ^ 64)
  have mA2 := fun j => mulS (j := j) dc.a2.1 (by have := dc.a2; omega : A2 < 2 ^ 64)
  have mAA := fun j => mulS (j := j) ka kb
  have m2' := fun j => mulS (i := 2) (j := j) (by omega) (by omega)
  have mx := fun x j => mulS (j := j) (xm x).1 (xm x).2
  have d64 := fun i => divS (i := i) (j := 64) (by omega) (by decide +kernel)
  have sm1 := fun i => modS (i := i) dc.p1.1
  have sm2 := fun i => modS (i := i) dc.p2.1
  have sm3 := fun i => modS (i := i) dc.p3.1
  have smm := fun i => modS (i := i) h2
  by_cases hcs : cells = []
  · subst hcs
    obtain ⟨v, v1, v2, x, q1, y, q2, q3⟩ := fin (A * at_ + B)
    refine ⟨v, 0, v1, v2, Int.le_refl _, fun r => call_run ?_ rfl⟩
    rw [e]
    unfold mDraw
    have nn := ne_nil []
    have ln := lenD_nums []
    simp only [numsD, List.map_nil] at h' r0 nn ln
    simp [varB, varF, idxS, h', r0, ix30, ix31, ix32, ixk3, nn, ln, mA, mA2, mAA, mx, m2', sm1, sm2, sm3, smm, d64, q1, q2, numsD, Int.not_lt.mpr ha, bkOb, q3]
  · have hc : (0 : Int) < (cells.length : Int) := by
      have := List.length_pos_iff.mpr hcs
      omega
    have im1 := Int.emod_nonneg at_ (show (cells.length : Int) ≠ 0 by omega)
    have im2 := Int.emod_lt_of_pos at_ hc
    obtain ⟨cell, _, ecell⟩ := ix_nums (cells := cells) im1 im2
    have nn := ne_nil cells
    have ne : cells.isEmpty = false := by
      cases cells with
      | nil => exact absurd rfl hcs
      | cons _ _ => rfl
    rw [ne] at nn
    have ln := lenD_nums cells
    have sml := fun i => modS (i := i) hc
    obtain ⟨ac, eac⟩ : ∃ ac : Int, ac = if cell < 0 then -cell else cell := ⟨_, rfl⟩
    have ab : absD (.int cell) = some (.int ac) := by rw [eac]; rfl
    have ixc : idxD (.lst (numsD cells)) (.int (at_ % (cells.length : Int))) = some (.int cell) := ecell
    by_cases hg : at_ < (cells.length : Int) ∧ 1000000000000000000 ≤ ac
    · obtain ⟨hg1, hg2⟩ := hg
      refine ⟨(2 * (ac - 1000000000000000000) + (if cell < 0 then 1 else 0)) % many, (2 * (ac - 1000000000000000000) + (if cell < 0 then 1 else 0)) / many, Int.emod_nonneg _ (by omega), Int.emod_lt_of_pos _ h2, Int.ediv_nonneg (by split <;> omega) (by omega), fun r => call_run ?_ rfl⟩
      rw [e]
      unfold mDraw
      simp [varB, varF, idxS, ixc, h', r0, ix30, ix31, ix32, ixk3, nn, ln, mA, mA2, mAA, mx, m2', sm1, sm2, sm3, smm, sml, d64, hg1, hg2, p10, ab, divS h2 h3, Int.not_lt.mpr ha, bkOb, -abs_i]
    · obtain ⟨v, v1, v2, x, q1, y, q2, q3⟩ := fin cell
      refine ⟨v, 0, v1, v2, Int.le_refl _, fun r => call_run ?_ rfl⟩
      rw [e]
      unfold mDraw
      by_cases hg1 : at_ < (cells.length : Int)
      · have hg2 : ¬ 1000000000000000000 ≤ ac := fun z => hg ⟨hg1, z⟩
        simp [varB, varF, idxS, ixc, h', r0, ix30, ix31, ix32, ixk3, nn, ln, mA, mA2, mAA, mx, m2', sm1, sm2, sm3, smm, sml, d64, hg1, hg2, p10, ab, q1, q2, Int.not_lt.mpr ha, bkOb, q3, -abs_i]
      · simp [varB, varF, idxS, ixc, h', r0, ix30, ix31, ix32, ixk3, nn, ln, mA, mA2, mAA, mx, m2', sm1, sm2, sm3, smm, sml, d64, hg1, p10, ab, q1, q2, Int.not_lt.mpr ha, bkOb, q3, -abs_i]
theorem draw_ok {A B P1 A2 B2 P2 C D3 P3 : Int} (dc : DrC A B P1 A2 B2 P2 C D3 P3) {N : List Str} (hN : N.length = 6) {S : Sto} {k : Nat} {cells : List Int} {at_ rest many : Int} (h : Bk S k cells at_ rest) (h2 : 0 < many) (h3 : many.natAbs.log2 < 9000) (ha : 0 ≤ at_) (hb : at_ < 2 ^ 20) (hr : 0 ≤ rest) :
    ∃ v a' rest', 0 ≤ v ∧ v < many ∧ at_ ≤ a' ∧ a' ≤ at_ + 1 ∧ 0 ≤ rest' ∧ ∀ r, callM (fnOf N (mDraw A B P1 A2 B2 P2 C D3 P3)) [.ob k, .int many] r S = .ok (.int v) r (S.set k (bkOb cells a' rest')) := by
  by_cases h0 : rest = 0
  · subst h0
    obtain ⟨v, rest', v1, v2, v3, e⟩ := draw_new dc hN h h2 h3 ha hb
    exact ⟨v, at_ + 1, rest', v1, v2, by omega, by omega, v3, e⟩
  · exact ⟨rest % many, at_, rest / many, Int.emod_nonneg _ (by omega), Int.emod_lt_of_pos _ h2, by omega, by omega, Int.ediv_nonneg hr (by omega), fun r => draw_rest hN h (by omega) h2 h3 r⟩
end DD

set_option Elab.async false
set_option linter.all false
set_option maxRecDepth 100000
set_option maxHeartbeats 4000000
namespace DD
open PySem PySem.Spec PyProof.Rows L2

section
variable {r : Rho} {S : Sto}
def fldOut (fr : Bool) (f : Str) (k : Nat) (o : Option (Nat × List (Str × D) × D)) (r : Rho) (S : Sto) : Out D := match o with
  | some (c, fs, .own xs) => if fr then .ok (.lst xs) r (S.set k (.ins c (putFD f (.lst xs) fs))) else .ok (.bor xs) r S
  | some (_, _, d) => .ok d r S
  | none => .no
theorem fldB_ap (isf : Nat → Str → Bool) (f : Str) (m : M D) {k : Nat} {r1 : Rho} {S1 : Sto} (h : frz m r S = .ok (.ob k) r1 S1) : fldB isf f m r S = fldOut false f k (fldAt isf f k S1) r1 S1 := by
  unfold fldB
  rw [bind_ap, h]
  show (match fldAt isf f k S1 with
    | some (_, _, .own xs) => Out.ok (D.bor xs) r1 S1
    | some (_, _, d) => .ok d r1 S1
    | none => .no) = _
  unfold fldOut
  cases fldAt isf f k S1 with
  | none => rfl
  | some p =>
    obtain ⟨c, fs, d⟩ := p
    cases d <;> rfl
theorem fldF_ap (isf : Nat → Str → Bool) (f : Str) (m : M D) {k : Nat} {r1 : Rho} {S1 : Sto} (h : frz m r S = .ok (.ob k) r1 S1) : fldF isf f m r S = fldOut true f k (fldAt isf f k S1) r1 S1 := by
  unfold fldF
  rw [bind_ap, h]
  show (match fldAt isf f k S1 with
    | some (c, fs, .own xs) => Out.ok (D.lst xs) r1 (S1.set k (Ob.ins c (putFD f (D.lst xs) fs)))
    | some (_, _, d) => .ok d r1 S1
    | none => .no) = _
  unfold fldOut
  cases fldAt isf f k S1 with
  | none => rfl
  | some p =>
    obtain ⟨c, fs, d⟩ := p
    cases d <;> rfl
@[simp] theorem fldB_v (isf : Nat → Str → Bool) (f : Str) (i k : Nat) (h : r[i]? = some (some (.ob k))) : fldB isf f (varF i) r S = fldOut false f k (fldAt isf f k S) r S :=
  fldB_ap isf f _ (by rw [frz_ap]; unfold varF; rw [h]; rfl)
@[simp] theorem fldF_v (isf : Nat → Str → Bool) (f : Str) (i k : Nat) (h : r[i]? = some (some (.ob k))) : fldF isf f (varF i) r S = fldOut true f k (fldAt isf f k S) r S :=
  fldF_ap isf f _ (by rw [frz_ap]; unfold varF; rw [h]; rfl)
def setOut (isf : Nat → Str → Bool) (f : Str) (k : Nat) (d : D) (r : Rho) (S : Sto) : Out Fl := match S[k]? with
  | some (.ins c fs) => if isf c f && !borD d && decide (fs.length < 1000) then .ok .nx r (S.set k (.ins c (putFD f d fs))) else .no
  | _ => .no
theorem mSetF_ap (isf : Nat → Str → Bool) (f : Str) (mo mv : M D) : mSetF isf f mo mv r S = (mv r S).then fun d r S => (frz mo r S).then fun x r S => match x with
    | .ob k => setOut isf f k d r S
    | _ => .no := by
  unfold mSetF
  rw [bind_ap]
  refine congrArg _ (funext fun d => funext fun r => funext fun S => ?_)
  rw [bind_ap]
  refine congrArg _ (funext fun x => funext fun r => funext fun S => ?_)
  cases x <;> rfl
theorem meth_ap {m : Str} {mt : Nat → Option MI} {mo : M D} {ma mk : M (List D)} {k c : Nat} {fs : List (Str × D)} {i : MI} {r1 : Rho} {S1 : Sto} (h : frz mo r S = .ok (.ob k) r1 S1) (hS : S1[k]? = some (.ins c fs)) (hm : mt c = some i) (hl : fs.lookup m = none) :
    mMeth m mt mo ma mk r S = (ma r1 S1).then fun ds r S => (mk r S).then fun es r S => arrM i.src i.dds i.np (.ob k :: ds) es (callM i.fn) r S := by
  unfold mMeth
  rw [bind_ap, h]
  show (match S1[k]? with
    | some (.ins c fs) => (match mt c, fs.lookup m with
      | some i, none => mArgs ma mk (fun ds es => arrM i.src i.dds i.np (.ob k :: ds) es (callM i.fn)) r1 S1
      | _, _ => .no)
    | _ => .no) = _
  rw [hS]
  show (match mt c, fs.lookup m with
      | some i, none => mArgs ma mk (fun ds es => arrM i.src i.dds i.np (.ob k :: ds) es (callM i.fn)) r1 S1
      | _, _ => .no) = _
  rw [hm, hl]
  show mArgs ma mk (fun ds es => arrM i.src i.dds i.np (.ob k :: ds) es (callM i.fn)) r1 S1 = _
  rw [mArgs_ap]
end
section
variable {tg : Tg} {cs : M Bool} {me : M D} {own : List Nat} {r0 : Rho} {S : Sto}
theorem lc_run {g : D → List D} : ∀ {ds acc : List D}, (∀ d ∈ ds, ∀ acc : List D, acc.length < lim → lcTurn tg cs me own d acc r0 S = .ok (acc ++ g d) r0 S) → (∀ d ∈ ds, (g d).length ≤ 1) → acc.length + ds.length ≤ lim → lcLoop tg cs me own ds acc r0 S = .ok (acc ++ ds.flatMap g) r0 S
  | [], acc, _, _, _ => by simp [lcLoop]
  | d :: ds, acc, h, h1, hl => by
    rw [List.length_cons] at hl
    have h2 := h1 d List.mem_cons_self
    rw [lcLoop, bind_ap, h d List.mem_cons_self acc (by omega), then_ok, lc_run (fun e he => h e (List.mem_cons_of_mem _ he)) (fun e he => h1 e (List.mem_cons_of_mem _ he)) (by rw [List.length_append]; omega)]
    simp
theorem mLc_ap {mi : M (List D)} {r r1 : Rho} {S1 : Sto} {ds acc : List D} {r2 : Rho} {S2 : Sto} (h : mi r S = .ok ds r1 S1) (hl : lcLoop tg cs me own ds [] r1 S1 = .ok acc r2 S2) : mLc mi tg cs me own r S = .ok (.own acc) r2 S2 := by
  unfold mLc
  rw [bind_ap, h, then_ok, hl]
theorem mLc_run {mi : M (List D)} {r : Rho} {ds : List D} {g : D → List D} (h : mi r S = .ok ds r0 S) (ht : ∀ d ∈ ds, ∀ acc : List D, acc.length < lim → lcTurn tg cs me own d acc r0 S = .ok (acc ++ g d) r0 S) (h1 : ∀ d ∈ ds, (g d).length ≤ 1) (hl : ds.length ≤ lim) :
    mLc mi tg cs me own r S = .ok (.own (ds.flatMap g)) r0 S :=
  mLc_ap h ((lc_run ht h1 (by simpa using hl)).trans (by simp))
end
section
variable {tg : Tg} {body : M Fl}
theorem for_run (I : Nat → Rho → Sto → Prop) : ∀ {ds : List D} {i : Nat} {r : Rho} {S : Sto}, I i r S →
    (∀ (j : Nat) d r S, ds[j]? = some d → I (i + j) r S → ∃ r1, setT tg d r = some r1 ∧ ∃ r2 S2, (body r1 S = .ok .nx r2 S2 ∨ body r1 S = .ok .ct r2 S2) ∧ I (i + j + 1) r2 S2) →
    ∃ r2 S2, forLoop tg body ds r S = .ok .nx r2 S2 ∧ I (i + ds.length) r2 S2
  | [], i, r, S, h, _ => ⟨r, S, rfl, h⟩
  | d :: ds, i, r, S, h, hs => by
    obtain ⟨r1, e1, r2, S2, e2, h2⟩ := hs 0 d r S rfl h
    obtain ⟨r3, S3, e3, h3⟩ := for_run I (ds := ds) (i := i + 1) h2 fun j d r S hd hi => by
      have z := hs (j + 1) d r S (by simpa using hd) (by rw [show i + (j + 1) = i + 1 + j by omega]; exact hi)
      rw [show i + (j + 1) + 1 = i + 1 + j + 1 by omega] at z
      exact z
    refine ⟨r3, S3, ?_, by rw [List.length_cons, show i + (ds.length + 1) = i + 1 + ds.length by omega]; exact h3⟩
    rw [forLoop]
    simp only [e1]
    rcases e2 with e2 | e2 <;> (rw [e2]; exact e3)
end
theorem bools_true : ∀ {xs : List D}, (∀ x ∈ xs, x = .bl true) → ∃ bs, boolsD xs = some bs ∧ bs.all id = true
  | [], _ => ⟨[], rfl, rfl⟩
  | x :: xs, h => by
    obtain ⟨bs, e, hb⟩ := bools_true (xs := xs) fun y hy => h y (List.mem_cons_of_mem _ hy)
    have ex := h x List.mem_cons_self
    subst ex
    exact ⟨true :: bs, by simp [boolsD, e], by simpa using hb⟩
theorem all_true {xs : List D} (h : ∀ x ∈ xs, x = .bl true) : allD (.own xs) = some (.bl true) := by
  obtain ⟨bs, e, hb⟩ := bools_true h
  show (boolsD xs).map (fun bs => D.bl (bs.all id)) = _
  rw [e, Option.map_some, hb]
theorem bools_false : ∀ {xs : List D}, (∀ x ∈ xs, x = .bl false) → ∃ bs, boolsD xs = some bs ∧ bs.any id = false
  | [], _ => ⟨[], rfl, rfl⟩
  | x :: xs, h => by
    obtain ⟨bs, e, hb⟩ := bools_false (xs := xs) fun y hy => h y (List.mem_cons_of_mem _ hy)
    have ex := h x List.mem_cons_self
    subst ex
    exact ⟨false :: bs, by simp [boolsD, e], by simpa using hb⟩
theorem any_false {xs : List D} (h : ∀ x ∈ xs, x = .bl false) : anyD (.own xs) = some (.bl false) := by
  obtain ⟨bs, e, hb⟩ := bools_false h
  show (boolsD xs).map (fun bs => D.bl (bs.any id)) = _
  rw [e, Option.map_some, hb]
theorem cut1 {α : Type} (xs : List α) : cutG xs (some 1) none = xs.drop 1 := by
  unfold cutG HT.sIx
  cases xs with
  | nil => simp
  | cons x r => simp [Int.toNat]
end DD

set_option Elab.async false
set_option linter.all false
set_option maxRecDepth 100000
set_option maxHeartbeats 4000000
namespace DD
open PySem PySem.Spec PyProof.Rows L2
@[simp] theorem lim_1 : 1 ≤ lim := by decide
@[simp] theorem lim_2 : 2 ≤ lim := by decide
@[simp] theorem lim_3 : 3 ≤ lim := by decide
@[simp] theorem lim_4 : 4 ≤ lim := by decide
@[simp] theorem lim_5 : 5 ≤ lim := by decide
@[simp] theorem lim_6 : 6 ≤ lim := by decide
@[simp] theorem lim_7 : 7 ≤ lim := by decide
@[simp] theorem lim_8 : 8 ≤ lim := by decide
@[simp] theorem lim_9 : 9 ≤ lim := by decide
@[simp] theorem lim_10 : 10 ≤ lim := by decide
@[simp] theorem lim_11 : 11 ≤ lim := by decide
@[simp] theorem lim_12 : 12 ≤ lim := by decide
@[simp] theorem lim_13 : 13 ≤ lim := by decide
@[simp] theorem lim_14 : 14 ≤ lim := by decide
@[simp] theorem lim_15 : 15 ≤ lim := by decide
@[simp] theorem lim_16 : 16 ≤ lim := by decide
@[simp] theorem lim_17 : 17 ≤ lim := by decide
@[simp] theorem lim_18 : 18 ≤ lim := by decide
@[simp] theorem lim_19 : 19 ≤ lim := by decide
@[simp] theorem lim_20 : 20 ≤ lim := by decide
@[simp] theorem lim_21 : 21 ≤ lim := by decide
@[simp] theorem lim_22 : 22 ≤ lim := by decide
@[simp] theorem lim_23 : 23 ≤ lim := by decide
@[simp] theorem lim_24 : 24 ≤ lim := by decide

section
variable {α : Type} {r : Rho} {S : Sto}
def onOb (f : Nat → Out α) : D → Out α
  | .ob k => f k
  | _ => .no
@[simp] theorem onOb_ob (f : Nat → Out α) (k : Nat) : onOb f (.ob k) = f k := (rfl)
def fldIn (isf : Nat → Str → Bool) (f : Str) : Option Ob → Option (Nat × List (Str × D) × D)
  | some (.ins c fs) => if isf c f then (fs.lookup f).map fun d => (c, fs, d) else none
  | _ => none
theorem fldAt_in (isf : Nat → Str → Bool) (f : Str) (k : Nat) (S : Sto) : fldAt isf f k S = fldIn isf f S[k]? := by
  unfold fldAt fldIn
  cases S[k]? with
  | none => rfl
  | some o => cases o <;> rfl
theorem fldB_on (isf : Nat → Str → Bool) (f : Str) (mo : M D) : fldB isf f mo r S = (frz mo r S).then fun x r S => onOb (fun k => fldOut false f k (fldIn isf f S[k]?) r S) x := by
  unfold fldB
  rw [bind_ap]
  refine congrArg _ (funext fun x => funext fun r => funext fun S => ?_)
  cases x with
  | ob k =>
    rw [onOb_ob, ← fldAt_in]
    show (match fldAt isf f k S with
      | some (c, fs, .own xs) => Out.ok (D.bor xs) r S
      | some (_, _, d) => Out.ok d r S
      | none => .no) = _
    unfold fldOut
    cases h : fldAt isf f k S with
    | none => rfl
    | some p =>
      obtain ⟨c, fs, d⟩ := p
      cases d <;> rfl
  | _ => rfl
theorem fldF_on (isf : Nat → Str → Bool) (f : Str) (mo : M D) : fldF isf f mo r S = (frz mo r S).then fun x r S => onOb (fun k => fldOut true f k (fldIn isf f S[k]?) r S) x := by
  unfold fldF
  rw [bind_ap]
  refine congrArg _ (funext fun x => funext fun r => funext fun S => ?_)
  cases x with
  | ob k =>
    rw [onOb_ob, ← fldAt_in]
    show (match fldAt isf f k S with
      | some (c, fs, .own xs) => Out.ok (D.lst xs) r (S.set k (.ins c (putFD f (.lst xs) fs)))
      | some (_, _, d) => Out.ok d r S
      | none => .no) = _
    unfold fldOut
    cases h : fldAt isf f k S with
    | none => rfl
    | some p =>
      obtain ⟨c, fs, d⟩ := p
      cases d <;> rfl
  | _ => rfl
def setIn (isf : Nat → Str → Bool) (f : Str) (k : Nat) (d : D) (o : Option Ob) (r : Rho) (S : Sto) : Out Fl := match o with
  | some (.ins c fs) => if isf c f && !borD d && decide (fs.length < 1000) then .ok .nx r (S.set k (.ins c (putFD f d fs))) else .no
  | _ => .no
theorem mSetF_on (isf : Nat → Str → Bool) (f : Str) (mo mv : M D) : mSetF isf f mo mv r S = (mv r S).then fun d r S => (frz mo r S).then fun x r S => onOb (fun k => setIn isf f k d S[k]? r S) x := by
  rw [mSetF_ap]
  refine congrArg _ (funext fun d => funext fun r => funext fun S => ?_)
  refine congrArg _ (funext fun x => funext fun r => funext fun S => ?_)
  cases x <;> rfl
def methIn (m : Str) (mt : Nat → Option MI) (k : Nat) (ma mk : M (List D)) (o : Option Ob) (r : Rho) (S : Sto) : Out D := match o with
  | some (.ins c fs) => match mt c, fs.lookup m with
    | some i, none => (ma r S).then fun ds r S => (mk r S).then fun es r S => arrM i.src i.dds i.np (.ob k :: ds) es (callM i.fn) r S
    | _, _ => .no
  | _ => .no
def methGo (o : Option MI) (k : Nat) (ma mk : M (List D)) (r : Rho) (S : Sto) : Out D := match o with
  | some i => (ma r S).then fun ds r S => (mk r S).then fun es r S => arrM i.src i.dds i.np (.ob k :: ds) es (callM i.fn) r S
  | none => .no
@[simp] theorem methGo_some (fn : Fn) (src : List Src) (dds : List D) (np k : Nat) (ma mk : M (List D)) : methGo (some ⟨fn, src, dds, np⟩) k ma mk r S = (ma r S).then fun ds r S => (mk r S).then fun es r S => arrM src dds np (.ob k :: ds) es (callM fn) r S := (rfl)
theorem methIn_go {m : Str} {mt : Nat → Option MI} {k c : Nat} {ma mk : M (List D)} {fs : List (Str × D)} (h : fs.lookup m = none) : methIn m mt k ma mk (some (.ins c fs)) r S = methGo (mt c) k ma mk r S := by
  unfold methIn methGo
  simp only
  rw [h]
  cases mt c <;> rfl
theorem mMeth_on (m : Str) (mt : Nat → Option MI) (mo : M D) (ma mk : M (List D)) : mMeth m mt mo ma mk r S = (frz mo r S).then fun x r S => onOb (fun k => methIn m mt k ma mk S[k]? r S) x := by
  unfold mMeth
  rw [bind_ap]
  refine congrArg _ (funext fun x => funext fun r => funext fun S => ?_)
  cases x with
  | ob k =>
   rw [onOb_ob]
   show (match S[k]? with
    | some (.ins c fs) => (match mt c, fs.lookup m with
      | some i, none => mArgs ma mk (fun ds es => arrM i.src i.dds i.np (.ob k :: ds) es (callM i.fn)) r S
      | _, _ => .no)
    | _ => .no) = _
   unfold methIn
   cases S[k]? with
   | none => rfl
   | some o =>
     cases o with
     | arr xs => rfl
     | tab q => rfl
     | ins c fs =>
       simp only
       cases mt c with
       | none => cases List.lookup m fs <;> rfl
       | some i =>
         cases List.lookup m fs with
         | none => simp only [mArgs_ap]
         | some _ => rfl
  | _ => rfl
def propIn (pt : Nat → Option Fn) (k : Nat) (o : Option Ob) (r : Rho) (S : Sto) : Out D := match o with
  | some (.ins c _) => match pt c with
    | some φ => noX (callM φ [.ob k]) r S
    | none => .no
  | _ => .no
theorem mProp_on (pt : Nat → Option Fn) (mo : M D) : mProp pt mo r S = (frz mo r S).then fun x r S => onOb (fun k => propIn pt k S[k]? r S) x := by
  unfold mProp
  rw [bind_ap]
  refine congrArg _ (funext fun x => funext fun r => funext fun S => ?_)
  cases x <;> first | rfl | skip
theorem noX_ok {m : M α} {a : α} {r1 : Rho} {S1 : Sto} (h : m r S = .ok a r1 S1) : noX m r S = .ok a r1 S1 := by
  unfold noX; rw [h]
def mkOut (n : Nat) : Out D → Out D
  | .ok .non r S => .ok (.ob n) r S
  | .ok _ _ _ => .no
  | .exc e r S => .exc e r S
  | .no => .no
@[simp] theorem mkOut_ok (n : Nat) : mkOut n (.ok .non r S) = .ok (.ob n) r S := (rfl)
theorem mMake_on (c : Nat) (φ : Fn) (src : List Src) (dds : List D) (np : Nat) (ma mk : M (List D)) : mMake c φ src dds np ma mk r S = (ma r S).then fun ds r S => (mk r S).then fun es r S => mkOut S.length (arrM src dds np (.ob S.length :: ds) es (callM φ) r (S ++ [.ins c []])) := by
  unfold mMake
  rw [mArgs_ap]
  refine congrArg _ (funext fun ds => funext fun r => funext fun S => ?_)
  refine congrArg _ (funext fun es => funext fun r => funext fun S => ?_)
  unfold mkM mkOut
  cases arrM src dds np (.ob S.length :: ds) es (callM φ) r (S ++ [.ins c []]) with
  | ok d r' S' => cases d <;> rfl
  | _ => rfl
@[simp] theorem mUnS_ap (F : Sto → D → Option D) (a : M D) : mUnS F a r S = (a r S).then fun x r S => DD.lift (F S x) r S := by
  unfold mUnS; rw [bind_ap]
theorem mUn_run {F : D → Option D} {m : M D} {x y : D} {r1 : Rho} {S1 : Sto} (h : m r S = .ok x r1 S1) (e : F x = some y) : mUn F m r S = .ok y r1 S1 := by
  rw [mUn_ap, h, then_ok, e, liftS_ap]
@[simp] theorem mSetNs_ap (js : List Nat) (m : M (List D)) : mSetNs js m r S = (m r S).then fun ds r S => if (ds.all (fun d => !borD d) && decide (js.length = ds.length) && decide (ds.length ≤ lim)) = true then .ok .nx (setNs js ds r) S else .no := by
  unfold mSetNs
  rw [bind_ap]
  congr; funext ds r S; split <;> rfl
def unitOut : Out Fl → Out Unit
  | .ok _ r S => .ok () r S
  | .exc e r S => .exc e r S
  | .no => .no
@[simp] theorem unitOut_ok (f : Fl) : unitOut (.ok f r S) = .ok () r S := (rfl)
theorem pFld_on {isf : Nat → Str → Bool} {j k : Nat} {f : Str} {d : D} (h : r[j]? = some (some (.ob k))) : pFld isf j f d r S = unitOut (setIn isf f k d S[k]? r S) := by
  unfold pFld setIn
  rw [h]
  simp only
  cases S[k]? with
  | none => rfl
  | some o =>
    cases o with
    | arr xs => rfl
    | tab q => rfl
    | ins c fs => simp only; split <;> rfl
@[simp] theorem mStar_ap (a : M D) (b : M (List D)) : mStar a b r S = (a r S).then fun x r S => match seqD x with
    | some ys => (b r S).then fun xs r S => .ok (ys ++ xs) r S
    | none => .no := by
  unfold mStar
  rw [bind_ap]
  refine congrArg _ (funext fun x => funext fun r => funext fun S => ?_)
  cases seqD x with
  | none => rfl
  | some ys => simp only [bind_ap]; rfl
@[simp] theorem lenS_ob (k : Nat) : lenS S (.ob k) = (arrAt S k).map fun xs => .int xs.length := rfl
@[simp] theorem tupS_ob (k : Nat) : tupS S (.ob k) = (arrAt S k).map .tup := rfl
@[simp] theorem lstS_ob (k : Nat) : lstS S (.ob k) = (arrAt S k).map .own := rfl
theorem rng1_ok {n : Nat} (h : n ≤ 1000000) : rng1 [.int n] = some (ups 0 n) := by
  have h2 : -(2 ^ 62) ≤ (n : Int) ∧ (n : Int) < 2 ^ 62 := by omega
  simp only [rng1, h2, and_self, if_true, Int.toNat_natCast]
theorem mRng1_run {m : M (List D)} {n : Nat} {r1 : Rho} {S1 : Sto} (h : m r S = .ok [.int n] r1 S1) (hn : n ≤ 1000000) : mRng1 m r S = .ok (ups 0 n) r1 S1 := by
  unfold mRng1
  rw [bind_ap, h, then_ok, rng1_ok hn, liftS_ap]
def appIn (k : Nat) (d : D) (o : Option (List D)) (r : Rho) (S : Sto) : Out Fl := match o with
  | some xs => if xs.length < lim then .ok .nx r (S.set k (.arr (xs ++ [d]))) else .no
  | none => .no
def appOut (me : M D) (k : Nat) (o : Option (List D)) (r : Rho) (S : Sto) : Out Fl := match o with
  | some _ => (frz me r S).then fun d r S => if borD d = true then .no else appIn k d (arrAt S k) r S
  | none => .no
@[simp] theorem appOut_some (me : M D) (k : Nat) (xs : List D) : appOut me k (some xs) r S = (frz me r S).then fun d r S => if borD d = true then .no else appIn k d (arrAt S k) r S := (rfl)
@[simp] theorem appIn_some (d : D) (k : Nat) (xs : List D) : appIn k d (some xs) r S = if xs.length < lim then .ok .nx r (S.set k (.arr (xs ++ [d]))) else .no := (rfl)
theorem mAppO_on (mo me : M D) : mAppO mo me r S = (frz mo r S).then fun x r S => onOb (fun k => appOut me k (arrAt S k) r S) x := by
  unfold mAppO
  rw [bind_ap]
  refine congrArg _ (funext fun x => funext fun r => funext fun S => ?_)
  cases x with
  | ob k =>
   rw [onOb_ob]
   show (match arrAt S k with
    | some _ => (M.bind (frz me) fun d => if borD d then M.fail else fun r S => match arrAt S k with
      | some xs => if xs.length < lim then Out.ok Fl.nx r (S.set k (.arr (xs ++ [d]))) else .no
      | none => .no) r S
    | none => .no) = _
   cases arrAt S k with
   | none => rfl
   | some xs =>
     simp only [appOut_some]
     rw [bind_ap]
     refine congrArg _ (funext fun d => funext fun r => funext fun S => ?_)
     by_cases hb : borD d = true
     · rw [if_pos hb, if_pos hb]; rfl
     · rw [if_neg hb, if_neg hb]
       unfold appIn
       cases arrAt S k <;> rfl
  | _ => rfl
theorem mAppF_on {isf : Nat → Str → Bool} {j : Nat} {f : Str} {me : M D} {k : Nat} {d : D} {c : Nat} {fs : List (Str × D)} {ys xs : List D} {r1 : Rho} {S1 : Sto} (hr : r[j]? = some (some (.ob k))) (h0 : ∃ c0 fs0, fldIn isf f S[k]? = some (c0, fs0, .own ys)) (hm : frz me r S = .ok d r1 S1) (hd : borD d = false) (h1 : fldIn isf f S1[k]? = some (c, fs, .own xs)) (hl : xs.length < lim) :
    mAppF isf j f me r S = .ok .nx r1 (S1.set k (.ins c (putFD f (.own (xs ++ [d])) fs))) := by
  obtain ⟨c0, fs0, h0⟩ := h0
  unfold mAppF
  rw [hr]
  simp only
  rw [fldAt_in, h0]
  simp only
  rw [bind_ap, hm]
  simp only [then_ok, hd]
  show (match fldAt isf f k S1 with
      | some (c, fs, .own xs) => if xs.length < lim then Out.ok Fl.nx r1 (S1.set k (.ins c (putFD f (.own (xs ++ [d])) fs))) else .no
      | _ => .no) = _
  rw [fldAt_in, h1]
  simp only [hl, if_true]
theorem mAsg_ap (m : M D) (p : D → M Unit) : mAsg m p r S = (frz m r S).then fun d r S => if borD d = true then .no else match p d r S with
    | .ok _ r' S' => .ok .nx r' S'
    | _ => .no := by
  unfold mAsg
  rw [bind_ap]
  refine congrArg _ (funext fun d => funext fun r => funext fun S => ?_)
  by_cases hb : borD d = true
  · rw [if_pos hb, if_pos hb]; first | done | rfl
  · rw [if_neg hb, if_neg hb]; first | done | rfl
end
end DD

set_option Elab.async false
set_option linter.all false
set_option maxRecDepth 100000
set_option maxHeartbeats 4000000
namespace DD
open PySem PySem.Spec PyProof.Rows L2

theorem ok_app {s t : Str} (h : PyData.strOk s = true) (h2 : PyData.strOk t = true) : PyData.strOk (s ++ t) = true := by
  unfold PyData.strOk at h h2 ⊢
  show (s.cps ++ t.cps).all _ = true
  rw [Array.all_append, h, h2]; rfl
theorem ok_of (s : String) : PyData.strOk (Str.ofString s) = true := by
  unfold PyData.strOk Str.ofString
  rw [cpsOfBytes_string]
  simp only [List.all_toArray, List.all_map, List.all_eq_true]
  intro c _
  have h := c.valid
  simp only [UInt32.isValidChar, Nat.isValidChar] at h
  show decide (c.toNat < 0x110000) = true
  have ht : c.toNat = c.val.toNat := rfl
  rw [ht]
  exact decide_eq_true (by omega)
theorem ok_join {sep : Str} (hs : PyData.strOk sep = true) : ∀ {ts : List Str}, (∀ t ∈ ts, PyData.strOk t = true) → PyData.strOk (Str.join sep ts) = true
  | [], _ => by
    show PyData.strOk Str.empty = true
    simp [PyData.strOk, Str.empty]
  | [x], h => h x List.mem_cons_self
  | x :: y :: r, h => by
    show PyData.strOk (x ++ sep ++ Str.join sep (y :: r)) = true
    exact ok_app (ok_app (h x List.mem_cons_self) hs) (ok_join hs fun t ht => h t (List.mem_cons_of_mem _ ht))
theorem ok_from : ∀ (ts : List Str) (k : Nat) (acc : Str), PyData.strOk acc = true → (∀ t ∈ ts, PyData.strOk t = true) → PyData.strOk (textFrom k acc ts) = true
  | [], _, _, h, _ => h
  | t :: r, k, acc, h, ht => by
    show PyData.strOk (textFrom (k + 1) (acc ++ (if k > 0 then ", " else "" : String) ++ t) r) = true
    refine ok_from r _ _ (ok_app (ok_app h (ok_of _)) (ht t List.mem_cons_self)) fun u hu => ht u (List.mem_cons_of_mem _ hu)
mutual
def goodD : D → Bool
  | .non => true
  | .bl _ => true
  | .int i => decide (i.natAbs < 10 ^ 41)
  | .tup xs => goodDs xs
  | .lst xs => goodDs xs
  | .own xs => goodDs xs
  | .bor xs => goodDs xs
  | _ => false
def goodDs : List D → Bool
  | [] => true
  | x :: xs => goodD x && goodDs xs
end
mutual
def wtD : D → Nat
  | .tup xs => wtDs xs
  | .lst xs => wtDs xs
  | .own xs => wtDs xs
  | .bor xs => wtDs xs
  | _ => 138
def wtDs : List D → Nat
  | [] => 0
  | x :: xs => wtD x + 1 + wtDs xs
end
mutual
def dpD : D → Nat
  | .tup xs => dpDs xs + 1
  | .lst xs => dpDs xs + 1
  | .own xs => dpDs xs + 1
  | .bor xs => dpDs xs + 1
  | _ => 0
def dpDs : List D → Nat
  | [] => 0
  | x :: xs => max (dpD x) (dpDs xs)
end
structure Txt (p : PyData) (w dp : Nat) : Prop where
  lay : p.canLay0 = true
  dp : p.depth ≤ dp
  sh : p.showable = true
  lf : p.leavesShort 44 = true
  wt : p.weight ≤ w
  ok : PyData.strOk p.shown = true
structure Txts (ps : List PyData) (w dp : Nat) : Prop where
  lay : PyData.canLayAll0 ps = true
  dp : PyData.depthAll ps ≤ dp
  sh : PyData.showableAll ps = true
  lf : PyData.leavesShortAll 44 ps = true
  wt : PyData.weightAll ps ≤ w
  ok : ∀ t ∈ PyData.shownAll ps, PyData.strOk t = true
theorem log_lt {n : Nat} (h : n < 10 ^ 41) (h0 : n ≠ 0) : n.log2 < 137 := (Nat.log2_lt h0).mpr (Nat.lt_of_lt_of_le h (by decide))
theorem txt_int {i : Int} (h : i.natAbs < 10 ^ 41) : Txt (.int i) 138 0 := by
  have e := int_text_length_le10 (k := 41) (by decide) h
  refine ⟨rfl, Nat.le_refl _, ?_, ?_, ?_, ok_of _⟩
  · show decide (i.natAbs.log2 < 1920) = true
    by_cases h0 : i.natAbs = 0
    · rw [h0]; decide
    · have := log_lt h h0; exact decide_eq_true (by omega)
  · show decide ((Str.ofString (toString i)).length ≤ 44) = true
    rw [PySem.ofString_length]
    exact decide_eq_true (by omega)
  · show (if i == 0 then 0 else i.natAbs.log2 + 1) ≤ 138
    split
    · omega
    · rename_i h1
      have h0 : i.natAbs ≠ 0 := fun z => h1 (by simpa using z)
      have := log_lt h h0
      omega
theorem Txts.list {ps : List PyData} {w dp : Nat} (t : Txts ps w dp) : Txt (.list ps) w (dp + 1) := by
  refine ⟨by simpa only [PyData.canLay0] using t.lay, by simp only [PyData.depth]; have := t.dp; omega, by simpa only [PyData.showable] using t.sh, by simpa only [PyData.leavesShort] using t.lf, by simpa only [PyData.weight] using t.wt, ?_⟩
  simp only [PyData.shown]
  exact ok_app (ok_from _ _ _ (ok_of "[") t.ok) (ok_of "]")
theorem Txts.tup {ps : List PyData} {w dp : Nat} (t : Txts ps w dp) : Txt (.tuple ps) w (dp + 1) := by
  refine ⟨by simpa only [PyData.canLay0] using t.lay, by simp only [PyData.depth]; have := t.dp; omega, by simpa only [PyData.showable] using t.sh, by simpa only [PyData.leavesShort] using t.lf, by simpa only [PyData.weight] using t.wt, ?_⟩
  simp only [PyData.shown]
  exact ok_app (ok_app (ok_of "(") (ok_join (ok_of ", ") t.ok)) (ok_of _)
mutual
theorem txtD : ∀ {d : D}, goodD d = true → ∃ p, toP d = some p ∧ Txt p (wtD d) (dpD d)
  | .non, _ => ⟨.none, by simp only [toP], ⟨rfl, Nat.le_refl _, rfl, rfl, by simp [wtD, PyData.weight], ok_of _⟩⟩
  | .bl b, _ => ⟨.bool b, by simp only [toP], ⟨rfl, Nat.le_refl _, rfl, rfl, by simp [wtD, PyData.weight], by cases b <;> exact ok_of _⟩⟩
  | .int i, h => ⟨.int i, by simp only [toP], by simp only [wtD, dpD]; exact txt_int (by simpa [goodD] using h)⟩
  | .tup xs, h => by
    obtain ⟨ps, e, t⟩ := txtDs (ds := xs) (by simpa only [goodD] using h)
    exact ⟨.tuple ps, by simp only [toP, e, Option.map_some], by simpa only [wtD, dpD] using t.tup⟩
  | .lst xs, h => by
    obtain ⟨ps, e, t⟩ := txtDs (ds := xs) (by simpa only [goodD] using h)
    exact ⟨.list ps, by simp only [toP, e, Option.map_some], by simpa only [wtD, dpD] using t.list⟩
  | .own xs, h => by
    obtain ⟨ps, e, t⟩ := txtDs (ds := xs) (by simpa only [goodD] using h)
    exact ⟨.list ps, by simp only [toP, e, Option.map_some], by simpa only [wtD, dpD] using t.list⟩
  | .bor xs, h => by
    obtain ⟨ps, e, t⟩ := txtDs (ds := xs) (by simpa only [goodD] using h)
    exact ⟨.list ps, by simp only [toP, e, Option.map_some], by simpa only [wtD, dpD] using t.list⟩
  | .str _, h => by simp [goodD] at h
  | .dct _, h => by simp [goodD] at h
  | .ob _, h => by simp [goodD] at h
  | .exc _ _, h => by simp [goodD] at h
  | .scr _, h => by simp [goodD] at h
theorem txtDs : ∀ {ds : List D}, goodDs ds = true → ∃ ps, toPs ds = some ps ∧ Txts ps (wtDs ds) (dpDs ds)
  | [], _ => ⟨[], by simp only [toPs], ⟨rfl, Nat.le_refl _, rfl, rfl, by simp [wtDs, PyData.weightAll], fun t h => by cases h⟩⟩
  | d :: ds, h => by
    have h' : goodD d = true ∧ goodDs ds = true := by simpa only [goodDs, Bool.and_eq_true] using h
    obtain ⟨p, e1, t1⟩ := txtD h'.1
    obtain ⟨ps, e2, t2⟩ := txtDs h'.2
    refine ⟨p :: ps, by simp only [toPs, e1, e2], ⟨by simp only [PyData.canLayAll0, t1.lay, t2.lay, Bool.and_self], by simp only [PyData.depthAll, dpDs]; have := t1.dp; have := t2.dp; omega, by simp only [PyData.showableAll, t1.sh, t2.sh, Bool.and_self], by simp only [PyData.leavesShortAll, t1.lf, t2.lf, Bool.and_self], by simp only [PyData.weightAll, wtDs]; have := t1.wt; have := t2.wt; omega, ?_⟩⟩
    intro t ht
    simp only [PyData.shownAll, List.mem_cons] at ht
    rcases ht with rfl | ht
    · exact t1.ok
    · exact t2.ok t ht
end
theorem repr_ok {d : D} (h : goodD d = true) (hw : wtD d ≤ 300000) (hd : dpD d ≤ 40) : ∃ s, reprD d = some (.str s) ∧ PyData.strOk s = true := by
  obtain ⟨p, e, t⟩ := txtD h
  refine ⟨p.shown, ?_, t.ok⟩
  unfold reprD
  rw [e]
  have h1 := PyData.shown_le 44 (by decide) p t.lf
  have h2 : p.shown.length ≤ sizeLine := by
    have := t.wt
    have e2 : sizeLine = 16777216 := by decide
    have h3 : (44 + 2) * p.weight ≤ 46 * 300000 := Nat.mul_le_mul (by decide) (by omega)
    rw [e2]; omega
  simp only [t.sh, PyData.hasDict_of_canLay p t.lay, Bool.not_false, Bool.and_true, Bool.true_and]
  have := t.dp
  rw [decide_eq_true (show p.depth ≤ 40 by omega), decide_eq_true h2]
  rfl
theorem eqB_str {s t : Str} (h : PyData.strOk s = true) (h2 : PyData.strOk t = true) : eqB (.str s) (.str t) = some (decide (s = t)) := by
  have sh : ∀ {x : Str}, PyData.strOk x = true → SeqAt.shaped (.str x) = true := fun {x} hx => by
    unfold SeqAt.shaped
    simp [PyData.canLay0, PyData.depth, hx]
  unfold eqB
  simp only [toP, sh h, sh h2, Bool.and_self, if_true]
  simp only [PyData.eqv]
  rfl
theorem repr_eq {d : D} (h : goodD d = true) (hw : wtD d ≤ 300000) (hd : dpD d ≤ 40) : ∃ s, reprD d = some (.str s) ∧ eqD (.str s) (.str s) = some (.bl true) ∧ neD (.str s) (.str s) = some (.bl false) := by
  obtain ⟨s, e, ok⟩ := repr_ok h hw hd
  refine ⟨s, e, ?_, ?_⟩
  · unfold eqD; rw [eqB_str ok ok]; simp
  · unfold neD; rw [eqB_str ok ok]; simp
theorem shaped_good {d : D} (h : goodD d = true) (hd : dpD d ≤ 64) : ∃ p, toP d = some p ∧ SeqAt.shaped p = true := by
  obtain ⟨p, e, t⟩ := txtD h
  refine ⟨p, e, ?_⟩
  unfold SeqAt.shaped
  rw [t.lay]
  have := t.dp
  simp; omega
theorem goodDs_all : ∀ {ds : List D}, (∀ d ∈ ds, goodD d = true) → goodDs ds = true
  | [], _ => rfl
  | d :: ds, h => by
    simp only [goodDs, Bool.and_eq_true]
    exact ⟨h d List.mem_cons_self, goodDs_all fun x hx => h x (List.mem_cons_of_mem _ hx)⟩
theorem wtDs_le {w : Nat} : ∀ {ds : List D}, (∀ d ∈ ds, wtD d ≤ w) → wtDs ds ≤ ds.length * (w + 1)
  | [], _ => by simp [wtDs]
  | d :: ds, h => by
    have h1 := h d List.mem_cons_self
    have h2 := wtDs_le fun x hx => h x (List.mem_cons_of_mem d hx)
    simp only [wtDs, List.length_cons, Nat.add_mul, Nat.one_mul]
    omega
theorem dpDs_le {w : Nat} : ∀ {ds : List D}, (∀ d ∈ ds, dpD d ≤ w) → dpDs ds ≤ w
  | [], _ => by simp [dpDs]
  | d :: ds, h => by
    have h1 := h d List.mem_cons_self
    have h2 := dpDs_le fun x hx => h x (List.mem_cons_of_mem d hx)
    simp only [dpDs]
    omega
theorem good_nums {b : List Int} (h : ∀ i ∈ b, i.natAbs < 10 ^ 41) : goodDs (numsD b) = true := goodDs_all fun d hd => by
  obtain ⟨i, hi, rfl⟩ := List.mem_map.mp hd
  simpa [goodD] using h i hi
theorem wt_nums (b : List Int) : wtDs (numsD b) ≤ b.length * 139 := by
  have := wtDs_le (w := 138) (ds := numsD b) fun d hd => by
    obtain ⟨i, hi, rfl⟩ := List.mem_map.mp hd
    simp [wtD]
  simpa [numsD] using this
theorem dp_nums (b : List Int) : dpDs (numsD b) ≤ 0 := dpDs_le fun d hd => by
  obtain ⟨i, hi, rfl⟩ := List.mem_map.mp hd
  simp [dpD]
theorem ne_empty {x : D} {xs : List D} (hx : x = .own xs ∨ x = .lst xs ∨ x = .bor xs) (h : goodDs xs = true) (hd : dpDs xs ≤ 60) : neD x (.own []) = some (.bl (!xs.isEmpty)) := by
  obtain ⟨ps, e, t⟩ := txtDs h
  have sh : SeqAt.shaped (.list ps) = true := by
    have := t.list
    unfold SeqAt.shaped
    rw [this.lay]
    have := this.dp
    simp; omega
  have h0 : SeqAt.shaped (.list []) = true := by decide
  have ex : toP x = some (.list ps) := by rcases hx with rfl | rfl | rfl <;> simp only [toP, e, Option.map_some]
  unfold neD eqB
  simp only [ex, toP, toPs, Option.map_some, sh, h0, Bool.and_self, if_true]
  cases xs with
  | nil =>
    simp only [toPs] at e
    cases e
    simp [PyData.eqv, PyData.eqvAll]
  | cons a r =>
    have : ps ≠ [] := fun z => by
      subst z
      simp only [toPs] at e
      split at e
      · cases e
      · cases e
    cases ps with
    | nil => exact absurd rfl this
    | cons p q => simp [PyData.eqv, PyData.eqvAll]
end DD

set_option Elab.async false
set_option linter.all false
set_option maxRecDepth 100000
set_option maxHeartbeats 4000000
namespace DD
open PySem PySem.Spec PyProof.Rows L2
section
variable {r r' : Rho} {S S' : Sto}
@[simp] theorem raise_ap (c : Str) (ps : List Str) (ma : M (List D)) : mRaise c ps ma r S = (ma r S).then fun ds r S => if ds.all frO = true ∧ ds.length = ps.length then .exc ⟨c, (ps.zip ds).reverse⟩ r S else .no := by
  unfold mRaise
  rw [bind_ap]
theorem call_exc {N : List Str} {m : M Fl} {ds : List D} {e : Ex} (h : m (startR N ds) S = .exc e r' S') : callM (fnOf N m) ds r S = .exc e r S' := by
  unfold callM fnOf endFn
  rw [h]
def Out.tried (o : Out Fl) (isx : Str → Option Bool) (i : Nat) (ms : M Fl) : Out Fl := match o with
  | .exc e r1 S1 => match isx e.c with
    | some true => match ms (r1.set i (some (.exc e.c e.fs))) S1 with
      | .ok f r2 S2 => .ok f (r2.set i none) S2
      | _ => .no
    | some false => .exc e r1 S1
    | none => .no
  | o => o
@[simp] theorem try_ap (isx : Str → Option Bool) (i : Nat) (mb ms : M Fl) : mTryAs isx i mb ms r S = (mb r S).tried isx i ms := (rfl)
@[simp] theorem tried_ok (f : Fl) (isx : Str → Option Bool) (i : Nat) (ms : M Fl) : (Out.ok f r S).tried isx i ms = .ok f r S := (rfl)
@[simp] theorem tried_no (isx : Str → Option Bool) (i : Nat) (ms : M Fl) : (Out.no : Out Fl).tried isx i ms = .no := (rfl)
theorem tried_exc {e : Ex} {isx : Str → Option Bool} {i : Nat} {ms : M Fl} {f : Fl} {r2 : Rho} {S2 : Sto} (h : isx e.c = some true) (h2 : ms (r.set i (some (.exc e.c e.fs))) S = .ok f r2 S2) : (Out.exc e r S : Out Fl).tried isx i ms = .ok f (r2.set i none) S2 := by
  unfold Out.tried
  simp only [h, h2]
@[simp] theorem isLam_lamD (f : Nat) : isLam f (some (some (lamD f))) = true := decide_eq_true ⟨rfl, rfl⟩
@[simp] theorem act_ap (i f : Nat) (act : Sto → Out D) : mAct i f act r S = if isLam f r[i]? = true then callM (fun _ S => act S) [] r S else .no := (rfl)
theorem lam_run {t : Nat} {q : Str} {caps : List Nat} {φ : Nat → (Sto → Out D) → Fn} {mb : M D} {o : Out D} (ht : S[t]? = some (.tab q)) (h : ∀ f, callM (φ f (lamF mb (capR caps r))) [lamD f] r S = o) : mLam t q caps φ mb r S = o := by
  have e : ∀ f, (if isTab q S[t]? = true then callM (φ f (lamF mb (capR caps r))) [lamD f] r S else .no) = o := fun f => by
    rw [ht, if_pos (show isTab q (some (.tab q)) = true from beq_self_eq_true _)]
    exact h f
  unfold mLam mAll
  rw [if_pos fun f => (e f).trans (e 0).symm]
  exact e 0
end
end DD

set_option Elab.async false
set_option linter.all false
set_option maxRecDepth 100000
set_option maxHeartbeats 4000000
namespace LW
open PySem PySem.Spec PyProof.Rows L2 DD

@[simp] theorem ii : isub (.b "int") (.b "int") = some true := by rw [isub_eq]; decide +kernel
@[simp] theorem ib : isub (.b "int") (.b "bool") = some false := by rw [isub_eq]; decide +kernel
@[simp] theorem ll : isub (.b "list") (.b "list") = some true := by rw [isub_eq]; decide +kernel
@[simp] theorem tl : isub (.b "tuple") (.b "list") = some false := by rw [isub_eq]; decide +kernel
@[simp] theorem tt : isub (.b "tuple") (.b "tuple") = some true := by rw [isub_eq]; decide +kernel

@[simp] theorem isi_ap (cs : List Ty) (m : M D) (r : Rho) (S : Sto) : mIsi isub cs m r S = (m r S).then fun x r S => DD.lift ((tyD S x).bind fun t => (isAny isub t cs).map .bl) r S := by
  unfold mIsi; rw [bind_ap]
@[simp] theorem call_ap (phi : Fn) (src : List Src) (dds : List D) (np : Nat) (a b : M (List D)) (r : Rho) (S : Sto) : mCall phi src dds np a b r S = (a r S).then fun ds r S => (b r S).then fun es r S => arrM src dds np ds es (callM phi) r S := by
  unfold mCall; rw [mArgs_ap]
theorem s_is_integer (i : Int) (r : Rho) (S : Sto) : callM phi_is_integer [.int i] r S = .ok (.bl true) r S := by
  refine call_run ?_ rfl
  simp [m_is_integer, varB, startR, N_is_integer, tyD, isAny]
theorem s_is_within (i lo hi : Int) (r : Rho) (S : Sto) : callM phi_is_within [.int i, .int lo, .int hi] r S = .ok (.bl (decide (lo ≤ i) && decide (i ≤ hi))) r S := by
  refine call_run ?_ rfl
  by_cases h : lo ≤ i <;>
  simp [m_is_within, arrM, arr, src1, s_is_integer, isD, isB, isNonD, varB, varF, startR, N_is_within, h]
theorem s_need_number (i lo hi : Int) (p : Str) (h1 : lo ≤ i) (h2 : i ≤ hi) (r : Rho) (S : Sto) : callM phi_need_number [.int i, .str p, .int lo, .int hi] r S = .ok .non r S := by
  refine call_run ?_ rfl
  simp [m_need_number, arrM, arr, src1, s_is_within, varB, varF, startR, N_need_number, h1, h2]
theorem ladle_eq : m_law_dip = mDraw 61151 5939 2147483549 39139 5939 2147483587 4409 39139 2147483563 := rfl
theorem dc : DrC 61151 5939 2147483549 39139 5939 2147483587 4409 39139 2147483563 := ⟨by decide, by decide, by decide, by decide, by decide, by decide, by decide, by decide, by decide⟩
theorem s_ladle {S : Sto} {k : Nat} {cells : List Int} {at_ rest many : Int} (h : Bk S k cells at_ rest) (h2 : 0 < many) (h3 : many.natAbs.log2 < 9000) (ha : 0 ≤ at_) (hb : at_ < 2 ^ 20) (hr : 0 ≤ rest) :
    ∃ v a' rest', 0 ≤ v ∧ v < many ∧ at_ ≤ a' ∧ a' ≤ at_ + 1 ∧ 0 ≤ rest' ∧ ∀ r, callM phi_law_dip [.ob k, .int many] r S = .ok (.int v) r (S.set k (bkOb cells a' rest')) := by
  unfold phi_law_dip
  rw [ladle_eq]
  exact draw_ok dc rfl h h2 h3 ha hb hr
theorem at_some {xs : List D} {i : Int} (h : 0 ≤ i) (h2 : i < xs.length) : ∃ x, x ∈ xs ∧ atI xs i = some x := by
  have hl : i.toNat < xs.length := by omega
  refine ⟨xs[i.toNat], List.getElem_mem hl, ?_⟩
  unfold atI ixN
  rw [if_pos h, if_pos h2]
  simp [hl]
@[simp] theorem len_lst (xs : List D) : lenD (.lst xs) = some (.int xs.length) := rfl
theorem log_small {n : Int} (h : 0 < n) (h2 : n < 2 ^ 30) : n.natAbs.log2 < 9000 := by
  have h3 : n.natAbs < 2 ^ 9000 := Nat.lt_of_lt_of_le (show n.natAbs < 2 ^ 30 by omega) (Nat.pow_le_pow_right (by omega) (by omega))
  exact (Nat.log2_lt (by omega)).mpr h3
theorem s_pick {S : Sto} {k : Nat} {cells : List Int} {at_ rest : Int} {xs : List D} (h : Bk S k cells at_ rest) (h2 : xs ≠ []) (h3 : xs.length < 1000) (hf : xs.all frO = true) (ha : 0 ≤ at_) (hb : at_ < 2 ^ 20) (hr : 0 ≤ rest) :
    ∃ x a' rest', x ∈ xs ∧ at_ ≤ a' ∧ a' ≤ at_ + 1 ∧ 0 ≤ rest' ∧ ∀ r, callM phi_law_pick [.ob k, .lst xs] r S = .ok x r (S.set k (bkOb cells a' rest')) := by
  have hp : (0 : Int) < (xs.length : Int) := by have := List.length_pos_iff.mpr h2; omega
  obtain ⟨v, a', rest', v1, v2, v3, v4, v5, e⟩ := s_ladle h hp (log_small hp (by omega)) ha hb hr
  obtain ⟨x, hx, ex⟩ := at_some (xs := xs) v1 v2
  have nb : borD x = false := by
    have := List.all_eq_true.mp hf x hx
    cases x <;> first | rfl | cases this
  refine ⟨x, a', rest', hx, v3, v4, v5, fun r => call_run ?_ nb⟩
  have ixd : ∀ S, idxS S (.lst xs) (.int v) = some x := fun S => ex
  simp [m_law_pick, arrM, arr, src1, varB, varF, startR, N_law_pick, len_lst, e, ixd, nb]
def dkF (m : Int) (B W : D) : List (Str × D) := [("many", .int m), ("blocks", B), ("writes", W), ("left", .non)]
def Dk (S : Sto) (k : Nat) (m : Int) (bs ws : List D) : Prop := S[k]? = some (.ins 0 (dkF m (.own bs) (.own ws)))
section
variable {S : Sto} {k : Nat} {m : Int} {B W : D}
theorem a_many (h : S[k]? = some (.ins 0 (dkF m B W))) : fldAt isF "many" k S = some (0, dkF m B W, .int m) := by unfold fldAt; rw [h]; rfl
theorem a_blocks (h : S[k]? = some (.ins 0 (dkF m B W))) : fldAt isF "blocks" k S = some (0, dkF m B W, B) := by unfold fldAt; rw [h]; rfl
theorem a_writes (h : S[k]? = some (.ins 0 (dkF m B W))) : fldAt isF "writes" k S = some (0, dkF m B W, W) := by unfold fldAt; rw [h]; rfl
theorem a_left (h : S[k]? = some (.ins 0 (dkF m B W))) : fldAt isF "left" k S = some (0, dkF m B W, .non) := by unfold fldAt; rw [h]; rfl
theorem s_waiting {bs ws : List D} (h : Dk S k m bs ws) (r : Rho) : callM phi_Disk_waiting [.ob k] r S = .ok (.int ws.length) r S := by
  refine call_run ?_ rfl
  simp [m_Disk_waiting, startR, N_Disk_waiting, fldB_v, a_writes h, fldOut, lenD, seqD]
theorem s_kept {bs ws : List D} (h : Dk S k m bs ws) (r : Rho) : callM phi_Disk_kept [.ob k] r S = .ok (.tup bs) r S := by
  refine call_run ?_ rfl
  simp [m_Disk_kept, startR, N_Disk_kept, fldB_v, a_blocks h, fldOut, tupOfD, seqD]
end
theorem zipD_le : ∀ xs ys : List D, (zipD xs ys).length ≤ xs.length
  | [], _ => by simp [zipD]
  | _ :: _, [] => by simp [zipD]
  | x :: xs, y :: ys => by simp [zipD, zipD_le xs ys]
theorem s_is_lot (ls : List Int) (m : Int) (h1 : ∀ i ∈ ls, 0 ≤ i ∧ i ≤ m - 1) (h2 : ∀ (j : Nat) a b, ls[j]? = some a → ls[j + 1]? = some b → a < b) (hl : ls.length ≤ 1000) (r : Rho) (S : Sto) : callM phi_is_lot [.lst (numsD ls), .int m] r S = .ok (.bl true) r S := by
  refine call_run ?_ rfl
  have e : startR N_is_lot [.lst (numsD ls), .int m] = [some (.lst (numsD ls)), some (.int m), none, none, none] := rfl
  rw [e]
  have c1 : mLc (mIter true (varB 0)) (.nm 2) mYes (mCall phi_is_within [.p 0, .p 1, .p 2] [] 3 (mCons (varF 2) (mCons (M.ret (.int 0)) (mCons (frz (mBin subD (varB 1) (M.ret (.int 1)))) mNil))) mNil) [2] [some (.lst (numsD ls)), some (.int m), none, none, none] S = .ok (.own ((numsD ls).flatMap fun _ => [.bl true])) [some (.lst (numsD ls)), some (.int m), none, none, none] S := by
    refine mLc_run (g := fun _ => [.bl true]) (by simp [mIter, varB, itemsD, seqD]) (fun d hd acc ha => ?_) (fun d _ => by simp) (by simp [numsD, lim]; omega)
    obtain ⟨i, hi, rfl⟩ := List.mem_map.mp hd
    obtain ⟨b1, b2⟩ := h1 i hi
    simp [lcTurn, setT, wipeR, mYes, varF, varB, arrM, arr, src1, s_is_within, b1, b2, ha]
  have t1 := all_true (xs := (numsD ls).flatMap fun _ => [D.bl true]) (fun x hx => by
    obtain ⟨y, _, hy⟩ := List.mem_flatMap.mp hx
    simpa using hy)
  have hz : ∀ d ∈ zipD (numsD ls) (cutG (numsD ls) (some 1) none), ∃ a b : Int, a < b ∧ d = .tup [.int a, .int b] := fun d hd => by
    obtain ⟨j, hj, ej⟩ := List.mem_iff_getElem.mp hd
    obtain ⟨x, y, e1, e2, e3⟩ := zipD_get (List.getElem?_eq_some_iff.mpr ⟨hj, ej⟩)
    rw [cut1, List.getElem?_drop] at e2
    unfold numsD at e1 e2
    rw [List.getElem?_map] at e1 e2
    obtain ⟨a, a1, rfl⟩ := Option.map_eq_some_iff.mp e1
    obtain ⟨b, b1, rfl⟩ := Option.map_eq_some_iff.mp e2
    exact ⟨a, b, h2 j a b a1 (by rw [Nat.add_comm]; exact b1), e3⟩
  have c2 : mLc (mZip true (mCons (varF 0) (mCons (frz (mSl (varB 0) (mPart (M.ret (.int 1))) (M.ret none))) mNil))) (.tp [.nm 3, .nm 4]) mYes (mBin ltD (varB 3) (varB 4)) [3, 4] [some (.lst (numsD ls)), some (.int m), none, none, none] S = .ok (.own ((zipD (numsD ls) (cutG (numsD ls) (some 1) none)).flatMap fun _ => [.bl true])) [some (.lst (numsD ls)), some (.int m), none, none, none] S := by
    refine mLc_run (g := fun _ => [.bl true]) (by simp [mZip, mSl, mPart, varB, varF, sliceD, seqD, isTupD]) (fun d hd acc ha => ?_) (fun d _ => by simp) (Nat.le_trans (zipD_le _ _) (by simp [numsD, lim]; omega))
    obtain ⟨a, b, hab, rfl⟩ := hz d hd
    simp [lcTurn, setT, setTs, wipeR, mYes, varF, varB, hab, ha]
  have t2 := all_true (xs := (zipD (numsD ls) (cutG (numsD ls) (some 1) none)).flatMap fun _ => [D.bl true]) (fun x hx => by
    obtain ⟨y, _, hy⟩ := List.mem_flatMap.mp hx
    simpa using hy)
  unfold m_is_lot
  simp [c1, c2, t1, t2, varB, tyD, isAny]
def Lot (ls : List Int) (m : Int) : Prop := (∀ i ∈ ls, 0 ≤ i ∧ i ≤ m - 1) ∧ (∀ (j : Nat) a b, ls[j]? = some a → ls[j + 1]? = some b → a < b) ∧ ls.length ≤ 1000
theorem s_need_lot {ls : List Int} {m : Int} (h : Lot ls m) (p : Str) (r : Rho) (S : Sto) : callM phi_need_lot [.lst (numsD ls), .str p, .int m] r S = .ok (.tup (numsD ls)) r S := by
  refine call_run ?_ rfl
  simp [m_need_lot, varB, varF, startR, N_need_lot, arrM, arr, src1, s_is_lot ls m h.1 h.2.1 h.2.2, tupOfD, seqD]
theorem flat_nums (ls : List Int) : (numsD ls).all flatD = true := by
  unfold numsD
  rw [List.all_map]
  exact List.all_eq_true.mpr fun i _ => rfl
theorem any_nums (ls : List Int) (i : Int) : ((numsD ls).any fun z => eqFlat z (.int i)) = decide (i ∈ ls) := by
  induction ls with
  | nil => simp [numsD]
  | cons a r ih =>
    have e : numsD (a :: r) = .int a :: numsD r := rfl
    rw [e, List.any_cons, ih]
    have ea : eqFlat (.int a) (.int i) = decide (a = i) := by
      show (a == i) = _
      by_cases h : a = i <;> simp [h]
    rw [ea]
    by_cases h : a = i
    · simp [h]
    · simp [h, Ne.symm h]
theorem in_nums {y : D} {ls : List Int} (h : seqD y = some (numsD ls)) (i : Int) : inD (.int i) y = some (.bl (decide (i ∈ ls))) := by
  unfold inD inB
  cases y <;> first
    | (cases h; done)
    | (simp only [h, flat_nums, any_nums]; simp [flatD])
def bStep (L T : List Int) (acc : List D) (i : Int) (a : Nat) (b : D) : List D := if i ∈ L then acc.set a b else if i ∈ T then acc.set a (.tup []) else acc
def behind (L T : List Int) : List D → Int → List (Nat × D) → List D
  | acc, _, [] => acc
  | acc, i, (a, b) :: ws => behind L T (bStep L T acc i a b) (i + 1) ws
def wsD (ws : List (Nat × D)) : List D := ws.map fun p => .tup [.int (p.1 : Nat), p.2]
theorem bStep_len (L T : List Int) (acc : List D) (i : Int) (a : Nat) (b : D) : (bStep L T acc i a b).length = acc.length := by
  unfold bStep
  split
  · exact List.length_set
  · split
    · exact List.length_set
    · rfl
theorem behind_len (L T : List Int) : ∀ (ws : List (Nat × D)) (acc : List D) (i : Int), (behind L T acc i ws).length = acc.length
  | [], _, _ => rfl
  | (a, b) :: ws, acc, i => by rw [behind, behind_len L T ws, bStep_len]
theorem varB_at {r : Rho} {S : Sto} {i : Nat} {d : D} (h : r[i]? = some (some d)) (hd : ∀ xs, d ≠ .own xs) : varB i r S = .ok d r S := by
  unfold varB
  rw [h]
  cases d <;> first | rfl | exact absurd rfl (hd _)
def bbBody : M Fl := mIfS (mTru (mBin inD (varB 5) (varB 2))) (mSetIV 4 (varB 6) (varF 7)) (mIfS (mTru (mBin inD (varB 5) (varB 3))) (mSetIV 4 (varB 6) (mTup (mNil))) (M.ret .nx))
theorem bb_loop {B W Lv Tv : D} {L T : List Int} (hL : seqD Lv = some (numsD L)) (hT : seqD Tv = some (numsD T)) (bL : ∀ xs, Lv ≠ .own xs) (bT : ∀ xs, Tv ≠ .own xs) {S : Sto} : ∀ (ws : List (Nat × D)) (acc : List D) (i : Nat) (x5 x6 x7 : Option D), (∀ p ∈ ws, p.1 < acc.length ∧ frO p.2 = true) →
    ∃ y5 y6 y7, forLoop (.tp [.nm 5, .tp [.nm 6, .nm 7]]) bbBody (enumD i (wsD ws)) [some B, some W, some Lv, some Tv, some (.own acc), x5, x6, x7] S = .ok .nx [some B, some W, some Lv, some Tv, some (.own (behind L T acc i ws)), y5, y6, y7] S
  | [], acc, i, x5, x6, x7, _ => ⟨x5, x6, x7, rfl⟩
  | (a, b) :: ws, acc, i, x5, x6, x7, h => by
    obtain ⟨ha, hb⟩ := h (a, b) List.mem_cons_self
    obtain ⟨y5, y6, y7, e⟩ := bb_loop (B := B) (W := W) hL hT bL bT (S := S) ws (bStep L T acc i a b) (i + 1) (some (.int (i : Nat))) (some (.int (a : Nat))) (some b) fun p hp => by rw [bStep_len]; exact h p (List.mem_cons_of_mem _ hp)
    refine ⟨y5, y6, y7, ?_⟩
    have e0 : enumD i (wsD ((a, b) :: ws)) = .tup [.int (i : Nat), .tup [.int (a : Nat), b]] :: enumD (i + 1) (wsD ws) := rfl
    have es : setT (.tp [.nm 5, .tp [.nm 6, .nm 7]]) (.tup [.int (i : Nat), .tup [.int (a : Nat), b]]) [some B, some W, some Lv, some Tv, some (.own acc), x5, x6, x7] = some [some B, some W, some Lv, some Tv, some (.own acc), some (.int (i : Nat)), some (.int (a : Nat)), some b] := by simp [setT, setTs]
    have eb : bbBody [some B, some W, some Lv, some Tv, some (.own acc), some (.int (i : Nat)), some (.int (a : Nat)), some b] S = .ok .nx [some B, some W, some Lv, some Tv, some (.own (bStep L T acc i a b)), some (.int (i : Nat)), some (.int (a : Nat)), some b] S := by
      have vL := varB_at (S := S) (i := 2) (r := [some B, some W, some Lv, some Tv, some (.own acc), some (.int (i : Nat)), some (.int (a : Nat)), some b]) rfl bL
      have vT := varB_at (S := S) (i := 3) (r := [some B, some W, some Lv, some Tv, some (.own acc), some (.int (i : Nat)), some (.int (a : Nat)), some b]) rfl bT
      have v5 := varB_at (S := S) (i := 5) (r := [some B, some W, some Lv, some Tv, some (.own acc), some (.int (i : Nat)), some (.int (a : Nat)), some b]) rfl (fun xs z => by cases z)
      have v6 := varB_at (S := S) (i := 6) (r := [some B, some W, some Lv, some Tv, some (.own acc), some (.int (i : Nat)), some (.int (a : Nat)), some b]) rfl (fun xs z => by cases z)
      have f7 : varF 7 [some B, some W, some Lv, some Tv, some (.own acc), some (.int (i : Nat)), some (.int (a : Nat)), some b] S = .ok b [some B, some W, some Lv, some Tv, some (.own acc), some (.int (i : Nat)), some (.int (a : Nat)), some b] S := by
        unfold varF
        cases b <;> first | rfl | (cases hb)
      have ix : ixN acc.length (a : Int) = some a := by
        unfold ixN
        rw [if_pos (by omega), if_pos (by have := ha; simp only at this; omega)]
        simp
      have nb : borD b = false := by cases b <;> first | rfl | (cases hb)
      unfold bbBody bStep
      by_cases h1 : (i : Int) ∈ L
      · simp [vL, v5, v6, f7, in_nums hL, h1, mSetIV, slotL, ix, show frO b = true from hb]
      · by_cases h2 : (i : Int) ∈ T
        · simp [vL, vT, v5, v6, f7, in_nums hL, in_nums hT, h1, h2, mSetIV, slotL, ix]
        · simp [vL, vT, v5, v6, f7, in_nums hL, in_nums hT, h1, h2]
    rw [e0, forLoop]
    simp only [es, eb]
    exact e
theorem s_behind {bs : List D} {ws : List (Nat × D)} {Lv Tv : D} {L T : List Int} (hL : seqD Lv = some (numsD L)) (hT : seqD Tv = some (numsD T)) (bL : frO Lv = true) (bT : frO Tv = true) (h : ∀ p ∈ ws, p.1 < bs.length ∧ frO p.2 = true) (r : Rho) (S : Sto) :
    callM phi_blocks_behind [.lst bs, .lst (wsD ws), Lv, Tv] r S = .ok (.own (behind L T bs 0 ws)) r S := by
  refine call_run ?_ rfl
  have e : startR N_blocks_behind [.lst bs, .lst (wsD ws), Lv, Tv] = [some (.lst bs), some (.lst (wsD ws)), some Lv, some Tv, none, none, none, none] := rfl
  rw [e]
  obtain ⟨y5, y6, y7, el⟩ := bb_loop (B := .lst bs) (W := .lst (wsD ws)) (S := S) hL hT (fun xs z => by subst z; cases bL) (fun xs z => by subst z; cases bT) ws bs 0 none none none h
  have em : m_blocks_behind = mSeq (mSetS 4 (mUn listOfD (varB 0))) (mSeq (mFor (.tp [.nm 5, .tp [.nm 6, .nm 7]]) (mEnum false (mCons (varF 1) (mNil))) bbBody) (mRetV 4)) := rfl
  rw [em]
  unfold bbBody at el
  simp only [Int.natCast_zero] at el
  simp [varB, varF, DD.listOfD, seqD, mFor, mEnum, bbBody, el, mRetV]
end LW

set_option Elab.async false
set_option linter.all false
set_option maxRecDepth 100000
set_option maxHeartbeats 4000000
namespace LW
open PySem PySem.Spec PyProof.Rows L2 DD
@[simp] theorem fi_0_many (x0 x1 x2 x3 : D) : fldIn isF "many" (some (.ins 0 [(("many" : Str), x0), (("blocks" : Str), x1), (("writes" : Str), x2), (("left" : Str), x3)])) = some (0, [(("many" : Str), x0), (("blocks" : Str), x1), (("writes" : Str), x2), (("left" : Str), x3)], x0) := rfl
@[simp] theorem pf_0_many (z : D) (x0 x1 x2 x3 : D) : putFD "many" z [(("many" : Str), x0), (("blocks" : Str), x1), (("writes" : Str), x2), (("left" : Str), x3)] = [(("many" : Str), z), (("blocks" : Str), x1), (("writes" : Str), x2), (("left" : Str), x3)] := rfl
@[simp] theorem si_0_many (k : Nat) (d : D) (x0 x1 x2 x3 : D) (r : Rho) (S : Sto) : setIn isF "many" k d (some (.ins 0 [(("many" : Str), x0), (("blocks" : Str), x1), (("writes" : Str), x2), (("left" : Str), x3)])) r S = if borD d = true then .no else .ok .nx r (S.set k (.ins 0 [(("many" : Str), d), (("blocks" : Str), x1), (("writes" : Str), x2), (("left" : Str), x3)])) := by cases d <;> rfl
@[simp] theorem fi_0_blocks (x0 x1 x2 x3 : D) : fldIn isF "blocks" (some (.ins 0 [(("many" : Str), x0), (("blocks" : Str), x1), (("writes" : Str), x2), (("left" : Str), x3)])) = some (0, [(("many" : Str), x0), (("blocks" : Str), x1), (("writes" : Str), x2), (("left" : Str), x3)], x1) := rfl
@[simp] theorem pf_0_blocks (z : D) (x0 x1 x2 x3 : D) : putFD "blocks" z [(("many" : Str), x0), (("blocks" : Str), x1), (("writes" : Str), x2), (("left" : Str), x3)] = [(("many" : Str), x0), (("blocks" : Str), z), (("writes" : Str), x2), (("left" : Str), x3)] := rfl
@[simp] theorem si_0_blocks (k : Nat) (d : D) (x0 x1 x2 x3 : D) (r : Rho) (S : Sto) : setIn isF "blocks" k d (some (.ins 0 [(("many" : Str), x0), (("blocks" : Str), x1), (("writes" : Str), x2), (("left" : Str), x3)])) r S = if borD d = true then .no else .ok .nx r (S.set k (.ins 0 [(("many" : Str), x0), (("blocks" : Str), d), (("writes" : Str), x2), (("left" : Str), x3)])) := by cases d <;> rfl
@[simp] theorem fi_0_writes (x0 x1 x2 x3 : D) : fldIn isF "writes" (some (.ins 0 [(("many" : Str), x0), (("blocks" : Str), x1), (("writes" : Str), x2), (("left" : Str), x3)])) = some (0, [(("many" : Str), x0), (("blocks" : Str), x1), (("writes" : Str), x2), (("left" : Str), x3)], x2) := rfl
@[simp] theorem pf_0_writes (z : D) (x0 x1 x2 x3 : D) : putFD "writes" z [(("many" : Str), x0), (("blocks" : Str), x1), (("writes" : Str), x2), (("left" : Str), x3)] = [(("many" : Str), x0), (("blocks" : Str), x1), (("writes" : Str), z), (("left" : Str), x3)] := rfl
@[simp] theorem si_0_writes (k : Nat) (d : D) (x0 x1 x2 x3 : D) (r : Rho) (S : Sto) : setIn isF "writes" k d (some (.ins 0 [(("many" : Str), x0), (("blocks" : Str), x1), (("writes" : Str), x2), (("left" : Str), x3)])) r S = if borD d = true then .no else .ok .nx r (S.set k (.ins 0 [(("many" : Str), x0), (("blocks" : Str), x1), (("writes" : Str), d), (("left" : Str), x3)])) := by cases d <;> rfl
@[simp] theorem fi_0_left (x0 x1 x2 x3 : D) : fldIn isF "left" (some (.ins 0 [(("many" : Str), x0), (("blocks" : Str), x1), (("writes" : Str), x2), (("left" : Str), x3)])) = some (0, [(("many" : Str), x0), (("blocks" : Str), x1), (("writes" : Str), x2), (("left" : Str), x3)], x3) := rfl
@[simp] theorem pf_0_left (z : D) (x0 x1 x2 x3 : D) : putFD "left" z [(("many" : Str), x0), (("blocks" : Str), x1), (("writes" : Str), x2), (("left" : Str), x3)] = [(("many" : Str), x0), (("blocks" : Str), x1), (("writes" : Str), x2), (("left" : Str), z)] := rfl
@[simp] theorem si_0_left (k : Nat) (d : D) (x0 x1 x2 x3 : D) (r : Rho) (S : Sto) : setIn isF "left" k d (some (.ins 0 [(("many" : Str), x0), (("blocks" : Str), x1), (("writes" : Str), x2), (("left" : Str), x3)])) r S = if borD d = true then .no else .ok .nx r (S.set k (.ins 0 [(("many" : Str), x0), (("blocks" : Str), x1), (("writes" : Str), x2), (("left" : Str), d)])) := by cases d <;> rfl
@[simp] theorem sp_0_many (k : Nat) (d : D) (r : Rho) (S : Sto) : setIn isF "many" k d (some (.ins 0 [])) r S = if borD d = true then .no else .ok .nx r (S.set k (.ins 0 [(("many" : Str), d)])) := by cases d <;> rfl
@[simp] theorem sp_0_blocks (k : Nat) (d : D) (x0 : D) (r : Rho) (S : Sto) : setIn isF "blocks" k d (some (.ins 0 [(("many" : Str), x0)])) r S = if borD d = true then .no else .ok .nx r (S.set k (.ins 0 [(("many" : Str), x0), (("blocks" : Str), d)])) := by cases d <;> rfl
@[simp] theorem sp_0_writes (k : Nat) (d : D) (x0 x1 : D) (r : Rho) (S : Sto) : setIn isF "writes" k d (some (.ins 0 [(("many" : Str), x0), (("blocks" : Str), x1)])) r S = if borD d = true then .no else .ok .nx r (S.set k (.ins 0 [(("many" : Str), x0), (("blocks" : Str), x1), (("writes" : Str), d)])) := by cases d <;> rfl
@[simp] theorem sp_0_left (k : Nat) (d : D) (x0 x1 x2 : D) (r : Rho) (S : Sto) : setIn isF "left" k d (some (.ins 0 [(("many" : Str), x0), (("blocks" : Str), x1), (("writes" : Str), x2)])) r S = if borD d = true then .no else .ok .nx r (S.set k (.ins 0 [(("many" : Str), x0), (("blocks" : Str), x1), (("writes" : Str), x2), (("left" : Str), d)])) := by cases d <;> rfl
@[simp] theorem mi_0_left_by (mt : Nat → Option MI) (k : Nat) (ma mk : M (List D)) (x0 x1 x2 x3 : D) (r : Rho) (S : Sto) : methIn "left_by" mt k ma mk (some (.ins 0 [(("many" : Str), x0), (("blocks" : Str), x1), (("writes" : Str), x2), (("left" : Str), x3)])) r S = methGo (mt 0) k ma mk r S := methIn_go rfl
@[simp] theorem mi_0_cut (mt : Nat → Option MI) (k : Nat) (ma mk : M (List D)) (x0 x1 x2 x3 : D) (r : Rho) (S : Sto) : methIn "cut" mt k ma mk (some (.ins 0 [(("many" : Str), x0), (("blocks" : Str), x1), (("writes" : Str), x2), (("left" : Str), x3)])) r S = methGo (mt 0) k ma mk r S := methIn_go rfl
@[simp] theorem mi_0_spend (mt : Nat → Option MI) (k : Nat) (ma mk : M (List D)) (x0 x1 x2 x3 : D) (r : Rho) (S : Sto) : methIn "spend" mt k ma mk (some (.ins 0 [(("many" : Str), x0), (("blocks" : Str), x1), (("writes" : Str), x2), (("left" : Str), x3)])) r S = methGo (mt 0) k ma mk r S := methIn_go rfl
@[simp] theorem mi_0_write (mt : Nat → Option MI) (k : Nat) (ma mk : M (List D)) (x0 x1 x2 x3 : D) (r : Rho) (S : Sto) : methIn "write" mt k ma mk (some (.ins 0 [(("many" : Str), x0), (("blocks" : Str), x1), (("writes" : Str), x2), (("left" : Str), x3)])) r S = methGo (mt 0) k ma mk r S := methIn_go rfl
@[simp] theorem mi_0_flush (mt : Nat → Option MI) (k : Nat) (ma mk : M (List D)) (x0 x1 x2 x3 : D) (r : Rho) (S : Sto) : methIn "flush" mt k ma mk (some (.ins 0 [(("many" : Str), x0), (("blocks" : Str), x1), (("writes" : Str), x2), (("left" : Str), x3)])) r S = methGo (mt 0) k ma mk r S := methIn_go rfl
@[simp] theorem mi_0_fuse (mt : Nat → Option MI) (k : Nat) (ma mk : M (List D)) (x0 x1 x2 x3 : D) (r : Rho) (S : Sto) : methIn "fuse" mt k ma mk (some (.ins 0 [(("many" : Str), x0), (("blocks" : Str), x1), (("writes" : Str), x2), (("left" : Str), x3)])) r S = methGo (mt 0) k ma mk r S := methIn_go rfl
@[simp] theorem mi_0_no_fuse (mt : Nat → Option MI) (k : Nat) (ma mk : M (List D)) (x0 x1 x2 x3 : D) (r : Rho) (S : Sto) : methIn "no_fuse" mt k ma mk (some (.ins 0 [(("many" : Str), x0), (("blocks" : Str), x1), (("writes" : Str), x2), (("left" : Str), x3)])) r S = methGo (mt 0) k ma mk r S := methIn_go rfl
@[simp] theorem mi_0_waiting (mt : Nat → Option MI) (k : Nat) (ma mk : M (List D)) (x0 x1 x2 x3 : D) (r : Rho) (S : Sto) : methIn "waiting" mt k ma mk (some (.ins 0 [(("many" : Str), x0), (("blocks" : Str), x1), (("writes" : Str), x2), (("left" : Str), x3)])) r S = methGo (mt 0) k ma mk r S := methIn_go rfl
@[simp] theorem mi_0_look (mt : Nat → Option MI) (k : Nat) (ma mk : M (List D)) (x0 x1 x2 x3 : D) (r : Rho) (S : Sto) : methIn "look" mt k ma mk (some (.ins 0 [(("many" : Str), x0), (("blocks" : Str), x1), (("writes" : Str), x2), (("left" : Str), x3)])) r S = methGo (mt 0) k ma mk r S := methIn_go rfl
@[simp] theorem mi_0_kept (mt : Nat → Option MI) (k : Nat) (ma mk : M (List D)) (x0 x1 x2 x3 : D) (r : Rho) (S : Sto) : methIn "kept" mt k ma mk (some (.ins 0 [(("many" : Str), x0), (("blocks" : Str), x1), (("writes" : Str), x2), (("left" : Str), x3)])) r S = methGo (mt 0) k ma mk r S := methIn_go rfl

abbrev blk (b : List Int) : D := .tup (numsD b)
def bsD (bs : List (List Int)) : List D := bs.map blk
abbrev Wr := Nat × List Int
def wD (ws : List Wr) : List D := ws.map fun p => .tup [.int (p.1 : Nat), blk p.2]
def dk (m : Nat) (bs : List (List Int)) (ws : List Wr) : Ob := .ins 0 [(("many" : Str), .int m), (("blocks" : Str), .own (bsD bs)), (("writes" : Str), .own (wD ws)), (("left" : Str), .non)]
def cutB (L T : List Int) : List (List Int) → Int → List Wr → List (List Int)
  | acc, _, [] => acc
  | acc, i, (a, b) :: ws => cutB L T (if i ∈ L then acc.set a b else if i ∈ T then acc.set a [] else acc) (i + 1) ws
theorem cutB_len (L T : List Int) : ∀ (ws : List Wr) (acc : List (List Int)) (i : Int), (cutB L T acc i ws).length = acc.length
  | [], _, _ => rfl
  | (a, b) :: ws, acc, i => by
    rw [cutB, cutB_len L T ws]
    split
    · exact List.length_set
    · split
      · exact List.length_set
      · rfl
theorem behind_cutB (L T : List Int) : ∀ (ws : List Wr) (acc : List (List Int)) (i : Int), behind L T (bsD acc) i (ws.map fun p => (p.1, blk p.2)) = bsD (cutB L T acc i ws)
  | [], _, _ => rfl
  | (a, b) :: ws, acc, i => by
    rw [List.map_cons, behind, cutB, ← behind_cutB L T ws]
    congr 1
    unfold bStep bsD
    split
    · rw [List.map_set]
    · split
      · rw [List.map_set]; rfl
      · rfl
theorem wsD_wD (ws : List Wr) : wsD (ws.map fun p => (p.1, blk p.2)) = wD ws := by
  unfold wsD wD; rw [List.map_map]; rfl
theorem set_at {S : Sto} {k : Nat} {o : Ob} (h : S[k]? = some o) : ∀ o', (S.set k o')[k]? = some o' := fun o' => List.getElem?_set_self (List.getElem?_eq_some_iff.mp h).1
section
variable {S : Sto} {k m : Nat} {bs : List (List Int)} {ws : List Wr}
theorem s_bb {Lv Tv : D} {L T : List Int} (hL : seqD Lv = some (numsD L)) (hT : seqD Tv = some (numsD T)) (bL : frO Lv = true) (bT : frO Tv = true) (h : ∀ p ∈ ws, p.1 < bs.length) (r : Rho) (S : Sto) :
    callM phi_blocks_behind [.lst (bsD bs), .lst (wD ws), Lv, Tv] r S = .ok (.own (bsD (cutB L T bs 0 ws))) r S := by
  have z := s_behind (bs := bsD bs) (ws := ws.map fun p => (p.1, blk p.2)) hL hT bL bT (fun p hp => by
    obtain ⟨q, hq, rfl⟩ := List.mem_map.mp hp
    exact ⟨by simpa [bsD] using h q hq, rfl⟩) r S
  rw [wsD_wD, behind_cutB] at z
  exact z
@[simp] theorem len_own (xs : List D) : lenD (.own xs) = some (.int xs.length) := rfl
@[simp] theorem len_bor (xs : List D) : lenD (.bor xs) = some (.int xs.length) := rfl
@[simp] theorem len_tup (xs : List D) : lenD (.tup xs) = some (.int xs.length) := rfl
@[simp] theorem wD_len (ws : List Wr) : (wD ws).length = ws.length := by simp [wD]
@[simp] theorem bsD_len (bs : List (List Int)) : (bsD bs).length = bs.length := by simp [bsD]
@[simp] theorem nums_len (b : List Int) : (numsD b).length = b.length := by simp [numsD]
theorem s_left_by (h : S[k]? = some (dk m bs ws)) {L T : List Int} (hL : Lot L ws.length) (hT : Lot T ws.length) (hd : ∀ i ∈ L, i ∉ T) (hw : ∀ p ∈ ws, p.1 < bs.length) (r : Rho) :
    callM phi_Disk_left_by [.ob k, .lst (numsD L), .lst (numsD T)] r S = .ok (.own (bsD (cutB L T bs 0 ws))) r (S.set k (.ins 0 [(("many" : Str), .int m), (("blocks" : Str), .lst (bsD bs)), (("writes" : Str), .lst (wD ws)), (("left" : Str), .non)])) := by
  refine call_run ?_ rfl
  have hs := set_at h
  have e : startR N_Disk_left_by [.ob k, .lst (numsD L), .lst (numsD T)] = [some (.ob k), some (.lst (numsD L)), some (.lst (numsD T)), none, none, none] := rfl
  rw [e]
  have c1 : mLc (mIter true (varB 3)) (.nm 5) mYes (mBin inD (varB 5) (varB 4)) [5] [some (.ob k), some (.lst (numsD L)), some (.lst (numsD T)), some (.tup (numsD L)), some (.tup (numsD T)), none] S = .ok (.own ((numsD L).flatMap fun _ => [.bl false])) [some (.ob k), some (.lst (numsD L)), some (.lst (numsD T)), some (.tup (numsD L)), some (.tup (numsD T)), none] S := by
    refine mLc_run (g := fun _ => [.bl false]) (by simp [mIter, varB, itemsD, seqD]) (fun d hd' acc ha => ?_) (fun d _ => by simp) (by simp [lim]; have := hL.2.2; omega)
    obtain ⟨i, hi, rfl⟩ := List.mem_map.mp hd'
    simp [lcTurn, setT, wipeR, mYes, varF, varB, in_nums (y := .tup (numsD T)) rfl, hd i hi, ha]
  have t1 := any_false (xs := (numsD L).flatMap fun _ => [D.bl false]) (fun x hx => by
    obtain ⟨y, _, hy⟩ := List.mem_flatMap.mp hx
    simpa using hy)
  unfold m_Disk_left_by
  simp [fldB_on, fldF_on, varF, varB, h, dk, fldOut, len_bor, arrM, arr, src1, s_need_lot hL, s_need_lot hT, c1, t1, hs, s_bb (Lv := .tup (numsD L)) (Tv := .tup (numsD T)) (L := L) (T := T) rfl rfl rfl rfl hw]
theorem s_cut (h : S[k]? = some (dk m bs ws)) {L T : List Int} (hL : Lot L ws.length) (hT : Lot T ws.length) (hd : ∀ i ∈ L, i ∉ T) (hw : ∀ p ∈ ws, p.1 < bs.length) (r : Rho) :
    callM phi_Disk_cut [.ob k, .lst (numsD L), .lst (numsD T)] r S = .ok .non r (S.set k (dk m (cutB L T bs 0 ws) [])) := by
  refine call_run ?_ rfl
  have hs := set_at h
  have e : startR N_Disk_cut [.ob k, .lst (numsD L), .lst (numsD T)] = [some (.ob k), some (.lst (numsD L)), some (.lst (numsD T))] := rfl
  rw [e]
  unfold m_Disk_cut
  have h' := h
  unfold dk at h'
  simp [mSetF_on, mMeth_on, fldB_on, fldF_on, varF, varB, h', mtL, List.lookup, fldOut, arrM, arr, src1, s_left_by h hL hT hd hw, hs]
  rfl
end
end LW

set_option Elab.async false
set_option linter.all false
set_option maxRecDepth 100000
set_option maxHeartbeats 4000000
namespace LW
open PySem PySem.Spec PyProof.Rows L2 DD
section
variable {S : Sto} {k m : Nat} {bs : List (List Int)} {ws : List Wr}
theorem s_spend (h : S[k]? = some (dk m bs ws)) (r : Rho) : callM phi_Disk_spend [.ob k] r S = .ok .non r S := by
  refine call_run ?_ rfl
  unfold dk at h
  simp [m_Disk_spend, startR, N_Disk_spend, fldB_on, varF, varB, h, fldOut, isNotD, isB, isNonD]
theorem s_is_block (b : List Int) (most : Int) (hl : b.length ≤ 1000) (r : Rho) (S : Sto) : callM phi_is_block [blk b, .int most] r S = .ok (.bl (decide ((b.length : Int) ≤ most))) r S := by
  refine call_run ?_ rfl
  have e : startR N_is_block [blk b, .int most] = [some (blk b), some (.int most), none] := rfl
  rw [e]
  have c1 : mLc (mIter true (varB 0)) (.nm 2) mYes (mCall phi_is_integer [.p 0] [] 1 (mCons (varF 2) mNil) mNil) [2] [some (blk b), some (.int most), none] S = .ok (.own ((numsD b).flatMap fun _ => [.bl true])) [some (blk b), some (.int most), none] S := by
    refine mLc_run (g := fun _ => [.bl true]) (by simp [mIter, varB, itemsD, seqD, blk]) (fun d hd' acc ha => ?_) (fun d _ => by simp) (by simp [lim]; omega)
    obtain ⟨i, hi, rfl⟩ := List.mem_map.mp hd'
    simp [lcTurn, setT, wipeR, mYes, varF, varB, arrM, arr, src1, s_is_integer, ha]
  have t1 := all_true (xs := (numsD b).flatMap fun _ => [D.bl true]) (fun x hx => by
    obtain ⟨y, _, hy⟩ := List.mem_flatMap.mp hx
    simpa using hy)
  unfold m_is_block
  by_cases hm : (b.length : Int) ≤ most
  · simp [varB, blk, tyD, isAny, len_tup, hm]
    simp [c1, t1]
  · simp [varB, blk, tyD, isAny, len_tup, hm]
theorem s_write (h : S[k]? = some (dk m bs ws)) {a : Nat} (ha : a < m) {b : List Int} (hb : b.length ≤ 8) (hl : ws.length < lim) (r : Rho) :
    callM phi_Disk_write [.ob k, .int a, blk b] r S = .ok .non r (S.set k (dk m bs (ws ++ [(a, b)]))) := by
  refine call_run ?_ rfl
  have h' := h
  unfold dk at h'
  have nn := s_need_number (a : Int) 0 ((m : Int) - 1) "at" (by omega) (by omega)
  have ib := s_is_block b 8 (by omega)
  have e : startR N_Disk_write [.ob k, .int a, blk b] = [some (.ob k), some (.int a), some (blk b)] := rfl
  rw [e]
  have hb' : (b.length : Int) ≤ 8 := by omega
  have ap : mAppF isF 0 "writes" (mTup (mCons (varF 1) (mCons (frz (mUn tupOfD (varB 2))) mNil))) [some (.ob k), some (.int a), some (blk b)] S = .ok .nx [some (.ob k), some (.int a), some (blk b)] (S.set k (dk m bs (ws ++ [(a, b)]))) := by
    rw [mAppF_on (k := k) (d := .tup [.int a, blk b]) (ys := wD ws) (xs := wD ws) (r1 := [some (.ob k), some (.int a), some (blk b)]) (S1 := S) rfl ⟨_, _, by rw [h']; exact fi_0_writes _ _ _ _⟩ (by simp [varF, varB, blk, tupOfD, seqD, lim]) rfl (by rw [h']; exact fi_0_writes _ _ _ _) (by simpa using hl)]
    rw [pf_0_writes]
    unfold dk wD
    rw [List.map_append]
    rfl
  unfold m_Disk_write
  simp [mMeth_on, fldB_on, fldF_on, varF, varB, h', mtL, List.lookup, fldOut, arrM, arr, src1, nn, ib, hb', s_spend h, ap]

def landB (bs : List (List Int)) (ws : List Wr) : List (List Int) := ws.foldl (fun acc p => acc.set p.1 p.2) bs
theorem landB_len (bs : List (List Int)) (ws : List Wr) : (landB bs ws).length = bs.length := by
  unfold landB
  induction ws generalizing bs with
  | nil => rfl
  | cons p ws ih => rw [List.foldl_cons, ih, List.length_set]
theorem cutB_all (L T : List Int) : ∀ (ws : List Wr) (acc : List (List Int)) (i : Int), (∀ j : Int, i ≤ j → j < i + ws.length → j ∈ L) → cutB L T acc i ws = landB acc ws
  | [], _, _, _ => rfl
  | (a, b) :: ws, acc, i, h => by
    rw [cutB, if_pos (h i (by omega) (by simp only [List.length_cons]; omega)), cutB_all L T ws _ _ fun j h1 h2 => h j (by omega) (by simp only [List.length_cons]; omega)]
    rfl
def upI (n : Nat) : List Int := (List.range n).map fun k : Nat => (0 : Int) + (k : Int)
theorem ups_upI (n : Nat) : ups 0 n = numsD (upI n) := by
  unfold ups numsD upI
  rw [List.map_map]; rfl
theorem mem_upI {n : Nat} {j : Int} (h1 : 0 ≤ j) (h2 : j < n) : j ∈ upI n := by
  unfold upI
  exact List.mem_map.mpr ⟨j.toNat, List.mem_range.mpr (by omega), by omega⟩
theorem lstRg1_ok {n : Nat} (h : n ≤ 100000) : lstRg1 (.int n) = some (.own (ups 0 n)) := by
  have p24 : (2 : Nat) ^ 24 = 16777216 := by decide
  have z : rgOk 0 n = true := decide_eq_true (p := -(2 ^ 62) ≤ (0 : Int) ∧ (0 : Int) < 2 ^ 62 ∧ -(2 ^ 62) ≤ (n : Int) ∧ (n : Int) < 2 ^ 62 ∧ ((n : Int) - 0).toNat ≤ 2 ^ 24) ⟨by omega, by omega, by omega, by omega, by omega⟩
  unfold lstRg1
  simp only [z, if_true]
  rw [show ((n : Int) - 0).toNat = n by omega]
theorem s_flush (h : S[k]? = some (dk m bs ws)) (hw : ∀ p ∈ ws, p.1 < bs.length) (hl : ws.length ≤ 1000) (r : Rho) :
    callM phi_Disk_flush [.ob k] r S = .ok .non r (S.set k (dk m (landB bs ws) [])) := by
  refine call_run ?_ rfl
  have hs := set_at h
  have h' := h
  unfold dk at h'
  have e1 : lstRg1 (.int ws.length) = some (.own (numsD (upI ws.length))) := by
    rw [lstRg1_ok (by omega), ups_upI]
  have e2 := fun r S => s_bb (bs := bs) (ws := ws) (Lv := .lst (numsD (upI ws.length))) (Tv := .lst []) (L := upI ws.length) (T := []) rfl rfl rfl rfl hw r S
  rw [cutB_all _ _ ws bs 0 fun j h1 h2 => mem_upI h1 (by omega)] at e2
  have t0 : ∀ S', (S'[k]? = some (.ins 0 [(("many" : Str), .int m), (("blocks" : Str), .lst (bsD bs)), (("writes" : Str), .lst (wD ws)), (("left" : Str), .non)])) → mUn lstRg1 (mUn lenD (fldB isF "writes" (varF 0))) [some (.ob k)] S' = .ok (.own (numsD (upI ws.length))) [some (.ob k)] S' := fun S' hS' => by
    refine mUn_run (x := .int ws.length) ?_ e1
    refine mUn_run (x := .lst (wD ws)) ?_ (by rw [len_lst, wD_len])
    simp [fldB_on, varF, hS', fldOut]
  have t1 := t0 _ (hs _)
  simp [-mUn_ap, m_Disk_flush, startR, N_Disk_flush, t1, mSetF_on, mMeth_on, fldB_on, fldF_on, varF, varB, h', mtL, List.lookup, fldOut, arrM, arr, src1, s_spend h, hs, e2]
  rfl
theorem land_last (a : Nat) : ∀ (ws : List Wr) (bs : List (List Int)), a < bs.length → (landB bs ws)[a]? = (((ws.filter fun p => p.1 = a).map (·.2)).getLast?).or bs[a]?
  | [], bs, _ => by simp [landB]
  | (c, b) :: ws, bs, h => by
    have e : landB bs ((c, b) :: ws) = landB (bs.set c b) ws := rfl
    rw [e, land_last a ws _ (by rw [List.length_set]; exact h)]
    by_cases hc : c = a
    · subst hc
      rw [List.getElem?_set_self h]
      simp only [List.filter_cons, decide_true, if_true, List.map_cons]
      rw [List.getLast?_cons]
      cases ((ws.filter fun p => p.1 = c).map (·.2)).getLast? <;> rfl
    · rw [List.getElem?_set_ne hc]
      simp [List.filter_cons, hc]
theorem eqD_i (i j : Int) : eqD (.int i) (.int j) = some (.bl (decide (i = j))) := by
  unfold eqD eqB
  simp only [toP]
  have sh : ∀ x : Int, SeqAt.shaped (.int x) = true := fun x => by unfold SeqAt.shaped; simp [PyData.canLay0, PyData.depth]
  simp only [sh, Bool.and_self, if_true]
  simp only [PyData.eqv, Option.map_some]
  rfl
theorem neD_i (i j : Int) : neD (.int i) (.int j) = some (.bl (!decide (i = j))) := by
  unfold neD eqB
  simp only [toP]
  have sh : ∀ x : Int, SeqAt.shaped (.int x) = true := fun x => by unfold SeqAt.shaped; simp [PyData.canLay0, PyData.depth]
  simp only [sh, Bool.and_self, if_true]
  simp only [PyData.eqv, Option.map_some]
  rfl
def Sml (b : List Int) : Prop := b.length ≤ 8 ∧ ∀ i ∈ b, i.natAbs < 10 ^ 41
theorem good_blk {b : List Int} (h : Sml b) : goodD (blk b) = true := by
  show goodD (.tup (numsD b)) = true
  simp only [goodD]
  exact good_nums h.2
theorem dp_blk (b : List Int) : dpD (blk b) ≤ 1 := by
  show dpD (.tup (numsD b)) ≤ 1
  simp only [dpD]
  have := dp_nums b
  omega
theorem wt_blk {b : List Int} (h : Sml b) : wtD (blk b) ≤ 1112 := by
  show wtD (.tup (numsD b)) ≤ _
  simp only [wtD]
  have := wt_nums b
  have := h.1
  omega
theorem atI_last (xs : List D) (h : xs ≠ []) : atI xs (-1) = xs.getLast? := by
  unfold atI ixN
  have hp := List.length_pos_iff.mpr h
  rw [if_neg (by omega), if_pos (by omega)]
  rw [List.getLast?_eq_getElem?]
  show xs[((xs.length : Int) + -1).toNat]? = _
  congr 1
  omega
theorem s_look (h : S[k]? = some (dk m bs ws)) {a : Nat} (ha : a < m) (hm : bs.length = m) (hl : ws.length ≤ 1000) (hs : ∀ p ∈ ws, Sml p.2) {b : List Int} (hb : (landB bs ws)[a]? = some b) (r : Rho) :
    callM phi_Disk_look [.ob k, .int a] r S = .ok (blk b) r S := by
  refine call_run ?_ rfl
  have h' := h
  unfold dk at h'
  have nn := s_need_number (a : Int) 0 ((m : Int) - 1) "at" (by omega) (by omega)
  have e : startR N_Disk_look [.ob k, .int a] = [some (.ob k), some (.int a), none, none, none] := rfl
  rw [e]
  have c1 : mLc (mIter true (fldB isF "writes" (varF 0))) (.tp [.nm 3, .nm 4]) (mTru (mBin eqD (varB 3) (varB 1))) (varF 4) [3, 4] [some (.ob k), some (.int a), none, none, none] S = .ok (.own ((wD ws).flatMap fun d => match d with | .tup [.int c, b] => if c = a then [b] else [] | _ => [])) [some (.ob k), some (.int a), none, none, none] S := by
    refine mLc_run (by simp [mIter, fldB_on, varF, h', fldOut, itemsD, seqD]) (fun d hd acc hacc => ?_) (fun d hd => ?_) (by simp [lim]; omega)
    · obtain ⟨p, hp, rfl⟩ := List.mem_map.mp hd
      by_cases hc : p.1 = a
      · simp [lcTurn, setT, setTs, wipeR, varF, varB, eqD_i, hacc, hc]
      · have hc : ¬ (p.1 : Int) = a := by omega
        simp [lcTurn, setT, setTs, wipeR, varF, varB, eqD_i, hacc, hc]
    · obtain ⟨p, hp, rfl⟩ := List.mem_map.mp hd
      simp only
      split <;> simp
  have e1 : ((wD ws).flatMap fun d => match d with | .tup [.int c, b] => if c = a then [b] else [] | _ => []) = ((ws.filter fun p => p.1 = a).map (·.2)).map blk := by
    unfold wD
    clear c1 h h' hb hs hl
    induction ws with
    | nil => rfl
    | cons p ws ih =>
      simp only [List.map_cons, List.flatMap_cons, ih, List.filter_cons]
      by_cases hc : p.1 = a
      · simp [hc]
      · have hc2 : ¬ (p.1 : Int) = a := by omega
        simp [hc, hc2]
  rw [e1] at c1
  rw [land_last a ws bs (by omega)] at hb
  have hsm : ∀ b ∈ (ws.filter fun p => p.1 = a).map (·.2), Sml b := fun b hb => by
    obtain ⟨p, hp, rfl⟩ := List.mem_map.mp hb
    exact hs p (List.mem_filter.mp hp).1
  generalize hM : (ws.filter fun p => p.1 = a).map (·.2) = M at c1 hb hsm
  have ne := ne_empty (x := .own (M.map blk)) (.inl rfl) (goodDs_all fun d hd => by
      obtain ⟨b, hb, rfl⟩ := List.mem_map.mp hd
      exact good_blk (hsm b hb)) (Nat.le_trans (dpDs_le (w := 1) fun d hd => by
      obtain ⟨b, hb, rfl⟩ := List.mem_map.mp hd
      exact dp_blk b) (by omega))
  have ne2 := ne_empty (x := .bor (M.map blk)) (.inr (.inr rfl)) (goodDs_all fun d hd => by
      obtain ⟨b, hb, rfl⟩ := List.mem_map.mp hd
      exact good_blk (hsm b hb)) (Nat.le_trans (dpDs_le (w := 1) fun d hd => by
      obtain ⟨b, hb, rfl⟩ := List.mem_map.mp hd
      exact dp_blk b) (by omega))
  unfold m_Disk_look
  cases M with
  | nil =>
    simp only [List.map_nil] at c1 ne ne2
    have hb2 : bs[a]? = some b := by simpa using hb
    have ib : atI (bsD bs) (a : Int) = some (blk b) := by
      unfold atI ixN
      rw [if_pos (by omega), if_pos (by rw [bsD_len]; omega)]
      simp [bsD, hb2]
    simp [fldB_on, varF, varB, h', fldOut, arrM, arr, src1, nn, c1, ne, ne2, idxS, idxD, seqD, ib]
  | cons x r =>
    simp only [List.map_cons] at c1 ne ne2
    have hb2 : (x :: r).getLast? = some b := by
      cases hx : (x :: r).getLast? with
      | none => simp at hx
      | some y => rw [hx] at hb; simpa using hb
    have ib : atI ((x :: r).map blk) (-1) = some (blk b) := by
      rw [atI_last _ (by simp), List.getLast?_map, hb2]; rfl
    rw [List.map_cons] at ib
    simp [fldB_on, varF, varB, h', fldOut, arrM, arr, src1, nn, c1, ne, ne2, idxS, idxD, seqD, ib]
end
end LW

set_option Elab.async false
set_option linter.all false
set_option maxRecDepth 100000
set_option maxHeartbeats 4000000
namespace LW
open PySem PySem.Spec PyProof.Rows L2 DD
theorem at_last (S : Sto) (o : Ob) : (S ++ [o])[S.length]? = some o := by simp
theorem set_last (S : Sto) (o o' : Ob) : (S ++ [o]).set S.length o' = S ++ [o'] := by simp
section
variable {S : Sto} {k m : Nat} {bs : List (List Int)} {ws : List Wr}
theorem s_Disk_init (h : S[k]? = some (.ins 0 [])) (h1 : 4 ≤ m) (h2 : m ≤ 128) (r : Rho) : callM phi_Disk_init [.ob k, .int m] r S = .ok .non r (S.set k (dk m (List.replicate m []) [])) := by
  refine call_run ?_ rfl
  have hs := set_at h
  have nn := s_need_number (m : Int) 4 128 "many" (by omega) (by omega)
  have e : startR N_Disk_init [.ob k, .int m] = [some (.ob k), some (.int m), none] := rfl
  rw [e]
  have c1 : ∀ S, mLc (mRng1 (mCons (varF 1) (mNil))) (.nm 2) (mYes) (mTup (mNil)) [2] [some (.ob k), some (.int m), none] S = .ok (.own ((ups 0 m).flatMap fun _ => [.tup []])) [some (.ob k), some (.int m), none] S := fun S => by
    refine mLc_run (g := fun _ => [.tup []]) (mRng1_run (by simp [varF]) (by omega)) (fun d hd' acc ha => ?_) (fun d _ => by simp) (by simp [ups, lim]; omega)
    simp [lcTurn, setT, wipeR, mYes, ha]
  have e2 : ((ups 0 m).flatMap fun _ => [D.tup []]) = bsD (List.replicate m []) := by
    unfold ups bsD
    generalize hl : List.range m = l
    have hlen : l.length = m := by rw [← hl, List.length_range]
    clear hl c1 nn h1 h2 e hs
    subst hlen
    induction l with
    | nil => rfl
    | cons a l ih => simp only [List.map_cons, List.flatMap_cons, ih]; rfl
  rw [e2] at c1
  unfold m_Disk_init
  simp [mSetF_on, varF, h, hs, arrM, arr, src1, nn, c1]
  rfl
end
end LW

set_option Elab.async false
set_option linter.all false
set_option maxRecDepth 100000
set_option maxHeartbeats 4000000
namespace LW
open PySem PySem.Spec PyProof.Rows L2 DD
theorem w_within (i lo : Int) (h : lo ≤ i) (r : Rho) (S : Sto) : callM phi_is_within [.int i, .int lo, .non] r S = .ok (.bl true) r S := by
  refine call_run ?_ rfl
  simp [m_is_within, arrM, arr, src1, s_is_integer, varB, varF, startR, N_is_within, h, isB, isNonD, isD]
theorem w_need (i lo : Int) (p : Str) (h : lo ≤ i) (r : Rho) (S : Sto) : callM phi_need_number [.int i, .str p, .int lo, .non] r S = .ok .non r S := by
  refine call_run ?_ rfl
  simp [m_need_number, arrM, arr, src1, w_within i lo h, varB, varF, startR, N_need_number]
def lfD : Option Nat → D
  | none => .non
  | some n => .int ((n : Int) + 1)
def dkf (m : Nat) (bs : List (List Int)) (ws : List Wr) (lf : Option Nat) : Ob := .ins 0 [(("many" : Str), .int m), (("blocks" : Str), .own (bsD bs)), (("writes" : Str), .own (wD ws)), (("left" : Str), lfD lf)]
theorem dk_dkf (m : Nat) (bs : List (List Int)) (ws : List Wr) : dk m bs ws = dkf m bs ws none := rfl
abbrev outE : Ex := ⟨"Out", []⟩
def spn : Option Nat → Option (Option Nat)
  | none => some none
  | some 0 => none
  | some (n + 1) => some (some n)
section
variable {S : Sto} {k m : Nat} {bs : List (List Int)} {ws : List Wr} {lf lf' : Option Nat}
theorem f_spend (h : S[k]? = some (dkf m bs ws lf)) (e : spn lf = some lf') (r : Rho) : callM phi_Disk_spend [.ob k] r S = .ok .non r (S.set k (dkf m bs ws lf')) := by
  refine call_run ?_ rfl
  have hs := set_at h
  unfold dkf at h
  cases lf with
  | none =>
    cases e
    have h2 : S.set k (dkf m bs ws none) = S := set_same h
    rw [h2]
    simp [m_Disk_spend, startR, N_Disk_spend, fldB_on, varF, varB, h, fldOut, isNotD, isB, isNonD, lfD]
  | some n =>
    cases n with
    | zero => cases e
    | succ n =>
      cases e
      have h3 : ¬ ((n + 1 : Nat) : Int) + 1 = 1 := by omega
      have h4 : ((n : Int) + 1 + 1 - 1) = (n : Int) + 1 := by omega
      simp [m_Disk_spend, startR, N_Disk_spend, fldB_on, fldF_on, varF, varB, h, fldOut, isNotD, isB, isNonD, lfD, eqD_i, h3, mSetF_on]
      exact ⟨_, by rw [if_neg (by omega)]; rfl⟩
theorem x_spend (h : S[k]? = some (dkf m bs ws lf)) (e : spn lf = none) (r : Rho) : callM phi_Disk_spend [.ob k] r S = .exc outE r S := by
  have e0 : lf = some 0 := by
    cases lf with
    | none => cases e
    | some n => cases n with
      | zero => rfl
      | succ n => cases e
  subst e0
  unfold dkf at h
  refine call_exc (r' := startR N_Disk_spend [.ob k]) ?_
  simp [m_Disk_spend, startR, N_Disk_spend, fldB_on, fldF_on, varF, varB, h, fldOut, isNotD, isB, isNonD, lfD, eqD_i]
theorem f_write (h : S[k]? = some (dkf m bs ws lf)) (es : spn lf = some lf') {a : Nat} (ha : a < m) {b : List Int} (hb : b.length ≤ 8) (hl : ws.length < lim) (r : Rho) :
    callM phi_Disk_write [.ob k, .int a, blk b] r S = .ok .non r (S.set k (dkf m bs (ws ++ [(a, b)]) lf')) := by
  refine call_run ?_ rfl
  have h' := h
  unfold dkf at h'
  have nn := s_need_number (a : Int) 0 ((m : Int) - 1) "at" (by omega) (by omega)
  have ib := s_is_block b 8 (by omega)
  have e : startR N_Disk_write [.ob k, .int a, blk b] = [some (.ob k), some (.int a), some (blk b)] := rfl
  rw [e]
  have hb' : (b.length : Int) ≤ 8 := by omega
  have h1 : (S.set k (dkf m bs ws lf'))[k]? = some (dkf m bs ws lf') := set_at h _
  have ap : mAppF isF 0 "writes" (mTup (mCons (varF 1) (mCons (frz (mUn tupOfD (varB 2))) mNil))) [some (.ob k), some (.int a), some (blk b)] (S.set k (dkf m bs ws lf')) = .ok .nx [some (.ob k), some (.int a), some (blk b)] (S.set k (dkf m bs (ws ++ [(a, b)]) lf')) := by
    have h2 := h1
    unfold dkf at h2
    rw [mAppF_on (k := k) (d := .tup [.int a, blk b]) (ys := wD ws) (xs := wD ws) (r1 := [some (.ob k), some (.int a), some (blk b)]) (S1 := S.set k (dkf m bs ws lf')) rfl ⟨_, _, by rw [h1]; exact fi_0_writes _ _ _ _⟩ (by simp [varF, varB, blk, tupOfD, seqD, lim]) rfl (by rw [h1]; exact fi_0_writes _ _ _ _) (by simpa using hl)]
    unfold dkf
    rw [pf_0_writes]
    unfold wD
    rw [List.map_append, List.set_set]
    rfl
  have sp := f_spend h es
  unfold m_Disk_write
  simp [mMeth_on, fldB_on, fldF_on, varF, varB, h', mtL, List.lookup, fldOut, arrM, arr, src1, nn, ib, hb', sp, ap]
theorem x_write (h : S[k]? = some (dkf m bs ws lf)) (es : spn lf = none) {a : Nat} (ha : a < m) {b : List Int} (hb : b.length ≤ 8) (r : Rho) : callM phi_Disk_write [.ob k, .int a, blk b] r S = .exc outE r S := by
  have h' := h
  unfold dkf at h'
  have nn := s_need_number (a : Int) 0 ((m : Int) - 1) "at" (by omega) (by omega)
  have ib := s_is_block b 8 (by omega)
  have e : startR N_Disk_write [.ob k, .int a, blk b] = [some (.ob k), some (.int a), some (blk b)] := rfl
  have hb' : (b.length : Int) ≤ 8 := by omega
  have sp := x_spend h es
  refine call_exc (r' := [some (.ob k), some (.int a), some (blk b)]) ?_
  rw [e]
  unfold m_Disk_write
  simp [mMeth_on, fldB_on, fldF_on, varF, varB, h', mtL, List.lookup, fldOut, arrM, arr, src1, nn, ib, hb', sp]
theorem f_flush (h : S[k]? = some (dkf m bs ws lf)) (es : spn lf = some lf') (hw : ∀ p ∈ ws, p.1 < bs.length) (hl : ws.length ≤ 1000) (r : Rho) :
    callM phi_Disk_flush [.ob k] r S = .ok .non r (S.set k (dkf m (landB bs ws) [] lf')) := by
  refine call_run ?_ rfl
  have hs := set_at h
  have h' := h
  unfold dkf at h'
  have e1 : lstRg1 (.int ws.length) = some (.own (numsD (upI ws.length))) := by
    rw [lstRg1_ok (by omega), ups_upI]
  have e2 := fun r S => s_bb (bs := bs) (ws := ws) (Lv := .lst (numsD (upI ws.length))) (Tv := .lst []) (L := upI ws.length) (T := []) rfl rfl rfl rfl hw r S
  rw [cutB_all _ _ ws bs 0 fun j h1 h2 => mem_upI h1 (by omega)] at e2
  have t0 : ∀ S', (S'[k]? = some (.ins 0 [(("many" : Str), .int m), (("blocks" : Str), .lst (bsD bs)), (("writes" : Str), .lst (wD ws)), (("left" : Str), lfD lf')])) → mUn lstRg1 (mUn lenD (fldB isF "writes" (varF 0))) [some (.ob k)] S' = .ok (.own (numsD (upI ws.length))) [some (.ob k)] S' := fun S' hS' => by
    refine mUn_run (x := .int ws.length) ?_ e1
    refine mUn_run (x := .lst (wD ws)) ?_ (by rw [len_lst, wD_len])
    simp [fldB_on, varF, hS', fldOut]
  have t1 := t0 _ (hs _)
  have sp := f_spend h es
  unfold dkf at sp
  simp [-mUn_ap, m_Disk_flush, startR, N_Disk_flush, t1, mSetF_on, mMeth_on, fldB_on, fldF_on, varF, varB, h', mtL, List.lookup, fldOut, arrM, arr, src1, sp, hs, e2]
  rfl
theorem x_flush (h : S[k]? = some (dkf m bs ws lf)) (es : spn lf = none) (r : Rho) : callM phi_Disk_flush [.ob k] r S = .exc outE r S := by
  have h' := h
  unfold dkf at h'
  have sp := x_spend h es
  refine call_exc (r' := [some (.ob k)]) ?_
  have e : startR N_Disk_flush [.ob k] = [some (.ob k)] := rfl
  rw [e]
  unfold m_Disk_flush
  simp [mMeth_on, varF, h', mtL, List.lookup, arrM, arr, src1, sp]
theorem f_look (h : S[k]? = some (dkf m bs ws lf)) {a : Nat} (ha : a < m) (hm : bs.length = m) (hl : ws.length ≤ 1000) (hs : ∀ p ∈ ws, Sml p.2) {b : List Int} (hb : (landB bs ws)[a]? = some b) (r : Rho) :
    callM phi_Disk_look [.ob k, .int a] r S = .ok (blk b) r S := by
  refine call_run ?_ rfl
  have h' := h
  unfold dkf at h'
  have nn := s_need_number (a : Int) 0 ((m : Int) - 1) "at" (by omega) (by omega)
  have e : startR N_Disk_look [.ob k, .int a] = [some (.ob k), some (.int a), none, none, none] := rfl
  rw [e]
  have c1 : mLc (mIter true (fldB isF "writes" (varF 0))) (.tp [.nm 3, .nm 4]) (mTru (mBin eqD (varB 3) (varB 1))) (varF 4) [3, 4] [some (.ob k), some (.int a), none, none, none] S = .ok (.own ((wD ws).flatMap fun d => match d with | .tup [.int c, b] => if c = a then [b] else [] | _ => [])) [some (.ob k), some (.int a), none, none, none] S := by
    refine mLc_run (by simp [mIter, fldB_on, varF, h', fldOut, itemsD, seqD]) (fun d hd acc hacc => ?_) (fun d hd => ?_) (by simp [lim]; omega)
    · obtain ⟨p, hp, rfl⟩ := List.mem_map.mp hd
      by_cases hc : p.1 = a
      · simp [lcTurn, setT, setTs, wipeR, varF, varB, eqD_i, hacc, hc]
      · have hc : ¬ (p.1 : Int) = a := by omega
        simp [lcTurn, setT, setTs, wipeR, varF, varB, eqD_i, hacc, hc]
    · obtain ⟨p, hp, rfl⟩ := List.mem_map.mp hd
      simp only
      split <;> simp
  have e1 : ((wD ws).flatMap fun d => match d with | .tup [.int c, b] => if c = a then [b] else [] | _ => []) = ((ws.filter fun p => p.1 = a).map (·.2)).map blk := by
    unfold wD
    clear c1 h h' hb hs hl
    induction ws with
    | nil => rfl
    | cons p ws ih =>
      simp only [List.map_cons, List.flatMap_cons, ih, List.filter_cons]
      by_cases hc : p.1 = a
      · simp [hc]
      · have hc2 : ¬ (p.1 : Int) = a := by omega
        simp [hc, hc2]
  rw [e1] at c1
  rw [land_last a ws bs (by omega)] at hb
  have hsm : ∀ b ∈ (ws.filter fun p => p.1 = a).map (·.2), Sml b := fun b hb => by
    obtain ⟨p, hp, rfl⟩ := List.mem_map.mp hb
    exact hs p (List.mem_filter.mp hp).1
  generalize hM : (ws.filter fun p => p.1 = a).map (·.2) = M at c1 hb hsm
  have ne := ne_empty (x := .own (M.map blk)) (.inl rfl) (goodDs_all fun d hd => by
      obtain ⟨b, hb, rfl⟩ := List.mem_map.mp hd
      exact good_blk (hsm b hb)) (Nat.le_trans (dpDs_le (w := 1) fun d hd => by
      obtain ⟨b, hb, rfl⟩ := List.mem_map.mp hd
      exact dp_blk b) (by omega))
  have ne2 := ne_empty (x := .bor (M.map blk)) (.inr (.inr rfl)) (goodDs_all fun d hd => by
      obtain ⟨b, hb, rfl⟩ := List.mem_map.mp hd
      exact good_blk (hsm b hb)) (Nat.le_trans (dpDs_le (w := 1) fun d hd => by
      obtain ⟨b, hb, rfl⟩ := List.mem_map.mp hd
      exact dp_blk b) (by omega))
  unfold m_Disk_look
  cases M with
  | nil =>
    simp only [List.map_nil] at c1 ne ne2
    have hb2 : bs[a]? = some b := by simpa using hb
    have ib : atI (bsD bs) (a : Int) = some (blk b) := by
      unfold atI ixN
      rw [if_pos (by omega), if_pos (by rw [bsD_len]; omega)]
      simp [bsD, hb2]
    simp [fldB_on, varF, varB, h', fldOut, arrM, arr, src1, nn, c1, ne, ne2, idxS, idxD, seqD, ib]
  | cons x r =>
    simp only [List.map_cons] at c1 ne ne2
    have hb2 : (x :: r).getLast? = some b := by
      cases hx : (x :: r).getLast? with
      | none => simp at hx
      | some y => rw [hx] at hb; simpa using hb
    have ib : atI ((x :: r).map blk) (-1) = some (blk b) := by
      rw [atI_last _ (by simp), List.getLast?_map, hb2]; rfl
    rw [List.map_cons] at ib
    simp [fldB_on, varF, varB, h', fldOut, arrM, arr, src1, nn, c1, ne, ne2, idxS, idxD, seqD, ib]
theorem w_waiting (h : S[k]? = some (dkf m bs ws lf)) (r : Rho) : callM phi_Disk_waiting [.ob k] r S = .ok (.int ws.length) r S := by
  refine call_run ?_ rfl
  unfold dkf at h
  simp [m_Disk_waiting, startR, N_Disk_waiting, fldB_on, varF, h, fldOut]
theorem w_kept (h : S[k]? = some (dkf m bs ws lf)) (r : Rho) : callM phi_Disk_kept [.ob k] r S = .ok (.tup (bsD bs)) r S := by
  refine call_run ?_ rfl
  unfold dkf at h
  simp [m_Disk_kept, startR, N_Disk_kept, fldB_on, varF, h, fldOut, tupOfD, seqD]
theorem f_fuse (h : S[k]? = some (dkf m bs ws lf)) (n : Nat) (r : Rho) : callM phi_Disk_fuse [.ob k, .int ((n : Int) + 1)] r S = .ok .non r (S.set k (dkf m bs ws (some n))) := by
  refine call_run ?_ rfl
  have nn := w_need ((n : Int) + 1) 1 "many" (by omega)
  unfold dkf at h
  simp [m_Disk_fuse, startR, N_Disk_fuse, varF, arrM, arr, src1, nn, mSetF_on, h]
  rfl
theorem f_nofuse (h : S[k]? = some (dkf m bs ws lf)) (r : Rho) : callM phi_Disk_no_fuse [.ob k] r S = .ok .non r (S.set k (dk m bs ws)) := by
  refine call_run ?_ rfl
  unfold dkf at h
  simp [m_Disk_no_fuse, startR, N_Disk_no_fuse, varF, mSetF_on, h]
  rfl
end
end LW

set_option Elab.async false
set_option linter.all false
set_option maxRecDepth 100000
set_option maxHeartbeats 4000000
namespace LW
open PySem PySem.Spec PyProof.Rows L2 DD
@[simp] theorem ub1 : isub (.b "dict") (.b "list") = some false := by rw [isub_eq]; decide +kernel
@[simp] theorem ub2 : isub (.b "dict") (.b "tuple") = some false := by rw [isub_eq]; decide +kernel
@[simp] theorem ub3 : isub (.b "NoneType") (.b "int") = some false := by rw [isub_eq]; decide +kernel
@[simp] theorem ub4 : isub (.b "bool") (.b "int") = some true := by rw [isub_eq]; decide +kernel
@[simp] theorem ub5 : isub (.b "bool") (.b "bool") = some true := by rw [isub_eq]; decide +kernel
@[simp] theorem ub6 : isub (.b "str") (.b "int") = some false := by rw [isub_eq]; decide +kernel
@[simp] theorem ub7 : isub (.b "list") (.b "int") = some false := by rw [isub_eq]; decide +kernel
@[simp] theorem ub8 : isub (.b "tuple") (.b "int") = some false := by rw [isub_eq]; decide +kernel
@[simp] theorem ub9 : isub (.b "dict") (.b "int") = some false := by rw [isub_eq]; decide +kernel
@[simp] theorem uc1 : isub (.b "NoneType") (.b "list") = some false := by rw [isub_eq]; decide +kernel
@[simp] theorem uc2 : isub (.b "NoneType") (.b "tuple") = some false := by rw [isub_eq]; decide +kernel
@[simp] theorem uc3 : isub (.b "int") (.b "list") = some false := by rw [isub_eq]; decide +kernel
@[simp] theorem uc4 : isub (.b "int") (.b "tuple") = some false := by rw [isub_eq]; decide +kernel
@[simp] theorem uc5 : isub (.b "str") (.b "list") = some false := by rw [isub_eq]; decide +kernel
@[simp] theorem uc6 : isub (.b "str") (.b "tuple") = some false := by rw [isub_eq]; decide +kernel
@[simp] theorem uc7 : isub (.b "bool") (.b "list") = some false := by rw [isub_eq]; decide +kernel
@[simp] theorem uc8 : isub (.b "bool") (.b "tuple") = some false := by rw [isub_eq]; decide +kernel
theorem varF_fr {r : Rho} {i : Nat} {d : D} {S : Sto} (h : r[i]? = some (some d)) (hf : frO d = true) : varF i r S = .ok d r S := by
  unfold varF; rw [h]
  cases d <;> first | rfl | cases hf
theorem varB_fr {r : Rho} {i : Nat} {d : D} {S : Sto} (h : r[i]? = some (some d)) (hf : frO d = true) : varB i r S = .ok d r S := by
  unfold varB; rw [h]
  cases d <;> first | rfl | cases hf
theorem ar_fr {d : D} (hf : frO d = true) : arO d = true := by cases d <;> first | rfl | cases hf
theorem bo_fr {d : D} (hf : frO d = true) : borD d = false := by cases d <;> first | rfl | cases hf
def intD : D → Option Bool
  | .int _ => some true
  | .bl _ => some false
  | .non => some false
  | .str _ => some false
  | .lst _ => some false
  | .tup _ => some false
  | .dct _ => some false
  | _ => none
theorem int_fr {x : D} {b : Bool} (h : intD x = some b) : frO x = true := by cases x <;> first | rfl | cases h
theorem w_is_integer {x : D} {b : Bool} (h : intD x = some b) (r : Rho) (S : Sto) : callM phi_is_integer [x] r S = .ok (.bl b) r S := by
  refine call_run ?_ rfl
  cases x <;> cases h <;> simp [m_is_integer, varB, startR, N_is_integer, tyD, isAny]
def numB (lo hi : Int) : D → Option Bool
  | .int i => some (decide (lo ≤ i) && decide (i ≤ hi))
  | x => (intD x).map fun _ => false
theorem num_int {lo hi : Int} {x : D} {b : Bool} (h : numB lo hi x = some b) : ∃ c, intD x = some c := by
  cases x <;> first | exact ⟨_, rfl⟩ | cases h
theorem w_is_within {lo hi : Int} {x : D} {b : Bool} (h : numB lo hi x = some b) (r : Rho) (S : Sto) : callM phi_is_within [x, .int lo, .int hi] r S = .ok (.bl b) r S := by
  obtain ⟨c, hc⟩ := num_int h
  have wi := w_is_integer hc
  have hf := int_fr hc
  have v0 : ∀ a b S, varF 0 [some x, a, b] S = .ok x [some x, a, b] S := fun a b S => varF_fr rfl hf
  have a0 := ar_fr hf
  refine call_run ?_ rfl
  have e : startR N_is_within [x, .int lo, .int hi] = [some x, some (.int lo), some (.int hi)] := rfl
  rw [e]
  unfold m_is_within
  cases c with
  | true =>
    cases x with
    | int i =>
      cases h
      by_cases h1 : lo ≤ i <;> simp [arrM, arr, src1, wi, isD, isB, isNonD, varB, varF, h1]
    | _ => cases hc
  | false =>
    have hb : b = false := by cases x <;> first | (cases hc; done) | (cases h; rfl)
    subst hb
    simp [v0, arrM, arr, src1, a0, wi]
abbrev exB (p : Str) : Ex := ⟨"BadNumber", [("part", .str p)]⟩
theorem x_need_number {lo hi : Int} {x : D} (h : numB lo hi x = some false) (p : Str) (r : Rho) (S : Sto) : callM phi_need_number [x, .str p, .int lo, .int hi] r S = .exc (exB p) r S := by
  obtain ⟨c, hc⟩ := num_int h
  have hf := int_fr hc
  have ww := w_is_within h
  have v0 : ∀ a b c S, varF 0 [some x, a, b, c] S = .ok x [some x, a, b, c] S := fun a b c S => varF_fr rfl hf
  have a0 := ar_fr hf
  refine call_exc (r' := [some x, some (.str p), some (.int lo), some (.int hi)]) ?_
  have e : startR N_need_number [x, .str p, .int lo, .int hi] = [some x, some (.str p), some (.int lo), some (.int hi)] := rfl
  rw [e]
  have v1 : ∀ S, varF 1 [some x, some (.str p), some (.int lo), some (.int hi)] S = .ok (.str p) [some x, some (.str p), some (.int lo), some (.int hi)] S := fun S => rfl
  have v2 : ∀ S, varF 2 [some x, some (.str p), some (.int lo), some (.int hi)] S = .ok (.int lo) [some x, some (.str p), some (.int lo), some (.int hi)] S := fun S => rfl
  have v3 : ∀ S, varF 3 [some x, some (.str p), some (.int lo), some (.int hi)] S = .ok (.int hi) [some x, some (.str p), some (.int lo), some (.int hi)] S := fun S => rfl
  unfold m_need_number
  simp [v0, v1, v2, v3, arrM, arr, src1, a0, ww]
def blkB : D → Option Bool
  | .lst xs => if xs.length ≤ 8 then (if xs.all fun x => (intD x).isSome then some (xs.all fun x => intD x == some true) else none) else some false
  | .tup xs => if xs.length ≤ 8 then (if xs.all fun x => (intD x).isSome then some (xs.all fun x => intD x == some true) else none) else some false
  | .non => some false
  | .int _ => some false
  | .str _ => some false
  | .bl _ => some false
  | .dct _ => some false
  | _ => none
theorem blk_fr {x : D} {b : Bool} (h : blkB x = some b) : frO x = true := by cases x <;> first | rfl | cases h
theorem bools_map {xs : List D} (h : ∀ x ∈ xs, (intD x).isSome = true) : boolsD (xs.map fun x => .bl ((intD x).getD false)) = some (xs.map fun x => (intD x).getD false) := by
  induction xs with
  | nil => rfl
  | cons x xs ih =>
    have := ih fun y hy => h y (List.mem_cons_of_mem _ hy)
    simp [boolsD, this]
theorem s_blk_seq {x : D} {xs : List D} (hx : x = .lst xs ∨ x = .tup xs) (h8 : xs.length ≤ 8) (hi : (xs.all fun x => (intD x).isSome) = true) (r : Rho) (S : Sto) : callM phi_is_block [x, .int 8] r S = .ok (.bl (xs.all fun x => intD x == some true)) r S := by
  refine call_run ?_ rfl
  have e : startR N_is_block [x, .int 8] = [some x, some (.int 8), none] := rfl
  have hi' : ∀ y ∈ xs, (intD y).isSome = true := List.all_eq_true.mp hi
  have h8' : (xs.length : Int) ≤ 8 := by omega
  have c1 : mLc (mIter true (varB 0)) (.nm 2) (mYes) (mCall phi_is_integer [.p 0] [] 1 (mCons (varF 2) (mNil)) (mNil)) [2] [some x, some (.int 8), none] S = .ok (.own (xs.flatMap fun y => [.bl ((intD y).getD false)])) [some x, some (.int 8), none] S := by
    refine mLc_run (g := fun y => [.bl ((intD y).getD false)]) ?_ (fun d hd acc ha => ?_) (fun d _ => by simp) (by simp [lim]; omega)
    · rcases hx with rfl | rfl <;> simp [mIter, varB, itemsD, seqD]
    · obtain ⟨b, hb⟩ := Option.isSome_iff_exists.mp (hi' d hd)
      have wi := w_is_integer hb
      have hf := int_fr hb
      have v2 : ∀ a b S, varF 2 [a, b, some d] S = .ok d [a, b, some d] S := fun a b S => varF_fr rfl hf
      simp [lcTurn, setT, wipeR, mYes, v2, arrM, arr, src1, ar_fr hf, wi, hb, ha]
  have e2 : (xs.flatMap fun y => [D.bl ((intD y).getD false)]) = xs.map fun x => .bl ((intD x).getD false) := by
    clear c1 hi' h8' h8 hi hx e
    induction xs with
    | nil => rfl
    | cons a r ih => simp only [List.map_cons, List.flatMap_cons, ih]; rfl
  have al : allD (.own (xs.map fun x => .bl ((intD x).getD false))) = some (.bl (xs.all fun x => intD x == some true)) := by
    show (boolsD (xs.map fun x => .bl ((intD x).getD false))).map (fun bs => D.bl (bs.all id)) = _
    rw [bools_map hi', Option.map_some]
    congr 2
    rw [List.all_map]
    clear c1 e2 h8 h8' hx hi e
    induction xs with
    | nil => rfl
    | cons y ys ih =>
      rw [List.all_cons, List.all_cons, ih fun z hz => hi' z (List.mem_cons_of_mem _ hz)]
      congr 1
      obtain ⟨b, hb⟩ := Option.isSome_iff_exists.mp (hi' y List.mem_cons_self)
      simp [hb]
  rw [e2] at c1
  rw [e]
  unfold m_is_block
  have lt : lenD (.tup xs) = some (.int xs.length) := rfl
  generalize hL : mLc (mIter true (varB 0)) (.nm 2) (mYes) (mCall phi_is_integer [.p 0] [] 1 (mCons (varF 2) (mNil)) (mNil)) [2] = LC at *
  rcases hx with rfl | rfl
  · simp [varB, tyD, isAny, h8', c1, al]
  · simp [varB, tyD, isAny, lt, h8', c1, al]
theorem s_blk_g {x : D} {b : Bool} (h : blkB x = some b) (r : Rho) (S : Sto) : callM phi_is_block [x, .int 8] r S = .ok (.bl b) r S := by
  have lt : ∀ xs : List D, lenD (.tup xs) = some (.int xs.length) := fun xs => rfl
  have seq : ∀ xs, (x = .lst xs ∨ x = .tup xs) → callM phi_is_block [x, .int 8] r S = .ok (.bl b) r S := fun xs hx => by
    have h' : (if xs.length ≤ 8 then (if xs.all fun x => (intD x).isSome then some (xs.all fun x => intD x == some true) else none) else some false) = some b := by
      rcases hx with rfl | rfl <;> exact h
    by_cases h8 : xs.length ≤ 8
    · rw [if_pos h8] at h'
      split at h'
      · rename_i hi
        cases h'
        exact s_blk_seq hx h8 hi r S
      · cases h'
    · rw [if_neg h8] at h'
      cases h'
      have h9 : ¬ (xs.length : Int) ≤ 8 := by omega
      refine call_run ?_ rfl
      rcases hx with rfl | rfl
      · simp [m_is_block, startR, N_is_block, varB, tyD, isAny, h9]
      · simp [m_is_block, startR, N_is_block, varB, tyD, isAny, lt, h9]
  cases x with
  | lst xs => exact seq xs (.inl rfl)
  | tup xs => exact seq xs (.inr rfl)
  | non => cases h; refine call_run ?_ rfl; simp [m_is_block, startR, N_is_block, varB, tyD, isAny]
  | int _ => cases h; refine call_run ?_ rfl; simp [m_is_block, startR, N_is_block, varB, tyD, isAny]
  | str _ => cases h; refine call_run ?_ rfl; simp [m_is_block, startR, N_is_block, varB, tyD, isAny]
  | bl _ => cases h; refine call_run ?_ rfl; simp [m_is_block, startR, N_is_block, varB, tyD, isAny]
  | dct _ => cases h; refine call_run ?_ rfl; simp [m_is_block, startR, N_is_block, varB, tyD, isAny]
  | _ => cases h
abbrev exL (p : Str) : Ex := ⟨"BadLot", [("part", .str p)]⟩
def NoLot (m : Int) (x : D) : Prop := frO x = true ∧ ∀ (r : Rho) (S : Sto), callM phi_is_lot [x, .int m] r S = .ok (.bl false) r S
theorem noLot_kind {m : Int} {x : D} (h : x = .non ∨ (∃ i, x = .int i) ∨ (∃ s, x = .str s) ∨ x = .dct []) : NoLot m x := by
  rcases h with rfl | ⟨i, rfl⟩ | ⟨s, rfl⟩ | rfl <;> refine ⟨rfl, fun r S => call_run ?_ rfl⟩ <;> simp [m_is_lot, varB, startR, N_is_lot, tyD, isAny]
theorem map_flat {α β : Type} (f : α → β) : ∀ xs : List α, xs.map f = xs.flatMap fun y => [f y]
  | [] => rfl
  | a :: l => by rw [List.map_cons, List.flatMap_cons, map_flat f l]; rfl
theorem bools_of {α : Type} (f : α → Bool) : ∀ xs : List α, boolsD (xs.map fun y => .bl (f y)) = some (xs.map f)
  | [] => rfl
  | a :: l => by
    show (boolsD (l.map fun y => .bl (f y))).map (f a :: ·) = _
    rw [bools_of f l]; rfl
theorem all_of {α : Type} (f : α → Bool) (xs : List α) : allD (.own (xs.map fun y => .bl (f y))) = some (.bl (xs.all f)) := by
  show (boolsD (xs.map fun y => .bl (f y))).map (fun bs => D.bl (bs.all id)) = _
  rw [bools_of, Option.map_some, List.all_map]; rfl
theorem any_of {α : Type} (f : α → Bool) (xs : List α) : anyD (.own (xs.map fun y => .bl (f y))) = some (.bl (xs.any f)) := by
  show (boolsD (xs.map fun y => .bl (f y))).map (fun bs => D.bl (bs.any id)) = _
  rw [bools_of, Option.map_some, List.any_map]; rfl
theorem zip_nums : ∀ as bs : List Int, zipD (numsD as) (numsD bs) = (as.zip bs).map fun p => .tup [.int p.1, .int p.2]
  | [], _ => by simp [numsD, zipD]
  | _ :: _, [] => by simp [numsD, zipD]
  | a :: as, b :: bs => by
    have := zip_nums as bs
    unfold numsD at this ⊢
    simp only [List.map_cons, List.zip_cons_cons, zipD, this]
def inB (m : Int) (x : D) : Bool := (numB 0 (m - 1) x).getD false
theorem lot_within {x : D} {xs : List D} {m : Int} (hx : x = .lst xs ∨ x = .tup xs) (h1 : ∀ y ∈ xs, (numB 0 (m - 1) y).isSome = true) (hl : xs.length ≤ 1000) (S : Sto) :
    mLc (mIter true (varB 0)) (.nm 2) mYes (mCall phi_is_within [.p 0, .p 1, .p 2] [] 3 (mCons (varF 2) (mCons (M.ret (.int 0)) (mCons (frz (mBin subD (varB 1) (M.ret (.int 1)))) mNil))) mNil) [2] [some x, some (.int m), none, none, none] S = .ok (.own (xs.map fun y => .bl (inB m y))) [some x, some (.int m), none, none, none] S := by
  have e := map_flat (fun y => D.bl (inB m y)) xs
  rw [e]
  refine mLc_run (g := fun y => [.bl (inB m y)]) (by rcases hx with rfl | rfl <;> simp [mIter, varB, itemsD, seqD]) (fun y hy acc ha => ?_) (fun d _ => by simp) (by simp [lim]; omega)
  obtain ⟨b, hb⟩ := Option.isSome_iff_exists.mp (h1 y hy)
  obtain ⟨c, hc⟩ := num_int hb
  have hf := int_fr hc
  have v2 : ∀ a b c d S, varF 2 [a, b, some y, c, d] S = .ok y [a, b, some y, c, d] S := fun a b c d S => varF_fr rfl hf
  have ww := w_is_within hb
  have eb : inB m y = b := by unfold inB; rw [hb]; rfl
  have nb : borD y = false := bo_fr hf
  rw [eb]
  simp [lcTurn, setT, wipeR, mYes, v2, varB, arrM, arr, src1, ar_fr hf, ww, ha]
theorem noLot_range {x : D} {xs : List D} {m : Int} (hx : x = .lst xs ∨ x = .tup xs) (h1 : ∀ y ∈ xs, (numB 0 (m - 1) y).isSome = true) (h2 : ∃ y ∈ xs, numB 0 (m - 1) y = some false) (hl : xs.length ≤ 1000) : NoLot m x := by
  refine ⟨by rcases hx with rfl | rfl <;> rfl, fun r S => call_run ?_ rfl⟩
  have e : startR N_is_lot [x, .int m] = [some x, some (.int m), none, none, none] := rfl
  rw [e]
  have c1 := lot_within hx h1 hl S
  have f1 : xs.all (inB m) = false := by
    obtain ⟨y, hy, e⟩ := h2
    refine Bool.eq_false_iff.mpr fun z => ?_
    have := List.all_eq_true.mp z y hy
    unfold inB at this
    rw [e] at this
    cases this
  have t1 := all_of (inB m) xs
  rw [f1] at t1
  unfold m_is_lot
  rcases hx with rfl | rfl <;> simp [varB, tyD, isAny, c1, t1]
theorem is_lot_nums {x : D} {ls : List Int} {m : Int} (hx : x = .lst (numsD ls) ∨ x = .tup (numsD ls)) (h1 : ∀ i ∈ ls, 0 ≤ i ∧ i ≤ m - 1) (hl : ls.length ≤ 1000) (r : Rho) (S : Sto) :
    callM phi_is_lot [x, .int m] r S = .ok (.bl ((ls.zip (ls.drop 1)).all fun p => decide (p.1 < p.2))) r S := by
  refine call_run ?_ rfl
  have e : startR N_is_lot [x, .int m] = [some x, some (.int m), none, none, none] := rfl
  rw [e]
  have c1 := lot_within (x := x) (xs := numsD ls) (m := m) hx (fun y hy => by obtain ⟨i, hi, rfl⟩ := List.mem_map.mp hy; rfl) (by simpa [numsD] using hl) S
  have f1 : (numsD ls).all (inB m) = true := List.all_eq_true.mpr fun y hy => by
    obtain ⟨i, hi, rfl⟩ := List.mem_map.mp hy
    have := h1 i hi
    simp [inB, numB, this]
  have t1 := all_of (inB m) (numsD ls)
  rw [f1] at t1
  have ez : zipD (numsD ls) (cutG (numsD ls) (some 1) none) = (ls.zip (ls.drop 1)).map fun p => .tup [.int p.1, .int p.2] := by
    rw [cut1, ← zip_nums]
    unfold numsD
    rw [List.map_drop]
  have c2 : mLc (mZip true (mCons (varF 0) (mCons (frz (mSl (varB 0) (mPart (M.ret (.int 1))) (M.ret none))) mNil))) (.tp [.nm 3, .nm 4]) mYes (mBin ltD (varB 3) (varB 4)) [3, 4] [some x, some (.int m), none, none, none] S = .ok (.own ((ls.zip (ls.drop 1)).map fun p => .bl (decide (p.1 < p.2)))) [some x, some (.int m), none, none, none] S := by
    have e2 : ((ls.zip (ls.drop 1)).map fun p => D.bl (decide (p.1 < p.2))) = ((ls.zip (ls.drop 1)).map fun p => D.tup [.int p.1, .int p.2]).flatMap fun d => match d with | .tup [.int a, .int b] => [.bl (decide (a < b))] | _ => [] := by
      rw [map_flat, List.flatMap_map]
    rw [e2]
    refine mLc_run (by rcases hx with rfl | rfl <;> simp [mZip, mSl, mPart, varB, varF, sliceD, seqD, isTupD, ez]) (fun d hd acc ha => ?_) (fun d hd => ?_) (by simp [lim]; omega)
    · obtain ⟨p, hp, rfl⟩ := List.mem_map.mp hd
      simp [lcTurn, setT, setTs, wipeR, mYes, varF, varB, ha]
    · obtain ⟨p, hp, rfl⟩ := List.mem_map.mp hd
      simp
  have t2 := all_of (fun p : Int × Int => decide (p.1 < p.2)) (ls.zip (ls.drop 1))
  unfold m_is_lot
  clear ez
  generalize ls.zip (ls.drop 1) = Z at *
  rcases hx with rfl | rfl <;> simp [varB, tyD, isAny, c1, t1, c2, t2]
theorem noLot_order {x : D} {ls : List Int} {m : Int} (hx : x = .lst (numsD ls) ∨ x = .tup (numsD ls)) (h1 : ∀ i ∈ ls, 0 ≤ i ∧ i ≤ m - 1) (hl : ls.length ≤ 1000) (h2 : ((ls.zip (ls.drop 1)).all fun p => decide (p.1 < p.2)) = false) : NoLot m x :=
  ⟨by rcases hx with rfl | rfl <;> rfl, fun r S => by rw [is_lot_nums hx h1 hl, h2]⟩
theorem lot_order {ls : List Int} (h2 : ∀ (j : Nat) a b, ls[j]? = some a → ls[j + 1]? = some b → a < b) : ((ls.zip (ls.drop 1)).all fun p => decide (p.1 < p.2)) = true := by
  refine List.all_eq_true.mpr fun p hp => ?_
  obtain ⟨j, hj, ej⟩ := List.mem_iff_getElem.mp hp
  rw [List.getElem_zip] at ej
  have hj' := hj
  rw [List.length_zip, List.length_drop] at hj'
  subst ej
  have hd1 : j < (ls.drop 1).length := by rw [List.length_drop]; omega
  have e2 : (ls.drop 1)[j]? = some (ls.drop 1)[j] := List.getElem?_eq_getElem hd1
  rw [List.getElem?_drop, Nat.add_comm] at e2
  have := h2 j _ _ (List.getElem?_eq_getElem (by omega)) e2
  exact decide_eq_true this
theorem g_need_lot {x : D} {ls : List Int} {m : Int} (hx : x = .lst (numsD ls) ∨ x = .tup (numsD ls)) (h : Lot ls m) (p : Str) (r : Rho) (S : Sto) : callM phi_need_lot [x, .str p, .int m] r S = .ok (.tup (numsD ls)) r S := by
  have il := fun r S => is_lot_nums hx h.1 h.2.2 r S
  rw [lot_order h.2.1] at il
  refine call_run ?_ rfl
  rcases hx with rfl | rfl <;> simp [m_need_lot, varB, varF, startR, N_need_lot, arrM, arr, src1, il, tupOfD, seqD]
theorem x_need_lot {x : D} {m : Int} (h : NoLot m x) (p : Str) (r : Rho) (S : Sto) : callM phi_need_lot [x, .str p, .int m] r S = .exc (exL p) r S := by
  obtain ⟨hf, hl⟩ := h
  have v0 : ∀ a b S, varF 0 [some x, a, b] S = .ok x [some x, a, b] S := fun a b S => varF_fr rfl hf
  have v1 : ∀ a b S, varF 1 [a, some (.str p), b] S = .ok (.str p) [a, some (.str p), b] S := fun a b S => rfl
  have v2 : ∀ a b S, varF 2 [a, b, some (.int m)] S = .ok (.int m) [a, b, some (.int m)] S := fun a b S => rfl
  refine call_exc (r' := [some x, some (.str p), some (.int m)]) ?_
  have e : startR N_need_lot [x, .str p, .int m] = [some x, some (.str p), some (.int m)] := rfl
  rw [e]
  unfold m_need_lot
  simp [v0, v1, v2, arrM, arr, src1, ar_fr hf, hl]
section
variable {S : Sto} {k m : Nat} {bs : List (List Int)} {ws : List Wr} {lf : Option Nat}
theorem x_cut_lands (h : S[k]? = some (dkf m bs ws lf)) {x y : D} (hx : NoLot ws.length x) (hy : frO y = true) (r : Rho) : callM phi_Disk_cut [.ob k, x, y] r S = .exc (exL "lands") r S := by
  have nl := x_need_lot hx "lands"
  have hf := hx.1
  have h' := h
  unfold dkf at h'
  have lb : ∀ r, callM phi_Disk_left_by [.ob k, x, y] r S = .exc (exL "lands") r S := fun r => by
    have v0 : ∀ a b c d e S, varF 0 [some (.ob k), a, b, c, d, e] S = .ok (.ob k) [some (.ob k), a, b, c, d, e] S := fun a b c d e S => rfl
    have v1 : ∀ a b c d e S, varF 1 [a, some x, b, c, d, e] S = .ok x [a, some x, b, c, d, e] S := fun a b c d e S => varF_fr rfl hf
    refine call_exc (r' := [some (.ob k), some x, some y, none, none, none]) ?_
    have e : startR N_Disk_left_by [.ob k, x, y] = [some (.ob k), some x, some y, none, none, none] := rfl
    rw [e]
    unfold m_Disk_left_by
    simp [v0, v1, fldB_on, h', fldOut, arrM, arr, src1, ar_fr hf, nl]
  have v0 : ∀ a b S, varF 0 [some (.ob k), a, b] S = .ok (.ob k) [some (.ob k), a, b] S := fun a b S => rfl
  have v1 : ∀ a b S, varF 1 [a, some x, b] S = .ok x [a, some x, b] S := fun a b S => varF_fr rfl hf
  have v2 : ∀ a b S, varF 2 [a, b, some y] S = .ok y [a, b, some y] S := fun a b S => varF_fr rfl hy
  refine call_exc (r' := [some (.ob k), some x, some y]) ?_
  have e : startR N_Disk_cut [.ob k, x, y] = [some (.ob k), some x, some y] := rfl
  rw [e]
  unfold m_Disk_cut
  simp [mSetF_on, mMeth_on, v0, v1, v2, h', mtL, List.lookup, arrM, arr, src1, ar_fr hf, ar_fr hy, lb]
theorem x_cut_torn (h : S[k]? = some (dkf m bs ws lf)) {x y : D} {L : List Int} (hL : Lot L ws.length) (hx : x = .lst (numsD L) ∨ x = .tup (numsD L)) (hy : NoLot ws.length y) (r : Rho) : callM phi_Disk_cut [.ob k, x, y] r S = .exc (exL "torn") r S := by
  have nl := x_need_lot hy "torn"
  have gl := g_need_lot hx hL "lands"
  have hyf := hy.1
  have hf : frO x = true := by rcases hx with rfl | rfl <;> rfl
  have h' := h
  unfold dkf at h'
  have lb : ∀ r, callM phi_Disk_left_by [.ob k, x, y] r S = .exc (exL "torn") r S := fun r => by
    have v0 : ∀ a b c d e S, varF 0 [some (.ob k), a, b, c, d, e] S = .ok (.ob k) [some (.ob k), a, b, c, d, e] S := fun a b c d e S => rfl
    have v1 : ∀ a b c d e S, varF 1 [a, some x, b, c, d, e] S = .ok x [a, some x, b, c, d, e] S := fun a b c d e S => varF_fr rfl hf
    have v2 : ∀ a b c d e S, varF 2 [a, b, some y, c, d, e] S = .ok y [a, b, some y, c, d, e] S := fun a b c d e S => varF_fr rfl hyf
    refine call_exc (r' := [some (.ob k), some x, some y, some (.tup (numsD L)), none, none]) ?_
    have e : startR N_Disk_left_by [.ob k, x, y] = [some (.ob k), some x, some y, none, none, none] := rfl
    rw [e]
    unfold m_Disk_left_by
    simp [v0, v1, v2, fldB_on, h', fldOut, arrM, arr, src1, ar_fr hf, ar_fr hyf, nl, gl]
  have v0 : ∀ a b S, varF 0 [some (.ob k), a, b] S = .ok (.ob k) [some (.ob k), a, b] S := fun a b S => rfl
  have v1 : ∀ a b S, varF 1 [a, some x, b] S = .ok x [a, some x, b] S := fun a b S => varF_fr rfl hf
  have v2 : ∀ a b S, varF 2 [a, b, some y] S = .ok y [a, b, some y] S := fun a b S => varF_fr rfl hyf
  refine call_exc (r' := [some (.ob k), some x, some y]) ?_
  have e : startR N_Disk_cut [.ob k, x, y] = [some (.ob k), some x, some y] := rfl
  rw [e]
  unfold m_Disk_cut
  simp [mSetF_on, mMeth_on, v0, v1, v2, h', mtL, List.lookup, arrM, arr, src1, ar_fr hf, ar_fr hyf, lb]
theorem lb_any {x y : D} {L T : List Int} (hl : L.length ≤ 1000) (S : Sto) :
    mLc (mIter true (varB 3)) (.nm 5) mYes (mBin inD (varB 5) (varB 4)) [5] [some (.ob k), some x, some y, some (.tup (numsD L)), some (.tup (numsD T)), none] S = .ok (.own (L.map fun i => .bl (decide (i ∈ T)))) [some (.ob k), some x, some y, some (.tup (numsD L)), some (.tup (numsD T)), none] S := by
  have e2 : (L.map fun i => D.bl (decide (i ∈ T))) = (numsD L).flatMap fun d => match d with | .int i => [.bl (decide (i ∈ T))] | _ => [] := by
    unfold numsD
    rw [map_flat, List.flatMap_map]
  rw [e2]
  refine mLc_run (by simp [mIter, varB, itemsD, seqD]) (fun d hd acc ha => ?_) (fun d hd => ?_) (by simp [lim]; omega)
  · obtain ⟨i, hi, rfl⟩ := List.mem_map.mp hd
    simp [lcTurn, setT, wipeR, mYes, varF, varB, in_nums (y := .tup (numsD T)) rfl, ha]
  · obtain ⟨i, hi, rfl⟩ := List.mem_map.mp hd
    simp
theorem g_cut (h : S[k]? = some (dkf m bs ws lf)) {x y : D} {L T : List Int} (hL : Lot L ws.length) (hT : Lot T ws.length) (hx : x = .lst (numsD L) ∨ x = .tup (numsD L)) (hy : y = .lst (numsD T) ∨ y = .tup (numsD T)) (hd : ∀ i ∈ L, i ∉ T) (hw : ∀ p ∈ ws, p.1 < bs.length) (r : Rho) :
    callM phi_Disk_cut [.ob k, x, y] r S = .ok .non r (S.set k (dk m (cutB L T bs 0 ws) [])) := by
  have gl := g_need_lot hx hL "lands"
  have gt := g_need_lot hy hT "torn"
  have hf : frO x = true := by rcases hx with rfl | rfl <;> rfl
  have hyf : frO y = true := by rcases hy with rfl | rfl <;> rfl
  have h' := h
  unfold dkf at h'
  have hs := set_at h
  have lb : ∀ r, callM phi_Disk_left_by [.ob k, x, y] r S = .ok (.own (bsD (cutB L T bs 0 ws))) r (S.set k (.ins 0 [(("many" : Str), .int m), (("blocks" : Str), .lst (bsD bs)), (("writes" : Str), .lst (wD ws)), (("left" : Str), lfD lf)])) := fun r => by
    have v0 : ∀ a b c d e S, varF 0 [some (.ob k), a, b, c, d, e] S = .ok (.ob k) [some (.ob k), a, b, c, d, e] S := fun a b c d e S => rfl
    have v1 : ∀ a b c d e S, varF 1 [a, some x, b, c, d, e] S = .ok x [a, some x, b, c, d, e] S := fun a b c d e S => varF_fr rfl hf
    have v2 : ∀ a b c d e S, varF 2 [a, b, some y, c, d, e] S = .ok y [a, b, some y, c, d, e] S := fun a b c d e S => varF_fr rfl hyf
    have c1 := lb_any (k := k) (x := x) (y := y) (L := L) (T := T) hL.2.2 S
    have t1 := any_of (fun i => decide (i ∈ T)) L
    have f1 : (L.any fun i => decide (i ∈ T)) = false := Bool.eq_false_iff.mpr fun z => by
      obtain ⟨i, h1, h2⟩ := List.any_eq_true.mp z
      exact hd i h1 (of_decide_eq_true h2)
    rw [f1] at t1
    refine call_run ?_ rfl
    have e : startR N_Disk_left_by [.ob k, x, y] = [some (.ob k), some x, some y, none, none, none] := rfl
    rw [e]
    unfold m_Disk_left_by
    have v3 : ∀ a b c d e S, varF 3 [a, b, c, some (.tup (numsD L)), d, e] S = .ok (.tup (numsD L)) [a, b, c, some (.tup (numsD L)), d, e] S := fun a b c d e S => rfl
    have v4 : ∀ a b c d e S, varF 4 [a, b, c, d, some (.tup (numsD T)), e] S = .ok (.tup (numsD T)) [a, b, c, d, some (.tup (numsD T)), e] S := fun a b c d e S => rfl
    simp [v0, v1, v2, v3, v4, fldB_on, fldF_on, h', fldOut, arrM, arr, src1, ar_fr hf, ar_fr hyf, gt, gl, c1, t1, hs, s_bb (Lv := .tup (numsD L)) (Tv := .tup (numsD T)) (L := L) (T := T) rfl rfl rfl rfl hw]
  have v0 : ∀ a b S, varF 0 [some (.ob k), a, b] S = .ok (.ob k) [some (.ob k), a, b] S := fun a b S => rfl
  have v1 : ∀ a b S, varF 1 [a, some x, b] S = .ok x [a, some x, b] S := fun a b S => varF_fr rfl hf
  have v2 : ∀ a b S, varF 2 [a, b, some y] S = .ok y [a, b, some y] S := fun a b S => varF_fr rfl hyf
  refine call_run ?_ rfl
  have e : startR N_Disk_cut [.ob k, x, y] = [some (.ob k), some x, some y] := rfl
  rw [e]
  unfold m_Disk_cut
  simp [mSetF_on, mMeth_on, v0, v1, v2, h', mtL, List.lookup, arrM, arr, src1, ar_fr hf, ar_fr hyf, lb, hs]
  rfl
theorem x_write_at (h : S[k]? = some (dkf m bs ws lf)) {x y : D} (hx : numB 0 ((m : Int) - 1) x = some false) (hy : frO y = true) (r : Rho) : callM phi_Disk_write [.ob k, x, y] r S = .exc (exB "at") r S := by
  obtain ⟨c, hc⟩ := num_int hx
  have hf := int_fr hc
  have nn := x_need_number hx "at"
  have v1 : ∀ a b S, varF 1 [a, some x, b] S = .ok x [a, some x, b] S := fun a b S => varF_fr rfl hf
  have v0 : ∀ b c S, varF 0 [some (.ob k), b, c] S = .ok (.ob k) [some (.ob k), b, c] S := fun b c S => rfl
  refine call_exc (r' := [some (.ob k), some x, some y]) ?_
  have e : startR N_Disk_write [.ob k, x, y] = [some (.ob k), some x, some y] := rfl
  rw [e]
  unfold dkf at h
  unfold m_Disk_write
  simp [v1, v0, fldB_on, h, fldOut, arrM, arr, src1, ar_fr hf, nn]
theorem x_write_blk (h : S[k]? = some (dkf m bs ws lf)) {a : Nat} (ha : a < m) {y : D} (hy : blkB y = some false) (r : Rho) : callM phi_Disk_write [.ob k, .int a, y] r S = .exc (exB "block") r S := by
  have hf := blk_fr hy
  have nn := s_need_number (a : Int) 0 ((m : Int) - 1) "at" (by omega) (by omega)
  have ib := s_blk_g hy
  have v2 : ∀ a b S, varF 2 [a, b, some y] S = .ok y [a, b, some y] S := fun a b S => varF_fr rfl hf
  have v1 : ∀ (b c : Option D) S, varF 1 [b, some (.int (a : Nat)), c] S = .ok (.int (a : Nat)) [b, some (.int (a : Nat)), c] S := fun b c S => rfl
  have v0 : ∀ b c S, varF 0 [some (.ob k), b, c] S = .ok (.ob k) [some (.ob k), b, c] S := fun b c S => rfl
  refine call_exc (r' := [some (.ob k), some (.int a), some y]) ?_
  have e : startR N_Disk_write [.ob k, .int a, y] = [some (.ob k), some (.int a), some y] := rfl
  rw [e]
  unfold dkf at h
  unfold m_Disk_write
  simp [v1, v0, v2, fldB_on, h, fldOut, arrM, arr, src1, nn, ar_fr hf, ib]
theorem x_fuse (h : S[k]? = some (dkf m bs ws lf)) {x : D} (hf : frO x = true) (hx : ∀ r S, callM phi_is_within [x, .int 1, .non] r S = .ok (.bl false) r S) (r : Rho) : callM phi_Disk_fuse [.ob k, x] r S = .exc (exB "many") r S := by
  have nn : ∀ r S, callM phi_need_number [x, .str "many", .int 1, .non] r S = .exc (exB "many") r S := fun r S => by
    have v0 : ∀ a b c S, varF 0 [some x, a, b, c] S = .ok x [some x, a, b, c] S := fun a b c S => varF_fr rfl hf
    refine call_exc (r' := [some x, some (.str "many"), some (.int 1), some .non]) ?_
    have e : startR N_need_number [x, .str "many", .int 1, .non] = [some x, some (.str "many"), some (.int 1), some .non] := rfl
    rw [e]
    have v1 : ∀ S, varF 1 [some x, some (.str "many"), some (.int 1), some .non] S = .ok (.str "many") [some x, some (.str "many"), some (.int 1), some .non] S := fun S => rfl
    have v2 : ∀ S, varF 2 [some x, some (.str "many"), some (.int 1), some .non] S = .ok (.int 1) [some x, some (.str "many"), some (.int 1), some .non] S := fun S => rfl
    have v3 : ∀ S, varF 3 [some x, some (.str "many"), some (.int 1), some .non] S = .ok .non [some x, some (.str "many"), some (.int 1), some .non] S := fun S => rfl
    unfold m_need_number
    simp [v0, v1, v2, v3, arrM, arr, src1, ar_fr hf, hx]
  have v1 : ∀ a S, varF 1 [a, some x] S = .ok x [a, some x] S := fun a S => varF_fr rfl hf
  refine call_exc (r' := [some (.ob k), some x]) ?_
  have e : startR N_Disk_fuse [.ob k, x] = [some (.ob k), some x] := rfl
  rw [e]
  unfold m_Disk_fuse
  simp [v1, arrM, arr, src1, ar_fr hf, nn]
theorem no_fuse {x : D} {b : Bool} (h : intD x = some b) (hx : ∀ i, x = .int i → i < 1) (r : Rho) (S : Sto) : callM phi_is_within [x, .int 1, .non] r S = .ok (.bl false) r S := by
  have wi := w_is_integer h
  have hf := int_fr h
  have v0 : ∀ a b S, varF 0 [some x, a, b] S = .ok x [some x, a, b] S := fun a b S => varF_fr rfl hf
  refine call_run ?_ rfl
  have e : startR N_is_within [x, .int 1, .non] = [some x, some (.int 1), some .non] := rfl
  rw [e]
  unfold m_is_within
  cases b with
  | false => simp [v0, arrM, arr, src1, ar_fr hf, wi]
  | true =>
    cases x with
    | int i =>
      have := hx i rfl
      have h1 : ¬ (1 : Int) ≤ i := by omega
      simp [arrM, arr, src1, wi, isD, isB, isNonD, varB, varF, h1]
    | _ => cases h
end
end LW

set_option Elab.async false
set_option linter.all false
set_option maxRecDepth 100000
set_option maxHeartbeats 4000000
namespace LW
open PySem PySem.Spec PyProof.Rows L2 DD
theorem fldX_ap (isxf : Str → Str → Bool) (f : Str) (mo : M D) (r : Rho) (S : Sto) : fldX isxf f mo r S = (mo r S).then fun x r S => match x with
  | .exc c fs => if c ≠ "" ∧ isxf c f = true then DD.lift (fs.lookup f) r S else .no
  | _ => .no := by
  unfold fldX
  rw [bind_ap]
  refine congrArg _ (funext fun x => funext fun r => funext fun S => ?_)
  cases x <;> first | rfl | (simp only; split <;> rfl)
theorem hN1 : isub (.x "BadNumber") (.x "BadNumber") = some true := by rw [isub_eq]; decide +kernel
theorem hN2 : isub (.x "BadNumber") (.x "BadLot") = some false := by rw [isub_eq]; decide +kernel
theorem hN3 : isub (.x "BadNumber") (.x "Misfit") = some false := by rw [isub_eq]; decide +kernel
theorem hN4 : isub (.x "BadNumber") (.x "Out") = some false := by rw [isub_eq]; decide +kernel
theorem hN5 : isub (.x "BadNumber") (.b "ValueError") = some true := by rw [isub_eq]; decide +kernel
theorem tyhN (S : Sto) (fs : List (Str × D)) : tyD S (.exc "BadNumber" fs) = some (.x "BadNumber") := by
  unfold tyD
  exact if_neg (by decide)
theorem isxhN : isx_SeenError "BadNumber" = some true := by rfl
theorem isnhN (fs : List (Str × D)) : isD (.exc "BadNumber" fs) .non = some (.bl false) := by rfl
theorem isfhN : isXF "BadNumber" "part" = true := by rfl
theorem hL1 : isub (.x "BadLot") (.x "BadNumber") = some false := by rw [isub_eq]; decide +kernel
theorem hL2 : isub (.x "BadLot") (.x "BadLot") = some true := by rw [isub_eq]; decide +kernel
theorem hL3 : isub (.x "BadLot") (.x "Misfit") = some false := by rw [isub_eq]; decide +kernel
theorem hL4 : isub (.x "BadLot") (.x "Out") = some false := by rw [isub_eq]; decide +kernel
theorem hL5 : isub (.x "BadLot") (.b "ValueError") = some true := by rw [isub_eq]; decide +kernel
theorem tyhL (S : Sto) (fs : List (Str × D)) : tyD S (.exc "BadLot" fs) = some (.x "BadLot") := by
  unfold tyD
  exact if_neg (by decide)
theorem isxhL : isx_SeenError "BadLot" = some true := by rfl
theorem isnhL (fs : List (Str × D)) : isD (.exc "BadLot" fs) .non = some (.bl false) := by rfl
theorem isfhL : isXF "BadLot" "part" = true := by rfl
theorem hO1 : isub (.x "Out") (.x "BadNumber") = some false := by rw [isub_eq]; decide +kernel
theorem hO2 : isub (.x "Out") (.x "BadLot") = some false := by rw [isub_eq]; decide +kernel
theorem hO3 : isub (.x "Out") (.x "Misfit") = some false := by rw [isub_eq]; decide +kernel
theorem hO4 : isub (.x "Out") (.x "Out") = some true := by rw [isub_eq]; decide +kernel
theorem hO5 : isub (.x "Out") (.b "ValueError") = some true := by rw [isub_eq]; decide +kernel
theorem tyhO (S : Sto) (fs : List (Str × D)) : tyD S (.exc "Out" fs) = some (.x "Out") := by
  unfold tyD
  exact if_neg (by decide)
theorem isxhO : isx_SeenError "Out" = some true := by rfl
theorem isnhO (fs : List (Str × D)) : isD (.exc "Out" fs) .non = some (.bl false) := by rfl
section
variable {S S' : Sto} {act : Sto → Out D} {f : Nat} {r1 : Rho} {p : Str}
theorem t_heardhN (h : act S = .exc ⟨"BadNumber", [("part", .str p)]⟩ r1 S') (r : Rho) : callM (phi_law_heard f act) [lamD f] r S = .ok (.tup [.str "number", .str p]) r S' := by
  refine call_run ?_ rfl
  have e : startR N_law_heard [lamD f] = [some (lamD f), none, none, none, none, none, none, none] := rfl
  have ha : callM (fun _ S => act S) [] [some (lamD f), some .non, some (.int 0), none, none, none, none, none] S = .exc ⟨"BadNumber", [("part", .str p)]⟩ [some (lamD f), some .non, some (.int 0), none, none, none, none, none] S' := by
    unfold callM
    simp only [h]
  have hs : mSetS 1 (varF 3) [some (lamD f), some .non, some (.int 0), some (D.exc "BadNumber" [("part", .str p)]), none, none, none, none] S' = .ok .nx [some (lamD f), some (D.exc "BadNumber" [("part", .str p)]), some (.int 0), some (D.exc "BadNumber" [("part", .str p)]), none, none, none, none] S' := by
    simp [varF]
    rfl
  have ht := tried_exc (r := [some (lamD f), some .non, some (.int 0), none, none, none, none, none]) (S := S') (e := ⟨"BadNumber", [("part", .str p)]⟩) (isx := isx_SeenError) (i := 3) (ms := mSetS 1 (varF 3)) isxhN hs
  let K : List D := [.tup [.str "number", .bl true], .tup [.str "lot", .bl false], .tup [.str "misfit", .bl false]]
  have c1 : mLc (mIter true (varB 4)) (.tp [.nm 6, .nm 7]) (mTru (varB 7)) (varF 6) [6, 7] [some (lamD f), some (D.exc "BadNumber" [("part", .str p)]), some (.int 0), none, some (.own K), none, none, none] S' = .ok (.own (K.flatMap fun d => match d with | .tup [w, .bl true] => [w] | _ => [])) [some (lamD f), some (D.exc "BadNumber" [("part", .str p)]), some (.int 0), none, some (.own K), none, none, none] S' := by
    refine mLc_run (by simp [mIter, varB, itemsD, seqD]) (fun d hd acc ha => ?_) (fun d hd => ?_) (by simp [lim, K])
    · simp only [K, List.mem_cons, List.not_mem_nil, or_false] at hd
      rcases hd with rfl | rfl | rfl <;> simp [lcTurn, setT, setTs, wipeR, varF, varB, ha]
    · simp only [K, List.mem_cons, List.not_mem_nil, or_false] at hd
      rcases hd with rfl | rfl | rfl <;> simp
  have e2 : (K.flatMap fun d => match d with | .tup [w, .bl true] => [w] | _ => []) = [.str "number"] := rfl
  rw [e2] at c1
  have cc : ("BadNumber" : Str) ≠ "" := by decide
  have lk : List.lookup ("part" : Str) ([(("part" : Str), D.str p)] : List (Str × D)) = some (D.str p) := rfl
  have lo : lenD (.bor [.str "number"]) = some (.int 1) := rfl
  have ix0 : ∀ S, idxS S (.bor [.str "number"]) (.int 0) = some (.str "number") := fun S => rfl
  rw [e]
  unfold m_law_heard
  generalize mLc (mIter true (varB 4)) (.tp [.nm 6, .nm 7]) (mTru (varB 7)) (varF 6) [6, 7] = LC at *
  simp only [K] at c1
  simp [setNs, ha]
  rw [ht]
  simp [varB, varF, tyhN, isnhN, isAny, hN1, hN2, hN3, hN4, hN5, c1, cc, lk, lo, eqD_i, ix0, fldX_ap, isfhN]
theorem t_heardhL (h : act S = .exc ⟨"BadLot", [("part", .str p)]⟩ r1 S') (r : Rho) : callM (phi_law_heard f act) [lamD f] r S = .ok (.tup [.str "lot", .str p]) r S' := by
  refine call_run ?_ rfl
  have e : startR N_law_heard [lamD f] = [some (lamD f), none, none, none, none, none, none, none] := rfl
  have ha : callM (fun _ S => act S) [] [some (lamD f), some .non, some (.int 0), none, none, none, none, none] S = .exc ⟨"BadLot", [("part", .str p)]⟩ [some (lamD f), some .non, some (.int 0), none, none, none, none, none] S' := by
    unfold callM
    simp only [h]
  have hs : mSetS 1 (varF 3) [some (lamD f), some .non, some (.int 0), some (D.exc "BadLot" [("part", .str p)]), none, none, none, none] S' = .ok .nx [some (lamD f), some (D.exc "BadLot" [("part", .str p)]), some (.int 0), some (D.exc "BadLot" [("part", .str p)]), none, none, none, none] S' := by
    simp [varF]
    rfl
  have ht := tried_exc (r := [some (lamD f), some .non, some (.int 0), none, none, none, none, none]) (S := S') (e := ⟨"BadLot", [("part", .str p)]⟩) (isx := isx_SeenError) (i := 3) (ms := mSetS 1 (varF 3)) isxhL hs
  let K : List D := [.tup [.str "number", .bl false], .tup [.str "lot", .bl true], .tup [.str "misfit", .bl false]]
  have c1 : mLc (mIter true (varB 4)) (.tp [.nm 6, .nm 7]) (mTru (varB 7)) (varF 6) [6, 7] [some (lamD f), some (D.exc "BadLot" [("part", .str p)]), some (.int 0), none, some (.own K), none, none, none] S' = .ok (.own (K.flatMap fun d => match d with | .tup [w, .bl true] => [w] | _ => [])) [some (lamD f), some (D.exc "BadLot" [("part", .str p)]), some (.int 0), none, some (.own K), none, none, none] S' := by
    refine mLc_run (by simp [mIter, varB, itemsD, seqD]) (fun d hd acc ha => ?_) (fun d hd => ?_) (by simp [lim, K])
    · simp only [K, List.mem_cons, List.not_mem_nil, or_false] at hd
      rcases hd with rfl | rfl | rfl <;> simp [lcTurn, setT, setTs, wipeR, varF, varB, ha]
    · simp only [K, List.mem_cons, List.not_mem_nil, or_false] at hd
      rcases hd with rfl | rfl | rfl <;> simp
  have e2 : (K.flatMap fun d => match d with | .tup [w, .bl true] => [w] | _ => []) = [.str "lot"] := rfl
  rw [e2] at c1
  have cc : ("BadLot" : Str) ≠ "" := by decide
  have lk : List.lookup ("part" : Str) ([(("part" : Str), D.str p)] : List (Str × D)) = some (D.str p) := rfl
  have lo : lenD (.bor [.str "lot"]) = some (.int 1) := rfl
  have ix0 : ∀ S, idxS S (.bor [.str "lot"]) (.int 0) = some (.str "lot") := fun S => rfl
  rw [e]
  unfold m_law_heard
  generalize mLc (mIter true (varB 4)) (.tp [.nm 6, .nm 7]) (mTru (varB 7)) (varF 6) [6, 7] = LC at *
  simp only [K] at c1
  simp [setNs, ha]
  rw [ht]
  simp [varB, varF, tyhL, isnhL, isAny, hL1, hL2, hL3, hL4, hL5, c1, cc, lk, lo, eqD_i, ix0, fldX_ap, isfhL]
theorem t_heardhO (h : act S = .exc ⟨"Out", []⟩ r1 S') (r : Rho) : callM (phi_law_heard f act) [lamD f] r S = .ok (.str "out") r S' := by
  refine call_run ?_ rfl
  have e : startR N_law_heard [lamD f] = [some (lamD f), none, none, none, none, none, none, none] := rfl
  have ha : callM (fun _ S => act S) [] [some (lamD f), some .non, some (.int 0), none, none, none, none, none] S = .exc ⟨"Out", []⟩ [some (lamD f), some .non, some (.int 0), none, none, none, none, none] S' := by
    unfold callM
    simp only [h]
  have hs : mSetS 1 (varF 3) [some (lamD f), some .non, some (.int 0), some (D.exc "Out" []), none, none, none, none] S' = .ok .nx [some (lamD f), some (D.exc "Out" []), some (.int 0), some (D.exc "Out" []), none, none, none, none] S' := by
    simp [varF]
    rfl
  have ht := tried_exc (r := [some (lamD f), some .non, some (.int 0), none, none, none, none, none]) (S := S') (e := ⟨"Out", []⟩) (isx := isx_SeenError) (i := 3) (ms := mSetS 1 (varF 3)) isxhO hs
  let K : List D := [.tup [.str "number", .bl false], .tup [.str "lot", .bl false], .tup [.str "misfit", .bl false]]
  have c1 : mLc (mIter true (varB 4)) (.tp [.nm 6, .nm 7]) (mTru (varB 7)) (varF 6) [6, 7] [some (lamD f), some (D.exc "Out" []), some (.int 0), none, some (.own K), none, none, none] S' = .ok (.own (K.flatMap fun d => match d with | .tup [w, .bl true] => [w] | _ => [])) [some (lamD f), some (D.exc "Out" []), some (.int 0), none, some (.own K), none, none, none] S' := by
    refine mLc_run (by simp [mIter, varB, itemsD, seqD]) (fun d hd acc ha => ?_) (fun d hd => ?_) (by simp [lim, K])
    · simp only [K, List.mem_cons, List.not_mem_nil, or_false] at hd
      rcases hd with rfl | rfl | rfl <;> simp [lcTurn, setT, setTs, wipeR, varF, varB, ha]
    · simp only [K, List.mem_cons, List.not_mem_nil, or_false] at hd
      rcases hd with rfl | rfl | rfl <;> simp
  have e2 : (K.flatMap fun d => match d with | .tup [w, .bl true] => [w] | _ => []) = [] := rfl
  rw [e2] at c1
  have em : eqD (.bor []) (.own []) = some (.bl true) := by rfl
  rw [e]
  unfold m_law_heard
  generalize mLc (mIter true (varB 4)) (.tp [.nm 6, .nm 7]) (mTru (varB 7)) (varF 6) [6, 7] = LC at *
  simp only [K] at c1
  simp [setNs, ha]
  rw [ht]
  simp [varB, varF, tyhO, isnhO, isAny, hO1, hO2, hO3, hO4, hO5, c1, em]
theorem t_fine (h : act S = .ok .non r1 S') (r : Rho) : callM (phi_law_heard f act) [lamD f] r S = .ok (.str "fine") r S' := by
  refine call_run ?_ rfl
  have e : startR N_law_heard [lamD f] = [some (lamD f), none, none, none, none, none, none, none] := rfl
  have ha : callM (fun _ S => act S) [] [some (lamD f), some .non, some (.int 0), none, none, none, none, none] S = .ok .non [some (lamD f), some .non, some (.int 0), none, none, none, none, none] S' := by
    unfold callM
    simp only [h]
  rw [e]
  unfold m_law_heard
  simp [setNs, ha, varB, isD, isB, isNonD]
end
theorem lam_okN {mb : M D} {r : Rho} {S S' : Sto} {r1 : Rho} (h : mb r S = .ok .non r1 S') : lamF mb r S = .ok .non r1 S' := by unfold lamF; rw [h]; rfl
theorem lam_exc {mb : M D} {r : Rho} {S S' : Sto} {e : Ex} {r1 : Rho} (h : mb r S = .exc e r1 S') : lamF mb r S = .exc e r1 S' := by unfold lamF; rw [h]
end LW

set_option Elab.async false
set_option linter.all false
set_option maxRecDepth 100000
set_option maxHeartbeats 4000000
namespace LW
open PySem PySem.Spec PyProof.Rows L2 DD
theorem ups_at {n j : Nat} {d : D} (h : (ups 0 n)[j]? = some d) : j < n ∧ d = .int (j : Nat) := by
  have hjl : j < n := by
    have := (List.getElem?_eq_some_iff.mp h).1
    simpa [ups] using this
  refine ⟨hjl, ?_⟩
  unfold ups at h
  rw [List.getElem?_map, List.getElem?_range hjl] at h
  simpa using h.symm
theorem ups_len (n : Nat) : (ups 0 n).length = n := by simp [ups]
theorem log_big {n : Int} (h : 0 < n) (h2 : n < 2 ^ 200) : n.natAbs.log2 < 9000 := by
  have h3 : n.natAbs < 2 ^ 9000 := Nat.lt_of_lt_of_le (show n.natAbs < 2 ^ 200 by omega) (Nat.pow_le_pow_right (by omega) (by omega))
  exact (Nat.log2_lt (by omega)).mpr h3
theorem bk_at0 {S : Sto} {k : Nat} {cells : List Int} {a q : Int} (h : Bk S k cells a q) : S[k]? = some (bkOb cells a q) := arrAt_some h
theorem arrAt_of {S : Sto} {k : Nat} {xs : List D} (h : S[k]? = some (.arr xs)) : arrAt S k = some xs := by
  unfold arrAt; rw [h]
theorem bk_of {S : Sto} {k : Nat} {cells : List Int} {a q : Int} (h : S[k]? = some (bkOb cells a q)) : Bk S k cells a q := arrAt_of h
theorem pw6 : powD (.int 10) (.int 6) = some (.int 1000000) := by rfl
theorem pw20 : powD (.int 10) (.int 20) = some (.int 100000000000000000000) := by rfl
theorem land_sml {ws : List Wr} : ∀ {bs : List (List Int)}, (∀ b ∈ bs, Sml b) → (∀ p ∈ ws, Sml p.2) → ∀ b ∈ landB bs ws, Sml b := by
  induction ws with
  | nil => intro bs h _ b hb; exact h b hb
  | cons p ws ih =>
    intro bs h hw b hb
    refine ih (bs := bs.set p.1 p.2) (fun c hc => ?_) (fun q hq => hw q (List.mem_cons_of_mem _ hq)) b hb
    rcases List.mem_or_eq_of_mem_set hc with hc | hc
    · exact h c hc
    · rw [hc]; exact hw p List.mem_cons_self
theorem good_bs {bs : List (List Int)} (h : ∀ b ∈ bs, Sml b) (hl : bs.length ≤ 200) : goodDs (bsD bs) = true ∧ wtDs (bsD bs) ≤ 250000 ∧ dpDs (bsD bs) ≤ 1 := by
  refine ⟨goodDs_all fun d hd => ?_, ?_, dpDs_le (w := 1) fun d hd => ?_⟩
  · obtain ⟨b, hb, rfl⟩ := List.mem_map.mp hd
    exact good_blk (h b hb)
  · have wt := wtDs_le (w := 1112) (ds := bsD bs) fun d hd => by
      obtain ⟨b, hb, rfl⟩ := List.mem_map.mp hd
      exact wt_blk (h b hb)
    rw [bsD_len] at wt
    omega
  · obtain ⟨b, hb, rfl⟩ := List.mem_map.mp hd
    exact dp_blk b
def gB (bs : List (List Int)) (i : Nat) : List Int := bs.getD i []
theorem fz_fr {r : Rho} {i : Nat} {d : D} (h : r[i]? = some (some d)) (hf : frO d = true) : fzS i r = r := by
  unfold fzS; rw [h]
  cases d <;> first | rfl | cases hf
theorem add_oo (xs ys : List D) (h : xs.length + ys.length ≤ lim) : addD (.own xs) (.own ys) = some (.own (xs ++ ys)) := by
  show (if xs.length + ys.length ≤ lim then some (D.own (xs ++ ys)) else none) = _
  rw [if_pos h]
theorem add_bo (xs ys : List D) (h : xs.length + ys.length ≤ lim) : addD (.bor xs) (.own ys) = some (.own (xs ++ ys)) := by
  show (if xs.length + ys.length ≤ lim then some (D.own (xs ++ ys)) else none) = _
  rw [if_pos h]
theorem add_lo (xs ys : List D) (h : xs.length + ys.length ≤ lim) : addD (.lst xs) (.own ys) = some (.own (xs ++ ys)) := by
  show (if xs.length + ys.length ≤ lim then some (D.own (xs ++ ys)) else none) = _
  rw [if_pos h]
theorem lot_one {o n : Int} (h1 : 0 ≤ o) (h2 : o < n) : Lot [o] n := by
  refine ⟨fun i hi => ?_, fun j a b e1 e2 => ?_, by simp⟩
  · rw [List.mem_singleton.mp hi]; omega
  · cases e2
theorem lot_nil (n : Int) : Lot [] n := by
  refine ⟨fun i hi => ?_, fun j a b e1 e2 => ?_, by simp⟩
  · cases hi
  · cases e1
theorem lot_up {n : Nat} (h : n ≤ 1000) : Lot (upI n) n := by
  refine ⟨fun i hi => ?_, fun j a b e1 e2 => ?_, by unfold upI; simp; omega⟩
  · obtain ⟨k, hk, rfl⟩ := List.mem_map.mp hi
    have := List.mem_range.mp hk
    omega
  · unfold upI at e1 e2
    rw [List.getElem?_map] at e1 e2
    obtain ⟨x, x1, rfl⟩ := Option.map_eq_some_iff.mp e1
    obtain ⟨y, y1, rfl⟩ := Option.map_eq_some_iff.mp e2
    rw [List.getElem?_eq_some_iff] at x1 y1
    obtain ⟨p1, p2⟩ := x1
    obtain ⟨p3, p4⟩ := y1
    rw [List.getElem_range] at p2 p4
    omega
theorem ne_number_many : neD (.tup [.str "number", .str "many"]) (.tup [.str "number", .str "many"]) = some (.bl false) := by
  have e : eqB (.tup [.str "number", .str "many"]) (.tup [.str "number", .str "many"]) = some true := by decide +kernel
  unfold neD; rw [e]; rfl
theorem ne_number_at : neD (.tup [.str "number", .str "at"]) (.tup [.str "number", .str "at"]) = some (.bl false) := by
  have e : eqB (.tup [.str "number", .str "at"]) (.tup [.str "number", .str "at"]) = some true := by decide +kernel
  unfold neD; rw [e]; rfl
theorem ne_number_block : neD (.tup [.str "number", .str "block"]) (.tup [.str "number", .str "block"]) = some (.bl false) := by
  have e : eqB (.tup [.str "number", .str "block"]) (.tup [.str "number", .str "block"]) = some true := by decide +kernel
  unfold neD; rw [e]; rfl
theorem ne_lot_lands : neD (.tup [.str "lot", .str "lands"]) (.tup [.str "lot", .str "lands"]) = some (.bl false) := by
  have e : eqB (.tup [.str "lot", .str "lands"]) (.tup [.str "lot", .str "lands"]) = some true := by decide +kernel
  unfold neD; rw [e]; rfl
theorem ne_lot_torn : neD (.tup [.str "lot", .str "torn"]) (.tup [.str "lot", .str "torn"]) = some (.bl false) := by
  have e : eqB (.tup [.str "lot", .str "torn"]) (.tup [.str "lot", .str "torn"]) = some true := by decide +kernel
  unfold neD; rw [e]; rfl
section
variable {S : Sto} {m : Nat} {bs : List (List Int)} {ws : List Wr} {lf : Option Nat}
theorem bs_set (bs : List (List Int)) (i : Nat) (b : List Int) : bsD (bs.set i b) = (bsD bs).set i (blk b) := by unfold bsD; rw [List.map_set]
theorem read_loop {x0 x1 x2 : Option D} : ∀ (ws : List Wr) (acc : List (List Int)) (x3 x4 : Option D), (∀ p ∈ ws, p.1 < acc.length) →
    ∃ y3 y4, forLoop (.tp [.nm 4, .nm 5]) (mSetIV 3 (varB 4) (varF 5)) (wD ws) [x0, x1, x2, some (.own (bsD acc)), x3, x4] S = .ok .nx [x0, x1, x2, some (.own (bsD (landB acc ws))), y3, y4] S
  | [], acc, x3, x4, _ => ⟨x3, x4, rfl⟩
  | (a, b) :: ws, acc, x3, x4, h => by
    have ha := h (a, b) List.mem_cons_self
    obtain ⟨y3, y4, e⟩ := read_loop ws (acc.set a b) (some (.int (a : Nat))) (some (blk b)) fun p hp => by rw [List.length_set]; exact h p (List.mem_cons_of_mem _ hp)
    refine ⟨y3, y4, ?_⟩
    have e0 : wD ((a, b) :: ws) = .tup [.int (a : Nat), blk b] :: wD ws := rfl
    have es : setT (.tp [.nm 4, .nm 5]) (.tup [.int (a : Nat), blk b]) [x0, x1, x2, some (.own (bsD acc)), x3, x4] = some [x0, x1, x2, some (.own (bsD acc)), some (.int (a : Nat)), some (blk b)] := rfl
    have ix : ixN acc.length (a : Int) = some a := by
      unfold ixN
      have : a < acc.length := ha
      rw [if_pos (by omega), if_pos (by omega)]
      simp
    have eb : mSetIV 3 (varB 4) (varF 5) [x0, x1, x2, some (.own (bsD acc)), some (.int (a : Nat)), some (blk b)] S = .ok .nx [x0, x1, x2, some (.own (bsD (acc.set a b))), some (.int (a : Nat)), some (blk b)] S := by
      have f4 : varF 5 [x0, x1, x2, some (.own (bsD acc)), some (.int (a : Nat)), some (blk b)] S = .ok (blk b) [x0, x1, x2, some (.own (bsD acc)), some (.int (a : Nat)), some (blk b)] S := rfl
      have b3 : varB 4 [x0, x1, x2, some (.own (bsD acc)), some (.int (a : Nat)), some (blk b)] S = .ok (.int (a : Nat)) [x0, x1, x2, some (.own (bsD acc)), some (.int (a : Nat)), some (blk b)] S := rfl
      have fb : frO (blk b) = true := rfl
      rw [bs_set]
      simp [mSetIV, f4, b3, slotL, ix, fb]
    rw [e0, forLoop]
    simp only [es, eb]
    exact e
theorem s_law_is (hd : S[3]? = some (dkf m bs ws lf)) (hb : bs.length = m) (hm4 : 4 ≤ m) (hm : m ≤ 30) (hl : ws.length ≤ 500) (hw : ∀ p ∈ ws, p.1 < bs.length) (hs : ∀ p ∈ ws, Sml p.2) (hbs : ∀ b ∈ bs, Sml b) (r : Rho) : callM phi_law_is [.ob 3, .bor (bsD bs), .lst (wD ws)] r S = .ok (.bl true) r S := by
  have kp := w_kept hd
  have wt := w_waiting hd
  obtain ⟨g1, g2, g3⟩ := good_bs hbs (by omega)
  obtain ⟨s1, rs1, _, ne1⟩ := repr_eq (d := .tup (bsD bs)) (by simpa only [goodD] using g1) (by simp only [wtD]; omega) (by simp only [dpD]; omega)
  let rd := landB bs ws
  have hr : rd.length = m := by rw [landB_len]; exact hb
  obtain ⟨g4, g5, g6⟩ := good_bs (bs := rd) (land_sml hbs hs) (by omega)
  obtain ⟨s3, rs3, eq3, _⟩ := repr_eq (d := .own (bsD rd)) (by simpa only [goodD] using g4) (by simp only [wtD]; omega) (by simp only [dpD]; omega)
  have hd' := hd
  unfold dkf at hd'
  let W : D := .lst (wD ws)
  let K : D := .bor (bsD bs)
  obtain ⟨y4, y5, el⟩ := read_loop (S := S) (x0 := some (.ob 3)) (x1 := some K) (x2 := some W) ws bs none none hw
  let R : Rho := [some (.ob 3), some K, some W, some (.own (bsD rd)), y4, y5]
  have ln : lenD K = some (.int m) := by
    show some (D.int (bsD bs).length) = _
    rw [bsD_len, hb]
  have lnw : lenD W = some (.int ws.length) := by
    show some (D.int (wD ws).length) = _
    rw [wD_len]
  have fm : (ups 0 m).flatMap (fun d => match d with | .int i => [blk (gB rd i.toNat)] | _ => []) = bsD rd := by
    have e1 : (ups 0 m).flatMap (fun d => match d with | .int i => [blk (gB rd i.toNat)] | _ => []) = (List.range m).map fun k => blk (gB rd k) := by
      unfold ups
      rw [List.flatMap_map, map_flat (fun k => blk (gB rd k))]
      refine congrArg (fun f => (List.range m).flatMap f) (funext fun k => ?_)
      show [blk (gB rd ((0 : Int) + (k : Int)).toNat)] = _
      rw [Int.zero_add, Int.toNat_natCast]
    rw [e1]
    refine List.ext_getElem? fun k => ?_
    unfold bsD
    rw [List.getElem?_map, List.getElem?_map]
    by_cases hk : k < m
    · rw [List.getElem?_range hk, List.getElem?_eq_getElem (by omega : k < rd.length)]
      show some (blk (rd.getD k [])) = some (blk rd[k])
      rw [List.getD_eq_getElem?_getD, List.getElem?_eq_getElem (by omega : k < rd.length)]
      rfl
    · rw [List.getElem?_eq_none (by simp; omega), List.getElem?_eq_none (by omega)]
      rfl
  let R' : Rho := [some (.ob 3), some K, some W, some (.own (bsD rd)), none, y5]
  let me : M D := mMeth "look" (mtL [(0, ⟨phi_Disk_look, [.p 0, .p 1], [], 2⟩)]) (varF 0) (mCons (varF 4) (mNil)) (mNil)
  have lp : lcLoop (.nm 4) mYes me [4] (ups 0 m) [] R' S = .ok (bsD rd) R' S := by
    have z := lc_run (tg := .nm 4) (cs := mYes) (me := me) (own := [4]) (r0 := R') (S := S) (ds := ups 0 m) (g := fun d => match d with | .int i => [blk (gB rd i.toNat)] | _ => []) (acc := []) (fun d hdd acc ha => ?_) (fun d hdd => ?_) (by rw [ups_len]; simp [lim]; omega)
    · rw [fm, List.nil_append] at z
      exact z
    · obtain ⟨j, hj⟩ := List.mem_iff_getElem?.mp hdd
      obtain ⟨hjm, rfl⟩ := ups_at hj
      have lk := f_look hd (a := j) hjm hb (by omega) hs (b := gB rd j) (by
        show rd[j]? = _
        unfold gB
        rw [List.getD_eq_getElem?_getD, List.getElem?_eq_getElem (by omega)]
        rfl)
      have nb : borD (blk (gB rd j)) = false := rfl
      have fb : frO (blk (gB rd j)) = true := rfl
      have fz : frzD (blk (gB rd j)) = blk (gB rd j) := rfl
      simp only [Int.toNat_natCast]
      generalize blk (gB rd j) = BB at *
      clear_value K W rd
      simp [me, R', lcTurn, setT, wipeR, mYes, varF, mMeth_on, hd', mtL, List.lookup, arrM, arr, src1, lk, nb, ha, fb, fz]
    · obtain ⟨j, hj⟩ := List.mem_iff_getElem?.mp hdd
      obtain ⟨hjm, rfl⟩ := ups_at hj
      simp
  have lp2 : lcLoop (.nm 4) mYes me [4] (ups 0 m) [] R S = .ok (bsD rd) R' S := by
    cases hU : ups 0 m with
    | nil => have := ups_len m; rw [hU] at this; simp at this; omega
    | cons d ds =>
      rw [hU] at lp
      exact lp
  have vb : varB 1 R S = .ok K R S := rfl
  have c1 : mLc (mRng1 (mCons (frz (mUn lenD (varB 1))) (mNil))) (.nm 4) (mYes) me [4] R S = .ok (.own (bsD rd)) R' S := mLc_ap (mRng1_run (n := m) (by clear_value R K; simp [vb, ln]) (by omega)) lp2
  have tu : tupOfD K = some (.tup (bsD bs)) := rfl
  have lo : listOfD K = some (.own (bsD bs)) := rfl
  have rs3b : reprD (.bor (bsD rd)) = some (.str s3) := by rw [← rs3]; rfl
  have ft : forLoop (.tp [.nm 4, .nm 5]) (mSetIV 3 (varB 4) (varF 5)) (wD ws) [some (.ob 3), some K, some W, some (.own (bsD bs)), none, none] S = .ok .nx R S := el
  have ew : W = .lst (wD ws) := rfl
  have ek : borD K = true := rfl
  have ek2 : K = .bor (bsD bs) := rfl
  refine call_run ?_ rfl
  have e : startR N_law_is [.ob 3, .bor (bsD bs), .lst (wD ws)] = [some (.ob 3), some K, some W, none, none, none] := rfl
  have em : m_law_is = mSeq (mSetS 3 (mUn listOfD (varB 1))) (mSeq (mFor (.tp [.nm 4, .nm 5]) (mIterV 2) (mSetIV 3 (varB 4) (varF 5))) (mSeq (mIfS (mOr (mTru (mBin neD (mUn reprD (mMeth "kept" (mtL [(0, ⟨phi_Disk_kept, [.p 0], [], 1⟩)]) (varF 0) (mNil) (mNil))) (mUn reprD (mUn tupOfD (varB 1))))) (mTru (mBin neD (mMeth "waiting" (mtL [(0, ⟨phi_Disk_waiting, [.p 0], [], 1⟩)]) (varF 0) (mNil) (mNil)) (mUn lenD (varB 2))))) (mRet (M.ret (.bl false))) (M.ret .nx)) (mRet (mBin eqD (mUn reprD (mLc (mRng1 (mCons (frz (mUn lenD (varB 1))) (mNil))) (.nm 4) (mYes) me [4])) (mUn reprD (varB 3)))))) := rfl
  have p1 : mSetS 3 (mUn listOfD (varB 1)) [some (.ob 3), some K, some W, none, none, none] S = .ok .nx [some (.ob 3), some K, some W, some (.own (bsD bs)), none, none] S := by
    rw [ek2]
    have lo' : listOfD (.bor (bsD bs)) = some (.own (bsD bs)) := rfl
    simp [varB, lo']
  have p2 : mFor (.tp [.nm 4, .nm 5]) (mIterV 2) (mSetIV 3 (varB 4) (varF 5)) [some (.ob 3), some K, some W, some (.own (bsD bs)), none, none] S = .ok .nx R S := by
    have it : mIterV 2 [some (.ob 3), some K, some W, some (.own (bsD bs)), none, none] S = .ok (wD ws) [some (.ob 3), some K, some W, some (.own (bsD bs)), none, none] S := rfl
    unfold mFor
    rw [bind_ap, it, then_ok, ft]
  generalize mLc (mRng1 (mCons (frz (mUn lenD (varB 1))) (mNil))) (.nm 4) (mYes) me [4] = LC at *
  rw [e, em, mSeq_ap, p1, seq_nx, mSeq_ap, p2, seq_nx]
  simp only [R, R'] at c1 ⊢
  rw [ek2] at tu c1 ⊢
  clear lp lp2 el p1 p2 ft fm
  have lnw' : lenD (.lst (wD ws)) = some (.int ws.length) := lnw
  rw [ew] at c1 ⊢
  clear_value rd
  generalize bsD rd = RD at *
  generalize bsD bs = BB at *
  generalize wD ws = WW at *
  simp [varF, varB, mMeth_on, hd', mtL, List.lookup, arrM, arr, src1, kp, wt, tu, rs1, ne1, c1, rs3, rs3b, eq3, neD_i, lnw']
end
end LW

set_option Elab.async false
set_option linter.all false
set_option maxRecDepth 100000
set_option maxHeartbeats 4000000
namespace LW
open PySem PySem.Spec PyProof.Rows L2 DD
noncomputable def rl : M D := mLam 0 (lamN "_law_refused_right") [1, 2] phi_law_heard (mMeth "fuse" (mtL [(0, ⟨phi_Disk_fuse, [.p 0, .p 1], [], 2⟩)]) (varF 1) (mCons (varF 2) (mNil)) (mNil))
noncomputable def rrB : M Fl := mIfS (mTru (mBin neD (mFzs [1, 2] rl) (mTup (mCons (M.ret (.str "number")) (mCons (M.ret (.str "many")) (mNil)))))) (mRet (M.ret (.bl false))) (M.ret .nx)
def rrI : M (List D) := mIter false (mLst (mCons (M.ret .non) (mCons (M.ret (.int 0)) (mCons (mUn negD (M.ret (.int 1))) (mCons (M.ret (.bl true)) (mCons (M.ret (.str "1")) (mCons (frz (mLst (mCons (M.ret (.int 1)) (mNil)))) (mCons (frz (mBin subD (mUn negD (M.ret (.int 1))) (mCall phi_law_dip [.p 0, .p 1] [] 2 (mCons (varF 0) (mCons (frz (mBin powD (M.ret (.int 10)) (M.ret (.int 20)))) (mNil))) (mNil)))) (mNil)))))))))
theorem rr_eq : m_law_refused_right = mSeq (mFor (.nm 2) rrI rrB) (mRet (M.ret (.bl true))) := rfl
structure St (S : Sto) (cells : List Int) (a q : Int) (m : Nat) (bs : List (List Int)) (ws : List Wr) (lf : Option Nat) : Prop where
  t0 : S[0]? = some (.tab (lamN "_law_refused_right"))
  t1 : S[1]? = some (.tab (lamN "law"))
  bk : Bk S 2 cells a q
  a0 : 0 ≤ a
  q0 : 0 ≤ q
  d : S[3]? = some (dkf m bs ws lf)
  len : bs.length = m
  m4 : 4 ≤ m
  m30 : m ≤ 30
  wlt : ∀ p ∈ ws, p.1 < bs.length
  ws : ∀ p ∈ ws, Sml p.2
  bs : ∀ b ∈ bs, Sml b
section
variable {S : Sto} {cells : List Int} {a q : Int} {m : Nat} {bs : List (List Int)} {ws : List Wr} {lf : Option Nat}
theorem St.draw (h : St S cells a q m bs ws lf) {a' q' : Int} (ha : 0 ≤ a') (hq : 0 ≤ q') : St (S.set 2 (bkOb cells a' q')) cells a' q' m bs ws lf :=
  ⟨(List.getElem?_set_ne (by omega)).trans h.t0, (List.getElem?_set_ne (by omega)).trans h.t1, h.bk.set, ha, hq, (List.getElem?_set_ne (by omega)).trans h.d, h.len, h.m4, h.m30, h.wlt, h.ws, h.bs⟩
theorem St.disk (h : St S cells a q m bs ws lf) {bs' : List (List Int)} {ws' : List Wr} {lf' : Option Nat} (h1 : bs'.length = m) (h3 : ∀ p ∈ ws', p.1 < bs'.length) (h4 : ∀ p ∈ ws', Sml p.2) (h5 : ∀ b ∈ bs', Sml b) : St (S.set 3 (dkf m bs' ws' lf')) cells a q m bs' ws' lf' :=
  ⟨(List.getElem?_set_ne (by omega)).trans h.t0, (List.getElem?_set_ne (by omega)).trans h.t1, bk_of ((List.getElem?_set_ne (by omega)).trans (bk_at0 h.bk)), h.a0, h.q0, set_at h.d _, h1, h.m4, h.m30, h3, h4, h5⟩
theorem St.add (h : St S cells a q m bs ws lf) {n : Nat} {b : List Int} {lf' : Option Nat} (hn : n < m) (hb : Sml b) : St (S.set 3 (dkf m bs (ws ++ [(n, b)]) lf')) cells a q m bs (ws ++ [(n, b)]) lf' :=
  h.disk h.len (fun p hp => by
    rcases List.mem_append.mp hp with hp | hp
    · exact h.wlt p hp
    · rw [List.mem_singleton.mp hp, h.len]; exact hn) (fun p hp => by
    rcases List.mem_append.mp hp with hp | hp
    · exact h.ws p hp
    · rw [List.mem_singleton.mp hp]; exact hb) h.bs
theorem rr_turn (h : St S cells a q m bs ws lf) {x : D} {b : Bool} (hi : intD x = some b) (hx : ∀ i, x = .int i → i < 1) : rrB [some (.ob 2), some (.ob 3), some x] S = .ok .nx [some (.ob 2), some (.ob 3), some x] S := by
  have hf := int_fr hi
  have xf := x_fuse h.d hf (no_fuse hi hx)
  have hd := h.d
  unfold dkf at hd
  let C : Rho := [none, some (.ob 3), some x]
  have l1 : rl [some (.ob 2), some (.ob 3), some x] S = .ok (.tup [.str "number", .str "many"]) [some (.ob 2), some (.ob 3), some x] S := by
    refine lam_run h.t0 fun f => ?_
    have ec : capR [1, 2] [some (.ob 2), some (.ob 3), some x] = C := by simp [capR, C, hf]
    rw [ec]
    refine t_heardhN (r1 := C) (lam_exc ?_) _
    have v2 : ∀ a b S, varF 2 [a, b, some x] S = .ok x [a, b, some x] S := fun a b S => varF_fr rfl hf
    have v1 : ∀ a b S, varF 1 [a, some (.ob 3), b] S = .ok (.ob 3) [a, some (.ob 3), b] S := fun a b S => rfl
    show mMeth _ _ _ _ _ C S = _
    simp only [C]
    simp [mMeth_on, v1, v2, hd, mtL, List.lookup, arrM, arr, src1, ar_fr hf, xf]
  have f0 : fzS 2 (fzS 1 [some (.ob 2), some (.ob 3), some x]) = [some (.ob 2), some (.ob 3), some x] := by
    have e1 : fzS 1 [some (.ob 2), some (.ob 3), some x] = [some (.ob 2), some (.ob 3), some x] := rfl
    rw [e1]
    exact fz_fr (d := x) rfl hf
  unfold rrB
  generalize [some (D.ob 2), some (D.ob 3), some x] = R at *
  simp [mFzs, f0, l1, ne_number_many]
theorem s_refused (h : St S cells a q m bs ws lf) (hb : a < 2 ^ 18) (r : Rho) : ∃ S' a' q', St S' cells a' q' m bs ws lf ∧ callM phi_law_refused_right [.ob 2, .ob 3] r S = .ok (.bl true) r S' := by
  obtain ⟨u, a1, q1, v1, v2, v3, v4, v5, e1⟩ := s_ladle h.bk (many := 100000000000000000000) (by omega) (by decide +kernel) h.a0 (by omega) h.q0
  have h1 := h.draw (a' := a1) (q' := q1) (by have := h.a0; omega) v5
  generalize S.set 2 (bkOb cells a1 q1) = S1 at *
  let L : List D := [.non, .int 0, .int (-1), .bl true, .str "1", .lst [.int 1], .int (-1 - u)]
  have it : rrI [some (.ob 2), some (.ob 3), none] S = .ok L [some (.ob 2), some (.ob 3), none] S1 := by
    unfold rrI
    simp [mIter, varF, arrM, arr, src1, pw20, e1, itemsD, seqD, L]
  obtain ⟨rf, Sf, ef, ⟨x2, rfl⟩, eSf⟩ := for_run (tg := .nm 2) (body := rrB) (fun _ r S' => (∃ x2, r = [some (.ob 2), some (.ob 3), x2]) ∧ S' = S1) (ds := L) (i := 0) (r := [some (.ob 2), some (.ob 3), none]) (S := S1) ⟨⟨none, rfl⟩, rfl⟩ fun j d r S' hj ⟨⟨x2, er⟩, eS⟩ => by
    subst er eS
    have hd := List.mem_of_getElem? hj
    have hh : (∃ b, intD d = some b) ∧ ∀ i, d = .int i → i < 1 := by
      simp only [L, List.mem_cons, List.not_mem_nil, or_false] at hd
      rcases hd with rfl | rfl | rfl | rfl | rfl | rfl | rfl
      · exact ⟨⟨_, rfl⟩, fun i e => by cases e⟩
      · exact ⟨⟨_, rfl⟩, fun i e => by cases e; omega⟩
      · exact ⟨⟨_, rfl⟩, fun i e => by cases e; omega⟩
      · exact ⟨⟨_, rfl⟩, fun i e => by cases e⟩
      · exact ⟨⟨_, rfl⟩, fun i e => by cases e⟩
      · exact ⟨⟨_, rfl⟩, fun i e => by cases e⟩
      · exact ⟨⟨_, rfl⟩, fun i e => by cases e; omega⟩
    obtain ⟨⟨b, hb⟩, hx⟩ := hh
    exact ⟨_, rfl, _, _, .inl (rr_turn h1 hb hx), ⟨_, rfl⟩, rfl⟩
  rw [eSf] at ef
  refine ⟨S1, a1, q1, h1, call_run ⟨[some (.ob 2), some (.ob 3), x2], ?_⟩ rfl⟩
  have e0 : startR N_law_refused_right [.ob 2, .ob 3] = [some (.ob 2), some (.ob 3), none] := rfl
  have fr : mFor (.nm 2) rrI rrB [some (.ob 2), some (.ob 3), none] S = .ok .nx [some (.ob 2), some (.ob 3), x2] S1 := by
    unfold mFor
    rw [bind_ap, it, then_ok, ef]
  rw [e0, rr_eq, mSeq_ap, fr, seq_nx]
  rfl
end
end LW

set_option Elab.async false
set_option linter.all false
set_option maxRecDepth 100000
set_option maxHeartbeats 4000000
namespace LW
open PySem PySem.Spec PyProof.Rows L2 DD
def fL : M D := mLc (mRng1 (mCons (frz (mCall phi_law_dip [.p 0, .p 1] [] 2 (mCons (varF 1) (mCons (M.ret (.int 3)) (mNil))) (mNil))) (mNil))) (.nm 16) (mYes) (mCall phi_law_dip [.p 0, .p 1] [] 2 (mCons (varF 1) (mCons (M.ret (.int 50)) (mNil))) (mNil)) [16]
noncomputable def lam0 : M D := mLam 1 (lamN "law") [3, 10, 11] phi_law_heard (mMeth "write" (mtL [(0, ⟨phi_Disk_write, [.p 0, .p 1, .p 2], [], 3⟩)]) (varF 3) (mCons (varF 10) (mCons (frz (mUn listOfD (varB 11))) (mNil))) (mNil))
noncomputable def bWr0 : M Fl := mSetS 12 (mFzs [3, 10, 11] lam0)
noncomputable def bWr1 : M Fl := mSetS 5 (mBin addD (varB 5) (mBin mulD (mLst (mCons (mTup (mCons (varF 10) (mCons (varF 11) (mNil)))) (mNil))) (mUn intOfD (mBin eqD (varB 9) (M.ret (.str "fine"))))))
noncomputable def bWr : M Fl := mSeq bWr0 bWr1
noncomputable def lam1 : M D := mLam 1 (lamN "law") [3] phi_law_heard (mMeth "flush" (mtL [(0, ⟨phi_Disk_flush, [.p 0], [], 1⟩)]) (varF 3) (mNil) (mNil))
noncomputable def bFl0 : M Fl := mSetS 12 (mFzs [3] lam1)
noncomputable def bFl1 : M Fl := mIfS (mTru (mBin eqD (varB 9) (M.ret (.str "fine")))) (mSeq (mFor (.tp [.nm 13, .nm 14]) (mIterV 5) (mSetIV 4 (varB 13) (varF 14))) (mSetS 5 (mLst (mNil)))) (M.ret .nx)
noncomputable def bFl : M Fl := mSeq bFl0 bFl1
noncomputable def lam2 : M D := mLam 1 (lamN "law") [3, 6] phi_law_heard (mMeth "fuse" (mtL [(0, ⟨phi_Disk_fuse, [.p 0, .k 0], [], 2⟩)]) (varF 3) (mNil) (mCons (varF 6) (mNil)))
noncomputable def bFu0 : M Fl := mSetS 6 (mCall phi_law_pick [.p 0, .p 1] [] 2 (mCons (varF 1) (mCons (frz (mLst (mCons (M.ret (.int 1)) (mCons (M.ret (.int 2)) (mCons (M.ret (.int 3)) (mCons (frz (mBin powD (M.ret (.int 10)) (M.ret (.int 20)))) (mCons (frz (mBin addD (M.ret (.int 1)) (mCall phi_law_dip [.p 0, .p 1] [] 2 (mCons (varF 1) (mCons (M.ret (.int 9)) (mNil))) (mNil)))) (mNil)))))))) (mNil))) (mNil))
noncomputable def bFu1 : M Fl := mSetS 12 (mFzs [3, 6] lam2)
noncomputable def bFu : M Fl := mSeq bFu0 bFu1
noncomputable def lam3 : M D := mLam 1 (lamN "law") [3] phi_law_heard (mMeth "cut" (mtL [(0, ⟨phi_Disk_cut, [.p 0, .p 1, .d 0], [.tup []], 3⟩)]) (varF 3) (mCons (frz (mLst (mNil))) (mNil)) (mNil))
noncomputable def bCu0 : M Fl := mSetNs [12, 5, 6] (mCons (mFzs [3] lam3) (mCons (mLst (mNil)) (mCons (M.ret .non) (mNil))))
noncomputable def bCu : M Fl := bCu0
noncomputable def lam4 : M D := mLam 1 (lamN "law") [3] phi_law_heard (mMeth "no_fuse" (mtL [(0, ⟨phi_Disk_no_fuse, [.p 0], [], 1⟩)]) (varF 3) (mNil) (mNil))
noncomputable def bNo0 : M Fl := mSetNs [12, 6] (mCons (mFzs [3] lam4) (mCons (M.ret .non) (mNil)))
noncomputable def bNo : M Fl := bNo0
noncomputable def bOd0 : M Fl := mSetS 9 (mCall phi_law_pick [.p 0, .p 1] [] 2 (mCons (varF 1) (mCons (frz (mLst (mCons (mTup (mCons (M.ret (.str "number")) (mCons (M.ret (.str "at")) (mNil)))) (mCons (mTup (mCons (M.ret (.str "number")) (mCons (M.ret (.str "block")) (mNil)))) (mCons (mTup (mCons (M.ret (.str "lot")) (mCons (M.ret (.str "lands")) (mNil)))) (mCons (mTup (mCons (M.ret (.str "lot")) (mCons (M.ret (.str "torn")) (mNil)))) (mNil))))))) (mNil))) (mNil))
noncomputable def bOd1 : M Fl := mDictL 1 (lamN "law") 15 12 phi_law_heard [("at", [2, 3, 11], mMeth "write" (mtL [(0, ⟨phi_Disk_write, [.p 0, .p 1, .p 2], [], 3⟩)]) (varF 3) (mCons (varF 2) (mCons (varF 11) (mNil))) (mNil)), ("block", [3, 10], mMeth "write" (mtL [(0, ⟨phi_Disk_write, [.p 0, .p 1, .p 2], [], 3⟩)]) (varF 3) (mCons (varF 10) (mCons (M.ret .non) (mNil))) (mNil)), ("lands", [3, 5], mMeth "cut" (mtL [(0, ⟨phi_Disk_cut, [.p 0, .p 1, .d 0], [.tup []], 3⟩)]) (varF 3) (mCons (frz (mLst (mCons (frz (mUn lenD (varB 5))) (mNil)))) (mNil)) (mNil)), ("torn", [3], mMeth "cut" (mtL [(0, ⟨phi_Disk_cut, [.p 0, .p 1, .p 2], [.tup []], 3⟩)]) (varF 3) (mCons (frz (mLst (mNil))) (mCons (frz (mLst (mCons (mUn negD (M.ret (.int 1))) (mNil)))) (mNil))) (mNil))] (mBinS idxS (varB 9) (M.ret (.int 1)))
noncomputable def bOd2 : M Fl := M.ret .nx
noncomputable def bOd : M Fl := mSeq bOd0 (mSeq bOd1 bOd2)
noncomputable def lb0 : M Fl := mSetS 8 (mCall phi_law_pick [.p 0, .p 1] [] 2 (mCons (varF 1) (mCons (frz (mLst (mCons (M.ret (.str "write")) (mCons (M.ret (.str "write")) (mCons (M.ret (.str "flush")) (mCons (M.ret (.str "fuse")) (mCons (M.ret (.str "write")) (mCons (M.ret (.str "cut")) (mCons (M.ret (.str "none")) (mCons (M.ret (.str "odd")) (mCons (M.ret (.str "write")) (mCons (M.ret (.str "flush")) (mNil))))))))))))) (mNil))) (mNil))
noncomputable def lb1 : M Fl := mSetS 9 (mIfE (mAnd (mTru (mBin eqD (varB 6) (M.ret (.int 1)))) (mTru (mBin inD (varB 8) (mTup (mCons (M.ret (.str "write")) (mCons (M.ret (.str "flush")) (mNil))))))) (M.ret (.str "out")) (M.ret (.str "fine")))
noncomputable def lb2 : M Fl := mIfS (mAnd (mTru (mBin inD (varB 8) (mTup (mCons (M.ret (.str "write")) (mCons (M.ret (.str "flush")) (mNil)))))) (mTru (mBin isNotD (varB 6) (M.ret .non)))) (mSetS 6 (mBin max2D (M.ret (.int 1)) (mBin subD (varB 6) (M.ret (.int 1))))) (M.ret .nx)
noncomputable def lb3 : M Fl := mSetNs [10, 11] (mCons (mCall phi_law_dip [.p 0, .p 1] [] 2 (mCons (varF 1) (mCons (varF 2) (mNil))) (mNil)) (mCons (mUn tupOfD fL) (mNil)))
noncomputable def lb4 : M Fl := mIfS (mTru (mBin eqD (varB 8) (M.ret (.str "write")))) bWr (mIfS (mTru (mBin eqD (varB 8) (M.ret (.str "flush")))) bFl (mIfS (mTru (mBin eqD (varB 8) (M.ret (.str "fuse")))) bFu (mIfS (mTru (mBin eqD (varB 8) (M.ret (.str "cut")))) bCu (mIfS (mTru (mBin eqD (varB 8) (M.ret (.str "none")))) bNo bOd))))
noncomputable def lb5 : M Fl := mIfS (mOr (mTru (mBin neD (varB 12) (varB 9))) (mNot (mTru (mCall phi_law_is [.p 0, .p 1, .p 2] [] 3 (mCons (varF 3) (mCons (varB 4) (mCons (varF 5) (mNil)))) (mNil))))) (mRet (M.ret (.bl false))) (M.ret .nx)
noncomputable def lwBody : M Fl := mSeq lb0 (mSeq lb1 (mSeq lb2 (mSeq lb3 (mSeq lb4 lb5))))
noncomputable def mg0 : M Fl := mSetS 1 (mCall phi_law_pail [.p 0] [] 1 (mCons (varF 0) (mNil)) (mNil))
noncomputable def mg1 : M Fl := mSetS 2 (mBin addD (M.ret (.int 4)) (mCall phi_law_pick [.p 0, .p 1] [] 2 (mCons (varF 1) (mCons (frz (mLst (mCons (M.ret (.int 0)) (mCons (M.ret (.int 2)) (mCons (M.ret (.int 16)) (mNil)))))) (mNil))) (mNil)))
noncomputable def mg2 : M Fl := mSetS 3 (mMake 0 phi_Disk_init [.p 0, .p 1] [] 2 (mCons (varF 2) (mNil)) (mNil))
noncomputable def mg3 : M Fl := mSetNs [4, 5, 6] (mCons (mUn listOfD (mMeth "kept" (mtL [(0, ⟨phi_Disk_kept, [.p 0], [], 1⟩)]) (varF 3) (mNil) (mNil))) (mCons (mLst (mNil)) (mCons (M.ret .non) (mNil))))
noncomputable def mg4 : M Fl := mFor (.nm 7) (mRng1 (mCons (frz (mBin addD (M.ret (.int 5)) (mCall phi_law_dip [.p 0, .p 1] [] 2 (mCons (varF 1) (mCons (M.ret (.int 36)) (mNil))) (mNil)))) (mNil))) lwBody
noncomputable def mg5 : M Fl := mRet (mAndV (mCall phi_law_refused_right [.p 0, .p 1] [] 2 (mCons (varF 1) (mCons (varF 3) (mNil))) (mNil)) (mCall phi_law_is [.p 0, .p 1, .p 2] [] 3 (mCons (varF 3) (mCons (varB 4) (mCons (varF 5) (mNil)))) (mNil)))
theorem lw_eq : m_law = mSeq mg0 (mSeq mg1 (mSeq mg2 (mSeq mg3 (mSeq mg4 mg5)))) := rfl
section
variable {S : Sto} {k m : Nat} {bs : List (List Int)} {ws : List Wr} {lf lf' : Option Nat}
theorem l_is_block (b : List Int) (hl : b.length ≤ 8) (r : Rho) (S : Sto) : callM phi_is_block [.lst (numsD b), .int 8] r S = .ok (.bl true) r S := by
  refine s_blk_g (x := .lst (numsD b)) ?_ r S
  show (if (numsD b).length ≤ 8 then (if (numsD b).all fun x => (intD x).isSome then some ((numsD b).all fun x => intD x == some true) else none) else some false) = some true
  have h1 : (numsD b).length ≤ 8 := by simpa [numsD] using hl
  have h2 : ((numsD b).all fun x => (intD x).isSome) = true := List.all_eq_true.mpr fun x hx => by obtain ⟨i, _, rfl⟩ := List.mem_map.mp hx; rfl
  have h3 : ((numsD b).all fun x => intD x == some true) = true := List.all_eq_true.mpr fun x hx => by obtain ⟨i, _, rfl⟩ := List.mem_map.mp hx; rfl
  rw [if_pos h1, if_pos h2, h3]
theorem f_writeL (h : S[k]? = some (dkf m bs ws lf)) (es : spn lf = some lf') {a : Nat} (ha : a < m) {b : List Int} (hb : b.length ≤ 8) (hl : ws.length < lim) (r : Rho) :
    callM phi_Disk_write [.ob k, .int a, .lst (numsD b)] r S = .ok .non r (S.set k (dkf m bs (ws ++ [(a, b)]) lf')) := by
  refine call_run ?_ rfl
  have h' := h
  unfold dkf at h'
  have nn := s_need_number (a : Int) 0 ((m : Int) - 1) "at" (by omega) (by omega)
  have ib := l_is_block b (by omega)
  have e : startR N_Disk_write [.ob k, .int a, .lst (numsD b)] = [some (.ob k), some (.int a), some (.lst (numsD b))] := rfl
  rw [e]
  have hb' : (b.length : Int) ≤ 8 := by omega
  have h1 : (S.set k (dkf m bs ws lf'))[k]? = some (dkf m bs ws lf') := set_at h _
  have ap : mAppF isF 0 "writes" (mTup (mCons (varF 1) (mCons (frz (mUn tupOfD (varB 2))) mNil))) [some (.ob k), some (.int a), some (.lst (numsD b))] (S.set k (dkf m bs ws lf')) = .ok .nx [some (.ob k), some (.int a), some (.lst (numsD b))] (S.set k (dkf m bs (ws ++ [(a, b)]) lf')) := by
    have h2 := h1
    unfold dkf at h2
    rw [mAppF_on (k := k) (d := .tup [.int a, blk b]) (ys := wD ws) (xs := wD ws) (r1 := [some (.ob k), some (.int a), some (.lst (numsD b))]) (S1 := S.set k (dkf m bs ws lf')) rfl ⟨_, _, by rw [h1]; exact fi_0_writes _ _ _ _⟩ (by simp [varF, varB, blk, tupOfD, seqD, lim]) rfl (by rw [h1]; exact fi_0_writes _ _ _ _) (by simpa using hl)]
    unfold dkf
    rw [pf_0_writes]
    unfold wD
    rw [List.map_append, List.set_set]
    rfl
  have sp := f_spend h es
  unfold m_Disk_write
  simp [mMeth_on, fldB_on, fldF_on, varF, varB, h', mtL, List.lookup, fldOut, arrM, arr, src1, nn, ib, hb', sp, ap]
theorem x_writeL (h : S[k]? = some (dkf m bs ws lf)) (es : spn lf = none) {a : Nat} (ha : a < m) {b : List Int} (hb : b.length ≤ 8) (r : Rho) : callM phi_Disk_write [.ob k, .int a, .lst (numsD b)] r S = .exc outE r S := by
  have h' := h
  unfold dkf at h'
  have nn := s_need_number (a : Int) 0 ((m : Int) - 1) "at" (by omega) (by omega)
  have ib := l_is_block b (by omega)
  have e : startR N_Disk_write [.ob k, .int a, .lst (numsD b)] = [some (.ob k), some (.int a), some (.lst (numsD b))] := rfl
  have hb' : (b.length : Int) ≤ 8 := by omega
  have sp := x_spend h es
  refine call_exc (r' := [some (.ob k), some (.int a), some (.lst (numsD b))]) ?_
  rw [e]
  unfold m_Disk_write
  simp [mMeth_on, fldB_on, fldF_on, varF, varB, h', mtL, List.lookup, fldOut, arrM, arr, src1, nn, ib, hb', sp]
end
end LW

set_option Elab.async false
set_option linter.all false
set_option maxRecDepth 100000
set_option maxHeartbeats 4000000
namespace LW
open PySem PySem.Spec PyProof.Rows L2 DD
def lR (x0 : Option D) (m : Nat) (K W left : D) (x7 x8 x9 x10 x11 x12 x13 x14 : Option D) : Rho := [x0, some (.ob 2), some (.int m), some (.ob 3), some K, some W, some left, x7, x8, x9, x10, x11, x12, x13, x14, none, none]
theorem sk_fine : eqD (.str "fine") (.str "fine") = some (.bl true) := by
  have e : eqB (.str "fine") (.str "fine") = some true := by decide +kernel
  unfold eqD; rw [e]; rfl
theorem sk_out : eqD (.str "out") (.str "fine") = some (.bl false) := by
  have e : eqB (.str "out") (.str "fine") = some false := by decide +kernel
  unfold eqD; rw [e]; rfl
theorem mul1 (t : D) : mulD (.own [t]) (.int 1) = some (.own [t]) := rfl
theorem mul0 (t : D) : mulD (.own [t]) (.int 0) = some (.own []) := rfl
theorem land_add (bs : List (List Int)) (ws : List Wr) (n : Nat) (b : List Int) : landB bs (ws ++ [(n, b)]) = (landB bs ws).set n b := by
  unfold landB
  rw [List.foldl_append]
  rfl
section
variable {S : Sto} {cells : List Int} {a q : Int} {m : Nat} {bs : List (List Int)} {ws : List Wr} {lf lf' : Option Nat}
variable {x0 x7 x8 x9 x10 x11 x12 x13 x14 : Option D} {W left : D} {n : Nat} {b : List Int}
theorem wr_fine (h : St S cells a q m bs ws lf) (es : spn lf = some lf') (hn : n < m) (hb : Sml b) (hl : ws.length ≤ 500) (hW : W = .own (wD ws) ∨ W = .lst (wD ws)) :
    ∃ S', St S' cells a q m bs (ws ++ [(n, b)]) lf' ∧ bWr (lR x0 m (.own (bsD bs)) W left x7 x8 (some (.str "fine")) (some (.int n)) (some (blk b)) x12 x13 x14) S = .ok .nx (lR x0 m (.own (bsD bs)) (.own (wD (ws ++ [(n, b)]))) left x7 x8 (some (.str "fine")) (some (.int n)) (some (blk b)) (some (.str "fine")) x13 x14) S' := by
  have wr := f_writeL h.d es hn hb.1 (by unfold lim; omega)
  have h2 := h.add (n := n) (b := b) (lf' := lf') hn hb
  have hd := h.d
  unfold dkf at hd
  generalize S.set 3 (dkf m bs (ws ++ [(n, b)]) lf') = S1 at *
  refine ⟨S1, h2, ?_⟩
  let R : Rho := lR x0 m (.own (bsD bs)) W left x7 x8 (some (.str "fine")) (some (.int n)) (some (blk b)) x12 x13 x14
  let C : Rho := [none, none, none, some (.ob 3), none, none, none, none, none, none, some (.int n), some (blk b), none, none, none, none, none]
  have lo : listOfD (blk b) = some (.own (numsD b)) := rfl
  have l1 : lam0 R S = .ok (.str "fine") R S1 := by
    refine lam_run h.t1 fun f => ?_
    have ec : capR [3, 10, 11] R = C := by simp [capR, R, lR, C, blk]
    rw [ec]
    refine t_fine (r1 := C) (lam_okN ?_) _
    have v11 : varB 11 C S = .ok (blk b) C S := rfl
    show mMeth _ _ _ _ _ C S = _
    have v3 : varF 3 C S = .ok (.ob 3) C S := rfl
    have v10 : varF 10 C S = .ok (.int n) C S := rfl
    clear_value C
    simp [mMeth_on, v3, v10, v11, hd, mtL, List.lookup, arrM, arr, src1, lo, wr]
  have f0 : fzS 11 (fzS 10 (fzS 3 R)) = R := rfl
  have p0 : bWr0 R S = .ok .nx (lR x0 m (.own (bsD bs)) W left x7 x8 (some (.str "fine")) (some (.int n)) (some (blk b)) (some (.str "fine")) x13 x14) S1 := by
    have rs : R.set 12 (some (.str "fine")) = lR x0 m (.own (bsD bs)) W left x7 x8 (some (.str "fine")) (some (.int n)) (some (blk b)) (some (.str "fine")) x13 x14 := rfl
    unfold bWr0
    rw [← rs]
    clear_value R
    simp [mFzs, f0, l1]
  have p1 : bWr1 (lR x0 m (.own (bsD bs)) W left x7 x8 (some (.str "fine")) (some (.int n)) (some (blk b)) (some (.str "fine")) x13 x14) S1 = .ok .nx (lR x0 m (.own (bsD bs)) (.own (wD (ws ++ [(n, b)]))) left x7 x8 (some (.str "fine")) (some (.int n)) (some (blk b)) (some (.str "fine")) x13 x14) S1 := by
    have wE : wD (ws ++ [(n, b)]) = wD ws ++ [.tup [.int n, blk b]] := by unfold wD; rw [List.map_append]; rfl
    have io : intOfD (.bl true) = some (.int 1) := rfl
    have a1 := add_bo (wD ws) [.tup [.int n, blk b]] (by rw [wD_len]; simp [lim]; omega)
    have a2 := add_lo (wD ws) [.tup [.int n, blk b]] (by rw [wD_len]; simp [lim]; omega)
    have fb : frO (blk b) = true := rfl
    have vb : ∀ (r : Rho) S, r[11]? = some (some (blk b)) → varF 11 r S = .ok (blk b) r S := fun r S e => varF_fr e rfl
    rw [wE]
    unfold bWr1 lR
    have vb2 := vb [x0, some (.ob 2), some (.int m), some (.ob 3), some (.own (bsD bs)), some W, some left, x7, x8, some (.str "fine"), some (.int n), some (blk b), some (.str "fine"), x13, x14, none, none] S1 rfl
    have vb3 : varF 10 [x0, some (.ob 2), some (.int m), some (.ob 3), some (.own (bsD bs)), some W, some left, x7, x8, some (.str "fine"), some (.int n), some (blk b), some (.str "fine"), x13, x14, none, none] S1 = .ok (.int n) [x0, some (.ob 2), some (.int m), some (.ob 3), some (.own (bsD bs)), some W, some left, x7, x8, some (.str "fine"), some (.int n), some (blk b), some (.str "fine"), x13, x14, none, none] S1 := rfl
    generalize bsD bs = BB at *
    generalize wD ws = WW at *
    generalize blk b = BK at *
    have m1 := mul1 (.tup [.int n, BK])
    rcases hW with rfl | rfl <;> simp [varB, vb2, vb3, sk_fine, io, m1, a1, a2, fb]
  unfold bWr
  rw [mSeq_ap]
  show ((bWr0 R S).seq bWr1) = _
  rw [p0, seq_nx, p1]
theorem wr_out (h : St S cells a q m bs ws lf) (es : spn lf = none) (hn : n < m) (hb : Sml b) (hl : ws.length ≤ 500) (hW : W = .own (wD ws) ∨ W = .lst (wD ws)) :
    bWr (lR x0 m (.own (bsD bs)) W left x7 x8 (some (.str "out")) (some (.int n)) (some (blk b)) x12 x13 x14) S = .ok .nx (lR x0 m (.own (bsD bs)) (.own (wD ws)) left x7 x8 (some (.str "out")) (some (.int n)) (some (blk b)) (some (.str "out")) x13 x14) S := by
  have wr := x_writeL h.d es hn hb.1
  have hd := h.d
  unfold dkf at hd
  let R : Rho := lR x0 m (.own (bsD bs)) W left x7 x8 (some (.str "out")) (some (.int n)) (some (blk b)) x12 x13 x14
  let C : Rho := [none, none, none, some (.ob 3), none, none, none, none, none, none, some (.int n), some (blk b), none, none, none, none, none]
  have lo : listOfD (blk b) = some (.own (numsD b)) := rfl
  have l1 : lam0 R S = .ok (.str "out") R S := by
    refine lam_run h.t1 fun f => ?_
    have ec : capR [3, 10, 11] R = C := by simp [capR, R, lR, C, blk]
    rw [ec]
    refine t_heardhO (r1 := C) (lam_exc ?_) _
    have v11 : varB 11 C S = .ok (blk b) C S := rfl
    show mMeth _ _ _ _ _ C S = _
    have v3 : varF 3 C S = .ok (.ob 3) C S := rfl
    have v10 : varF 10 C S = .ok (.int n) C S := rfl
    clear_value C
    simp [mMeth_on, v3, v10, v11, hd, mtL, List.lookup, arrM, arr, src1, lo, wr]
  have f0 : fzS 11 (fzS 10 (fzS 3 R)) = R := rfl
  have p0 : bWr0 R S = .ok .nx (lR x0 m (.own (bsD bs)) W left x7 x8 (some (.str "out")) (some (.int n)) (some (blk b)) (some (.str "out")) x13 x14) S := by
    have rs : R.set 12 (some (.str "out")) = lR x0 m (.own (bsD bs)) W left x7 x8 (some (.str "out")) (some (.int n)) (some (blk b)) (some (.str "out")) x13 x14 := rfl
    unfold bWr0
    rw [← rs]
    clear_value R
    simp [mFzs, f0, l1]
  have p1 : bWr1 (lR x0 m (.own (bsD bs)) W left x7 x8 (some (.str "out")) (some (.int n)) (some (blk b)) (some (.str "out")) x13 x14) S = .ok .nx (lR x0 m (.own (bsD bs)) (.own (wD ws)) left x7 x8 (some (.str "out")) (some (.int n)) (some (blk b)) (some (.str "out")) x13 x14) S := by
    have io : intOfD (.bl false) = some (.int 0) := rfl
    have a1 := add_bo (wD ws) [] (by rw [wD_len]; simp [lim]; omega)
    have a2 := add_lo (wD ws) [] (by rw [wD_len]; simp [lim]; omega)
    rw [List.append_nil] at a1 a2
    have vb : ∀ (r : Rho) S, r[11]? = some (some (blk b)) → varF 11 r S = .ok (blk b) r S := fun r S e => varF_fr e rfl
    have fb : frO (blk b) = true := rfl
    unfold bWr1 lR
    have vb2 := vb [x0, some (.ob 2), some (.int m), some (.ob 3), some (.own (bsD bs)), some W, some left, x7, x8, some (.str "out"), some (.int n), some (blk b), some (.str "out"), x13, x14, none, none] S rfl
    have vb3 : varF 10 [x0, some (.ob 2), some (.int m), some (.ob 3), some (.own (bsD bs)), some W, some left, x7, x8, some (.str "out"), some (.int n), some (blk b), some (.str "out"), x13, x14, none, none] S = .ok (.int n) [x0, some (.ob 2), some (.int m), some (.ob 3), some (.own (bsD bs)), some W, some left, x7, x8, some (.str "out"), some (.int n), some (blk b), some (.str "out"), x13, x14, none, none] S := rfl
    generalize bsD bs = BB at *
    generalize wD ws = WW at *
    generalize blk b = BK at *
    have m1 := mul0 (.tup [.int n, BK])
    rcases hW with rfl | rfl <;> simp [varB, vb2, vb3, sk_out, io, m1, a1, a2, fb]
  unfold bWr
  rw [mSeq_ap]
  show ((bWr0 R S).seq bWr1) = _
  rw [p0, seq_nx, p1]
end
end LW

set_option Elab.async false
set_option linter.all false
set_option maxRecDepth 100000
set_option maxHeartbeats 4000000
namespace LW
open PySem PySem.Spec PyProof.Rows L2 DD
section
variable {S : Sto} {cells : List Int} {a q : Int} {m : Nat} {bs : List (List Int)} {ws : List Wr} {lf lf' : Option Nat}
variable {x0 x7 x8 x9 x10 x11 x12 x13 x14 : Option D} {W left : D}
theorem land_loop : ∀ (ws : List Wr) (acc : List (List Int)) (x13 x14 : Option D), (∀ p ∈ ws, p.1 < acc.length) →
    ∃ y13 y14, forLoop (.tp [.nm 13, .nm 14]) (mSetIV 4 (varB 13) (varF 14)) (wD ws) (lR x0 m (.own (bsD acc)) W left x7 x8 x9 x10 x11 x12 x13 x14) S = .ok .nx (lR x0 m (.own (bsD (landB acc ws))) W left x7 x8 x9 x10 x11 x12 y13 y14) S
  | [], acc, x13, x14, _ => ⟨x13, x14, rfl⟩
  | (a, b) :: ws, acc, x13, x14, h => by
    have ha := h (a, b) List.mem_cons_self
    obtain ⟨y3, y4, e⟩ := land_loop ws (acc.set a b) (some (.int (a : Nat))) (some (blk b)) fun p hp => by rw [List.length_set]; exact h p (List.mem_cons_of_mem _ hp)
    refine ⟨y3, y4, ?_⟩
    have e0 : wD ((a, b) :: ws) = .tup [.int (a : Nat), blk b] :: wD ws := rfl
    let R1 : Rho := lR x0 m (.own (bsD acc)) W left x7 x8 x9 x10 x11 x12 (some (.int (a : Nat))) (some (blk b))
    have es : setT (.tp [.nm 13, .nm 14]) (.tup [.int (a : Nat), blk b]) (lR x0 m (.own (bsD acc)) W left x7 x8 x9 x10 x11 x12 x13 x14) = some R1 := rfl
    have ix : ixN (bsD acc).length (a : Int) = some a := by
      have : a < acc.length := ha
      unfold ixN
      rw [bsD_len, if_pos (by omega), if_pos (by omega)]
      simp
    have eb : mSetIV 4 (varB 13) (varF 14) R1 S = .ok .nx (lR x0 m (.own (bsD (acc.set a b))) W left x7 x8 x9 x10 x11 x12 (some (.int (a : Nat))) (some (blk b))) S := by
      have f14 : varF 14 R1 S = .ok (blk b) R1 S := rfl
      have b13 : varB 13 R1 S = .ok (.int (a : Nat)) R1 S := rfl
      have fb : frO (blk b) = true := rfl
      have sl : slotL R1 4 = some (bsD acc) := rfl
      have rs : R1.set 4 (some (.own ((bsD acc).set a (blk b)))) = lR x0 m (.own (bsD (acc.set a b))) W left x7 x8 x9 x10 x11 x12 (some (.int (a : Nat))) (some (blk b)) := by
        rw [bs_set]; rfl
      rw [← rs]
      generalize blk b = BK at *
      generalize bsD acc = BA at *
      clear_value R1
      simp [mSetIV, f14, b13, sl, ix, fb]
    rw [e0, forLoop]
    simp only [es, eb]
    exact e
theorem fl_fine (h : St S cells a q m bs ws lf) (es : spn lf = some lf') (hl : ws.length ≤ 500) (hW : W = .own (wD ws) ∨ W = .lst (wD ws)) :
    ∃ S' bs' y13 y14, St S' cells a q m bs' [] lf' ∧ bFl (lR x0 m (.own (bsD bs)) W left x7 x8 (some (.str "fine")) x10 x11 x12 x13 x14) S = .ok .nx (lR x0 m (.own (bsD bs')) (.own []) left x7 x8 (some (.str "fine")) x10 x11 (some (.str "fine")) y13 y14) S' := by
  have fl := f_flush h.d es h.wlt (by omega)
  have h2 := h.disk (bs' := landB bs ws) (ws' := []) (lf' := lf') (by rw [landB_len]; exact h.len) (fun p hp => by cases hp) (fun p hp => by cases hp) (land_sml h.bs h.ws)
  have hd := h.d
  unfold dkf at hd
  generalize S.set 3 (dkf m (landB bs ws) [] lf') = S1 at *
  obtain ⟨y13, y14, el⟩ := land_loop (S := S1) (m := m) (x0 := x0) (W := .lst (wD ws)) (left := left) (x7 := x7) (x8 := x8) (x9 := some (.str "fine")) (x10 := x10) (x11 := x11) (x12 := some (.str "fine")) ws bs x13 x14 h.wlt
  refine ⟨S1, landB bs ws, y13, y14, h2, ?_⟩
  let R : Rho := lR x0 m (.own (bsD bs)) W left x7 x8 (some (.str "fine")) x10 x11 x12 x13 x14
  let C : Rho := [none, none, none, some (.ob 3), none, none, none, none, none, none, none, none, none, none, none, none, none]
  have l1 : lam1 R S = .ok (.str "fine") R S1 := by
    refine lam_run h.t1 fun f => ?_
    have ec : capR [3] R = C := by simp [capR, R, lR, C]
    rw [ec]
    refine t_fine (r1 := C) (lam_okN ?_) _
    show mMeth _ _ _ _ _ C S = _
    have v3 : varF 3 C S = .ok (.ob 3) C S := rfl
    clear_value C
    simp [mMeth_on, v3, hd, mtL, List.lookup, arrM, arr, src1, fl]
  have f0 : fzS 3 R = R := rfl
  have p0 : bFl0 R S = .ok .nx (lR x0 m (.own (bsD bs)) W left x7 x8 (some (.str "fine")) x10 x11 (some (.str "fine")) x13 x14) S1 := by
    have rs : R.set 12 (some (.str "fine")) = lR x0 m (.own (bsD bs)) W left x7 x8 (some (.str "fine")) x10 x11 (some (.str "fine")) x13 x14 := rfl
    unfold bFl0
    rw [← rs]
    clear_value R
    simp [mFzs, f0, l1]
  have p1 : bFl1 (lR x0 m (.own (bsD bs)) W left x7 x8 (some (.str "fine")) x10 x11 (some (.str "fine")) x13 x14) S1 = .ok .nx (lR x0 m (.own (bsD (landB bs ws))) (.own []) left x7 x8 (some (.str "fine")) x10 x11 (some (.str "fine")) y13 y14) S1 := by
    have c : mTru (mBin eqD (varB 9) (M.ret (.str "fine"))) (lR x0 m (.own (bsD bs)) W left x7 x8 (some (.str "fine")) x10 x11 (some (.str "fine")) x13 x14) S1 = .ok true (lR x0 m (.own (bsD bs)) W left x7 x8 (some (.str "fine")) x10 x11 (some (.str "fine")) x13 x14) S1 := by
      unfold lR
      simp [varB, sk_fine]
    have it : mIterV 5 (lR x0 m (.own (bsD bs)) W left x7 x8 (some (.str "fine")) x10 x11 (some (.str "fine")) x13 x14) S1 = .ok (wD ws) (lR x0 m (.own (bsD bs)) (.lst (wD ws)) left x7 x8 (some (.str "fine")) x10 x11 (some (.str "fine")) x13 x14) S1 := by
      rcases hW with rfl | rfl <;> rfl
    have fo : mFor (.tp [.nm 13, .nm 14]) (mIterV 5) (mSetIV 4 (varB 13) (varF 14)) (lR x0 m (.own (bsD bs)) W left x7 x8 (some (.str "fine")) x10 x11 (some (.str "fine")) x13 x14) S1 = .ok .nx (lR x0 m (.own (bsD (landB bs ws))) (.lst (wD ws)) left x7 x8 (some (.str "fine")) x10 x11 (some (.str "fine")) y13 y14) S1 := by
      unfold mFor
      rw [bind_ap, it, then_ok, el]
    have st : mSetS 5 (mLst (mNil)) (lR x0 m (.own (bsD (landB bs ws))) (.lst (wD ws)) left x7 x8 (some (.str "fine")) x10 x11 (some (.str "fine")) y13 y14) S1 = .ok .nx (lR x0 m (.own (bsD (landB bs ws))) (.own []) left x7 x8 (some (.str "fine")) x10 x11 (some (.str "fine")) y13 y14) S1 := by
      generalize bsD (landB bs ws) = BB
      unfold lR
      simp
    unfold bFl1
    rw [mIfS_ap, c, then_ok, if_pos rfl, mSeq_ap, fo, seq_nx, st]
  unfold bFl
  rw [mSeq_ap]
  show ((bFl0 R S).seq bFl1) = _
  rw [p0, seq_nx, p1]
theorem fl_out (h : St S cells a q m bs ws lf) (es : spn lf = none) :
    bFl (lR x0 m (.own (bsD bs)) W left x7 x8 (some (.str "out")) x10 x11 x12 x13 x14) S = .ok .nx (lR x0 m (.own (bsD bs)) W left x7 x8 (some (.str "out")) x10 x11 (some (.str "out")) x13 x14) S := by
  have fl := x_flush h.d es
  have hd := h.d
  unfold dkf at hd
  let R : Rho := lR x0 m (.own (bsD bs)) W left x7 x8 (some (.str "out")) x10 x11 x12 x13 x14
  let C : Rho := [none, none, none, some (.ob 3), none, none, none, none, none, none, none, none, none, none, none, none, none]
  have l1 : lam1 R S = .ok (.str "out") R S := by
    refine lam_run h.t1 fun f => ?_
    have ec : capR [3] R = C := by simp [capR, R, lR, C]
    rw [ec]
    refine t_heardhO (r1 := C) (lam_exc ?_) _
    show mMeth _ _ _ _ _ C S = _
    have v3 : varF 3 C S = .ok (.ob 3) C S := rfl
    clear_value C
    simp [mMeth_on, v3, hd, mtL, List.lookup, arrM, arr, src1, fl]
  have f0 : fzS 3 R = R := rfl
  have p0 : bFl0 R S = .ok .nx (lR x0 m (.own (bsD bs)) W left x7 x8 (some (.str "out")) x10 x11 (some (.str "out")) x13 x14) S := by
    have rs : R.set 12 (some (.str "out")) = lR x0 m (.own (bsD bs)) W left x7 x8 (some (.str "out")) x10 x11 (some (.str "out")) x13 x14 := rfl
    unfold bFl0
    rw [← rs]
    clear_value R
    simp [mFzs, f0, l1]
  have p1 : bFl1 (lR x0 m (.own (bsD bs)) W left x7 x8 (some (.str "out")) x10 x11 (some (.str "out")) x13 x14) S = .ok .nx (lR x0 m (.own (bsD bs)) W left x7 x8 (some (.str "out")) x10 x11 (some (.str "out")) x13 x14) S := by
    unfold bFl1 lR
    simp [varB, sk_out]
  unfold bFl
  rw [mSeq_ap]
  show ((bFl0 R S).seq bFl1) = _
  rw [p0, seq_nx, p1]
theorem fu_ok (h : St S cells a q m bs ws lf) (hb : a < 2 ^ 18) :
    ∃ S' a' q' n, St S' cells a' q' m bs ws (some n) ∧ a ≤ a' ∧ a' ≤ a + 2 ∧ bFu (lR x0 m (.own (bsD bs)) W left x7 x8 x9 x10 x11 x12 x13 x14) S = .ok .nx (lR x0 m (.own (bsD bs)) W (lfD (some n)) x7 x8 x9 x10 x11 (some (.str "fine")) x13 x14) S' := by
  obtain ⟨u, a1, q1, v1, v2, v3, v4, v5, e1⟩ := s_ladle h.bk (many := 9) (by omega) (by decide +kernel) h.a0 (by omega) h.q0
  have h1 := h.draw (a' := a1) (q' := q1) (by have := h.a0; omega) v5
  generalize S.set 2 (bkOb cells a1 q1) = S1 at *
  obtain ⟨x, a2, q2, hx, w1, w2, w3, e2⟩ := s_pick (xs := numsD [1, 2, 3, 100000000000000000000, 1 + u]) h1.bk (by simp [numsD]) (by simp [numsD]) (by simp [numsD]) h1.a0 (by omega) h1.q0
  obtain ⟨v, hv, rfl⟩ := List.mem_map.mp hx
  obtain ⟨n, hn⟩ : ∃ n : Nat, v = (n : Int) + 1 := by
    have : 1 ≤ v := by
      simp only [List.mem_cons, List.not_mem_nil, or_false] at hv
      rcases hv with rfl | rfl | rfl | rfl | rfl <;> omega
    exact ⟨(v - 1).toNat, by omega⟩
  subst hn
  have h2 := h1.draw (a' := a2) (q' := q2) (by have := h1.a0; omega) w3
  have e2' : ∀ r, callM phi_law_pick [.ob 2, .lst [.int 1, .int 2, .int 3, .int 100000000000000000000, .int (1 + u)]] r S1 = .ok (.int ((n : Int) + 1)) r (S1.set 2 (bkOb cells a2 q2)) := e2
  generalize S1.set 2 (bkOb cells a2 q2) = S2 at *
  have fu := f_fuse h2.d n
  have h3 := h2.disk (bs' := bs) (ws' := ws) (lf' := some n) h.len h2.wlt h2.ws h2.bs
  have hd := h2.d
  unfold dkf at hd
  generalize S2.set 3 (dkf m bs ws (some n)) = S3 at *
  refine ⟨S3, a2, q2, n, h3, by omega, by omega, ?_⟩
  have p0 : bFu0 (lR x0 m (.own (bsD bs)) W left x7 x8 x9 x10 x11 x12 x13 x14) S = .ok .nx (lR x0 m (.own (bsD bs)) W (lfD (some n)) x7 x8 x9 x10 x11 x12 x13 x14) S2 := by
    generalize bsD bs = BB
    unfold bFu0 lR lfD
    simp [varF, arrM, arr, src1, pw20, e1, e2']
  let R : Rho := lR x0 m (.own (bsD bs)) W (lfD (some n)) x7 x8 x9 x10 x11 x12 x13 x14
  let C : Rho := [none, none, none, some (.ob 3), none, none, some (lfD (some n)), none, none, none, none, none, none, none, none, none, none]
  have l1 : lam2 R S2 = .ok (.str "fine") R S3 := by
    refine lam_run h2.t1 fun f => ?_
    have ec : capR [3, 6] R = C := by simp [capR, R, lR, C, lfD]
    rw [ec]
    refine t_fine (r1 := C) (lam_okN ?_) _
    show mMeth _ _ _ _ _ C S2 = _
    have v3 : varF 3 C S2 = .ok (.ob 3) C S2 := rfl
    have v6 : varF 6 C S2 = .ok (.int ((n : Int) + 1)) C S2 := rfl
    clear_value C
    simp [mMeth_on, v3, v6, hd, mtL, List.lookup, arrM, arr, src1, fu]
  have f0 : fzS 6 (fzS 3 R) = R := rfl
  have p1 : bFu1 R S2 = .ok .nx (lR x0 m (.own (bsD bs)) W (lfD (some n)) x7 x8 x9 x10 x11 (some (.str "fine")) x13 x14) S3 := by
    have rs : R.set 12 (some (.str "fine")) = lR x0 m (.own (bsD bs)) W (lfD (some n)) x7 x8 x9 x10 x11 (some (.str "fine")) x13 x14 := rfl
    unfold bFu1
    rw [← rs]
    clear_value R
    simp [mFzs, f0, l1]
  unfold bFu
  rw [mSeq_ap, p0, seq_nx]
  exact p1
theorem cutB_none : ∀ (ws : List Wr) (acc : List (List Int)) (i : Int), cutB [] [] acc i ws = acc
  | [], _, _ => rfl
  | (a, b) :: ws, acc, i => by
    rw [cutB, if_neg (by simp), if_neg (by simp), cutB_none ws]
theorem cu_ok (h : St S cells a q m bs ws lf) :
    ∃ S', St S' cells a q m bs [] none ∧ bCu (lR x0 m (.own (bsD bs)) W left x7 x8 x9 x10 x11 x12 x13 x14) S = .ok .nx (lR x0 m (.own (bsD bs)) (.own []) (lfD none) x7 x8 x9 x10 x11 (some (.str "fine")) x13 x14) S' := by
  have cu := fun r => g_cut h.d (x := .lst []) (y := .tup []) (L := []) (T := []) (lot_nil _) (lot_nil _) (.inl rfl) (.inr rfl) (fun i hi => by cases hi) h.wlt r
  rw [cutB_none] at cu
  have h3 := h.disk (bs' := bs) (ws' := []) (lf' := none) h.len (fun p hp => by cases hp) (fun p hp => by cases hp) h.bs
  have ed : dk m bs [] = dkf m bs [] none := rfl
  rw [ed] at cu
  have hd := h.d
  unfold dkf at hd
  generalize S.set 3 (dkf m bs [] none) = S3 at *
  refine ⟨S3, h3, ?_⟩
  let R : Rho := lR x0 m (.own (bsD bs)) W left x7 x8 x9 x10 x11 x12 x13 x14
  let C : Rho := [none, none, none, some (.ob 3), none, none, none, none, none, none, none, none, none, none, none, none, none]
  have l1 : lam3 R S = .ok (.str "fine") R S3 := by
    refine lam_run h.t1 fun f => ?_
    have ec : capR [3] R = C := by simp [capR, R, lR, C]
    rw [ec]
    refine t_fine (r1 := C) (lam_okN ?_) _
    show mMeth _ _ _ _ _ C S = _
    have v3 : varF 3 C S = .ok (.ob 3) C S := rfl
    clear_value C
    simp [mMeth_on, v3, hd, mtL, List.lookup, arrM, arr, src1, cu]
  have f0 : fzS 3 R = R := rfl
  have rs : setNs [12, 5, 6] [.str "fine", .own [], .non] R = lR x0 m (.own (bsD bs)) (.own []) (lfD none) x7 x8 x9 x10 x11 (some (.str "fine")) x13 x14 := rfl
  show bCu0 R S = _
  rw [← rs]
  unfold bCu0
  clear_value R
  simp [mFzs, f0, l1]
theorem no_ok (h : St S cells a q m bs ws lf) :
    ∃ S', St S' cells a q m bs ws none ∧ bNo (lR x0 m (.own (bsD bs)) W left x7 x8 x9 x10 x11 x12 x13 x14) S = .ok .nx (lR x0 m (.own (bsD bs)) W (lfD none) x7 x8 x9 x10 x11 (some (.str "fine")) x13 x14) S' := by
  have nf := f_nofuse h.d
  have h3 := h.disk (bs' := bs) (ws' := ws) (lf' := none) h.len h.wlt h.ws h.bs
  have ed : dk m bs ws = dkf m bs ws none := rfl
  rw [ed] at nf
  have hd := h.d
  unfold dkf at hd
  generalize S.set 3 (dkf m bs ws none) = S3 at *
  refine ⟨S3, h3, ?_⟩
  let R : Rho := lR x0 m (.own (bsD bs)) W left x7 x8 x9 x10 x11 x12 x13 x14
  let C : Rho := [none, none, none, some (.ob 3), none, none, none, none, none, none, none, none, none, none, none, none, none]
  have l1 : lam4 R S = .ok (.str "fine") R S3 := by
    refine lam_run h.t1 fun f => ?_
    have ec : capR [3] R = C := by simp [capR, R, lR, C]
    rw [ec]
    refine t_fine (r1 := C) (lam_okN ?_) _
    show mMeth _ _ _ _ _ C S = _
    have v3 : varF 3 C S = .ok (.ob 3) C S := rfl
    clear_value C
    simp [mMeth_on, v3, hd, mtL, List.lookup, arrM, arr, src1, nf]
  have f0 : fzS 3 R = R := rfl
  have rs : setNs [12, 6] [.str "fine", .non] R = lR x0 m (.own (bsD bs)) W (lfD none) x7 x8 x9 x10 x11 (some (.str "fine")) x13 x14 := rfl
  show bNo0 R S = _
  rw [← rs]
  unfold bNo0
  clear_value R
  simp [mFzs, f0, l1]
end
end LW

set_option Elab.async false
set_option linter.all false
set_option maxRecDepth 100000
set_option maxHeartbeats 4000000
namespace LW
open PySem PySem.Spec PyProof.Rows L2 DD
noncomputable def od_at : M D := mMeth "write" (mtL [(0, ⟨phi_Disk_write, [.p 0, .p 1, .p 2], [], 3⟩)]) (varF 3) (mCons (varF 2) (mCons (varF 11) (mNil))) (mNil)
def oc_at : List Nat := [2, 3, 11]
noncomputable def od_block : M D := mMeth "write" (mtL [(0, ⟨phi_Disk_write, [.p 0, .p 1, .p 2], [], 3⟩)]) (varF 3) (mCons (varF 10) (mCons (M.ret .non) (mNil))) (mNil)
def oc_block : List Nat := [3, 10]
noncomputable def od_lands : M D := mMeth "cut" (mtL [(0, ⟨phi_Disk_cut, [.p 0, .p 1, .d 0], [.tup []], 3⟩)]) (varF 3) (mCons (frz (mLst (mCons (frz (mUn lenD (varB 5))) (mNil)))) (mNil)) (mNil)
def oc_lands : List Nat := [3, 5]
noncomputable def od_torn : M D := mMeth "cut" (mtL [(0, ⟨phi_Disk_cut, [.p 0, .p 1, .p 2], [.tup []], 3⟩)]) (varF 3) (mCons (frz (mLst (mNil))) (mCons (frz (mLst (mCons (mUn negD (M.ret (.int 1))) (mNil)))) (mNil))) (mNil)
def oc_torn : List Nat := [3]
noncomputable def odRows : List LRow := [("at", oc_at, od_at), ("block", oc_block, od_block), ("lands", oc_lands, od_lands), ("torn", oc_torn, od_torn)]
theorem od_eq : bOd1 = mDictL 1 (lamN "law") 15 12 phi_law_heard odRows (mBinS idxS (varB 9) (M.ret (.int 1))) := rfl
theorem find_at : odRows.find? (fun l => l.1 == ("at" : Str)) = some ((("at" : Str), oc_at, od_at) : LRow) := by rfl
theorem find_block : odRows.find? (fun l => l.1 == ("block" : Str)) = some ((("block" : Str), oc_block, od_block) : LRow) := by rfl
theorem find_lands : odRows.find? (fun l => l.1 == ("lands" : Str)) = some ((("lands" : Str), oc_lands, od_lands) : LRow) := by rfl
theorem find_torn : odRows.find? (fun l => l.1 == ("torn" : Str)) = some ((("torn" : Str), oc_torn, od_torn) : LRow) := by rfl
section
variable {S : Sto} {cells : List Int} {a q : Int} {m : Nat} {bs : List (List Int)} {ws : List Wr} {lf lf' : Option Nat}
variable {x0 x7 x8 x9 x10 x11 x12 x13 x14 : Option D} {W left : D} {n : Nat} {b : List Int}
theorem od_run (h : St S cells a q m bs ws lf) {w p : Str} {caps : List Nat} {mb : M D} {R R2 : Rho} (hf : odRows.find? (fun l => l.1 == p) = some (p, caps, mb)) (h9 : R[9]? = some (some (.tup [.str w, .str p]))) (hl : R.length = 17) (h15 : R.set 15 none = R) (hz : fzAll caps R = R2) (h12 : ∀ f, callM (phi_law_heard f (lamF mb (capR caps R2))) [lamD f] R2 S = .ok (.tup [.str w, .str p]) R2 S) :
    bOd1 R S = .ok .nx (R2.set 12 (some (.tup [.str w, .str p]))) S := by
  have ht : isTab (lamN "law") S[1]? = true := by rw [h.t1]; exact beq_self_eq_true _
  have b9 : varB 9 R S = .ok (.tup [.str w, .str p]) R S := varB_fr h9 rfl
  have ix : idxS S (.tup [.str w, .str p]) (.int 1) = some (.str p) := rfl
  have mk : mBinS idxS (varB 9) (M.ret (.int 1)) R S = .ok (.str p) R S := by simp [b9, ix]
  have lr : mLam 1 (lamN "law") caps phi_law_heard mb R2 S = .ok (.tup [.str w, .str p]) R2 S := lam_run h.t1 h12
  rw [od_eq]
  unfold mDictL
  rw [if_pos ⟨ht, by rw [hl]; omega⟩, h15]
  have pr : mPickR 1 (lamN "law") phi_law_heard odRows (mBinS idxS (varB 9) (M.ret (.int 1))) R S = .ok (.tup [.str w, .str p]) R2 S := by
    unfold mPickR
    rw [bind_ap, mk, then_ok]
    simp only [hf]
    rw [mFzs_eq, hz, lr]
  generalize mPickR 1 (lamN "law") phi_law_heard odRows (mBinS idxS (varB 9) (M.ret (.int 1))) = PR at *
  simp [pr]
theorem od_ok (h : St S cells a q m bs ws lf) (hb : a < 2 ^ 18) (hn : n < m) (hW : W = .own (wD ws) ∨ W = .lst (wD ws)) :
    ∃ S' a' q' W' w p, St S' cells a' q' m bs ws lf ∧ a ≤ a' ∧ a' ≤ a + 1 ∧ (W' = .own (wD ws) ∨ W' = .lst (wD ws)) ∧ neD (.tup [.str w, .str p]) (.tup [.str w, .str p]) = some (.bl false) ∧
      bOd (lR x0 m (.own (bsD bs)) W left x7 x8 x9 (some (.int n)) (some (blk b)) x12 x13 x14) S = .ok .nx (lR x0 m (.own (bsD bs)) W' left x7 x8 (some (.tup [.str w, .str p])) (some (.int n)) (some (blk b)) (some (.tup [.str w, .str p])) x13 x14) S' := by
  have m4 := h.m4
  obtain ⟨x, a1, q1, hx, w1, w2, w3, e1⟩ := s_pick (xs := [.tup [.str "number", .str "at"], .tup [.str "number", .str "block"], .tup [.str "lot", .str "lands"], .tup [.str "lot", .str "torn"]]) h.bk (by simp) (by simp) rfl h.a0 (by omega) h.q0
  have h1 := h.draw (a' := a1) (q' := q1) (by have := h.a0; omega) w3
  generalize S.set 2 (bkOb cells a1 q1) = S1 at *
  have hd := h1.d
  unfold dkf at hd
  have p0 : ∀ w p : Str, x = .tup [.str w, .str p] → bOd0 (lR x0 m (.own (bsD bs)) W left x7 x8 x9 (some (.int n)) (some (blk b)) x12 x13 x14) S = .ok .nx (lR x0 m (.own (bsD bs)) W left x7 x8 (some (.tup [.str w, .str p])) (some (.int n)) (some (blk b)) x12 x13 x14) S1 := fun w p e => by
    subst e
    generalize bsD bs = BB at *
    generalize blk b = BK at *
    unfold bOd0 lR
    simp [varF, arrM, arr, src1, e1]
  have fin : ∀ (w p : Str) (W' : D), x = .tup [.str w, .str p] → bOd1 (lR x0 m (.own (bsD bs)) W left x7 x8 (some (.tup [.str w, .str p])) (some (.int n)) (some (blk b)) x12 x13 x14) S1 = .ok .nx ((lR x0 m (.own (bsD bs)) W' left x7 x8 (some (.tup [.str w, .str p])) (some (.int n)) (some (blk b)) x12 x13 x14).set 12 (some (.tup [.str w, .str p]))) S1 →
      bOd (lR x0 m (.own (bsD bs)) W left x7 x8 x9 (some (.int n)) (some (blk b)) x12 x13 x14) S = .ok .nx (lR x0 m (.own (bsD bs)) W' left x7 x8 (some (.tup [.str w, .str p])) (some (.int n)) (some (blk b)) (some (.tup [.str w, .str p])) x13 x14) S1 := fun w p W' e z => by
    unfold bOd
    rw [mSeq_ap, p0 w p e, seq_nx, mSeq_ap, z, seq_nx]
    rfl
  simp only [List.mem_cons, List.not_mem_nil, or_false] at hx
  rcases hx with rfl | rfl | rfl | rfl
  · refine ⟨S1, a1, q1, W, "number", "at", h1, w1, w2, hW, ne_number_at, fin _ _ W rfl ?_⟩
    refine od_run h1 find_at rfl rfl rfl rfl fun f => ?_
    let C : Rho := [none, none, some (.int m), some (.ob 3), none, none, none, none, none, none, none, some (blk b), none, none, none, none, none]
    have ec : capR oc_at (lR x0 m (.own (bsD bs)) W left x7 x8 (some (.tup [.str "number", .str "at"])) (some (.int n)) (some (blk b)) x12 x13 x14) = C := by simp [capR, oc_at, lR, C, blk]
    have xw := x_write_at h1.d (x := .int m) (y := blk b) (by simp [numB]; omega) rfl
    refine t_heardhN (r1 := C) (lam_exc ?_) _
    rw [ec]
    have v2 : varF 2 C S1 = .ok (.int m) C S1 := rfl
    have v3 : varF 3 C S1 = .ok (.ob 3) C S1 := rfl
    have v11 : varF 11 C S1 = .ok (blk b) C S1 := rfl
    have ab : arO (blk b) = true := rfl
    unfold od_at
    clear_value C
    generalize blk b = BK at *
    simp [mMeth_on, v2, v3, v11, hd, mtL, List.lookup, arrM, arr, src1, ab, xw]
  · refine ⟨S1, a1, q1, W, "number", "block", h1, w1, w2, hW, ne_number_block, fin _ _ W rfl ?_⟩
    refine od_run h1 find_block rfl rfl rfl rfl fun f => ?_
    let C : Rho := [none, none, none, some (.ob 3), none, none, none, none, none, none, some (.int n), none, none, none, none, none, none]
    have ec : capR oc_block (lR x0 m (.own (bsD bs)) W left x7 x8 (some (.tup [.str "number", .str "block"])) (some (.int n)) (some (blk b)) x12 x13 x14) = C := by simp [capR, oc_block, lR, C]
    have xw := x_write_blk h1.d hn (y := .non) rfl
    refine t_heardhN (r1 := C) (lam_exc ?_) _
    rw [ec]
    have v3 : varF 3 C S1 = .ok (.ob 3) C S1 := rfl
    have v10 : varF 10 C S1 = .ok (.int n) C S1 := rfl
    unfold od_block
    clear_value C
    simp [mMeth_on, v3, v10, hd, mtL, List.lookup, arrM, arr, src1, xw]
  · refine ⟨S1, a1, q1, .lst (wD ws), "lot", "lands", h1, w1, w2, .inr rfl, ne_lot_lands, fin _ _ (.lst (wD ws)) rfl ?_⟩
    refine od_run h1 (R2 := lR x0 m (.own (bsD bs)) (.lst (wD ws)) left x7 x8 (some (.tup [.str "lot", .str "lands"])) (some (.int n)) (some (blk b)) x12 x13 x14) find_lands rfl rfl rfl (by rcases hW with rfl | rfl <;> rfl) fun f => ?_
    let C : Rho := [none, none, none, some (.ob 3), none, some (.lst (wD ws)), none, none, none, none, none, none, none, none, none, none, none]
    have ec : capR oc_lands (lR x0 m (.own (bsD bs)) (.lst (wD ws)) left x7 x8 (some (.tup [.str "lot", .str "lands"])) (some (.int n)) (some (blk b)) x12 x13 x14) = C := by simp [capR, oc_lands, lR, C]
    have nl : NoLot (ws.length : Int) (.lst [.int ws.length]) := noLot_range (.inl rfl) (fun z hz => by rw [List.mem_singleton.mp hz]; rfl) ⟨.int ws.length, by simp, by simp [numB]; omega⟩ (by simp)
    have xw := x_cut_lands h1.d nl (y := .tup []) rfl
    refine t_heardhL (r1 := C) (lam_exc ?_) _
    rw [ec]
    have v3 : varF 3 C S1 = .ok (.ob 3) C S1 := rfl
    have v5 : varB 5 C S1 = .ok (.lst (wD ws)) C S1 := rfl
    have ln : lenD (.lst (wD ws)) = some (.int ws.length) := by
      show some (D.int (wD ws).length) = _
      rw [wD_len]
    unfold od_lands
    clear_value C
    generalize wD ws = WW at *
    simp [mMeth_on, v3, v5, ln, hd, mtL, List.lookup, arrM, arr, src1, xw]
  · refine ⟨S1, a1, q1, W, "lot", "torn", h1, w1, w2, hW, ne_lot_torn, fin _ _ W rfl ?_⟩
    refine od_run h1 find_torn rfl rfl rfl rfl fun f => ?_
    let C : Rho := [none, none, none, some (.ob 3), none, none, none, none, none, none, none, none, none, none, none, none, none]
    have ec : capR oc_torn (lR x0 m (.own (bsD bs)) W left x7 x8 (some (.tup [.str "lot", .str "torn"])) (some (.int n)) (some (blk b)) x12 x13 x14) = C := by simp [capR, oc_torn, lR, C]
    have nl : NoLot (ws.length : Int) (.lst [.int (-1)]) := noLot_range (.inl rfl) (fun z hz => by rw [List.mem_singleton.mp hz]; rfl) ⟨.int (-1), by simp, by simp [numB]⟩ (by simp)
    have xw := x_cut_torn h1.d (x := .lst []) (L := []) (lot_nil _) (.inl rfl) nl
    refine t_heardhL (r1 := C) (lam_exc ?_) _
    rw [ec]
    have v3 : varF 3 C S1 = .ok (.ob 3) C S1 := rfl
    unfold od_torn
    clear_value C
    simp [mMeth_on, v3, hd, mtL, List.lookup, arrM, arr, src1, xw]
end
end LW

set_option Elab.async false
set_option linter.all false
set_option maxRecDepth 100000
set_option maxHeartbeats 4000000
namespace LW
open PySem PySem.Spec PyProof.Rows L2 DD
theorem in_write : inD (.str "write") (.tup [.str "write", .str "flush"]) = some (.bl true) := by rfl
theorem q_write_write : eqD (.str "write") (.str "write") = some (.bl true) := by
  have e : eqB (.str "write") (.str "write") = some true := by decide +kernel
  unfold eqD; rw [e]; rfl
theorem in_flush : inD (.str "flush") (.tup [.str "write", .str "flush"]) = some (.bl true) := by rfl
theorem q_flush_write : eqD (.str "flush") (.str "write") = some (.bl false) := by
  have e : eqB (.str "flush") (.str "write") = some false := by decide +kernel
  unfold eqD; rw [e]; rfl
theorem q_flush_flush : eqD (.str "flush") (.str "flush") = some (.bl true) := by
  have e : eqB (.str "flush") (.str "flush") = some true := by decide +kernel
  unfold eqD; rw [e]; rfl
theorem in_fuse : inD (.str "fuse") (.tup [.str "write", .str "flush"]) = some (.bl false) := by rfl
theorem q_fuse_write : eqD (.str "fuse") (.str "write") = some (.bl false) := by
  have e : eqB (.str "fuse") (.str "write") = some false := by decide +kernel
  unfold eqD; rw [e]; rfl
theorem q_fuse_flush : eqD (.str "fuse") (.str "flush") = some (.bl false) := by
  have e : eqB (.str "fuse") (.str "flush") = some false := by decide +kernel
  unfold eqD; rw [e]; rfl
theorem q_fuse_fuse : eqD (.str "fuse") (.str "fuse") = some (.bl true) := by
  have e : eqB (.str "fuse") (.str "fuse") = some true := by decide +kernel
  unfold eqD; rw [e]; rfl
theorem in_cut : inD (.str "cut") (.tup [.str "write", .str "flush"]) = some (.bl false) := by rfl
theorem q_cut_write : eqD (.str "cut") (.str "write") = some (.bl false) := by
  have e : eqB (.str "cut") (.str "write") = some false := by decide +kernel
  unfold eqD; rw [e]; rfl
theorem q_cut_flush : eqD (.str "cut") (.str "flush") = some (.bl false) := by
  have e : eqB (.str "cut") (.str "flush") = some false := by decide +kernel
  unfold eqD; rw [e]; rfl
theorem q_cut_fuse : eqD (.str "cut") (.str "fuse") = some (.bl false) := by
  have e : eqB (.str "cut") (.str "fuse") = some false := by decide +kernel
  unfold eqD; rw [e]; rfl
theorem q_cut_cut : eqD (.str "cut") (.str "cut") = some (.bl true) := by
  have e : eqB (.str "cut") (.str "cut") = some true := by decide +kernel
  unfold eqD; rw [e]; rfl
theorem in_none : inD (.str "none") (.tup [.str "write", .str "flush"]) = some (.bl false) := by rfl
theorem q_none_write : eqD (.str "none") (.str "write") = some (.bl false) := by
  have e : eqB (.str "none") (.str "write") = some false := by decide +kernel
  unfold eqD; rw [e]; rfl
theorem q_none_flush : eqD (.str "none") (.str "flush") = some (.bl false) := by
  have e : eqB (.str "none") (.str "flush") = some false := by decide +kernel
  unfold eqD; rw [e]; rfl
theorem q_none_fuse : eqD (.str "none") (.str "fuse") = some (.bl false) := by
  have e : eqB (.str "none") (.str "fuse") = some false := by decide +kernel
  unfold eqD; rw [e]; rfl
theorem q_none_cut : eqD (.str "none") (.str "cut") = some (.bl false) := by
  have e : eqB (.str "none") (.str "cut") = some false := by decide +kernel
  unfold eqD; rw [e]; rfl
theorem q_none_none : eqD (.str "none") (.str "none") = some (.bl true) := by
  have e : eqB (.str "none") (.str "none") = some true := by decide +kernel
  unfold eqD; rw [e]; rfl
theorem in_odd : inD (.str "odd") (.tup [.str "write", .str "flush"]) = some (.bl false) := by rfl
theorem q_odd_write : eqD (.str "odd") (.str "write") = some (.bl false) := by
  have e : eqB (.str "odd") (.str "write") = some false := by decide +kernel
  unfold eqD; rw [e]; rfl
theorem q_odd_flush : eqD (.str "odd") (.str "flush") = some (.bl false) := by
  have e : eqB (.str "odd") (.str "flush") = some false := by decide +kernel
  unfold eqD; rw [e]; rfl
theorem q_odd_fuse : eqD (.str "odd") (.str "fuse") = some (.bl false) := by
  have e : eqB (.str "odd") (.str "fuse") = some false := by decide +kernel
  unfold eqD; rw [e]; rfl
theorem q_odd_cut : eqD (.str "odd") (.str "cut") = some (.bl false) := by
  have e : eqB (.str "odd") (.str "cut") = some false := by decide +kernel
  unfold eqD; rw [e]; rfl
theorem q_odd_none : eqD (.str "odd") (.str "none") = some (.bl false) := by
  have e : eqB (.str "odd") (.str "none") = some false := by decide +kernel
  unfold eqD; rw [e]; rfl
theorem q_non1 : eqD .non (.int 1) = some (.bl false) := by
  have e : eqB .non (.int 1) = some false := by decide +kernel
  unfold eqD; rw [e]; rfl
theorem ne_fine : neD (.str "fine") (.str "fine") = some (.bl false) := by
  have e : eqB (.str "fine") (.str "fine") = some true := by decide +kernel
  unfold neD; rw [e]; rfl
theorem ne_out : neD (.str "out") (.str "out") = some (.bl false) := by
  have e : eqB (.str "out") (.str "out") = some true := by decide +kernel
  unfold neD; rw [e]; rfl
section
variable {S : Sto} {cells : List Int} {a q : Int} {m : Nat} {bs : List (List Int)} {ws : List Wr} {lf lf' : Option Nat}
variable {x0 x3 x4 x5 x6 x7 x8 x9 x10 x11 x12 x13 x14 : Option D} {K W left : D} {s : Str}
theorem pre_w (hs : inD (.str s) (.tup [.str "write", .str "flush"]) = some (.bl true)) (es : spn lf = some lf') :
    (mSeq lb1 lb2) (lR x0 m (.own (bsD bs)) W (lfD lf) x7 (some (.str s)) x9 x10 x11 x12 x13 x14) S = .ok .nx (lR x0 m (.own (bsD bs)) W (lfD lf') x7 (some (.str s)) (some (.str "fine")) x10 x11 x12 x13 x14) S := by
  generalize bsD bs = BB
  cases lf with
  | none =>
    cases es
    unfold lb1 lb2 lR lfD
    simp [varB, q_non1, hs, isNotD, isB, isNonD]
  | some n =>
    cases n with
    | zero => cases es
    | succ n =>
      cases es
      obtain ⟨N, hN⟩ : ∃ N : Int, N = ((n + 1 : Nat) : Int) + 1 := ⟨_, rfl⟩
      obtain ⟨N', hN'⟩ : ∃ N' : Int, N' = (n : Int) + 1 := ⟨_, rfl⟩
      have l1 : lfD (some (n + 1)) = .int N := by rw [hN]; rfl
      have l2 : lfD (some n) = .int N' := by rw [hN']; rfl
      have e1 := eqD_i N 1
      rw [decide_eq_false (by omega)] at e1
      have mx : max2D (.int 1) (.int (N - 1)) = some (.int N') := by
        show some (D.int (if N - 1 > 1 then N - 1 else 1)) = _
        congr 2
        split <;> omega
      rw [l1, l2]
      clear hN hN' l1 l2
      unfold lb1 lb2 lR
      simp [varB, e1, hs, isNotD, isB, isNonD, mx]
theorem pre_o (hs : inD (.str s) (.tup [.str "write", .str "flush"]) = some (.bl true)) (es : spn lf = none) :
    (mSeq lb1 lb2) (lR x0 m (.own (bsD bs)) W (lfD lf) x7 (some (.str s)) x9 x10 x11 x12 x13 x14) S = .ok .nx (lR x0 m (.own (bsD bs)) W (lfD lf) x7 (some (.str s)) (some (.str "out")) x10 x11 x12 x13 x14) S := by
  have e0 : lf = some 0 := by
    cases lf with
    | none => cases es
    | some n => cases n with
      | zero => rfl
      | succ n => cases es
  subst e0
  have e1 := eqD_i 1 1
  rw [decide_eq_true rfl] at e1
  have mx : max2D (.int 1) (.int 0) = some (.int 1) := rfl
  generalize bsD bs = BB
  unfold lb1 lb2 lR lfD
  simp [varB, e1, hs, isNotD, isB, isNonD, mx]
theorem pre_n (hs : inD (.str s) (.tup [.str "write", .str "flush"]) = some (.bl false)) :
    (mSeq lb1 lb2) (lR x0 m (.own (bsD bs)) W (lfD lf) x7 (some (.str s)) x9 x10 x11 x12 x13 x14) S = .ok .nx (lR x0 m (.own (bsD bs)) W (lfD lf) x7 (some (.str s)) (some (.str "fine")) x10 x11 x12 x13 x14) S := by
  generalize bsD bs = BB
  cases lf with
  | none =>
    unfold lb1 lb2 lR lfD
    simp [varB, q_non1, hs, isNotD, isB, isNonD]
  | some n =>
    obtain ⟨N, hN⟩ : ∃ N : Int, N = (n : Int) + 1 := ⟨_, rfl⟩
    have l1 : lfD (some n) = .int N := by rw [hN]; rfl
    have e1 := eqD_i N 1
    rw [l1]
    clear hN l1
    unfold lb1 lb2 lR
    by_cases h : N = 1
    · rw [decide_eq_true h] at e1
      simp [varB, e1, hs, isNotD, isB, isNonD]
    · rw [decide_eq_false h] at e1
      simp [varB, e1, hs, isNotD, isB, isNonD]
def meE (E : M D) : M D := mCall phi_law_dip [.p 0, .p 1] [] 2 (mCons (varF 1) (mCons E (mNil))) (mNil)
theorem blk_loop {E : M D} {w : Int} (hE : ∀ r S, E r S = .ok (.int w) r S) (hw : 0 < w) (hw2 : w ≤ 1000000) : ∀ (n k0 : Nat) (S : Sto) (a q : Int) (acc : List Int), Bk S 2 cells a q → 0 ≤ a → a + n < 2 ^ 19 → 0 ≤ q → acc.length + n ≤ 1000 →
    ∃ a' q' xs, a ≤ a' ∧ a' ≤ a + n ∧ 0 ≤ q' ∧ (∀ i ∈ xs, i.natAbs ≤ 1000000) ∧ xs.length = n ∧
      lcLoop (.nm 16) mYes (meE E) [16] ((List.range' k0 n).map fun j : Nat => .int ((0 : Int) + (j : Int))) (numsD acc) (lR x0 m K W left x7 x8 x9 x10 x11 x12 x13 x14) S = .ok (numsD (acc ++ xs)) (lR x0 m K W left x7 x8 x9 x10 x11 x12 x13 x14) (S.set 2 (bkOb cells a' q'))
  | 0, k0, S, a, q, acc, hB, h3, h4, h5, h6 => ⟨a, q, [], by omega, by omega, h5, (fun i h => by cases h), rfl, by
    rw [List.append_nil]
    have : S.set 2 (bkOb cells a q) = S := set_same (bk_at0 hB)
    rw [this]; rfl⟩
  | n + 1, k0, S, a, q, acc, hB, h3, h4, h5, h6 => by
    obtain ⟨v, a1, q1, v1, v2, v3, v4, v5, e1⟩ := s_ladle hB (many := w) hw (log_small hw (by omega)) h3 (by omega) h5
    have hB1 : Bk (S.set 2 (bkOb cells a1 q1)) 2 cells a1 q1 := hB.set
    obtain ⟨a2, q2, xs, w1, w2, w3, w4, w5, w6⟩ := blk_loop hE hw hw2 n (k0 + 1) (S.set 2 (bkOb cells a1 q1)) a1 q1 (acc ++ [v]) hB1 (by omega) (by omega) v5 (by rw [List.length_append]; simp; omega)
    refine ⟨a2, q2, v :: xs, by omega, by omega, w3, fun i hi => ?_, by simp [w5], ?_⟩
    · rcases List.mem_cons.mp hi with rfl | hi
      · omega
      · exact w4 i hi
    · have hl : acc.length < lim := by unfold lim; omega
      have nn : numsD acc ++ [.int v] = numsD (acc ++ [v]) := by unfold numsD; rw [List.map_append]; rfl
      have et : lcTurn (.nm 16) mYes (meE E) [16] (.int ((0 : Int) + (k0 : Int))) (numsD acc) (lR x0 m K W left x7 x8 x9 x10 x11 x12 x13 x14) S = .ok (numsD (acc ++ [v])) (lR x0 m K W left x7 x8 x9 x10 x11 x12 x13 x14) (S.set 2 (bkOb cells a1 q1)) := by
        generalize S.set 2 (bkOb cells a1 q1) = S1 at *
        unfold lR meE
        simp [lcTurn, setT, wipeR, mYes, hE, varF, varB, arrM, arr, src1, e1, hl, nn]
      rw [List.range'_succ, List.map_cons, lcLoop, bind_ap, et, then_ok, w6, List.set_set, List.append_assoc]
      rfl
theorem s_drawn {E : M D} {w : Int} (hE : ∀ r S, E r S = .ok (.int w) r S) (hw : 0 < w) (hw2 : w ≤ 1000000) {mi : M (List D)} {S1 : Sto} {n : Nat} (hn : n ≤ 8) (hmi : mi (lR x0 m K W left x7 x8 x9 x10 x11 x12 x13 x14) S = .ok [.int n] (lR x0 m K W left x7 x8 x9 x10 x11 x12 x13 x14) S1) (hB : Bk S1 2 cells a q) (h3 : 0 ≤ a) (h4 : a < 2 ^ 18) (h5 : 0 ≤ q) :
    ∃ b a' q', Sml b ∧ a ≤ a' ∧ a' ≤ a + n ∧ 0 ≤ q' ∧ mLc (mRng1 mi) (.nm 16) mYes (meE E) [16] (lR x0 m K W left x7 x8 x9 x10 x11 x12 x13 x14) S = .ok (.own (numsD b)) (lR x0 m K W left x7 x8 x9 x10 x11 x12 x13 x14) (S1.set 2 (bkOb cells a' q')) := by
  obtain ⟨a3, q3, xs, w1, w2, w3, w4, w5, w6⟩ := blk_loop (x0 := x0) (m := m) (K := K) (W := W) (left := left) (x7 := x7) (x8 := x8) (x9 := x9) (x10 := x10) (x11 := x11) (x12 := x12) (x13 := x13) (x14 := x14) hE hw hw2 n 0 S1 a q [] hB h3 (by omega) h5 (by simp; omega)
  refine ⟨xs, a3, q3, ⟨by omega, fun i hi => Nat.lt_of_le_of_lt (w4 i hi) (by decide)⟩, w1, w2, w3, ?_⟩
  have eu : ups 0 n = (List.range' 0 n).map fun j : Nat => D.int ((0 : Int) + (j : Int)) := by
    unfold ups; rw [List.range_eq_range']
  rw [← eu, List.nil_append] at w6
  exact mLc_ap (mRng1_run (n := n) hmi (by omega)) w6
theorem lb3_ok (h : St S cells a q m bs ws lf) (hb : a < 2 ^ 17) :
    ∃ S' a' q' n b, St S' cells a' q' m bs ws lf ∧ n < m ∧ Sml b ∧ a ≤ a' ∧ a' ≤ a + 5 ∧ lb3 (lR x0 m K W left x7 x8 x9 x10 x11 x12 x13 x14) S = .ok .nx (lR x0 m K W left x7 x8 x9 (some (.int (n : Nat))) (some (blk b)) x12 x13 x14) S' := by
  have a0 := h.a0; have m4 := h.m4; have m30 := h.m30
  obtain ⟨n0, a1, q1, v1, v2, v3, v4, v5, e1⟩ := s_ladle h.bk (many := (m : Int)) (by omega) (log_small (by omega) (by omega)) h.a0 (by omega) h.q0
  obtain ⟨n, rfl⟩ : ∃ n : Nat, n0 = n := ⟨n0.toNat, by omega⟩
  have h1 := h.draw (a' := a1) (q' := q1) (by omega) v5
  obtain ⟨z0, a2, q2, u1, u2, u3, u4, u5, e2⟩ := s_ladle h1.bk (many := 3) (by omega) (by decide +kernel) h1.a0 (by omega) h1.q0
  obtain ⟨z, rfl⟩ : ∃ z : Nat, z0 = z := ⟨z0.toNat, by omega⟩
  have h2 := h1.draw (a' := a2) (q' := q2) (by omega) u5
  generalize S.set 2 (bkOb cells a1 q1) = S1 at *
  generalize S1.set 2 (bkOb cells a2 q2) = S2 at *
  obtain ⟨b, a3, q3, hbS, t1, t2, t3, e3⟩ := s_drawn (x0 := x0) (m := m) (K := K) (W := W) (left := left) (x7 := x7) (x8 := x8) (x9 := x9) (x10 := x10) (x11 := x11) (x12 := x12) (x13 := x13) (x14 := x14) (E := M.ret (.int 50)) (w := 50) (fun r S => rfl) (by omega) (by omega) (mi := mCons (frz (mCall phi_law_dip [.p 0, .p 1] [] 2 (mCons (varF 1) (mCons (M.ret (.int 3)) (mNil))) (mNil))) (mNil)) (S := S1) (S1 := S2) (n := z) (by omega) (by
    unfold lR
    simp [varF, arrM, arr, src1, e2]) h2.bk h2.a0 (by omega) h2.q0
  have h3 := h2.draw (a' := a3) (q' := q3) (by omega) t3
  generalize S2.set 2 (bkOb cells a3 q3) = S3 at *
  refine ⟨S3, a3, q3, n, b, h3, by omega, hbS, by omega, by omega, ?_⟩
  have tu : tupOfD (.own (numsD b)) = some (blk b) := rfl
  have e3' : fL (lR x0 m K W left x7 x8 x9 x10 x11 x12 x13 x14) S1 = .ok (.own (numsD b)) (lR x0 m K W left x7 x8 x9 x10 x11 x12 x13 x14) S3 := e3
  have bb : borD (blk b) = false := rfl
  unfold lR at e3' ⊢
  unfold lb3
  generalize fL = LC at *
  generalize blk b = BB at *
  simp [setNs, varF, arrM, arr, src1, e1, e3', tu, bb]
theorem lb5_ok (h : St S cells a q m bs ws lf) (hl : ws.length ≤ 500) (hW : W = .own (wD ws) ∨ W = .lst (wD ws)) {dv hv : D} (hn : neD hv dv = some (.bl false)) (b1 : frO dv = true) (b2 : frO hv = true) :
    lb5 (lR x0 m (.own (bsD bs)) W left x7 x8 (some dv) x10 x11 (some hv) x13 x14) S = .ok .nx (lR x0 m (.own (bsD bs)) (.lst (wD ws)) left x7 x8 (some dv) x10 x11 (some hv) x13 x14) S := by
  have li := s_law_is h.d h.len h.m4 h.m30 hl h.wlt h.ws h.bs
  have v12 : ∀ (r : Rho), r[12]? = some (some hv) → varB 12 r S = .ok hv r S := fun r e => varB_fr e b2
  have v9 : ∀ (r : Rho), r[9]? = some (some dv) → varB 9 r S = .ok dv r S := fun r e => varB_fr e b1
  have a12 := v12 (lR x0 m (.own (bsD bs)) W left x7 x8 (some dv) x10 x11 (some hv) x13 x14) rfl
  have a9 := v9 (lR x0 m (.own (bsD bs)) W left x7 x8 (some dv) x10 x11 (some hv) x13 x14) rfl
  have c1 : mTru (mBin neD (varB 12) (varB 9)) (lR x0 m (.own (bsD bs)) W left x7 x8 (some dv) x10 x11 (some hv) x13 x14) S = .ok false (lR x0 m (.own (bsD bs)) W left x7 x8 (some dv) x10 x11 (some hv) x13 x14) S := by
    generalize lR x0 m (.own (bsD bs)) W left x7 x8 (some dv) x10 x11 (some hv) x13 x14 = R at *
    simp [a12, a9, hn]
  unfold lb5
  generalize mTru (mBin neD (varB 12) (varB 9)) = CC at *
  unfold lR at c1 ⊢
  generalize wD ws = WW at *
  generalize bsD bs = BB at *
  rcases hW with rfl | rfl <;> simp [c1, varF, varB, arrM, arr, src1, li]
end
end LW

set_option Elab.async false
set_option linter.all false
set_option maxRecDepth 100000
set_option maxHeartbeats 4000000
namespace LW
open PySem PySem.Spec PyProof.Rows L2 DD
section
variable {S : Sto} {cells : List Int} {a q : Int} {m : Nat} {bs : List (List Int)} {ws : List Wr} {lf lf' : Option Nat}
variable {x0 x7 x8 x9 x10 x11 x12 x13 x14 : Option D} {W : D}
theorem seq3 {A B C : M Fl} {r r1 : Rho} {S S1 : Sto} (h : (mSeq A B) r S = .ok .nx r1 S1) : (mSeq A (mSeq B C)) r S = C r1 S1 := by
  rw [mSeq_ap] at h ⊢
  cases e : A r S with
  | ok f r2 S2 =>
    rw [e] at h
    cases f with
    | nx =>
      rw [seq_nx] at h ⊢
      rw [mSeq_ap, h, seq_nx]
    | _ => cases h
  | _ => rw [e] at h; cases h
theorem lb4_at {x : Str} {B : M Fl} {K left : D} (h1 : ∀ (r : Rho) S, r[8]? = some (some (.str x)) → lb4 r S = B r S) : lb4 (lR x0 m K W left x7 (some (.str x)) x9 x10 x11 x12 x13 x14) S = B (lR x0 m K W left x7 (some (.str x)) x9 x10 x11 x12 x13 x14) S := h1 _ _ rfl
theorem lb4_c {x t : Str} {z : Bool} (e : eqD (.str x) (.str t) = some (.bl z)) (r : Rho) (S : Sto) (h : r[8]? = some (some (.str x))) (A B : M Fl) : mIfS (mTru (mBin eqD (varB 8) (M.ret (.str t)))) A B r S = if z = true then A r S else B r S := by
  have v : varB 8 r S = .ok (.str x) r S := varB_fr h rfl
  rw [mIfS_ap]
  have c : mTru (mBin eqD (varB 8) (M.ret (.str t))) r S = .ok z r S := by simp [v, e]
  rw [c, then_ok]
theorem body_turn (h : St S cells a q m bs ws lf) (hl : ws.length ≤ 490) (hb : a < 2 ^ 16) (hW : W = .own (wD ws) ∨ W = .lst (wD ws)) :
    ∃ S' a' q' bs' ws' lf' y8 y9 y10 y11 y12 y13 y14, St S' cells a' q' m bs' ws' lf' ∧ ws'.length ≤ ws.length + 1 ∧ a ≤ a' ∧ a' ≤ a + 20 ∧
      lwBody (lR x0 m (.own (bsD bs)) W (lfD lf) x7 x8 x9 x10 x11 x12 x13 x14) S = .ok .nx (lR x0 m (.own (bsD bs')) (.lst (wD ws')) (lfD lf') x7 y8 y9 y10 y11 y12 y13 y14) S' := by
  obtain ⟨x, a1, q1, hx, w1, w2, w3, e1⟩ := s_pick (xs := [.str "write", .str "write", .str "flush", .str "fuse", .str "write", .str "cut", .str "none", .str "odd", .str "write", .str "flush"]) h.bk (by simp) (by simp) rfl h.a0 (by omega) h.q0
  have h1 := h.draw (a' := a1) (q' := q1) (by have := h.a0; omega) w3
  generalize S.set 2 (bkOb cells a1 q1) = S1 at *
  have p0 : ∀ s : Str, x = .str s → lb0 (lR x0 m (.own (bsD bs)) W (lfD lf) x7 x8 x9 x10 x11 x12 x13 x14) S = .ok .nx (lR x0 m (.own (bsD bs)) W (lfD lf) x7 (some (.str s)) x9 x10 x11 x12 x13 x14) S1 := fun s e => by
    subst e
    generalize bsD bs = BB at *
    generalize lfD lf = LL at *
    unfold lb0 lR
    simp [varF, arrM, arr, src1, e1]
  have fin : ∀ (s : Str) (dv left : D), x = .str s → (mSeq lb1 lb2) (lR x0 m (.own (bsD bs)) W (lfD lf) x7 (some (.str s)) x9 x10 x11 x12 x13 x14) S1 = .ok .nx (lR x0 m (.own (bsD bs)) W left x7 (some (.str s)) (some dv) x10 x11 x12 x13 x14) S1 →
      (∀ (S2 : Sto) (a2 q2 : Int) (n : Nat) (b : List Int), St S2 cells a2 q2 m bs ws lf → n < m → Sml b → a1 ≤ a2 → a2 ≤ a1 + 5 → ∃ S3 a3 q3 bs' ws' lf' W' dv' hv y13 y14, St S3 cells a3 q3 m bs' ws' lf' ∧ ws'.length ≤ ws.length + 1 ∧ a2 ≤ a3 ∧ a3 ≤ a2 + 5 ∧ (W' = .own (wD ws') ∨ W' = .lst (wD ws')) ∧ neD hv dv' = some (.bl false) ∧ frO dv' = true ∧ frO hv = true ∧
        lb4 (lR x0 m (.own (bsD bs)) W left x7 (some (.str s)) (some dv) (some (.int n)) (some (blk b)) x12 x13 x14) S2 = .ok .nx (lR x0 m (.own (bsD bs')) W' (lfD lf') x7 (some (.str s)) (some dv') (some (.int n)) (some (blk b)) (some hv) y13 y14) S3) →
      ∃ S' a' q' bs' ws' lf' y8 y9 y10 y11 y12 y13 y14, St S' cells a' q' m bs' ws' lf' ∧ ws'.length ≤ ws.length + 1 ∧ a ≤ a' ∧ a' ≤ a + 20 ∧
        lwBody (lR x0 m (.own (bsD bs)) W (lfD lf) x7 x8 x9 x10 x11 x12 x13 x14) S = .ok .nx (lR x0 m (.own (bsD bs')) (.lst (wD ws')) (lfD lf') x7 y8 y9 y10 y11 y12 y13 y14) S' := fun s dv left es pre deed => by
    obtain ⟨S2, a2, q2, n, b, h2, hn, hbS, u1, u2, p3⟩ := lb3_ok (x0 := x0) (K := .own (bsD bs)) (W := W) (left := left) (x7 := x7) (x8 := some (.str s)) (x9 := some dv) (x10 := x10) (x11 := x11) (x12 := x12) (x13 := x13) (x14 := x14) h1 (by omega)
    obtain ⟨S3, a3, q3, bs', ws', lf', W', dv', hv, y13, y14, h3, l3, c1, c2, hW', hne, f1, f2, p4⟩ := deed S2 a2 q2 n b h2 hn hbS (by omega) (by omega)
    have p5 := lb5_ok (x0 := x0) (left := lfD lf') (x7 := x7) (x8 := some (.str s)) (x10 := some (.int (n : Nat))) (x11 := some (blk b)) (x13 := y13) (x14 := y14) h3 (by omega) hW' hne f1 f2
    refine ⟨S3, a3, q3, bs', ws', lf', some (.str s), some dv', some (.int n), some (blk b), some hv, y13, y14, h3, l3, by omega, by omega, ?_⟩
    unfold lwBody
    rw [mSeq_ap, p0 s es, seq_nx, seq3 pre, mSeq_ap, p3, seq_nx, mSeq_ap, p4, seq_nx, p5]
  have dWr : x = .str "write" → _ := fun e => by
    cases es : spn lf with
    | some lf' =>
      refine fin "write" (.str "fine") (lfD lf') e (pre_w in_write es) fun S2 a2 q2 n b h2 hn hbS u1 u2 => ?_
      obtain ⟨S3, h3, p⟩ := wr_fine (x0 := x0) (x7 := x7) (x8 := some (.str "write")) (x12 := x12) (x13 := x13) (x14 := x14) (left := lfD lf') h2 es hn hbS (by omega) hW
      refine ⟨S3, a2, q2, bs, ws ++ [(n, b)], lf', _, .str "fine", .str "fine", x13, x14, h3, by simp, by omega, by omega, .inl rfl, ne_fine, rfl, rfl, ?_⟩
      rw [← p]
      unfold lb4
      rw [lb4_c q_write_write _ _ rfl, if_pos rfl]
    | none =>
      refine fin "write" (.str "out") (lfD lf) e (pre_o in_write es) fun S2 a2 q2 n b h2 hn hbS u1 u2 => ?_
      have p := wr_out (x0 := x0) (x7 := x7) (x8 := some (.str "write")) (x12 := x12) (x13 := x13) (x14 := x14) (left := lfD lf) h2 es hn hbS (by omega) hW
      refine ⟨S2, a2, q2, bs, ws, lf, _, .str "out", .str "out", x13, x14, h2, by omega, by omega, by omega, .inl rfl, ne_out, rfl, rfl, ?_⟩
      rw [← p]
      unfold lb4
      rw [lb4_c q_write_write _ _ rfl, if_pos rfl]
  have dFl : x = .str "flush" → _ := fun e => by
    cases es : spn lf with
    | some lf' =>
      refine fin "flush" (.str "fine") (lfD lf') e (pre_w in_flush es) fun S2 a2 q2 n b h2 hn hbS u1 u2 => ?_
      obtain ⟨S3, bs', y13, y14, h3, p⟩ := fl_fine (x0 := x0) (x7 := x7) (x8 := some (.str "flush")) (x10 := some (.int (n : Nat))) (x11 := some (blk b)) (x12 := x12) (x13 := x13) (x14 := x14) (left := lfD lf') h2 es (by omega) hW
      refine ⟨S3, a2, q2, bs', [], lf', _, .str "fine", .str "fine", y13, y14, h3, by simp, by omega, by omega, .inl rfl, ne_fine, rfl, rfl, ?_⟩
      rw [show wD [] = [] from rfl, ← p]
      unfold lb4
      rw [lb4_c q_flush_write _ _ rfl, if_neg (by decide), lb4_c q_flush_flush _ _ rfl, if_pos rfl]
    | none =>
      refine fin "flush" (.str "out") (lfD lf) e (pre_o in_flush es) fun S2 a2 q2 n b h2 hn hbS u1 u2 => ?_
      have p := fl_out (x0 := x0) (W := W) (x7 := x7) (x8 := some (.str "flush")) (x10 := some (.int (n : Nat))) (x11 := some (blk b)) (x12 := x12) (x13 := x13) (x14 := x14) (left := lfD lf) h2 es
      refine ⟨S2, a2, q2, bs, ws, lf, W, .str "out", .str "out", x13, x14, h2, by omega, by omega, by omega, hW, ne_out, rfl, rfl, ?_⟩
      rw [← p]
      unfold lb4
      rw [lb4_c q_flush_write _ _ rfl, if_neg (by decide), lb4_c q_flush_flush _ _ rfl, if_pos rfl]
  simp only [List.mem_cons, List.not_mem_nil, or_false] at hx
  rcases hx with e | e | e | e | e | e | e | e | e | e
  · exact dWr e
  · exact dWr e
  · exact dFl e
  · refine fin "fuse" (.str "fine") (lfD lf) e (pre_n in_fuse) fun S2 a2 q2 n b h2 hn hbS u1 u2 => ?_
    obtain ⟨S3, a3, q3, k, h3, c1, c2, p⟩ := fu_ok (x0 := x0) (W := W) (left := lfD lf) (x7 := x7) (x8 := some (.str "fuse")) (x9 := some (.str "fine")) (x10 := some (.int (n : Nat))) (x11 := some (blk b)) (x12 := x12) (x13 := x13) (x14 := x14) h2 (by omega)
    refine ⟨S3, a3, q3, bs, ws, some k, W, .str "fine", .str "fine", x13, x14, h3, by omega, by omega, by omega, hW, ne_fine, rfl, rfl, ?_⟩
    rw [← p]
    unfold lb4
    rw [lb4_c q_fuse_write _ _ rfl, if_neg (by decide), lb4_c q_fuse_flush _ _ rfl, if_neg (by decide), lb4_c q_fuse_fuse _ _ rfl, if_pos rfl]
  · exact dWr e
  · refine fin "cut" (.str "fine") (lfD lf) e (pre_n in_cut) fun S2 a2 q2 n b h2 hn hbS u1 u2 => ?_
    obtain ⟨S3, h3, p⟩ := cu_ok (x0 := x0) (W := W) (left := lfD lf) (x7 := x7) (x8 := some (.str "cut")) (x9 := some (.str "fine")) (x10 := some (.int (n : Nat))) (x11 := some (blk b)) (x12 := x12) (x13 := x13) (x14 := x14) h2
    refine ⟨S3, a2, q2, bs, [], none, _, .str "fine", .str "fine", x13, x14, h3, by simp, by omega, by omega, .inl rfl, ne_fine, rfl, rfl, ?_⟩
    rw [show wD [] = [] from rfl, ← p]
    unfold lb4
    rw [lb4_c q_cut_write _ _ rfl, if_neg (by decide), lb4_c q_cut_flush _ _ rfl, if_neg (by decide), lb4_c q_cut_fuse _ _ rfl, if_neg (by decide), lb4_c q_cut_cut _ _ rfl, if_pos rfl]
  · refine fin "none" (.str "fine") (lfD lf) e (pre_n in_none) fun S2 a2 q2 n b h2 hn hbS u1 u2 => ?_
    obtain ⟨S3, h3, p⟩ := no_ok (x0 := x0) (W := W) (left := lfD lf) (x7 := x7) (x8 := some (.str "none")) (x9 := some (.str "fine")) (x10 := some (.int (n : Nat))) (x11 := some (blk b)) (x12 := x12) (x13 := x13) (x14 := x14) h2
    refine ⟨S3, a2, q2, bs, ws, none, W, .str "fine", .str "fine", x13, x14, h3, by omega, by omega, by omega, hW, ne_fine, rfl, rfl, ?_⟩
    rw [← p]
    unfold lb4
    rw [lb4_c q_none_write _ _ rfl, if_neg (by decide), lb4_c q_none_flush _ _ rfl, if_neg (by decide), lb4_c q_none_fuse _ _ rfl, if_neg (by decide), lb4_c q_none_cut _ _ rfl, if_neg (by decide), lb4_c q_none_none _ _ rfl, if_pos rfl]
  · refine fin "odd" (.str "fine") (lfD lf) e (pre_n in_odd) fun S2 a2 q2 n b h2 hn hbS u1 u2 => ?_
    obtain ⟨S3, a3, q3, W', w, p', h3, c1, c2, hW', hne, p⟩ := od_ok (x0 := x0) (left := lfD lf) (x7 := x7) (x8 := some (.str "odd")) (x9 := some (.str "fine")) (x12 := x12) (x13 := x13) (x14 := x14) (b := b) h2 (by omega) hn hW
    refine ⟨S3, a3, q3, bs, ws, lf, W', .tup [.str w, .str p'], .tup [.str w, .str p'], x13, x14, h3, by omega, by omega, by omega, hW', hne, rfl, rfl, ?_⟩
    rw [← p]
    unfold lb4
    rw [lb4_c q_odd_write _ _ rfl, if_neg (by decide), lb4_c q_odd_flush _ _ rfl, if_neg (by decide), lb4_c q_odd_fuse _ _ rfl, if_neg (by decide), lb4_c q_odd_cut _ _ rfl, if_neg (by decide), lb4_c q_odd_none _ _ rfl, if_neg (by decide)]
  · exact dWr e
  · exact dFl e
end
end LW

set_option Elab.async false
set_option linter.all false
set_option maxRecDepth 100000
set_option maxHeartbeats 4000000
namespace LW
open PySem PySem.Spec PyProof.Rows L2 DD
theorem scr_cells (ns : List Int) (r : Rho) (S : Sto) : callM phi_law_pail [.scr (ns.map D.int)] r S = .ok (.ob S.length) r (S ++ [bkOb (ns.take 63) 0 0]) := by
  refine call_run ?_ rfl
  have e : startR N_law_pail [.scr (ns.map D.int)] = [some (.scr (ns.map D.int)), none] := rfl
  rw [e]
  have cc : cutG (ns.map D.int) none (some 63) = numsD (ns.take 63) := by
    unfold cutG numsD
    have e1 : HT.sIx (ns.map D.int).length (ns.map D.int).length (some 63) = min 63 (ns.map D.int).length := HT.sIx_nat _ _ 63
    rw [HT.sIx_none, e1, List.drop_zero, Nat.sub_zero, List.map_take]
    by_cases h : 63 ≤ (ns.map D.int).length
    · rw [Nat.min_eq_left h]
    · rw [Nat.min_eq_right (by omega), List.take_of_length_le (Nat.le_refl _), List.take_of_length_le (by omega)]
  have c1 : mLc (mIter true (mSl (varB 0) (M.ret none) (mPart (M.ret (.int 63))))) (.nm 1) (mYes) (mUn intOfD (varB 1)) [1] [some (.scr (ns.map D.int)), none] S = .ok (.own ((numsD (ns.take 63)).flatMap fun d => [d])) [some (.scr (ns.map D.int)), none] S := by
    refine mLc_run (g := fun d => [d]) (by simp [mIter, mSl, mPart, varB, sliceD, itemsD, seqD, cc]) (fun d hd acc ha => ?_) (fun d _ => by simp) (by simp [lim]; omega)
    obtain ⟨c, hc, rfl⟩ := List.mem_map.mp hd
    simp [lcTurn, setT, wipeR, mYes, varB, ha]
  have e2 : ((numsD (ns.take 63)).flatMap fun d => [d]) = numsD (ns.take 63) := by simp
  rw [e2] at c1
  unfold m_law_pail
  simp [c1]
  rfl
theorem nil_sml : ∀ {m : Nat} (b : List Int), b ∈ List.replicate m ([] : List Int) → Sml b := fun b hb => by
  rw [(List.mem_replicate.mp hb).2]; exact ⟨by simp, fun i hi => by cases hi⟩
section
variable {S : Sto} {cells : List Int} {a q : Int} {m : Nat} {bs : List (List Int)} {ws : List Wr} {lf : Option Nat}
variable {x0 x7 x8 x9 x10 x11 x12 x13 x14 : Option D} {W left : D}
theorem mg5_ok (h : St S cells a q m bs ws lf) (hl : ws.length ≤ 500) (hb : a < 2 ^ 18) (hW : W = .own (wD ws) ∨ W = .lst (wD ws)) :
    ∃ r' S', mg5 (lR x0 m (.own (bsD bs)) W left x7 x8 x9 x10 x11 x12 x13 x14) S = .ok (.rt (.bl true)) r' S' := by
  obtain ⟨S1, a1, q1, h1, e1⟩ := s_refused h hb (lR x0 m (.own (bsD bs)) W left x7 x8 x9 x10 x11 x12 x13 x14)
  have li := s_law_is h1.d h1.len h1.m4 h1.m30 hl h1.wlt h1.ws h1.bs
  refine ⟨lR x0 m (.own (bsD bs)) (.lst (wD ws)) left x7 x8 x9 x10 x11 x12 x13 x14, S1, ?_⟩
  unfold mg5
  unfold lR at e1 ⊢
  generalize bsD bs = BB at *
  generalize wD ws = WW at *
  rcases hW with rfl | rfl <;> simp [varF, varB, arrM, arr, src1, e1, li]
end
theorem math (ns : List Int) (h1 : ns.length ≤ 63) (h2 : ∀ z ∈ ns, Builtin.Int.intBits z ≤ 1048576) : ∃ r S, phi_law [.scr (ns.map D.int)] (tabX.map fun x => Ob.tab (lamN x)) = .ok (.bl true) r S := by
  let cells := ns.take 63
  let T0 : Ob := .tab (lamN "_law_refused_right")
  let T1 : Ob := .tab (lamN "law")
  have eT : (tabX.map fun x => Ob.tab (lamN x)) = [T0, T1] := rfl
  rw [eT]
  let x0 : Option D := some (.scr (ns.map D.int))
  let NR : Option D → Option D → Option D → Rho := fun y1 y2 y3 => [x0, y1, y2, y3, none, none, none, none, none, none, none, none, none, none, none, none, none]
  have p0 : mg0 (NR none none none) [T0, T1] = .ok .nx (NR (some (.ob 2)) none none) [T0, T1, bkOb cells 0 0] := by
    have pot : ∀ r, callM phi_law_pail [.scr (ns.map D.int)] r [T0, T1] = .ok (.ob 2) r [T0, T1, bkOb cells 0 0] := fun r => scr_cells ns r [T0, T1]
    have x0e : x0 = some (.scr (ns.map D.int)) := rfl
    unfold mg0
    simp only [NR]
    clear_value x0 T0 T1 cells
    subst x0e
    simp [varF, arrM, arr, src1, pot]
  have hB0 : Bk [T0, T1, bkOb cells 0 0] 2 cells 0 0 := rfl
  obtain ⟨x, a2, q2, hx, w1, w2, w3, e2⟩ := s_pick (xs := numsD [0, 2, 16]) hB0 (by simp [numsD]) (by simp [numsD]) (by simp [numsD]) (by omega) (by omega) (by omega)
  obtain ⟨m0, hm0, rfl⟩ := List.mem_map.mp hx
  obtain ⟨m, hm, m4, m30⟩ : ∃ m : Nat, 4 + m0 = (m : Int) ∧ 4 ≤ m ∧ m ≤ 30 := by
    have : 0 ≤ m0 ∧ m0 ≤ 26 := by
      simp only [List.mem_cons, List.not_mem_nil, or_false] at hm0
      rcases hm0 with rfl | rfl | rfl <;> constructor <;> omega
    exact ⟨(4 + m0).toNat, by omega, by omega, by omega⟩
  have p1 : mg1 (NR (some (.ob 2)) none none) [T0, T1, bkOb cells 0 0] = .ok .nx (NR (some (.ob 2)) (some (.int m)) none) [T0, T1, bkOb cells a2 q2] := by
    have e2' : ∀ r, callM phi_law_pick [.ob 2, .lst [.int 0, .int 2, .int 16]] r [T0, T1, bkOb cells 0 0] = .ok (.int m0) r [T0, T1, bkOb cells a2 q2] := e2
    unfold mg1
    simp only [NR]
    clear_value x0 T0 T1 cells
    simp [varF, arrM, arr, src1, e2', hm]
  let D1 : Ob := dk m (List.replicate m []) []
  let S1 : Sto := [T0, T1, bkOb cells a2 q2, D1]
  have p2 : mg2 (NR (some (.ob 2)) (some (.int m)) none) [T0, T1, bkOb cells a2 q2] = .ok .nx (NR (some (.ob 2)) (some (.int m)) (some (.ob 3))) S1 := by
    have i1 : ∀ r, callM phi_Disk_init [.ob 3, .int m] r [T0, T1, bkOb cells a2 q2, .ins 0 []] = .ok .non r S1 := fun r => s_Disk_init (S := [T0, T1, bkOb cells a2 q2, .ins 0 []]) (k := 3) rfl m4 (by omega) r
    unfold mg2
    simp only [NR]
    clear_value x0 T0 T1 cells D1 S1
    simp [varF, arrM, arr, src1, i1, mMake_on]
  have st1 : St S1 cells a2 q2 m (List.replicate m []) [] none := ⟨rfl, rfl, rfl, by omega, w3, rfl, by simp, m4, m30, (fun p hp => by cases hp), (fun p hp => by cases hp), nil_sml⟩
  let B1 := bsD (List.replicate m ([] : List Int))
  have p3 : mg3 (NR (some (.ob 2)) (some (.int m)) (some (.ob 3))) S1 = .ok .nx (lR x0 m (.own B1) (.own []) .non none none none none none none none none) S1 := by
    have kp := w_kept st1.d
    have lo : listOfD (.tup B1) = some (.own B1) := rfl
    have eB : bsD (List.replicate m ([] : List Int)) = B1 := rfl
    rw [eB] at kp
    have hd := st1.d
    unfold dkf at hd
    unfold mg3 lR
    simp only [NR]
    clear_value x0 T0 T1 cells D1 S1 B1
    simp [setNs, varF, arrM, arr, src1, kp, lo, mMeth_on, mtL, List.lookup, hd]
  obtain ⟨n2, a5, q5, u1, u2, u3, u4, u5, e5⟩ := s_ladle st1.bk (many := 36) (by omega) (by decide +kernel) st1.a0 (by omega) st1.q0
  obtain ⟨n, hn, hn24⟩ : ∃ n : Nat, (5 : Int) + n2 = n ∧ n ≤ 40 := ⟨(5 + n2).toNat, by omega, by omega⟩
  have st := st1.draw (a' := a5) (q' := q5) (by omega) u5
  let I : Nat → Rho → Sto → Prop := fun k r S' => ∃ a' q' bs ws lf W x7 x8 x9 x10 x11 x12 x13 x14, St S' cells a' q' m bs ws lf ∧ ws.length ≤ k ∧ a' ≤ a5 + 20 * k ∧ (W = .own (wD ws) ∨ W = .lst (wD ws)) ∧ r = lR x0 m (.own (bsD bs)) W (lfD lf) x7 x8 x9 x10 x11 x12 x13 x14
  obtain ⟨rf, Sf, ef, a', q', bs, ws, lf, W, x7, x8, x9, x10, x11, x12, x13, x14, T, b0, b1, b2, rfl⟩ := for_run (tg := .nm 7) (body := lwBody) I (ds := ups 0 n) (i := 0) (r := lR x0 m (.own B1) (.own []) .non none none none none none none none none) (S := S1.set 2 (bkOb cells a5 q5)) ⟨a5, q5, _, [], none, .own [], none, none, none, none, none, none, none, none, st, by simp, by omega, .inl rfl, rfl⟩ fun j d r S' hj ⟨a', q', bs, ws, lf, W, x7, x8, x9, x10, x11, x12, x13, x14, T, b0, b1, b2, er⟩ => by
    subst er
    obtain ⟨hjl, rfl⟩ := ups_at hj
    rw [Nat.zero_add] at b0 b1 ⊢
    obtain ⟨S2, a6, q6, bs2, ws2, lf2, z8, z9, z10, z11, z12, z13, z14, T2, l2, c1, c2, e⟩ := body_turn (x0 := x0) (x7 := some (.int j)) (x8 := x8) (x9 := x9) (x10 := x10) (x11 := x11) (x12 := x12) (x13 := x13) (x14 := x14) T (by omega) (by omega) b2
    exact ⟨_, rfl, _, _, .inl e, a6, q6, bs2, ws2, lf2, _, _, _, _, _, _, _, _, _, T2, by omega, by omega, .inr rfl, rfl⟩
  have lu : (ups 0 n).length = n := ups_len n
  rw [lu, Nat.zero_add] at b0 b1
  have p4 : mg4 (lR x0 m (.own B1) (.own []) .non none none none none none none none none) S1 = .ok .nx (lR x0 m (.own (bsD bs)) W (lfD lf) x7 x8 x9 x10 x11 x12 x13 x14) Sf := by
    have rg : mRng1 (mCons (frz (mBin addD (M.ret (.int 5)) (mCall phi_law_dip [.p 0, .p 1] [] 2 (mCons (varF 1) (mCons (M.ret (.int 36)) (mNil))) (mNil)))) (mNil)) (lR x0 m (.own B1) (.own []) .non none none none none none none none none) S1 = .ok (ups 0 n) (lR x0 m (.own B1) (.own []) .non none none none none none none none none) (S1.set 2 (bkOb cells a5 q5)) := by
      refine mRng1_run ?_ (by omega)
      generalize S1.set 2 (bkOb cells a5 q5) = S5 at *
      clear_value S1 B1
      unfold lR
      simp [varF, arrM, arr, src1, e5, hn]
    unfold mg4 mFor
    rw [bind_ap, rg, then_ok, ef]
  obtain ⟨r7, S7, p5⟩ := mg5_ok (x0 := x0) (left := lfD lf) (x7 := x7) (x8 := x8) (x9 := x9) (x10 := x10) (x11 := x11) (x12 := x12) (x13 := x13) (x14 := x14) T (by omega) (by omega) b2
  refine ⟨r7, S7, ?_⟩
  have e0 : startR N_law [.scr (ns.map D.int)] = NR none none none := rfl
  show endFn (m_law (startR N_law [.scr (ns.map D.int)]) [T0, T1]) = _
  rw [e0, lw_eq, mSeq_ap, p0, seq_nx, mSeq_ap, p1, seq_nx, mSeq_ap, p2, seq_nx, mSeq_ap, p3, seq_nx, mSeq_ap, p4, seq_nx, p5]
  rfl
end LW

set_option Elab.async false
set_option linter.all false
set_option maxRecDepth 100000
set_option maxHeartbeats 0
open PySem PySem.W PySem.Calls PyProof.Rows
theorem PySem.Challenge.cw_ownseen_k61_fuses_holds : PySem.Challenge.rw_ownseen_k61_fuses.Holds := by
  w_on; o_law
  refine HandSHeadRun.head_any (r := OpenLaw.row PySem.Challenge.rw_ownseen_k61_fuses) (q := view (OpenLaw.row PySem.Challenge.rw_ownseen_k61_fuses).prog [25, 26]) (H := LW.hk) (ob := LW.ob) (M := 20000) (loose := LW.names) (d := HandSHeadRun.topDef (OpenLaw.row PySem.Challenge.rw_ownseen_k61_fuses).prog 26) (kwd := []) LW.ob_eq
    (by kernel_rfl) (fun s => by kernel_rfl) LW.run (by kernel_rfl) (by kernel_rfl) (by kernel_rfl) (by rfl) (by first | assumption | decide +kernel) (by decide +kernel) ⟨rfl, rfl, rfl, rfl, rfl, by decide +kernel⟩ ?hw ?hc
  case hw => w_witness2
  case hc =>
    refine DD.walkL (xs := LW.tabX) (l := PySem.Challenge.rw_ownseen_k61_fuses) (n := 63) (k := 9) (x := "_law_script") (qf := false) rfl (by decide) (by kernel_rfl) ⟨rfl, by decide, by decide⟩ (by kernel_rfl) fun w mg fa h Y G hmg0 => ?_
    obtain ⟨K, KX, c⟩ := Y
    have C := LW.ctx KX G c
    have hmg : mg ("law" : PySem.Str) = some (.ref fa) := by
      have e : (HandSHeadRun.topDef (OpenLaw.row PySem.Challenge.rw_ownseen_k61_fuses).prog 26).name = ("law" : PySem.Str) := by kernel_rfl
      rw [← e]
      exact hmg0
    have e := hmg.symm.trans (He.glo_ok KX G (x := "law") (DD.allB_at c.more 32))
    cases e
    exact ⟨LW.tb K, K, DD.fdOf K (LW.d_law.ad K), LW.phi_law, KX, (DD.allB_at c.more 67), fun s v => L2.FunD.bindsA (ps := ["_law_script"]) C.d_law (fun _ _ _ _ _ _ us hl => match us, hl with | [_], _ => rfl) s [v] rfl, fun ns h1 h2 => LW.math ns h1 h2, fun base _ _ tB => LW.all_fn C tB _ _ DD.like_tabs⟩

