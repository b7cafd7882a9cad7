import PyProof.Rows.All
import Wide.All
import OpenK.AllK
import Wide.FinOn
import PySem.Challenge.RW_backletters_k69_whole_rounds_of_strings
import HandS.ForMost
import HandS.ForExc
import HandS.IsInst
import HandS.Deep
import HandS.SortInts
import HandS.Zip
import HandS.Wide
import HandS.TupMul
import HandS.Style
import HandS.Flow
import HandS.Conv
import HandS.TupLen
import HandS.Rev
import HandS.SetFor
import HandS.More
import HandS.WideMore
import HandS.ExcIs
import KE.KExcIs
set_option Elab.async false
set_option linter.all false
set_option maxRecDepth 100000
set_option maxHeartbeats 0
namespace L2.VE
open PySem PySem.Spec PyProof.Rows
/-! ### data, what stands for it -/
inductive D where
  | non | bl (b : Bool) | int (i : Int) | str (x : Str)
  | lst (xs : List D) | tup (xs : List D)
  | dk (kvs : List (Key × D)) | dt (kvs : List (List Key × D)) | sl (xs : List D)
  deriving Inhabited

mutual
def Rep (K : PySem.W.Frag) (F : Hp) : D → V → Prop
  | .non, v => v = .non
  | .bl b, v => v = .bl b
  | .int i, v => v = .int i
  | .str x, v => v = .str x
  | .lst ds, v => ∃ a xs, v = .ref a ∧ F a = some (.lst xs) ∧ RepL K F ds xs
  | .sl ds, v => ∃ a xs, v = .ref a ∧ SqL K F a xs ∧ RepL K F ds xs
  | .tup ds, v => ∃ a xs, v = .ref a ∧ F a = some (.tup xs) ∧ RepL K F ds xs
  | .dk kvs, v => ∃ a ws, v = .ref a ∧ F a = some (.dK ws) ∧ RepK K F kvs ws
  | .dt kvs, v => ∃ a ws, v = .ref a ∧ F a = some (.dT ws) ∧ RepT K F kvs ws
def RepL (K : PySem.W.Frag) (F : Hp) : List D → List V → Prop
  | [], vs => vs = []
  | d :: ds, vs => ∃ v r, vs = v :: r ∧ Rep K F d v ∧ RepL K F ds r
def RepK (K : PySem.W.Frag) (F : Hp) : List (Key × D) → List (Key × V) → Prop
  | [], vs => vs = []
  | (k, d) :: ds, vs => ∃ v r, vs = (k, v) :: r ∧ Rep K F d v ∧ RepK K F ds r
def RepT (K : PySem.W.Frag) (F : Hp) : List (List Key × D) → List (List Key × V) → Prop
  | [], vs => vs = []
  | (k, d) :: ds, vs => ∃ v r, vs = (k, v) :: r ∧ Rep K F d v ∧ RepT K F ds r
end
theorem Same.sqt {K : PySem.W.Frag} {H H' : Hp} {a : Addr} {xs : List V} (e : Same H H') (h : SqT K H a xs) : SqT K H' a xs := by
  rcases h with (h | ⟨o, h⟩) | h
  · exact .inl (.inl (e _ _ h))
  · exact .inl (.inr ⟨o, e _ _ h⟩)
  · exact .inr h
mutual
theorem Rep.mono {K : PySem.W.Frag} {F F' : Hp} (s : Same F F') : ∀ {d : D} {v : V}, Rep K F d v → Rep K F' d v
  | .non, _, h => h
  | .bl _, _, h => h
  | .int _, _, h => h
  | .str _, _, h => h
  | .lst ds, v, ⟨a, xs, e, q, r⟩ => ⟨a, xs, e, s _ _ q, RepL.mono s r⟩
  | .sl ds, v, ⟨a, xs, e, q, r⟩ => ⟨a, xs, e, s.seq q, RepL.mono s r⟩
  | .tup ds, v, ⟨a, xs, e, q, r⟩ => ⟨a, xs, e, s _ _ q, RepL.mono s r⟩
  | .dk kvs, v, ⟨a, ws, e, q, r⟩ => ⟨a, ws, e, s _ _ q, RepK.mono s r⟩
  | .dt kvs, v, ⟨a, ws, e, q, r⟩ => ⟨a, ws, e, s _ _ q, RepT.mono s r⟩
theorem RepL.mono {K : PySem.W.Frag} {F F' : Hp} (s : Same F F') : ∀ {ds : List D} {vs : List V}, RepL K F ds vs → RepL K F' ds vs
  | [], _, h => h
  | d :: ds, _, ⟨v, r, e, h1, h2⟩ => ⟨v, r, e, Rep.mono s h1, RepL.mono s h2⟩
theorem RepK.mono {K : PySem.W.Frag} {F F' : Hp} (s : Same F F') : ∀ {ds : List (Key × D)} {vs : List (Key × V)}, RepK K F ds vs → RepK K F' ds vs
  | [], _, h => h
  | (k, d) :: ds, _, ⟨v, r, e, h1, h2⟩ => ⟨v, r, e, Rep.mono s h1, RepK.mono s h2⟩
theorem RepT.mono {K : PySem.W.Frag} {F F' : Hp} (s : Same F F') : ∀ {ds : List (List Key × D)} {vs : List (List Key × V)}, RepT K F ds vs → RepT K F' ds vs
  | [], _, h => h
  | (k, d) :: ds, _, ⟨v, r, e, h1, h2⟩ => ⟨v, r, e, Rep.mono s h1, RepT.mono s h2⟩
end
theorem RepL.length {K : PySem.W.Frag} {F : Hp} : ∀ {ds : List D} {vs : List V}, RepL K F ds vs → vs.length = ds.length
  | [], _, h => by rw [show _ = [] from h]; rfl
  | d :: ds, _, ⟨v, r, e, _, h2⟩ => by rw [e, List.length_cons, List.length_cons, RepL.length h2]
theorem RepL.get {K : PySem.W.Frag} {F : Hp} : ∀ {ds : List D} {vs : List V} {i : Nat} {d : D}, RepL K F ds vs → ds[i]? = some d → ∃ v, vs[i]? = some v ∧ Rep K F d v
  | [], _, _, _, _, e => by simp at e
  | d :: ds, _, 0, x, ⟨v, r, e, h1, _⟩, q => by subst e; simp at q; subst q; exact ⟨v, rfl, h1⟩
  | d :: ds, _, i + 1, x, ⟨v, r, e, _, h2⟩, q => by subst e; simpa using RepL.get (i := i) h2 (by simpa using q)
theorem RepL.getV {K : PySem.W.Frag} {F : Hp} : ∀ {ds : List D} {vs : List V} {i : Nat} {v : V}, RepL K F ds vs → vs[i]? = some v → ∃ d, ds[i]? = some d ∧ Rep K F d v
  | [], _, _, _, h, e => by rw [show _ = [] from h] at e; simp at e
  | d :: ds, _, 0, x, ⟨v, r, e, h1, _⟩, q => by subst e; simp at q; subst q; exact ⟨d, rfl, h1⟩
  | d :: ds, _, i + 1, x, ⟨v, r, e, _, h2⟩, q => by subst e; simpa using RepL.getV (i := i) h2 (by simpa using q)
theorem RepL.append {K : PySem.W.Frag} {F : Hp} : ∀ {ds es : List D} {vs ws : List V}, RepL K F ds vs → RepL K F es ws → RepL K F (ds ++ es) (vs ++ ws)
  | [], _, _, _, h, q => by rw [show _ = [] from h]; exact q
  | d :: ds, _, _, _, ⟨v, r, e, h1, h2⟩, q => by subst e; exact ⟨v, _, rfl, h1, RepL.append h2 q⟩
theorem RepL.one {K : PySem.W.Frag} {F : Hp} {d : D} {v : V} (h : Rep K F d v) : RepL K F [d] [v] := ⟨v, [], rfl, h, rfl⟩
theorem RepL.take {K : PySem.W.Frag} {F : Hp} : ∀ {ds : List D} {vs : List V} (n : Nat), RepL K F ds vs → RepL K F (ds.take n) (vs.take n)
  | _, _, 0, _ => rfl
  | [], _, n + 1, h => by rw [show _ = [] from h]; exact rfl
  | d :: ds, _, n + 1, ⟨v, r, e, h1, h2⟩ => by subst e; exact ⟨v, _, rfl, h1, RepL.take n h2⟩
theorem RepL.drop {K : PySem.W.Frag} {F : Hp} : ∀ {ds : List D} {vs : List V} (n : Nat), RepL K F ds vs → RepL K F (ds.drop n) (vs.drop n)
  | _, _, 0, h => h
  | [], _, n + 1, h => by rw [show _ = [] from h]; exact rfl
  | d :: ds, _, n + 1, ⟨v, r, e, h1, h2⟩ => by subst e; exact RepL.drop n h2
theorem RepL.set {K : PySem.W.Frag} {F : Hp} {x : D} {y : V} (hx : Rep K F x y) : ∀ {ds : List D} {vs : List V} (n : Nat), RepL K F ds vs → RepL K F (ds.set n x) (vs.set n y)
  | [], _, _, h => by rw [show _ = [] from h]; exact rfl
  | d :: ds, _, 0, ⟨v, r, e, h1, h2⟩ => by subst e; exact ⟨y, r, rfl, hx, h2⟩
  | d :: ds, _, n + 1, ⟨v, r, e, h1, h2⟩ => by subst e; exact ⟨v, _, rfl, h1, RepL.set hx n h2⟩
theorem RepL.eraseIdx {K : PySem.W.Frag} {F : Hp} : ∀ {ds : List D} {vs : List V} (n : Nat), RepL K F ds vs → RepL K F (ds.eraseIdx n) (vs.eraseIdx n)
  | [], _, _, h => by rw [show _ = [] from h]; exact rfl
  | d :: ds, _, 0, ⟨v, r, e, h1, h2⟩ => by subst e; exact h2
  | d :: ds, _, n + 1, ⟨v, r, e, h1, h2⟩ => by subst e; exact ⟨v, _, rfl, h1, RepL.eraseIdx n h2⟩
theorem RepL.reverse {K : PySem.W.Frag} {F : Hp} : ∀ {ds : List D} {vs : List V}, RepL K F ds vs → RepL K F ds.reverse vs.reverse
  | [], _, h => by rw [show _ = [] from h]; exact rfl
  | d :: ds, _, ⟨v, r, e, h1, h2⟩ => by
    subst e
    rw [List.reverse_cons, List.reverse_cons]
    exact RepL.append (RepL.reverse h2) (RepL.one h1)
theorem RepL.dropLast {K : PySem.W.Frag} {F : Hp} {ds : List D} {vs : List V} (h : RepL K F ds vs) : RepL K F ds.dropLast vs.dropLast := by
  rw [List.dropLast_eq_take, List.dropLast_eq_take, h.length]
  exact RepL.take _ h
theorem RepL.flat {K : PySem.W.Frag} {F : Hp} {ds : List D} {vs : List V} (h : RepL K F ds vs) : ∀ k : Nat, RepL K F (List.replicate k ds).flatten (List.replicate k vs).flatten
  | 0 => rfl
  | k + 1 => by
    rw [List.replicate_succ, List.replicate_succ, List.flatten_cons, List.flatten_cons]
    exact RepL.append h (RepL.flat h k)
theorem RepL.ints {K : PySem.W.Frag} {F : Hp} : ∀ {ns : List Int} {vs : List V}, RepL K F (ns.map D.int) vs → vs = ns.map V.int
  | [], _, h => h
  | n :: ns, _, ⟨v, r, e, h1, h2⟩ => by rw [e, show v = .int n from h1, RepL.ints h2]; rfl
theorem RepL.of_ints {K : PySem.W.Frag} {F : Hp} : ∀ (ns : List Int), RepL K F (ns.map D.int) (ns.map V.int)
  | [] => rfl
  | n :: ns => ⟨_, _, rfl, rfl, RepL.of_ints ns⟩
theorem RepL.strs {K : PySem.W.Frag} {F : Hp} : ∀ {ns : List Str} {vs : List V}, RepL K F (ns.map D.str) vs → vs = ns.map V.str
  | [], _, h => h
  | n :: ns, _, ⟨v, r, e, h1, h2⟩ => by rw [e, show v = .str n from h1, RepL.strs h2]; rfl
theorem RepL.of_strs {K : PySem.W.Frag} {F : Hp} : ∀ (ns : List Str), RepL K F (ns.map D.str) (ns.map V.str)
  | [] => rfl
  | n :: ns => ⟨_, _, rfl, rfl, RepL.of_strs ns⟩
theorem RepL.bls {K : PySem.W.Frag} {F : Hp} : ∀ {ns : List Bool} {vs : List V}, RepL K F (ns.map D.bl) vs → vs = ns.map V.bl
  | [], _, h => h
  | n :: ns, _, ⟨v, r, e, h1, h2⟩ => by rw [e, show v = .bl n from h1, RepL.bls h2]; rfl

/-! ### what may be changed: by its top alone -/
def Top (K : PySem.W.Frag) (F H : Hp) : D → Addr → Prop
  | .lst ds, a => ∃ xs, H a = some (.lst xs) ∧ RepL K F ds xs
  | .dk kvs, a => ∃ ws, H a = some (.dK ws) ∧ RepK K F kvs ws
  | .dt kvs, a => ∃ ws, H a = some (.dT ws) ∧ RepT K F kvs ws
  | _, _ => False
theorem Top.ne {K : PySem.W.Frag} {F H : Hp} : ∀ {x : D} {a : Addr}, Top K F H x a → H a ≠ none
  | .lst _, _, ⟨_, e, _⟩ => by rw [e]; intro z; cases z
  | .dk _, _, ⟨_, e, _⟩ => by rw [e]; intro z; cases z
  | .dt _, _, ⟨_, e, _⟩ => by rw [e]; intro z; cases z
theorem Top.mono {K : PySem.W.Frag} {F F' H H' : Hp} (s : Same F F') : ∀ {x : D} {a : Addr}, H' a = H a → Top K F H x a → Top K F' H' x a
  | .lst _, _, q, ⟨_, e, r⟩ => ⟨_, q.trans e, RepL.mono s r⟩
  | .dk _, _, q, ⟨_, e, r⟩ => ⟨_, q.trans e, RepK.mono s r⟩
  | .dt _, _, q, ⟨_, e, r⟩ => ⟨_, q.trans e, RepT.mono s r⟩
theorem same_upd {H : Hp} {p : Addr} {o : HO} (h : H p = none) : Same H (upd H p o) := fun b x e => by
  rw [upd_ne (ne_of_none e h)]
  exact e
theorem Top.freeze {K : PySem.W.Frag} {F H : Hp} (s : Same F H) : ∀ {x : D} {a : Addr}, Top K F H x a → F a = none → ∃ o, H a = some o ∧ Rep K (upd F a o) x (.ref a)
  | .lst _, a, ⟨xs, e, r⟩, n => ⟨_, e, a, xs, rfl, upd_same, RepL.mono (same_upd n) r⟩
  | .dk _, a, ⟨xs, e, r⟩, n => ⟨_, e, a, xs, rfl, upd_same, RepK.mono (same_upd n) r⟩
  | .dt _, a, ⟨xs, e, r⟩, n => ⟨_, e, a, xs, rfl, upd_same, RepT.mono (same_upd n) r⟩
/-- a value that is read: frozen, or a thing of one's own -/
def RepH (K : PySem.W.Frag) (F H : Hp) (x : D) (v : V) : Prop := Rep K F x v ∨ ∃ a, v = .ref a ∧ Top K F H x a
theorem RepH.lst {K : PySem.W.Frag} {F H : Hp} (s : Same F H) {ds : List D} {v : V} (h : RepH K F H (.lst ds) v) : ∃ a xs, v = .ref a ∧ H a = some (.lst xs) ∧ RepL K F ds xs := by
  rcases h with ⟨a, xs, e, q, r⟩ | ⟨a, e, xs, q, r⟩
  · exact ⟨a, xs, e, s _ _ q, r⟩
  · exact ⟨a, xs, e, q, r⟩
theorem RepH.sl {K : PySem.W.Frag} {F H : Hp} (s : Same F H) {ds : List D} {v : V} (h : RepH K F H (.sl ds) v) : ∃ a xs, v = .ref a ∧ SqL K H a xs ∧ RepL K F ds xs := by
  rcases h with ⟨a, xs, e, q, r⟩ | ⟨a, e, q⟩
  · exact ⟨a, xs, e, s.seq q, r⟩
  · exact q.elim
theorem RepH.tup {K : PySem.W.Frag} {F H : Hp} (s : Same F H) {ds : List D} {v : V} (h : RepH K F H (.tup ds) v) : ∃ a xs, v = .ref a ∧ H a = some (.tup xs) ∧ RepL K F ds xs := by
  rcases h with ⟨a, xs, e, q, r⟩ | ⟨a, e, q⟩
  · exact ⟨a, xs, e, s _ _ q, r⟩
  · exact q.elim
theorem RepH.dk {K : PySem.W.Frag} {F H : Hp} (s : Same F H) {ds : List (Key × D)} {v : V} (h : RepH K F H (.dk ds) v) : ∃ a xs, v = .ref a ∧ H a = some (.dK xs) ∧ RepK K F ds xs := by
  rcases h with ⟨a, xs, e, q, r⟩ | ⟨a, e, xs, q, r⟩
  · exact ⟨a, xs, e, s _ _ q, r⟩
  · exact ⟨a, xs, e, q, r⟩
theorem RepH.dt {K : PySem.W.Frag} {F H : Hp} (s : Same F H) {ds : List (List Key × D)} {v : V} (h : RepH K F H (.dt ds) v) : ∃ a xs, v = .ref a ∧ H a = some (.dT xs) ∧ RepT K F ds xs := by
  rcases h with ⟨a, xs, e, q, r⟩ | ⟨a, e, xs, q, r⟩
  · exact ⟨a, xs, e, s _ _ q, r⟩
  · exact ⟨a, xs, e, q, r⟩
theorem RepH.int {K : PySem.W.Frag} {F H : Hp} {i : Int} {v : V} (h : RepH K F H (.int i) v) : v = .int i := by
  rcases h with h | ⟨a, e, q⟩
  · exact h
  · exact q.elim
theorem RepH.str {K : PySem.W.Frag} {F H : Hp} {i : Str} {v : V} (h : RepH K F H (.str i) v) : v = .str i := by
  rcases h with h | ⟨a, e, q⟩
  · exact h
  · exact q.elim
theorem RepH.bl {K : PySem.W.Frag} {F H : Hp} {i : Bool} {v : V} (h : RepH K F H (.bl i) v) : v = .bl i := by
  rcases h with h | ⟨a, e, q⟩
  · exact h
  · exact q.elim
theorem RepH.non {K : PySem.W.Frag} {F H : Hp} {v : V} (h : RepH K F H .non v) : v = .non := by
  rcases h with h | ⟨a, e, q⟩
  · exact h
  · exact q.elim

/-! ### the state of an activation -/
/-- an exception: its class's name, its fields -/
structure XD where
  cls : String
  fs : List (Str × D)
  deriving Inhabited
def RepF (K : PySem.W.Frag) (F : Hp) : List (Str × D) → List (Str × V) → Prop
  | [], vs => vs = []
  | (k, d) :: ds, vs => ∃ v r, vs = (k, v) :: r ∧ Rep K F d v ∧ RepF K F ds r
theorem RepF.mono {K : PySem.W.Frag} {F F' : Hp} (s : Same F F') : ∀ {ds : List (Str × D)} {vs : List (Str × V)}, RepF K F ds vs → RepF K F' ds vs
  | [], _, h => h
  | (k, d) :: ds, _, ⟨v, r, e, h1, h2⟩ => ⟨v, r, e, h1.mono s, RepF.mono s h2⟩
def XFs (K : PySem.W.Frag) (F : Hp) (d : Option Addr) (fs : List (Str × D)) : Prop := fs = [] ∨ ∃ a gs, d = some a ∧ F a = some (.xd gs) ∧ RepF K F fs gs
theorem XFs.mono {K : PySem.W.Frag} {F F' : Hp} (s : Same F F') {d : Option Addr} {fs : List (Str × D)} (h : XFs K F d fs) : XFs K F' d fs := by
  rcases h with h | ⟨a, gs, e, q, r⟩
  · exact .inl h
  · exact .inr ⟨a, gs, e, s _ _ q, r.mono s⟩
inductive Slot where
  | un | d (x : D) | ow (x : D) | io (x : D) | lk (x : D) | ro (x : D) | xc (x : XD)
  deriving Inhabited
abbrev Ev := List Slot
inductive EV where
  | d (x : D) | fr (x : D) | sl (i : Nat) | jk
  deriving Inhabited
inductive Tag where
  | slot (i : Nat) | temp (n : Nat)
  deriving DecidableEq
structure Cc where
  H0 : Hp
  F0 : Hp
  io : Nat → Option Addr
  lk : Nat → Option (Addr × D)
  xm : String → Value := fun _ => .none
  xc : Option (Addr × Value × Option Addr) := none
def Cc.isIo (c : Cc) (a : Addr) : Prop := ∃ i, c.io i = some a
abbrev Own := Addr → Option Tag
abbrev Temps := List (V × EV)
def SlotOk (K : PySem.W.Frag) (c : Cc) (σ : St) (F H : Hp) (O : Own) (i : Nat) : Slot → Prop
  | .un => True
  | .d x => ∃ v, σ[i]? = some (some v) ∧ Rep K F x v
  | .ow x => ∃ a, σ[i]? = some (some (.ref a)) ∧ O a = some (.slot i) ∧ c.H0 a = none ∧ Top K F H x a
  | .lk x => ∃ a, σ[i]? = some (some (.ref a)) ∧ O a = some (.slot i) ∧ c.H0 a = none ∧ c.lk i = some (a, x) ∧ Top K F H x a
  | .ro x => ∃ a, σ[i]? = some (some (.ref a)) ∧ ¬ c.isIo a ∧ Top K F c.H0 x a
  | .xc x => ∃ a d, σ[i]? = some (some (.ref a)) ∧ c.xc = some (a, c.xm x.cls, d) ∧ XFs K F d x.fs
  | .io x => ∃ a, σ[i]? = some (some (.ref a)) ∧ O a = some (.slot i) ∧ c.io i = some a ∧ Top K F H x a
def TempOk (K : PySem.W.Frag) (c : Cc) (σ : St) (F H : Hp) (O : Own) (n : Nat) (v : V) : EV → Prop
  | .d x => Rep K F x v
  | .fr x => ∃ a, v = .ref a ∧ O a = some (.temp n) ∧ c.H0 a = none ∧ Top K F H x a
  | .sl i => σ[i]? = some (some v)
  | .jk => True
def TempsOk (K : PySem.W.Frag) (c : Cc) (σ : St) (F H : Hp) (O : Own) : Temps → Prop
  | [] => True
  | (v, e) :: T => TempOk K c σ F H O T.length v e ∧ TempsOk K c σ F H O T
structure SI (K : PySem.W.Frag) (c : Cc) (δ : Ev) (T : Temps) (σ : St) (F H : Hp) : Prop where
  old : ∀ a, c.H0 a ≠ none → F a = c.F0 a
  f0 : Same c.F0 F
  fh : Same F H
  kp : ∀ a o, c.H0 a = some o → ¬ c.isIo a → H a = some o
  dom : ∀ a, c.H0 a ≠ none → H a ≠ none
  len : δ.length = σ.length
  ow : ∃ O : Own, (∀ a t, O a = some t → F a = none ∧ (c.H0 a = none ∨ c.isIo a)) ∧ (∀ i s, δ[i]? = some s → SlotOk K c σ F H O i s) ∧ TempsOk K c σ F H O T

/-! moves -/
/-- the frozen part grows, what is owned is kept at the places that count -/
theorem SlotOk.move {K : PySem.W.Frag} {c : Cc} {σ : St} {F F' H H' : Hp} {O O' : Own} {i : Nat} (s : Same F F')
    (k : ∀ a, O a = some (.slot i) → H a ≠ none → O' a = some (.slot i) ∧ H' a = H a) : ∀ {x : Slot}, SlotOk K c σ F H O i x → SlotOk K c σ F' H' O' i x
  | .un, _ => True.intro
  | .d x, ⟨v, e, r⟩ => ⟨v, e, r.mono s⟩
  | .ow x, ⟨a, e, o, n, t⟩ => ⟨a, e, (k a o t.ne).1, n, t.mono s (k a o t.ne).2⟩
  | .lk x, ⟨a, e, o, n, l, t⟩ => ⟨a, e, (k a o t.ne).1, n, l, t.mono s (k a o t.ne).2⟩
  | .ro x, ⟨a, e, n, t⟩ => ⟨a, e, n, t.mono s rfl⟩
  | .xc x, ⟨a, d, e, q, t⟩ => ⟨a, d, e, q, t.mono s⟩
  | .io x, ⟨a, e, o, n, t⟩ => ⟨a, e, (k a o t.ne).1, n, t.mono s (k a o t.ne).2⟩
theorem TempOk.move {K : PySem.W.Frag} {c : Cc} {σ : St} {F F' H H' : Hp} {O O' : Own} {n : Nat} {v : V} (s : Same F F')
    (k : ∀ a, O a = some (.temp n) → H a ≠ none → O' a = some (.temp n) ∧ H' a = H a) : ∀ {x : EV}, TempOk K c σ F H O n v x → TempOk K c σ F' H' O' n v x
  | .d x, r => Rep.mono s r
  | .fr x, ⟨a, e, o, n, t⟩ => ⟨a, e, (k a o t.ne).1, n, t.mono s (k a o t.ne).2⟩
  | .sl i, h => h
  | .jk, h => h
theorem TempsOk.move {K : PySem.W.Frag} {c : Cc} {σ : St} {F F' H H' : Hp} {O O' : Own} (s : Same F F') : ∀ {T : Temps},
    (∀ n a, n < T.length → O a = some (.temp n) → H a ≠ none → O' a = some (.temp n) ∧ H' a = H a) → TempsOk K c σ F H O T → TempsOk K c σ F' H' O' T
  | [], _, _ => True.intro
  | (v, e) :: T, k, ⟨h1, h2⟩ => ⟨h1.move s fun a o z => k T.length a (Nat.lt_succ_self _) o z, h2.move s fun n a l o z => k n a (Nat.lt_succ_of_lt l) o z⟩
/-- the slots' values may change too, where no temp names one -/
def noSl : Temps → Prop
  | [] => True
  | p :: T => (∀ i, p.2 ≠ .sl i) ∧ noSl T
def jkE : EV → EV
  | .sl _ => .jk
  | e => e
def junk (T : Temps) : Temps := T.map fun p => (p.1, jkE p.2)
theorem noSl_junk : ∀ T : Temps, noSl (junk T)
  | [] => True.intro
  | (_, .d _) :: T => ⟨fun _ z => EV.noConfusion z, noSl_junk T⟩
  | (_, .fr _) :: T => ⟨fun _ z => EV.noConfusion z, noSl_junk T⟩
  | (_, .sl _) :: T => ⟨fun _ z => EV.noConfusion z, noSl_junk T⟩
  | (_, .jk) :: T => ⟨fun _ z => EV.noConfusion z, noSl_junk T⟩
theorem TempOk.any {K : PySem.W.Frag} {c : Cc} {σ σ' : St} {F H : Hp} {O : Own} {n : Nat} {v : V} : ∀ {e : EV}, (∀ i, e ≠ .sl i) → TempOk K c σ F H O n v e → TempOk K c σ' F H O n v e
  | .d _, _, h => h
  | .fr _, _, h => h
  | .sl i, z, _ => absurd rfl (z i)
  | .jk, _, h => h
theorem TempsOk.any {K : PySem.W.Frag} {c : Cc} {σ σ' : St} {F H : Hp} {O : Own} : ∀ {T : Temps}, noSl T → TempsOk K c σ F H O T → TempsOk K c σ' F H O T
  | [], _, _ => True.intro
  | (_, _) :: _, n, t => ⟨t.1.any n.1, t.2.any n.2⟩
theorem junk_length (T : Temps) : (junk T).length = T.length := List.length_map ..
theorem TempsOk.junk {K : PySem.W.Frag} {c : Cc} {σ : St} {F H : Hp} {O : Own} : ∀ {T : Temps}, TempsOk K c σ F H O T → TempsOk K c σ F H O (junk T)
  | [], _ => True.intro
  | (v, e) :: T, t => ⟨by
      have t1 : TempOk K c σ F H O (VE.junk T).length v e := by rw [junk_length]; exact t.1
      cases e with
      | sl i => exact True.intro
      | d x => exact t1
      | fr x => exact t1
      | jk => exact t1, t.2.junk⟩
def slOk (σ : St) : Temps → Prop
  | [] => True
  | (v, e) :: T => (match e with | .sl i => σ[i]? = some (some v) | _ => True) ∧ slOk σ T
theorem TempsOk.sls {K : PySem.W.Frag} {c : Cc} {σ : St} {F H : Hp} {O : Own} : ∀ {T : Temps}, TempsOk K c σ F H O T → slOk σ T
  | [], _ => True.intro
  | (v, e) :: T, t => ⟨by
      cases e with
      | sl i => exact t.1
      | d x => exact True.intro
      | fr x => exact True.intro
      | jk => exact True.intro, t.2.sls⟩
theorem TempsOk.unjunk {K : PySem.W.Frag} {c : Cc} {σ σ' : St} {F H : Hp} {O : Own} : ∀ {T : Temps}, slOk σ' T → TempsOk K c σ F H O (VE.junk T) → TempsOk K c σ' F H O T
  | [], _, _ => True.intro
  | (v, e) :: T, q, t => ⟨by
      have t1 : TempOk K c σ F H O T.length v (jkE e) := by
        have z : TempOk K c σ F H O (VE.junk T).length v (jkE e) := t.1
        rw [junk_length] at z; exact z
      cases e with
      | sl i => exact q.1
      | d x => exact t1
      | fr x => exact t1
      | jk => exact t1, TempsOk.unjunk q.2 t.2⟩
section
variable {K : PySem.W.Frag} {c : Cc} {δ : Ev} {T : Temps} {σ : St} {F H : Hp}
theorem SI.drop {t : V × EV} (I : SI K c δ (t :: T) σ F H) : SI K c δ T σ F H :=
  ⟨I.old, I.f0, I.fh, I.kp, I.dom, I.len, let ⟨O, a, b, t⟩ := I.ow; ⟨O, a, b, t.2⟩⟩
theorem SI.clear (I : SI K c δ T σ F H) : SI K c δ [] σ F H :=
  ⟨I.old, I.f0, I.fh, I.kp, I.dom, I.len, let ⟨O, a, b, t⟩ := I.ow; ⟨O, a, b, True.intro⟩⟩
theorem SI.pushD {x : D} {v : V} (I : SI K c δ T σ F H) (r : Rep K F x v) : SI K c δ ((v, .d x) :: T) σ F H :=
  ⟨I.old, I.f0, I.fh, I.kp, I.dom, I.len, let ⟨O, a, b, t⟩ := I.ow; ⟨O, a, b, r, t⟩⟩
theorem SI.pushS {i : Nat} {v : V} (I : SI K c δ T σ F H) (r : σ[i]? = some (some v)) : SI K c δ ((v, .sl i) :: T) σ F H :=
  ⟨I.old, I.f0, I.fh, I.kp, I.dom, I.len, let ⟨O, a, b, t⟩ := I.ow; ⟨O, a, b, r, t⟩⟩
theorem SI.fresh {p : Addr} (I : SI K c δ T σ F H) (h : H p = none) : F p = none ∧ c.H0 p = none := by
  refine ⟨I.fh.free h, ?_⟩
  cases q : c.H0 p with
  | none => rfl
  | some o => exact absurd h (I.dom p (by rw [q]; intro z; cases z))
/-- a new thing of one's own -/
theorem SI.newM {x : D} {p : Addr} {o : HO} (I : SI K c δ T σ F H) (h : H p = none) (t : Top K F (upd H p o) x p) : SI K c δ ((.ref p, .fr x) :: T) σ F (upd H p o) := by
  obtain ⟨fp, hp⟩ := I.fresh h
  obtain ⟨O, a, b, tt⟩ := I.ow
  refine ⟨I.old, I.f0, fun q u e => by rw [upd_ne (ne_of_none e fp)]; exact I.fh _ _ e, fun q u e n => by rw [upd_ne (ne_of_none e hp)]; exact I.kp q u e n, fun q e => ?_, I.len, ?_⟩
  · by_cases hq : q = p
    · subst hq; exact absurd hp e
    · rw [upd_ne hq]; exact I.dom q e
  · refine ⟨fun q => if q = p then some (.temp T.length) else O q, fun q tg e => ?_, fun i s e => ?_, ?_, ?_⟩
    · have e : (if q = p then some (Tag.temp T.length) else O q) = some tg := e
      by_cases hq : q = p
      · subst hq; exact ⟨fp, .inl hp⟩
      · rw [if_neg hq] at e; exact a q tg e
    · refine (b i s e).move (Same.refl _) fun q oq z => ?_
      have hq : q ≠ p := fun w => by subst w; exact z h
      exact ⟨by rw [if_neg hq]; exact oq, upd_ne hq⟩
    · exact ⟨p, rfl, if_pos rfl, hp, t⟩
    · refine tt.move (Same.refl _) fun n q _ oq z => ?_
      have hq : q ≠ p := fun w => by subst w; exact z h
      exact ⟨by rw [if_neg hq]; exact oq, upd_ne hq⟩
/-- a new thing that is frozen at once -/
theorem SI.newF {x : D} {p : Addr} {o : HO} (I : SI K c δ T σ F H) (h : H p = none) (t : Rep K (upd F p o) x (.ref p)) : SI K c δ ((.ref p, .d x) :: T) σ (upd F p o) (upd H p o) := by
  obtain ⟨fp, hp⟩ := I.fresh h
  obtain ⟨O, a, b, tt⟩ := I.ow
  have sF : Same F (upd F p o) := same_upd fp
  have keep : ∀ q tg, O q = some tg → H q ≠ none → (if q = p then none else O q) = some tg ∧ (upd H p o) q = H q := fun q tg oq z => by
    have hq : q ≠ p := fun w => by subst w; exact z h
    exact ⟨by rw [if_neg hq]; exact oq, upd_ne hq⟩
  refine ⟨fun q e => ?_, I.f0.trans sF, fun q u e => ?_, fun q u e n => by rw [upd_ne (ne_of_none e hp)]; exact I.kp q u e n, fun q e => ?_, I.len, ?_⟩
  · have hq : q ≠ p := fun w => by subst w; exact e hp
    rw [upd_ne hq]; exact I.old q e
  · by_cases hq : q = p
    · subst hq; rw [upd_same] at e ⊢; exact e
    · rw [upd_ne hq] at e ⊢; exact I.fh _ _ e
  · by_cases hq : q = p
    · subst hq; exact absurd hp e
    · rw [upd_ne hq]; exact I.dom q e
  · refine ⟨fun q => if q = p then none else O q, fun q tg e => ?_, fun i s e => (b i s e).move sF fun q oq z => keep q _ oq z, t, tt.move sF fun n q _ oq z => keep q _ oq z⟩
    have e : (if q = p then none else O q) = some tg := e
    by_cases hq : q = p
    · rw [if_pos hq] at e; cases e
    · rw [if_neg hq] at e
      exact ⟨by rw [upd_ne hq]; exact (a q tg e).1, (a q tg e).2⟩
/-- a new object of any kind, frozen at once -/
theorem SI.newX {p : Addr} {o : HO} (I : SI K c δ T σ F H) (h : H p = none) : SI K c δ T σ (upd F p o) (upd H p o) := by
  obtain ⟨fp, hp⟩ := I.fresh h
  obtain ⟨O, a, b, tt⟩ := I.ow
  have sF : Same F (upd F p o) := same_upd fp
  have keep : ∀ q tg, O q = some tg → H q ≠ none → (if q = p then none else O q) = some tg ∧ (upd H p o) q = H q := fun q tg oq z => by
    have hq : q ≠ p := fun w => by subst w; exact z h
    exact ⟨by rw [if_neg hq]; exact oq, upd_ne hq⟩
  refine ⟨fun q e => ?_, I.f0.trans sF, fun q u e => ?_, fun q u e n => by rw [upd_ne (ne_of_none e hp)]; exact I.kp q u e n, fun q e => ?_, I.len, ?_⟩
  · have hq : q ≠ p := fun w => by subst w; exact e hp
    rw [upd_ne hq]; exact I.old q e
  · by_cases hq : q = p
    · subst hq; rw [upd_same] at e ⊢; exact e
    · rw [upd_ne hq] at e ⊢; exact I.fh _ _ e
  · by_cases hq : q = p
    · subst hq; exact absurd hp e
    · rw [upd_ne hq]; exact I.dom q e
  · refine ⟨fun q => if q = p then none else O q, fun q tg e => ?_, fun i s e => (b i s e).move sF fun q oq z => keep q _ oq z, tt.move sF fun n q _ oq z => keep q _ oq z⟩
    have e : (if q = p then none else O q) = some tg := e
    by_cases hq : q = p
    · rw [if_pos hq] at e; cases e
    · rw [if_neg hq] at e
      exact ⟨by rw [upd_ne hq]; exact (a q tg e).1, (a q tg e).2⟩
/-- the uppermost temp is frozen -/
theorem SI.freezeT {x : D} {v : V} (I : SI K c δ ((v, .fr x) :: T) σ F H) : ∃ F', Same F F' ∧ SI K c δ ((v, .d x) :: T) σ F' H := by
  obtain ⟨O, a, b, ⟨p, ev, op, hp, t⟩, tt⟩ := I.ow
  subst ev
  obtain ⟨fp, _⟩ := a p _ op
  obtain ⟨o, ho, r⟩ := t.freeze I.fh fp
  have sF : Same F (upd F p o) := same_upd fp
  refine ⟨upd F p o, sF, fun q e => ?_, I.f0.trans sF, fun q u e => ?_, I.kp, I.dom, I.len, ?_⟩
  · have hq : q ≠ p := fun w => by subst w; exact e hp
    rw [upd_ne hq]; exact I.old q e
  · by_cases hq : q = p
    · subst hq; rw [upd_same] at e; cases e; exact ho
    · rw [upd_ne hq] at e; exact I.fh _ _ e
  · have keep : ∀ q tg, tg ≠ .temp T.length → O q = some tg → H q ≠ none → (if q = p then none else O q) = some tg ∧ H q = H q := fun q tg n oq z => by
      have hq : q ≠ p := fun w => by subst w; rw [op] at oq; exact n (Option.some.inj oq).symm
      exact ⟨by rw [if_neg hq]; exact oq, rfl⟩
    refine ⟨fun q => if q = p then none else O q, fun q tg e => ?_, fun i s e => (b i s e).move sF fun q oq z => keep q (.slot i) (fun w => Tag.noConfusion w) oq z, r, tt.move sF fun n q hn oq z => keep q (.temp n) (fun w => Nat.ne_of_lt hn (Tag.temp.inj w)) oq z⟩
    have e : (if q = p then none else O q) = some tg := e
    by_cases hq : q = p
    · rw [if_pos hq] at e; cases e
    · rw [if_neg hq] at e
      exact ⟨by rw [upd_ne hq]; exact (a q tg e).1, (a q tg e).2⟩
/-- a slot's own thing is frozen -/
theorem SI.freezeS {x : D} {i : Nat} (I : SI K c δ T σ F H) (hi : δ[i]? = some (.ow x)) : ∃ F', Same F F' ∧ SI K c (δ.set i (.d x)) T σ F' H := by
  obtain ⟨O, a, b, tt⟩ := I.ow
  obtain ⟨p, sp, op, hp, t⟩ := b i _ hi
  obtain ⟨fp, _⟩ := a p _ op
  obtain ⟨o, ho, r⟩ := t.freeze I.fh fp
  have sF : Same F (upd F p o) := same_upd fp
  refine ⟨upd F p o, sF, fun q e => ?_, I.f0.trans sF, fun q u e => ?_, I.kp, I.dom, by rw [List.length_set]; exact I.len, ?_⟩
  · have hq : q ≠ p := fun w => by subst w; exact e hp
    rw [upd_ne hq]; exact I.old q e
  · by_cases hq : q = p
    · subst hq; rw [upd_same] at e; cases e; exact ho
    · rw [upd_ne hq] at e; exact I.fh _ _ e
  · have keep : ∀ q tg, tg ≠ .slot i → O q = some tg → H q ≠ none → (if q = p then none else O q) = some tg ∧ H q = H q := fun q tg n oq z => by
      have hq : q ≠ p := fun w => by subst w; rw [op] at oq; exact n (Option.some.inj oq).symm
      exact ⟨by rw [if_neg hq]; exact oq, rfl⟩
    refine ⟨fun q => if q = p then none else O q, fun q tg e => ?_, fun j s e => ?_, tt.move sF fun n q hn oq z => keep q _ (fun w => nomatch w) oq z⟩
    · have e : (if q = p then none else O q) = some tg := e
      by_cases hq : q = p
      · rw [if_pos hq] at e; cases e
      · rw [if_neg hq] at e
        exact ⟨by rw [upd_ne hq]; exact (a q tg e).1, (a q tg e).2⟩
    · by_cases hj : i = j
      · subst hj
        rw [List.getElem?_set_self (by have := (List.getElem?_eq_some_iff.mp hi).1; exact this)] at e
        cases e
        exact ⟨_, sp, r⟩
      · rw [List.getElem?_set_ne hj] at e
        exact (b j s e).move sF fun q oq z => keep q _ (fun w => by injection w with w; exact hj w.symm) oq z
/-- the address of a slot's own thing -/
theorem SI.at_ow {x : D} {i : Nat} (I : SI K c δ T σ F H) (hi : δ[i]? = some (.ow x)) : ∃ a, σ[i]? = some (some (.ref a)) ∧ Top K F H x a := by
  obtain ⟨O, a, b, tt⟩ := I.ow
  obtain ⟨p, sp, op, hp, t⟩ := b i _ hi
  exact ⟨p, sp, t⟩
theorem SI.at_io {x : D} {i : Nat} (I : SI K c δ T σ F H) (hi : δ[i]? = some (.io x)) : ∃ a, σ[i]? = some (some (.ref a)) ∧ Top K F H x a := by
  obtain ⟨O, a, b, tt⟩ := I.ow
  obtain ⟨p, sp, op, hp, t⟩ := b i _ hi
  exact ⟨p, sp, t⟩
/-- a slot's own thing is changed -/
theorem SI.mut {x y : D} {i : Nat} {a : Addr} {o : HO} (I : SI K c δ T σ F H) (hi : δ[i]? = some (.ow x)) (ha : σ[i]? = some (some (.ref a))) (t : Top K F (upd H a o) y a) : SI K c (δ.set i (.ow y)) T σ F (upd H a o) := by
  obtain ⟨O, oo, b, tt⟩ := I.ow
  obtain ⟨p, sp, op, hp, t0⟩ := b i _ hi
  rw [ha] at sp
  cases sp
  obtain ⟨fp, _⟩ := oo a _ op
  have keep : ∀ q tg, tg ≠ .slot i → O q = some tg → H q ≠ none → O q = some tg ∧ (upd H a o) q = H q := fun q tg n oq z => by
    have hq : q ≠ a := fun w => by subst w; rw [op] at oq; exact n (Option.some.inj oq).symm
    exact ⟨oq, upd_ne hq⟩
  refine ⟨I.old, I.f0, fun q u e => by rw [upd_ne (ne_of_none e fp)]; exact I.fh _ _ e, fun q u e n => by rw [upd_ne (ne_of_none e hp)]; exact I.kp q u e n, fun q e => ?_, by rw [List.length_set]; exact I.len, O, oo, fun j s e => ?_, tt.move (Same.refl _) fun n q hn oq z => keep q _ (fun w => nomatch w) oq z⟩
  · by_cases hq : q = a
    · subst hq; rw [upd_same]; intro z; cases z
    · rw [upd_ne hq]; exact I.dom q e
  · by_cases hj : i = j
    · subst hj
      rw [List.getElem?_set_self (by have := (List.getElem?_eq_some_iff.mp hi).1; exact this)] at e
      cases e
      exact ⟨a, ha, op, hp, t⟩
    · rw [List.getElem?_set_ne hj] at e
      exact (b j s e).move (Same.refl _) fun q oq z => keep q _ (fun w => by injection w with w; exact hj w.symm) oq z
theorem SI.mutIo {x y : D} {i : Nat} {a : Addr} {o : HO} (I : SI K c δ T σ F H) (hi : δ[i]? = some (.io x)) (ha : σ[i]? = some (some (.ref a))) (t : Top K F (upd H a o) y a) : SI K c (δ.set i (.io y)) T σ F (upd H a o) := by
  obtain ⟨O, oo, b, tt⟩ := I.ow
  obtain ⟨p, sp, op, hp, t0⟩ := b i _ hi
  rw [ha] at sp
  cases sp
  obtain ⟨fp, _⟩ := oo a _ op
  have keep : ∀ q tg, tg ≠ .slot i → O q = some tg → H q ≠ none → O q = some tg ∧ (upd H a o) q = H q := fun q tg n oq z => by
    have hq : q ≠ a := fun w => by subst w; rw [op] at oq; exact n (Option.some.inj oq).symm
    exact ⟨oq, upd_ne hq⟩
  refine ⟨I.old, I.f0, fun q u e => by rw [upd_ne (ne_of_none e fp)]; exact I.fh _ _ e, fun q u e n => ?_, fun q e => ?_, by rw [List.length_set]; exact I.len, O, oo, fun j s e => ?_, tt.move (Same.refl _) fun n q hn oq z => keep q _ (fun w => nomatch w) oq z⟩
  · have hq : q ≠ a := fun w => by subst w; exact n ⟨i, hp⟩
    rw [upd_ne hq]; exact I.kp q u e n
  · by_cases hq : q = a
    · subst hq; rw [upd_same]; intro z; cases z
    · rw [upd_ne hq]; exact I.dom q e
  · by_cases hj : i = j
    · subst hj
      rw [List.getElem?_set_self (by have := (List.getElem?_eq_some_iff.mp hi).1; exact this)] at e
      cases e
      exact ⟨a, ha, op, hp, t⟩
    · rw [List.getElem?_set_ne hj] at e
      exact (b j s e).move (Same.refl _) fun q oq z => keep q _ (fun w => by injection w with w; exact hj w.symm) oq z
end
end L2.VE

namespace L2.VE
open PySem PySem.Spec PyProof.Rows
section
variable {K : PySem.W.Frag} {c : Cc} {δ : Ev} {T : Temps} {σ : St} {F H F' H' : Hp}
/-! more moves -/
theorem get_set {α : Type} {l : List α} {i j : Nat} {x y : α} (h : (l.set i x)[j]? = some y) : (i = j ∧ y = x ∧ i < l.length) ∨ (i ≠ j ∧ l[j]? = some y) := by
  by_cases e : i = j
  · subst e
    by_cases hl : i < l.length
    · rw [List.getElem?_set_self hl] at h; cases h; exact .inl ⟨rfl, rfl, hl⟩
    · rw [List.getElem?_eq_none (by rw [List.length_set]; omega)] at h; cases h
  · rw [List.getElem?_set_ne e] at h; exact .inr ⟨e, h⟩
theorem SlotOk.sig {O : Own} {σ' : St} {i : Nat} (e : σ'[i]? = σ[i]?) : ∀ {x : Slot}, SlotOk K c σ F H O i x → SlotOk K c σ' F H O i x
  | .un, _ => True.intro
  | .d x, ⟨v, q, r⟩ => ⟨v, e.trans q, r⟩
  | .ow x, ⟨a, q, r⟩ => ⟨a, e.trans q, r⟩
  | .lk x, ⟨a, q, r⟩ => ⟨a, e.trans q, r⟩
  | .ro x, ⟨a, q, r⟩ => ⟨a, e.trans q, r⟩
  | .xc x, ⟨a, d, q, r⟩ => ⟨a, d, e.trans q, r⟩
  | .io x, ⟨a, q, r⟩ => ⟨a, e.trans q, r⟩
/-- data is stored -/
theorem SI.setD {x : D} {v : V} {i : Nat} (n : noSl T) (I : SI K c δ T σ F H) (r : Rep K F x v) : SI K c (δ.set i (.d x)) T (σ.set i (some v)) F H := by
  obtain ⟨O, a, b, tt⟩ := I.ow
  refine ⟨I.old, I.f0, I.fh, I.kp, I.dom, by rw [List.length_set, List.length_set]; exact I.len, O, a, fun j s e => ?_, tt.any n⟩
  rcases get_set e with ⟨e1, e2, e3⟩ | ⟨e1, e2⟩
  · subst e1; subst e2
    exact ⟨v, List.getElem?_set_self (by rw [← I.len]; exact e3), r⟩
  · exact (b j s e2).sig (List.getElem?_set_ne e1)
/-- the uppermost temp, a thing of one's own, is stored -/
theorem SI.setOw {x : D} {v : V} {i : Nat} (n : noSl T) (I : SI K c δ ((v, .fr x) :: T) σ F H) : SI K c (δ.set i (.ow x)) T (σ.set i (some v)) F H := by
  obtain ⟨O, a, b, ⟨p, ev, op, hp, t⟩, tt⟩ := I.ow
  subst ev
  have keep : ∀ (q : Addr) (tg : Tag), tg ≠ .temp T.length → O q = some tg → H q ≠ none → (if q = p then some (Tag.slot i) else O q) = some tg ∧ H q = H q := fun q tg n oq z => by
    have hq : q ≠ p := fun w => by subst w; rw [op] at oq; exact n (Option.some.inj oq).symm
    exact ⟨by rw [if_neg hq]; exact oq, rfl⟩
  have t2 := tt.any (σ' := σ.set i (some (.ref p))) n
  refine ⟨I.old, I.f0, I.fh, I.kp, I.dom, by rw [List.length_set, List.length_set]; exact I.len, fun q => if q = p then some (.slot i) else O q, fun q tg e => ?_, fun j s e => ?_, t2.move (Same.refl _) fun n q hn oq z => keep q (.temp n) (fun w => Nat.ne_of_lt hn (Tag.temp.inj w)) oq z⟩
  · have e : (if q = p then some (Tag.slot i) else O q) = some tg := e
    by_cases hq : q = p
    · subst hq; exact a q _ op
    · rw [if_neg hq] at e; exact a q tg e
  · rcases get_set e with ⟨e1, e2, e3⟩ | ⟨e1, e2⟩
    · subst e1; subst e2
      exact ⟨p, List.getElem?_set_self (by rw [← I.len]; exact e3), if_pos rfl, hp, t⟩
    · exact ((b j s e2).sig (List.getElem?_set_ne e1)).move (Same.refl _) fun q oq z => keep q (.slot j) (fun w => Tag.noConfusion w) oq z
/-- a slot is forgotten -/
theorem SI.forget {i : Nat} {o : Option V} (n : noSl T) (I : SI K c δ T σ F H) : SI K c (δ.set i .un) T (σ.set i o) F H := by
  obtain ⟨O, a, b, tt⟩ := I.ow
  refine ⟨I.old, I.f0, I.fh, I.kp, I.dom, by rw [List.length_set, List.length_set]; exact I.len, O, a, fun j s e => ?_, tt.any n⟩
  rcases get_set e with ⟨e1, e2, e3⟩ | ⟨e1, e2⟩
  · subst e1; subst e2; exact True.intro
  · exact (b j s e2).sig (List.getElem?_set_ne e1)
theorem SI.un {i : Nat} (I : SI K c δ T σ F H) : SI K c (δ.set i .un) T σ F H := by
  obtain ⟨O, a, b, tt⟩ := I.ow
  refine ⟨I.old, I.f0, I.fh, I.kp, I.dom, by rw [List.length_set]; exact I.len, O, a, fun j s e => ?_, tt⟩
  rcases get_set e with ⟨e1, e2, e3⟩ | ⟨e1, e2⟩
  · subst e1; subst e2; exact True.intro
  · exact b j s e2
/-! ### reading -/
def slotD : Option Slot → Option D
  | some (.d x) => some x
  | some (.ow x) => some x
  | some (.io x) => some x
  | some (.lk x) => some x
  | some (.ro x) => some x
  | _ => none
def evD (δ : Ev) : EV → Option D
  | .d x => some x
  | .fr x => some x
  | .sl i => slotD δ[i]?
  | .jk => none
/-- what may only be read stands still -/
theorem SI.roTop {x : D} {a : Addr} (I : SI K c δ T σ F H) (n : ¬ c.isIo a) (t : Top K F c.H0 x a) : Top K F H x a := by
  refine t.mono (Same.refl _) ?_
  cases q : c.H0 a with
  | none => exact absurd q t.ne
  | some o => exact I.kp a o q n
theorem SI.view {e : EV} {v : V} {x : D} (I : SI K c δ ((v, e) :: T) σ F H) (h : evD δ e = some x) : RepH K F H x v := by
  obtain ⟨O, a, b, t, tt⟩ := I.ow
  cases e with
  | d y => cases h; exact .inl t
  | fr y => cases h; obtain ⟨p, e1, _, _, tp⟩ := t; exact .inr ⟨p, e1, tp⟩
  | jk => cases h
  | sl i =>
    have t : σ[i]? = some (some v) := t
    have h : slotD δ[i]? = some x := h
    cases q : δ[i]? with
    | none => rw [q] at h; cases h
    | some s =>
      rw [q] at h
      have so := b i s q
      cases s with
      | un => cases h
      | d y => cases h; obtain ⟨w, e1, r⟩ := so; rw [t] at e1; cases e1; exact .inl r
      | ow y => cases h; obtain ⟨w, e1, _, _, r⟩ := so; rw [t] at e1; cases e1; exact .inr ⟨w, rfl, r⟩
      | io y => cases h; obtain ⟨w, e1, _, _, r⟩ := so; rw [t] at e1; cases e1; exact .inr ⟨w, rfl, r⟩
      | lk y => cases h; obtain ⟨w, e1, _, _, _, r⟩ := so; rw [t] at e1; cases e1; exact .inr ⟨w, rfl, r⟩
      | xc y => cases h
      | ro y => cases h; obtain ⟨w, e1, n, r⟩ := so; rw [t] at e1; cases e1; exact .inr ⟨w, rfl, I.roTop n r⟩
/-- what an operation may bring -/
inductive Step (K : PySem.W.Frag) (F H : Hp) : Hp → Hp → V → EV → Prop where
  | old {x : D} {v : V} : Rep K F x v → Step K F H F H v (.d x)
  | newM {x : D} {p : Addr} {o : HO} : H p = none → Top K F (upd H p o) x p → Step K F H F (upd H p o) (.ref p) (.fr x)
  | newF {x : D} {p : Addr} {o : HO} : H p = none → Rep K (upd F p o) x (.ref p) → Step K F H (upd F p o) (upd H p o) (.ref p) (.d x)
theorem SI.step {v : V} {e : EV} (I : SI K c δ T σ F H) (s : Step K F H F' H' v e) : SI K c δ ((v, e) :: T) σ F' H' := by
  cases s with
  | old r => exact I.pushD r
  | newM n t => exact I.newM n t
  | newF n t => exact I.newF n t
def RepHL (K : PySem.W.Frag) (F H : Hp) : List D → List V → Prop
  | [], vs => vs = []
  | x :: xs, vs => ∃ v r, vs = v :: r ∧ RepH K F H x v ∧ RepHL K F H xs r
def pushL : List V → List EV → Temps → Temps
  | v :: vs, e :: es, T => pushL vs es ((v, e) :: T)
  | _, _, T => T
theorem SI.dropL : ∀ {vs : List V} {es : List EV} {T : Temps}, SI K c δ (pushL vs es T) σ F H → SI K c δ T σ F H
  | [], _, _, I => I
  | _ :: _, [], _, I => I
  | v :: vs, e :: es, T, I => (SI.dropL (vs := vs) (es := es) (T := (v, e) :: T) I).drop
def evDs (δ : Ev) : List EV → Option (List D)
  | [] => some []
  | e :: es => match evD δ e with
    | some x => match evDs δ es with
      | some xs => some (x :: xs)
      | none => none
    | none => none
theorem SI.views : ∀ {es : List EV} {vs : List V} {xs : List D} {T : Temps}, SI K c δ (pushL vs es T) σ F H → vs.length = es.length → evDs δ es = some xs → RepHL K F H xs vs
  | [], [], xs, _, _, _, h => by cases h; exact rfl
  | [], _ :: _, _, _, _, l, _ => by cases l
  | _ :: _, [], _, _, _, l, _ => by cases l
  | e :: es, v :: vs, xs, T, I, l, h => by
    unfold evDs at h
    cases q : evD δ e with
    | none => rw [q] at h; cases h
    | some x =>
      rw [q] at h
      cases q2 : evDs δ es with
      | none => rw [q2] at h; cases h
      | some ys =>
        rw [q2] at h
        cases h
        have I' : SI K c δ (pushL vs es ((v, e) :: T)) σ F H := I
        exact ⟨v, vs, rfl, I'.dropL.view q, SI.views I' (Nat.succ.inj l) q2⟩
end
/-! ### evaluators -/
inductive ER where
  | ok (e : EV) (δ : Ev) | ex (x : XD) (δ : Ev) | no
inductive BR where
  | ok (b : Bool) (δ : Ev) | ex (x : XD) (δ : Ev) | no
inductive AR where
  | ok (es : List EV) (δ : Ev) | ex (x : XD) (δ : Ev) | no
inductive SR where
  | nx (δ : Ev) | rt (e : EV) (δ : Ev) | bk (δ : Ev) | ct (δ : Ev) | ex (x : XD) (δ : Ev) | no
def ER.bind : ER → (EV → Ev → ER) → ER
  | .ok e δ, k => k e δ
  | .ex x δ, _ => .ex x δ
  | .no, _ => .no
def ER.bindB : ER → (EV → Ev → BR) → BR
  | .ok e δ, k => k e δ
  | .ex x δ, _ => .ex x δ
  | .no, _ => .no
def ER.bindA : ER → (EV → Ev → AR) → AR
  | .ok e δ, k => k e δ
  | .ex x δ, _ => .ex x δ
  | .no, _ => .no
def ER.bindS : ER → (EV → Ev → SR) → SR
  | .ok e δ, k => k e δ
  | .ex x δ, _ => .ex x δ
  | .no, _ => .no
def BR.bind : BR → (Bool → Ev → BR) → BR
  | .ok b δ, k => k b δ
  | .ex x δ, _ => .ex x δ
  | .no, _ => .no
def BR.bindE : BR → (Bool → Ev → ER) → ER
  | .ok b δ, k => k b δ
  | .ex x δ, _ => .ex x δ
  | .no, _ => .no
def BR.bindS : BR → (Bool → Ev → SR) → SR
  | .ok b δ, k => k b δ
  | .ex x δ, _ => .ex x δ
  | .no, _ => .no
def AR.bind : AR → (List EV → Ev → AR) → AR
  | .ok b δ, k => k b δ
  | .ex x δ, _ => .ex x δ
  | .no, _ => .no
def AR.bindE : AR → (List EV → Ev → ER) → ER
  | .ok b δ, k => k b δ
  | .ex x δ, _ => .ex x δ
  | .no, _ => .no
def AR.bindS : AR → (List EV → Ev → SR) → SR
  | .ok b δ, k => k b δ
  | .ex x δ, _ => .ex x δ
  | .no, _ => .no
/-! what they say of the machine -/
structure Cm where
  m : String → Value
  x : Option (Addr × Value × Option Addr) := none
/-- the frame knows the classes' names, and the exception that a suite holds -/
def Cc.at (c : Cc) (cm : Cm) : Cc := { c with xm := cm.m, xc := cm.x }
def XOk (K : PySem.W.Frag) (cm : Cm) (c : Cc) (W : WX) (σ : St) (δ : Ev) (x : XD) : Prop :=
  ∀ d F' H', SI K c δ [] σ F' H' → XFs K F' d x.fs → W (cm.m x.cls) d σ H'
def GE (K : PySem.W.Frag) (cm : Cm) (c : Cc) (W : WX) (T : Temps) (σ : St) (Q : VK) : ER → Prop
  | .ok e δ => ∀ v F' H', SI K c δ ((v, e) :: T) σ F' H' → Q v H'
  | .ex x δ => XOk K cm c W σ δ x
  | .no => False
def GT (K : PySem.W.Frag) (cm : Cm) (c : Cc) (W : WX) (T : Temps) (σ : St) (Q : Bool → Hp → Prop) : BR → Prop
  | .ok b δ => ∀ F' H', SI K c δ T σ F' H' → Q b H'
  | .ex x δ => XOk K cm c W σ δ x
  | .no => False
def GA (K : PySem.W.Frag) (cm : Cm) (c : Cc) (W : WX) (T : Temps) (σ : St) (Q : List V → Hp → Prop) : AR → Prop
  | .ok es δ => ∀ vs F' H', vs.length = es.length → SI K c δ (pushL vs es T) σ F' H' → Q vs H'
  | .ex x δ => XOk K cm c W σ δ x
  | .no => False
def GS (K : PySem.W.Frag) (cm : Cm) (c : Cc) (W : WX) (D : Ends) : SR → Prop
  | .nx δ => ∀ σ' F' H', SI K c δ [] σ' F' H' → D.nx σ' H'
  | .rt e δ => ∀ v σ' F' H', SI K c δ [(v, e)] σ' F' H' → D.rt v H'
  | .bk δ => ∀ σ' F' H', SI K c δ [] σ' F' H' → D.bk σ' H'
  | .ct δ => ∀ σ' F' H', SI K c δ [] σ' F' H' → D.ct σ' H'
  | .ex x δ => ∀ σ', XOk K cm c W σ' δ x
  | .no => False
def tE (K : PySem.W.Frag) (cm : Cm) (W : WX) (f : Ev → ER) : TE := fun σ H Q => ∃ (c : Cc) (δ : Ev) (T : Temps) (F : Hp), SI K (c.at cm) δ T σ F H ∧ GE K cm (c.at cm) W T σ Q (f δ)
def tT (K : PySem.W.Frag) (cm : Cm) (W : WX) (f : Ev → BR) : TT := fun σ H Q => ∃ (c : Cc) (δ : Ev) (T : Temps) (F : Hp), SI K (c.at cm) δ T σ F H ∧ GT K cm (c.at cm) W T σ Q (f δ)
def tA (K : PySem.W.Frag) (cm : Cm) (W : WX) (f : Ev → AR) : TA := fun σ H Q => ∃ (c : Cc) (δ : Ev) (T : Temps) (F : Hp), SI K (c.at cm) δ T σ F H ∧ GA K cm (c.at cm) W T σ Q (f δ)
def tS (K : PySem.W.Frag) (cm : Cm) (W : WX) (f : Ev → SR) : TS := fun D σ H => ∃ (c : Cc) (δ : Ev) (F : Hp), SI K (c.at cm) δ [] σ F H ∧ GS K cm (c.at cm) W D (f δ)
section
variable {K : PySem.W.Frag} {cm : Cm} {c : Cc} {W : WX} {δ : Ev} {T T' : Temps} {σ : St} {F H : Hp}
/-- go on behind an expression -/
theorem goE {f : Ev → ER} {k : EV → Ev → ER} {Q Q0 : VK} (I : SI K (c.at cm) δ T' σ F H) (h : GE K cm (c.at cm) W T σ Q0 ((f δ).bind k))
    (n : ∀ e δ1, GE K cm (c.at cm) W T σ Q0 (k e δ1) → ∀ v F' H', SI K (c.at cm) δ1 ((v, e) :: T') σ F' H' → Q v H') : tE K cm W f σ H Q := by
  refine ⟨c, δ, T', F, I, ?_⟩
  cases e : f δ with
  | ok e1 δ1 => rw [e] at h; exact n e1 δ1 h
  | ex x δ1 => rw [e] at h; exact h
  | no => rw [e] at h; exact h
theorem goEB {f : Ev → ER} {k : EV → Ev → BR} {Q : VK} {Q0 : Bool → Hp → Prop} (I : SI K (c.at cm) δ T' σ F H) (h : GT K cm (c.at cm) W T σ Q0 ((f δ).bindB k))
    (n : ∀ e δ1, GT K cm (c.at cm) W T σ Q0 (k e δ1) → ∀ v F' H', SI K (c.at cm) δ1 ((v, e) :: T') σ F' H' → Q v H') : tE K cm W f σ H Q := by
  refine ⟨c, δ, T', F, I, ?_⟩
  cases e : f δ with
  | ok e1 δ1 => rw [e] at h; exact n e1 δ1 h
  | ex x δ1 => rw [e] at h; exact h
  | no => rw [e] at h; exact h
theorem goEA {f : Ev → ER} {k : EV → Ev → AR} {Q : VK} {Q0 : List V → Hp → Prop} (I : SI K (c.at cm) δ T' σ F H) (h : GA K cm (c.at cm) W T σ Q0 ((f δ).bindA k))
    (n : ∀ e δ1, GA K cm (c.at cm) W T σ Q0 (k e δ1) → ∀ v F' H', SI K (c.at cm) δ1 ((v, e) :: T') σ F' H' → Q v H') : tE K cm W f σ H Q := by
  refine ⟨c, δ, T', F, I, ?_⟩
  cases e : f δ with
  | ok e1 δ1 => rw [e] at h; exact n e1 δ1 h
  | ex x δ1 => rw [e] at h; exact h
  | no => rw [e] at h; exact h
theorem goES {D : Ends} {f : Ev → ER} {k : EV → Ev → SR} {Q : VK} (I : SI K (c.at cm) δ T' σ F H) (h : GS K cm (c.at cm) W D ((f δ).bindS k))
    (n : ∀ e δ1, GS K cm (c.at cm) W D (k e δ1) → ∀ v F' H', SI K (c.at cm) δ1 ((v, e) :: T') σ F' H' → Q v H') : tE K cm W f σ H Q := by
  refine ⟨c, δ, T', F, I, ?_⟩
  cases e : f δ with
  | ok e1 δ1 => rw [e] at h; exact n e1 δ1 h
  | ex x δ1 => rw [e] at h; exact h σ
  | no => rw [e] at h; exact h
theorem goB {f : Ev → BR} {k : Bool → Ev → BR} {Q Q0 : Bool → Hp → Prop} (I : SI K (c.at cm) δ T' σ F H) (h : GT K cm (c.at cm) W T σ Q0 ((f δ).bind k))
    (n : ∀ e δ1, GT K cm (c.at cm) W T σ Q0 (k e δ1) → ∀ F' H', SI K (c.at cm) δ1 T' σ F' H' → Q e H') : tT K cm W f σ H Q := by
  refine ⟨c, δ, T', F, I, ?_⟩
  cases e : f δ with
  | ok e1 δ1 => rw [e] at h; exact n e1 δ1 h
  | ex x δ1 => rw [e] at h; exact h
  | no => rw [e] at h; exact h
theorem goBE {f : Ev → BR} {k : Bool → Ev → ER} {Q : Bool → Hp → Prop} {Q0 : VK} (I : SI K (c.at cm) δ T' σ F H) (h : GE K cm (c.at cm) W T σ Q0 ((f δ).bindE k))
    (n : ∀ e δ1, GE K cm (c.at cm) W T σ Q0 (k e δ1) → ∀ F' H', SI K (c.at cm) δ1 T' σ F' H' → Q e H') : tT K cm W f σ H Q := by
  refine ⟨c, δ, T', F, I, ?_⟩
  cases e : f δ with
  | ok e1 δ1 => rw [e] at h; exact n e1 δ1 h
  | ex x δ1 => rw [e] at h; exact h
  | no => rw [e] at h; exact h
theorem goBS {D : Ends} {f : Ev → BR} {k : Bool → Ev → SR} {Q : Bool → Hp → Prop} (I : SI K (c.at cm) δ T' σ F H) (h : GS K cm (c.at cm) W D ((f δ).bindS k))
    (n : ∀ e δ1, GS K cm (c.at cm) W D (k e δ1) → ∀ F' H', SI K (c.at cm) δ1 T' σ F' H' → Q e H') : tT K cm W f σ H Q := by
  refine ⟨c, δ, T', F, I, ?_⟩
  cases e : f δ with
  | ok e1 δ1 => rw [e] at h; exact n e1 δ1 h
  | ex x δ1 => rw [e] at h; exact h σ
  | no => rw [e] at h; exact h
theorem goAA {f : Ev → AR} {k : List EV → Ev → AR} {Q Q0 : List V → Hp → Prop} (I : SI K (c.at cm) δ T' σ F H) (h : GA K cm (c.at cm) W T σ Q0 ((f δ).bind k))
    (n : ∀ es δ1, GA K cm (c.at cm) W T σ Q0 (k es δ1) → ∀ vs F' H', vs.length = es.length → SI K (c.at cm) δ1 (pushL vs es T') σ F' H' → Q vs H') : tA K cm W f σ H Q := by
  refine ⟨c, δ, T', F, I, ?_⟩
  cases e : f δ with
  | ok e1 δ1 => rw [e] at h; exact n e1 δ1 h
  | ex x δ1 => rw [e] at h; exact h
  | no => rw [e] at h; exact h
theorem goAE {f : Ev → AR} {k : List EV → Ev → ER} {Q : List V → Hp → Prop} {Q0 : VK} (I : SI K (c.at cm) δ T' σ F H) (h : GE K cm (c.at cm) W T σ Q0 ((f δ).bindE k))
    (n : ∀ es δ1, GE K cm (c.at cm) W T σ Q0 (k es δ1) → ∀ vs F' H', vs.length = es.length → SI K (c.at cm) δ1 (pushL vs es T') σ F' H' → Q vs H') : tA K cm W f σ H Q := by
  refine ⟨c, δ, T', F, I, ?_⟩
  cases e : f δ with
  | ok e1 δ1 => rw [e] at h; exact n e1 δ1 h
  | ex x δ1 => rw [e] at h; exact h
  | no => rw [e] at h; exact h
end
/-! weaker readings -/
theorem PE.imp {X : Cx} {e : Expr} {t t' : TE} (h : PE X e t) (w : ∀ σ H Q, t' σ H Q → t σ H Q) : PE X e t' := ⟨fun pins s σ H Q I q => h.run pins s σ H Q I (w σ H Q q)⟩
theorem PT.imp {X : Cx} {e : Expr} {t t' : TT} (h : PT X e t) (w : ∀ σ H Q, t' σ H Q → t σ H Q) : PT X e t' := ⟨fun pins s σ H Q I q => h.run pins s σ H Q I (w σ H Q q)⟩
theorem PW.imp {X : Cx} {e : Expr} {t t' : TT} (h : PW X e t) (w : ∀ σ H Q, t' σ H Q → t σ H Q) : PW X e t' := ⟨fun wh pins s σ H Q I q => h.run wh pins s σ H Q I (w σ H Q q)⟩
theorem PA.imp {X : Cx} {e : List Expr} {t t' : TA} (h : PA X e t) (w : ∀ σ H Q, t' σ H Q → t σ H Q) : PA X e t' := ⟨fun pos pins s σ H Q I q => h.run pos pins s σ H Q I (w σ H Q q)⟩
theorem PS.imp {X : Cx} {e : Stmt} {t t' : TS} (h : PS X e t) (w : ∀ D σ H, t' D σ H → t D σ H) : PS X e t' := ⟨fun pins s σ H D I q => h.run pins s σ H D I (w D σ H q)⟩
theorem PSs.imp {X : Cx} {e : List Stmt} {t t' : TS} (h : PSs X e t) (w : ∀ D σ H, t' D σ H → t D σ H) : PSs X e t' := ⟨fun pins s σ H D I q => h.run pins s σ H D I (w D σ H q)⟩
end L2.VE

namespace L2.VE
open PySem PySem.Spec PyProof.Rows
/-! ### names and constants -/
def fK (d : D) (δ : Ev) : ER := .ok (.d d) δ
def readS (i : Nat) : Option Slot → Option EV
  | some (.d x) => some (.d x)
  | some (.ow _) => some (.sl i)
  | some (.io _) => some (.sl i)
  | some (.lk _) => some (.sl i)
  | some (.ro _) => some (.sl i)
  | _ => none
def fV (i : Nat) (δ : Ev) : ER := match readS i δ[i]? with
  | some e => .ok e δ
  | none => .no
section
variable {X : Cx} {cm : Cm} {W : WX} {a b c e : Expr} {fa fb fc : Ev → ER} {pos : Pos}
theorem tE_K {K : PySem.W.Frag} {d : D} {v : V} (r : ∀ F, Rep K F d v) : ∀ σ H Q, tE K cm W (fK d) σ H Q → tC v σ H Q := fun σ H Q ⟨c, δ, T, F, I, h⟩ => h v F H (I.pushD (r F))
theorem vc_int {i : Int} {j : Nat} : PE X (.Constant (.int i) j pos) (tE X.K cm W (fK (.int i))) := PE.imp pe_int (tE_K fun _ => rfl)
theorem vc_bl {i : Bool} {j : Nat} : PE X (.Constant (.bool i) j pos) (tE X.K cm W (fK (.bl i))) := PE.imp pe_bl (tE_K fun _ => rfl)
theorem vc_non {j : Nat} : PE X (.Constant .none j pos) (tE X.K cm W (fK .non)) := PE.imp pe_non (tE_K fun _ => rfl)
theorem vc_str {x : Str} {j : Nat} : PE X (.Constant (.str x) j pos) (tE X.K cm W (fK (.str x))) := PE.imp pe_str (tE_K fun _ => rfl)
/-- a constant of a module -/
theorem vc_glob {x : Str} {d : D} {v : V} {u : Value} (hm : X.mg x = some u) (r : RelV v u) (rd : ∀ F, Rep X.K F d v) (hg : Gl X x := by rfl) (hd : (x == ("__debug__" : Str)) = false := by decide) : PE X (.Name x pos) (tE X.K cm W (fK d)) :=
  PE.imp (pe_glob hg hm r hd) (tE_K rd)
theorem tE_V {K : PySem.W.Frag} {i : Nat} : ∀ σ H Q, tE K cm W (fV i) σ H Q → tVar i σ H Q := fun σ H Q ⟨c, δ, T, F, I, h⟩ => by
  unfold fV at h
  obtain ⟨O, _, b, _⟩ := id I.ow
  cases q : δ[i]? with
  | none => rw [q] at h; exact h.elim
  | some s =>
    rw [q] at h
    have so := b i s q
    cases s with
    | un => exact h.elim
    | d x => obtain ⟨v, e, r⟩ := so; exact ⟨v, e, h v F H (I.pushD r)⟩
    | ow x => obtain ⟨v, e, r⟩ := so; exact ⟨_, e, h _ F H (I.pushS e)⟩
    | io x => obtain ⟨v, e, r⟩ := so; exact ⟨_, e, h _ F H (I.pushS e)⟩
    | lk x => obtain ⟨v, e, r⟩ := so; exact ⟨_, e, h _ F H (I.pushS e)⟩
    | ro x => obtain ⟨v, e, r⟩ := so; exact ⟨_, e, h _ F H (I.pushS e)⟩
    | xc x => exact h.elim
theorem vc_var (i : Nat) {x : Str} (hN : X.N[i]? = some x := by rfl) (hv : Vis X.env.scope x := by first | exact Or.inl rfl | exact Or.inr (Or.inl rfl) | exact Or.inr (Or.inr rfl)) (hd : (x == ("__debug__" : Str)) = false := by decide)
    (hcd : (x == ("__classdict__" : Str)) = false := by decide) : PE X (.Name x pos) (tE X.K cm W (fV i)) := PE.imp (pe_var hN hv hd hcd) tE_V

/-! ### operations by values -/
def Op2 (K : PySem.W.Frag) (r : R2) (g : D → D → Option EV) : Prop :=
  ∀ (F H : Hp) (x y : D) (v w : V) (e : EV) (Q : VK), Same F H → RepH K F H x v → RepH K F H y w → g x y = some e → (∀ F' H' u, Step K F H F' H' u e → Q u H') → r v w H Q
def fin2 (g : D → D → Option EV) (e1 e2 : EV) (δ : Ev) : ER := match evD δ e1 with
  | some x => match evD δ e2 with
    | some y => match g x y with
      | some e => .ok e δ
      | none => .no
    | none => .no
  | none => .no
def fOp2 (g : D → D → Option EV) (fa fb : Ev → ER) (δ : Ev) : ER := (fa δ).bind fun e1 δ1 => (fb δ1).bind fun e2 δ2 => fin2 g e1 e2 δ2
theorem fin2_ok {K : PySem.W.Frag} {c : Cc} {T : Temps} {σ : St} {F H : Hp} {Q : VK} {r : R2} {g : D → D → Option EV} {e1 e2 : EV} {v w : V} {δ : Ev} (hg : Op2 K r g) (I : SI K c δ ((w, e2) :: (v, e1) :: T) σ F H) (h : GE K cm c W T σ Q (fin2 g e1 e2 δ)) : r v w H Q := by
  unfold fin2 at h
  cases q1 : evD δ e1 with
  | none => rw [q1] at h; exact h.elim
  | some x =>
    rw [q1] at h
    cases q2 : evD δ e2 with
    | none => rw [q2] at h; exact h.elim
    | some y =>
      rw [q2] at h
      cases q3 : g x y with
      | none => simp only [q3] at h; exact h.elim
      | some e =>
        simp only [q3] at h
        exact hg F H x y v w e Q I.fh (I.drop.view q1) (I.view q2) q3 fun F' H' u st => h u F' H' (I.drop.drop.step st)
theorem tE_op2 {K : PySem.W.Frag} {r : R2} {g : D → D → Option EV} (hg : Op2 K r g) : ∀ σ H Q, tE K cm W (fOp2 g fa fb) σ H Q → tOp r (tE K cm W fa) (tE K cm W fb) σ H Q := fun σ H Q ⟨c, δ, T, F, I, h⟩ =>
  goE I h fun e1 δ1 h1 v F1 H1 I1 => goE I1 h1 fun e2 δ2 h2 w F2 H2 I2 => fin2_ok hg I2 h2
theorem vc_op {op : Operator} {r : R2} {g : D → D → Option EV} (ho : OpR X (binaryOp op) r) (hg : Op2 X.K r g) (ha : PE X a (tE X.K cm W fa)) (hb : PE X b (tE X.K cm W fb)) : PE X (.BinOp a op b pos) (tE X.K cm W (fOp2 g fa fb)) :=
  PE.imp (pe_op ho ha hb) (tE_op2 hg)
theorem vc_cmp {op : CmpOp} {r : R2} {g : D → D → Option EV} (ho : OpR X (compareOp op) r) (hg : Op2 X.K r g) (hm : behindInMarks op b = false) (ha : PE X a (tE X.K cm W fa)) (hb : PE X b (tE X.K cm W fb)) : PE X (.Compare a [op] [b] pos) (tE X.K cm W (fOp2 g fa fb)) :=
  PE.imp (pe_cmpR ho ha hb hm) (tE_op2 hg)
/-! tests -/
def tstE (e : EV) (δ : Ev) : BR := match e with
  | .d (.bl b) => .ok b δ
  | _ => .no
def fTst (f : Ev → ER) (δ : Ev) : BR := (f δ).bindB tstE
theorem tT_tst {K : PySem.W.Frag} {f : Ev → ER} : ∀ σ H Q, tT K cm W (fTst f) σ H Q → tE K cm W f σ H (fun x H' => ∃ k, x = .bl k ∧ Q k H') := fun σ H Q ⟨c, δ, T, F, I, h⟩ =>
  goEB I h fun e δ1 h1 v F1 H1 I1 => by
    unfold tstE at h1
    split at h1
    · rename_i b
      have r : RepH K F1 H1 (.bl b) v := I1.view rfl
      exact ⟨b, r.bl, h1 F1 H1 I1.drop⟩
    · exact h1.elim
theorem vt_cmp {op : CmpOp} {r : R2} {g : D → D → Option EV} (ho : OpR X (compareOp op) r) (hg : Op2 X.K r g) (hm : behindInMarks op b = false) (ha : PE X a (tE X.K cm W fa)) (hb : PE X b (tE X.K cm W fb)) : PT X (.Compare a [op] [b] pos) (tT X.K cm W (fTst (fOp2 g fa fb))) :=
  PT.imp (pt_cmpR ho ha hb hm) fun σ H Q h => tE_op2 hg σ H _ (tT_tst σ H Q h)
def D.sc : D → Bool
  | .non => true | .bl _ => true | .int _ => true | .str _ => true | _ => false
theorem D.sc_rep {K : PySem.W.Frag} {F F' : Hp} {v : V} : ∀ {x : D}, x.sc = true → Rep K F x v → Rep K F' x v
  | .non, _, r => r
  | .bl _, _, r => r
  | .int _, _, r => r
  | .str _, _, r => r
def OpB (K : PySem.W.Frag) (r : R2) (g : D → D → Option Bool) : Prop :=
  ∀ (F H : Hp) (x y : D) (v w : V) (b : Bool) (Q : VK), Same F H → RepH K F H x v → RepH K F H y w → g x y = some b → Q (.bl b) H → r v w H Q
def liftB (g : D → D → Option Bool) (x y : D) : Option EV := match g x y with
  | some b => some (.d (.bl b))
  | none => none
theorem OpB.op2 {K : PySem.W.Frag} {r : R2} {g : D → D → Option Bool} (h : OpB K r g) : Op2 K r (liftB g) := fun F H x y v w e Q s rx ry hg hQ => by
  unfold liftB at hg
  cases q : g x y with
  | none => rw [q] at hg; cases hg
  | some b => rw [q] at hg; cases hg; exact h F H x y v w b Q s rx ry q (hQ F H _ (.old rfl))
def finB (g : D → D → Option Bool) (e1 e2 : EV) (δ : Ev) : Option Bool := match evD δ e1 with
  | some x => match evD δ e2 with
    | some y => g x y
    | none => none
  | none => none
def fChain (g g' : D → D → Option Bool) (fa fb fc : Ev → ER) (δ : Ev) : ER := (fa δ).bind fun e1 δ1 => (fb δ1).bind fun e2 δ2 => match finB g e1 e2 δ2 with
  | some true => (fc δ2).bind fun e3 δ4 => fin2 (liftB g') e2 e3 δ4
  | some false => .ok (.d (.bl false)) δ2
  | none => .no
theorem tE_chain {K : PySem.W.Frag} {r r' : R2} {g g' : D → D → Option Bool} (hg : OpB K r g) (hg' : OpB K r' g') :
    ∀ σ H Q, tE K cm W (fChain g g' fa fb fc) σ H Q → tChain r r' (tE K cm W fa) (tE K cm W fb) (tE K cm W fc) σ H Q := fun σ H Q ⟨c, δ, T, F, I, h⟩ =>
  goE I h fun e1 δ1 h1 v F1 H1 I1 => goE I1 h1 fun e2 δ2 h2 w F2 H2 I2 => by
    have I2 : SI K (c.at cm) δ2 ((w, e2) :: (v, e1) :: T) σ F2 H2 := I2
    unfold finB at h2
    cases q1 : evD δ2 e1 with
    | none => rw [q1] at h2; exact h2.elim
    | some x =>
      rw [q1] at h2
      cases q2 : evD δ2 e2 with
      | none => rw [q2] at h2; exact h2.elim
      | some y =>
        rw [q2] at h2
        cases q3 : g x y with
        | none => simp only [q3] at h2; exact h2.elim
        | some k =>
          simp only [q3] at h2
          refine hg F2 H2 x y v w k _ I2.fh (I2.drop.view q1) (I2.view q2) q3 ⟨k, rfl, ?_⟩
          cases k with
          | true =>
            rw [if_pos rfl]
            refine goE I2 h2 fun e3 δ4 h3 u F3 H3 I3 => ?_
            have I3 : SI K (c.at cm) δ4 ((u, e3) :: (w, e2) :: (v, e1) :: T) σ F3 H3 := I3
            unfold fin2 at h3
            cases q4 : evD δ4 e2 with
            | none => rw [q4] at h3; exact h3.elim
            | some y2 =>
              rw [q4] at h3
              cases q5 : evD δ4 e3 with
              | none => rw [q5] at h3; exact h3.elim
              | some z =>
                rw [q5] at h3
                cases q6 : liftB g' y2 z with
                | none => simp only [q6] at h3; exact h3.elim
                | some e' =>
                  simp only [q6] at h3
                  exact hg'.op2 F3 H3 y2 z w u e' Q I3.fh (I3.drop.view q4) (I3.view q5) q6 fun F' H' t st => h3 t F' H' (I3.drop.drop.drop.step st)
          | false =>
            rw [if_neg (by decide)]
            exact h2 _ F2 H2 ((I2.drop.drop).pushD rfl)
theorem vc_chain {op op' : CmpOp} {r r' : R2} {g g' : D → D → Option Bool} (ho : OpR X (compareOp op) r) (hg : OpB X.K r g) (ho' : OpR X (compareOp op') r') (hg' : OpB X.K r' g') (ha : PE X a (tE X.K cm W fa)) (hb : PE X b (tE X.K cm W fb)) (hc : PE X c (tE X.K cm W fc))
    (hm : lastMarks [op, op'] [b, c] = false := by with_unfolding_all rfl) : PE X (.Compare a [op, op'] [b, c] pos) (tE X.K cm W (fChain g g' fa fb fc)) := PE.imp (pe_chain ho ho' ha hb hc hm) (tE_chain hg hg')
theorem vt_chain {op op' : CmpOp} {r r' : R2} {g g' : D → D → Option Bool} (ho : OpR X (compareOp op) r) (hg : OpB X.K r g) (ho' : OpR X (compareOp op') r') (hg' : OpB X.K r' g') (ha : PE X a (tE X.K cm W fa)) (hb : PE X b (tE X.K cm W fb)) (hc : PE X c (tE X.K cm W fc))
    (hm : lastMarks [op, op'] [b, c] = false := by with_unfolding_all rfl) : PT X (.Compare a [op, op'] [b, c] pos) (tT X.K cm W (fTst (fChain g g' fa fb fc))) := PT.imp (pt_chain ho ho' ha hb hc hm) fun σ H Q h => tE_chain hg hg' σ H _ (tT_tst σ H Q h)
end
end L2.VE

namespace L2.VE
open PySem PySem.Spec PyProof.Rows
abbrev szl : Nat := 16777216
theorem szl_eq : sizeLine = szl := sizeLine_eq
/-! ### the arithmetic -/
def rAdd4 (K : PySem.W.Frag) : R2 := fun x y H Q => ((((∃ i j, x = .int i ∧ y = .int j ∧ Q (.int (i + j)) H) ∨ (∃ i j, x = .str i ∧ y = .str j ∧ i.length + j.length ≤ sizeLine ∧ Q (.str (i ++ j)) H)) ∨ rCat x y H Q) ∨ rCatT K x y H Q)
theorem op_add4 {X : Cx} : OpR X (binaryOp .Add) (rAdd4 X.K) := ((op_add.or op_add_str).or op_cat).or op_catT
def gAdd : D → D → Option EV
  | .int i, .int j => some (.d (.int (i + j)))
  | .str x, .str y => if x.length + y.length ≤ szl then some (.d (.str (x ++ y))) else none
  | .lst xs, .lst ys => if xs.length + ys.length ≤ szl then some (.fr (.lst (xs ++ ys))) else none
  | .tup (x :: xs), .tup ys => if (x :: xs).length + ys.length ≤ szl then some (.d (.tup (x :: xs ++ ys))) else none
  | _, _ => none
theorem o_add {K : PySem.W.Frag} : Op2 K (rAdd4 K) gAdd := fun F H x y v w e Q s rx ry hg hQ => by
  unfold gAdd at hg
  split at hg
  · cases hg
    exact .inl (.inl (.inl ⟨_, _, rx.int, ry.int, hQ F H _ (.old rfl)⟩))
  · split at hg
    · rename_i hl
      cases hg
      exact .inl (.inl (.inr ⟨_, _, rx.str, ry.str, by rw [szl_eq]; exact hl, hQ F H _ (.old rfl)⟩))
    · cases hg
  · split at hg
    · rename_i hl
      cases hg
      obtain ⟨a, us, e1, h1, r1⟩ := rx.lst s
      obtain ⟨b, ws, e2, h2, r2⟩ := ry.lst s
      exact .inl (.inr ⟨a, b, us, ws, e1, e2, h1, h2, by rw [r1.length, r2.length, szl_eq]; exact hl, fun p hp => hQ _ _ _ (.newM hp ⟨_, upd_same, r1.append r2⟩)⟩)
    · cases hg
  · rename_i x0 xs ys
    split at hg
    · rename_i hl
      cases hg
      obtain ⟨a, us, e1, h1, r1⟩ := rx.tup s
      obtain ⟨b, ws, e2, h2, r2⟩ := ry.tup s
      refine .inr ⟨a, b, us, ws, e1, e2, SqT.of h1, SqT.of h2, ?_, by rw [r1.length, r2.length, szl_eq]; exact hl, fun z => ?_, fun _ p hp => ?_⟩
      · intro z; rw [z] at r1; obtain ⟨_, _, z, _⟩ := r1; cases z
      · subst z
        have e0 := r2.length
        have : ys = [] := List.eq_nil_of_length_eq_zero e0.symm
        subst this
        rcases rx with rx | ⟨a', _, z⟩
        · rw [List.append_nil] at hQ
          rw [← e1]
          exact hQ F H _ (.old rx)
        · exact z.elim
      · refine hQ _ _ _ (.newF hp ?_)
        have sF := same_upd (o := .tup (us ++ ws)) (s.free hp)
        exact ⟨p, _, rfl, upd_same, (r1.append r2).mono sF⟩
    · cases hg
  · cases hg
def gSub : D → D → Option EV
  | .int i, .int j => some (.d (.int (i - j)))
  | _, _ => none
theorem o_sub {K : PySem.W.Frag} : Op2 K (rI0 fun i j => .int (i - j)) gSub := fun F H x y v w e Q s rx ry hg hQ => by
  unfold gSub at hg
  split at hg
  · cases hg
    exact ⟨_, _, rx.int, ry.int, hQ F H _ (.old rfl)⟩
  · cases hg
def strRep (x : Str) (n : Nat) : Str := ⟨(List.replicate n x.cps.toList).flatten.toArray⟩
theorem foldl_app (a : Array Nat) : ∀ (n : Nat) (acc : Array Nat), (List.replicate n a).foldl (· ++ ·) acc = acc ++ (List.replicate n a.toList).flatten.toArray
  | 0, acc => by simp
  | n + 1, acc => by
    rw [List.replicate_succ, List.foldl_cons, foldl_app a n, List.replicate_succ, List.flatten_cons]
    apply Array.ext'
    simp
theorem strRep_len (z : Str) : ∀ n : Nat, (strRep z n).length = n * z.length := fun n => by
  show ((List.replicate n z.cps.toList).flatten.toArray).size = n * z.cps.size
  rw [List.size_toArray, List.length_flatten, List.map_replicate, List.sum_replicate_nat, Array.length_toList]
theorem op_strRep {X : Cx} : OpR X (binaryOp .Mult) (fun x y H Q => ∃ z n, x = .str z ∧ y = .int n ∧ -(2 ^ 63) ≤ n ∧ n < 2 ^ 62 ∧ z.length * n.toNat ≤ sizeLine ∧ Q (.str (strRep z n.toNat)) H) := by
  intro pins s σ H x y v u Q I rx ry h
  obtain ⟨z, n, rfl, rfl, h1, h2, hz, q⟩ := h
  obtain ⟨t, rfl⟩ := rx
  obtain ⟨t', rfl⟩ := ry
  have hs : sizeLine = 16777216 := sizeLine_eq
  have hq : ∀ tk : Tok, EP X pins σ Q (.str (strRep z n.toNat) tk) { s with toks := s.toks + 1 } := fun tk => ⟨.str _, H, I.tok _, ⟨_, rfl⟩, q⟩
  refine PySem.P.mul_str (by
      have e1 : decide (n < -(2 ^ 63 : Int)) = false := decide_eq_false (by omega)
      have e2 : decide (n ≥ 2 ^ 63) = false := decide_eq_false (by omega)
      rw [e1, e2]; rfl) (fun hn _ => ?_) (fun _ _ => ?_) ?_
  · have hn0 : (0 : Int) < n := by omega
    have e : ((z.length * n.toNat : Nat) : Int) = (z.length : Int) * n := by
      rw [Int.natCast_mul, Int.toNat_of_nonneg (by omega)]
    have hle : (z.length : Int) * n ≤ 2 ^ 63 - 1 := by rw [← e]; omega
    have := (Int.le_ediv_iff_mul_le hn0).mpr hle
    omega
  · unfold Builtin.Str.tooLong
    rw [decide_eq_false (by omega)]
  · by_cases hn : n < 1
    · rw [if_pos hn]
      have e : n.toNat = 0 := by omega
      refine ⟨by show (0 : Nat) ≤ _; omega, ?_⟩
      have e2 : strRep z n.toNat = Str.empty := by rw [e]; rfl
      have := hq s.toks
      rw [e2] at this
      exact this
    · rw [if_neg hn]
      by_cases h2 : (n == 1 || z.length == 0) = true
      · rw [if_pos h2]
        have e2 : strRep z n.toNat = z := by
          rw [Bool.or_eq_true, beq_iff_eq, beq_iff_eq] at h2
          rcases h2 with h2 | h2
          · subst h2
            show (⟨([z.cps.toList].flatten).toArray⟩ : Str) = z
            simp
          · have e0 : z.cps = #[] := Array.eq_empty_of_size_eq_zero h2
            unfold strRep
            rw [e0]
            simp
            cases z
            simp at e0 ⊢
            exact e0
        show EP X pins σ Q (.str z t) s
        exact ⟨.str z, H, I, ⟨_, rfl⟩, by rw [e2] at q; exact q⟩
      · rw [if_neg h2]
        have e2 : (⟨(List.replicate n.toNat z.cps).foldl (· ++ ·) #[]⟩ : Str) = strRep z n.toNat := by
          rw [foldl_app]
          unfold strRep
          simp
        rw [e2]
        refine ⟨?_, hq s.toks⟩
        rw [strRep_len, Nat.mul_comm]
        exact hz
theorem op_mul4 {X : Cx} : OpR X (binaryOp .Mult) (fun x y H Q => ((rI CMul (fun i j => .int (i * j)) x y H Q ∨ rI CMulW (fun i j => .int (i * j)) x y H Q) ∨ (∃ z n, x = .str z ∧ y = .int n ∧ -(2 ^ 63) ≤ n ∧ n < 2 ^ 62 ∧ z.length * n.toNat ≤ sizeLine ∧ Q (.str (strRep z n.toNat)) H)) ∨ rRep x y H Q) :=
  ((op_mul.or op_mulW).or op_strRep).or op_rep
def mulOk (i j : Int) : Bool := decide ((-(2 ^ 64) < i ∧ i < 2 ^ 64) ∨ (-(2 ^ 64) < j ∧ j < 2 ^ 64) ∨ i.natAbs.log2 + j.natAbs.log2 < 1000000)
def gMul : D → D → Option EV
  | .int i, .int j => if mulOk i j then some (.d (.int (i * j))) else none
  | .str z, .int n => if -(2 ^ 63) ≤ n ∧ n < 2 ^ 62 ∧ z.length * n.toNat ≤ szl then some (.d (.str (strRep z n.toNat))) else none
  | .lst xs, .int n => if -(2 ^ 63) ≤ n ∧ n < 2 ^ 63 ∧ xs.length * n.toNat ≤ szl then some (.fr (.lst (List.replicate n.toNat xs).flatten)) else none
  | _, _ => none
theorem o_mul {K : PySem.W.Frag} : Op2 K (fun x y H Q => ((rI CMul (fun i j => .int (i * j)) x y H Q ∨ rI CMulW (fun i j => .int (i * j)) x y H Q) ∨ (∃ z n, x = .str z ∧ y = .int n ∧ -(2 ^ 63) ≤ n ∧ n < 2 ^ 62 ∧ z.length * n.toNat ≤ sizeLine ∧ Q (.str (strRep z n.toNat)) H)) ∨ rRep x y H Q) gMul := fun F H x y v w e Q s rx ry hg hQ => by
  unfold gMul at hg
  split at hg
  · split at hg
    · rename_i hm
      cases hg
      rcases of_decide_eq_true hm with hm | hm | hm
      · exact .inl (.inl (.inl ⟨_, _, rx.int, ry.int, .inl hm, hQ F H _ (.old rfl)⟩))
      · exact .inl (.inl (.inl ⟨_, _, rx.int, ry.int, .inr hm, hQ F H _ (.old rfl)⟩))
      · exact .inl (.inl (.inr ⟨_, _, rx.int, ry.int, hm, hQ F H _ (.old rfl)⟩))
    · cases hg
  · split at hg
    · rename_i hm
      cases hg
      exact .inl (.inr ⟨_, _, rx.str, ry.int, hm.1, hm.2.1, by rw [szl_eq]; exact hm.2.2, hQ F H _ (.old rfl)⟩)
    · cases hg
  · split at hg
    · rename_i hm
      cases hg
      obtain ⟨a, us, e1, h1, r1⟩ := rx.lst s
      exact .inr ⟨a, _, us, e1, ry.int, h1, hm.1, hm.2.1, by rw [r1.length, szl_eq]; exact hm.2.2, fun p hp => hQ _ _ _ (.newM hp ⟨_, upd_same, r1.flat _⟩)⟩
    · cases hg
  · cases hg
def gFdiv : D → D → Option EV
  | .int i, .int j => if 0 < j ∧ j.natAbs.log2 < 9000 then some (.d (.int (i / j))) else if j ≠ 0 ∧ j.natAbs < 1073741824 then some (.d (.int (i.fdiv j))) else none
  | _, _ => none
theorem op_fdiv4 {X : Cx} : OpR X (binaryOp .FloorDiv) (fun x y H Q => rI CDivW (fun i j => .int (i / j)) x y H Q ∨ rI CDivN (fun i j => .int (i.fdiv j)) x y H Q) := op_fdivW.or op_fdivN
theorem o_fdiv {K : PySem.W.Frag} : Op2 K (fun x y H Q => rI CDivW (fun i j => .int (i / j)) x y H Q ∨ rI CDivN (fun i j => .int (i.fdiv j)) x y H Q) gFdiv := fun F H x y v w e Q s rx ry hg hQ => by
  unfold gFdiv at hg
  split at hg
  · split at hg
    · rename_i hm
      cases hg
      exact .inl ⟨_, _, rx.int, ry.int, hm, hQ F H _ (.old rfl)⟩
    · split at hg
      · rename_i hm
        cases hg
        exact .inr ⟨_, _, rx.int, ry.int, hm, hQ F H _ (.old rfl)⟩
      · cases hg
  · cases hg
def gMod : D → D → Option EV
  | .int i, .int j => if 0 < j then some (.d (.int (i % j))) else if j ≠ 0 then some (.d (.int (i.fmod j))) else none
  | _, _ => none
theorem op_mod4 {X : Cx} : OpR X (binaryOp .Mod) (fun x y H Q => rI (fun _ j => 0 < j) (fun i j => .int (i % j)) x y H Q ∨ rI (fun _ j => j ≠ 0) (fun i j => .int (i.fmod j)) x y H Q) := op_mod.or op_modN
theorem o_mod {K : PySem.W.Frag} : Op2 K (fun x y H Q => rI (fun _ j => 0 < j) (fun i j => .int (i % j)) x y H Q ∨ rI (fun _ j => j ≠ 0) (fun i j => .int (i.fmod j)) x y H Q) gMod := fun F H x y v w e Q s rx ry hg hQ => by
  unfold gMod at hg
  split at hg
  · split at hg
    · rename_i hm
      cases hg
      exact .inl ⟨_, _, rx.int, ry.int, hm, hQ F H _ (.old rfl)⟩
    · split at hg
      · rename_i hm
        cases hg
        exact .inr ⟨_, _, rx.int, ry.int, hm, hQ F H _ (.old rfl)⟩
      · cases hg
  · cases hg
def gPow : D → D → Option EV
  | .int i, .int j => if 0 ≤ j ∧ j ≤ 1000000 ∧ i.natAbs < 2 ^ 64 then some (.d (.int (i ^ j.toNat))) else none
  | _, _ => none
theorem o_pow {K : PySem.W.Frag} : Op2 K (rI CPow fun i j => .int (i ^ j.toNat)) gPow := fun F H x y v w e Q s rx ry hg hQ => by
  unfold gPow at hg
  split at hg
  · split at hg
    · rename_i hm
      cases hg
      exact ⟨_, _, rx.int, ry.int, hm, hQ F H _ (.old rfl)⟩
    · cases hg
  · cases hg
/-! ### comparisons -/
def rOrd (ri : Int → Int → Bool) (rs : List Nat → List Nat → Bool) : R2 := fun x y H Q => (∃ i j, x = .int i ∧ y = .int j ∧ Q (.bl (ri i j)) H) ∨ (∃ i j, x = .str i ∧ y = .str j ∧ Q (.bl (rs i.cps.toList j.cps.toList)) H)
def gOrd (ri : Int → Int → Bool) (rs : List Nat → List Nat → Bool) : D → D → Option Bool
  | .int i, .int j => some (ri i j)
  | .str i, .str j => some (rs i.cps.toList j.cps.toList)
  | _, _ => none
theorem o_ord {K : PySem.W.Frag} {ri : Int → Int → Bool} {rs : List Nat → List Nat → Bool} : OpB K (rOrd ri rs) (gOrd ri rs) := fun F H x y v w b Q s rx ry hg hQ => by
  unfold gOrd at hg
  split at hg
  · cases hg; exact .inl ⟨_, _, rx.int, ry.int, hQ⟩
  · cases hg; exact .inr ⟨_, _, rx.str, ry.str, hQ⟩
  · cases hg
abbrev gLt := gOrd (fun i j => decide (i < j)) (fun a b => decide (a < b))
abbrev gLe := gOrd (fun i j => decide (i ≤ j)) (fun a b => !decide (b < a))
abbrev gGt := gOrd (fun i j => decide (j < i)) (fun a b => decide (b < a))
abbrev gGe := gOrd (fun i j => decide (j ≤ i)) (fun a b => !decide (a < b))
theorem op_lt4 {X : Cx} : OpR X (compareOp .Lt) (rOrd (fun i j => decide (i < j)) (fun a b => decide (a < b))) := op_lt.or op_lt_str
theorem op_le4 {X : Cx} : OpR X (compareOp .LtE) (rOrd (fun i j => decide (i ≤ j)) (fun a b => !decide (b < a))) := op_le.or op_le_str
theorem op_gt4 {X : Cx} : OpR X (compareOp .Gt) (rOrd (fun i j => decide (j < i)) (fun a b => decide (b < a))) := op_gt.or op_gt_str
theorem op_ge4 {X : Cx} : OpR X (compareOp .GtE) (rOrd (fun i j => decide (j ≤ i)) (fun a b => !decide (a < b))) := op_ge.or op_ge_str
/-! == -/
mutual
def toP : D → PyData
  | .non => .none
  | .bl b => .bool b
  | .int i => .int i
  | .str x => .str x
  | .lst xs => .list (toPs xs)
  | .sl xs => .list (toPs xs)
  | .tup xs => .tuple (toPs xs)
  | .dk _ => .dict []
  | .dt _ => .dict []
def toPs : List D → List PyData
  | [] => []
  | x :: xs => toP x :: toPs xs
end
theorem toPs_map : ∀ xs : List D, toPs xs = xs.map toP
  | [] => rfl
  | x :: xs => by rw [toPs, toPs_map xs]; rfl
mutual
theorem Rep.dp {K : PySem.W.Frag} {F : Hp} : ∀ {x : D} {v : V}, (toP x).canLay0 = true → Rep K F x v → Dp K F v (toP x)
  | .non, _, _, h => by rw [show _ = V.non from h]; exact .non
  | .bl b, _, _, h => by rw [show _ = V.bl b from h]; exact .bl b
  | .int i, _, _, h => by rw [show _ = V.int i from h]; exact .int i
  | .str z, _, _, h => by rw [show _ = V.str z from h]; exact .str z
  | .lst xs, _, c, ⟨a, vs, e, q, r⟩ => by rw [e, toP]; exact .lst (SqL.of q) (RepL.dp (by simpa [toP, PyData.canLay0] using c) r)
  | .sl xs, _, c, ⟨a, vs, e, q, r⟩ => by rw [e, toP]; exact .lst q (RepL.dp (by simpa [toP, PyData.canLay0] using c) r)
  | .tup xs, _, c, ⟨a, vs, e, q, r⟩ => by rw [e, toP]; exact .tup (SqT.of q) (RepL.dp (by simpa [toP, PyData.canLay0] using c) r)
  | .dk _, _, c, _ => by simp [toP, PyData.canLay0] at c
  | .dt _, _, c, _ => by simp [toP, PyData.canLay0] at c
theorem RepL.dp {K : PySem.W.Frag} {F : Hp} : ∀ {x : List D} {v : List V}, PyData.canLayAll0 (toPs x) = true → RepL K F x v → DpAll K F v (toPs x)
  | [], _, _, h => by rw [show _ = [] from h, toPs]; exact .nil
  | x :: xs, _, c, ⟨v, r, e, h1, h2⟩ => by
    rw [toPs, PyData.canLayAll0, Bool.and_eq_true] at c
    rw [e, toPs]
    exact .cons (Rep.dp c.1 h1) (RepL.dp c.2 h2)
end
theorem Dp.mono {K : PySem.W.Frag} {F H : Hp} (s : Same F H) {v : V} {d : PyData} (h : Dp K F v d) : Dp K H v d := by
  refine Dp.rec (motive_1 := fun v d _ => Dp K H v d) (motive_2 := fun v d _ => DpAll K H v d) .non (fun b => .bl b) (fun i => .int i) (fun x => .str x) (fun q _ r => .lst (s.seq q) r) (fun q _ r => .tup (Same.sqt s q) r) .nil (fun _ _ a b => .cons a b) h
theorem DpAll.mono {K : PySem.W.Frag} {F H : Hp} (s : Same F H) {v : List V} {d : List PyData} (h : DpAll K F v d) : DpAll K H v d := by
  refine DpAll.rec (motive_1 := fun v d _ => Dp K H v d) (motive_2 := fun v d _ => DpAll K H v d) .non (fun b => .bl b) (fun i => .int i) (fun x => .str x) (fun q _ r => .lst (s.seq q) r) (fun q _ r => .tup (Same.sqt s q) r) .nil (fun _ _ a b => .cons a b) h
theorem RepH.dp {K : PySem.W.Frag} {F H : Hp} (s : Same F H) {x : D} {v : V} (c : (toP x).canLay0 = true) (h : RepH K F H x v) : Dp K H v (toP x) := by
  rcases h with h | ⟨a, e, t⟩
  · exact Dp.mono s (h.dp c)
  · cases x with
    | lst xs =>
      obtain ⟨vs, q, r⟩ := t
      rw [e, toP]
      exact .lst (SqL.of q) (DpAll.mono s (RepL.dp (by simpa [toP, PyData.canLay0] using c) r))
    | dk _ => simp [toP, PyData.canLay0] at c
    | dt _ => simp [toP, PyData.canLay0] at c
    | _ => exact t.elim
def okP (x : D) : Bool := SeqAt.shaped (toP x)
def eqS : D → D → Option Bool
  | .non, .non => some true
  | .non, .int _ => some false
  | .int _, .non => some false
  | .non, .bl _ => some false
  | .bl _, .non => some false
  | .non, .str _ => some false
  | .str _, .non => some false
  | .int i, .int j => some (i == j)
  | .bl i, .bl j => some (i == j)
  | .str i, .str j => some (i == j)
  | .int _, .str _ => some false
  | .str _, .int _ => some false
  | .bl _, .str _ => some false
  | .str _, .bl _ => some false
  | _, _ => none
def gEq (x y : D) : Option Bool := match eqS x y with
  | some b => some b
  | none => if okP x && okP y then some (PyData.eqv (toP x) (toP y)) else none
def gNe (x y : D) : Option Bool := match gEq x y with
  | some b => some (!b)
  | none => none
theorem eqS_ok {K : PySem.W.Frag} {F H : Hp} {x y : D} {v w : V} {b : Bool} (h : eqS x y = some b) (rx : RepH K F H x v) (ry : RepH K F H y w) : scal v w = true ∧ decide (v = w) = b := by
  unfold eqS at h
  split at h <;> first
    | (cases h; rw [rx.non, ry.non]; exact ⟨rfl, by simp⟩)
    | (cases h; rw [rx.non, ry.int]; exact ⟨rfl, by simp⟩)
    | (cases h; rw [rx.int, ry.non]; exact ⟨rfl, by simp⟩)
    | (cases h; rw [rx.non, ry.bl]; exact ⟨rfl, by simp⟩)
    | (cases h; rw [rx.bl, ry.non]; exact ⟨rfl, by simp⟩)
    | (cases h; rw [rx.non, ry.str]; exact ⟨rfl, by simp⟩)
    | (cases h; rw [rx.str, ry.non]; exact ⟨rfl, by simp⟩)
    | (cases h; rw [rx.int, ry.int]; exact ⟨rfl, dec_int⟩)
    | (cases h; rw [rx.bl, ry.bl]; exact ⟨rfl, dec_bl⟩)
    | (cases h; rw [rx.str, ry.str]; exact ⟨rfl, dec_str⟩)
    | (cases h; rw [rx.int, ry.str]; exact ⟨rfl, by simp⟩)
    | (cases h; rw [rx.str, ry.int]; exact ⟨rfl, by simp⟩)
    | (cases h; rw [rx.bl, ry.str]; exact ⟨rfl, by simp⟩)
    | (cases h; rw [rx.str, ry.bl]; exact ⟨rfl, by simp⟩)
    | cases h
theorem op_eq4 {X : Cx} (hu : X.A.units + 64 < cLine) : OpR X (compareOp .Eq) (fun x y H Q => rEq x y H Q ∨ rEqD X.K x y H Q) := op_eq.or (op_eqD hu)
theorem op_ne4 {X : Cx} (hu : X.A.units + 64 < cLine) : OpR X (compareOp .NotEq) (fun x y H Q => rNe x y H Q ∨ rNeD X.K x y H Q) := op_ne.or (op_neD hu)
theorem o_eq {K : PySem.W.Frag} : OpB K (fun x y H Q => rEq x y H Q ∨ rEqD K x y H Q) gEq := fun F H x y v w b Q s rx ry hg hQ => by
  unfold gEq at hg
  split at hg
  · rename_i b' q
    cases hg
    obtain ⟨h1, h2⟩ := eqS_ok q rx ry
    exact .inl ⟨h1, by rw [h2]; exact hQ⟩
  · split at hg
    · rename_i h
      cases hg
      rw [Bool.and_eq_true] at h
      exact .inr ⟨_, _, rx.dp s (SeqAt.canLay_of_shaped h.1), ry.dp s (SeqAt.canLay_of_shaped h.2), h.1, h.2, hQ⟩
    · cases hg
theorem o_ne {K : PySem.W.Frag} : OpB K (fun x y H Q => rNe x y H Q ∨ rNeD K x y H Q) gNe := fun F H x y v w b Q s rx ry hg hQ => by
  unfold gNe gEq at hg
  cases q : eqS x y with
  | some b' =>
    rw [q] at hg
    cases hg
    obtain ⟨h1, h2⟩ := eqS_ok q rx ry
    exact .inl ⟨h1, by rw [h2]; exact hQ⟩
  | none =>
    rw [q] at hg
    by_cases h : (okP x && okP y) = true
    · rw [if_pos h] at hg
      cases hg
      rw [Bool.and_eq_true] at h
      exact .inr ⟨_, _, rx.dp s (SeqAt.canLay_of_shaped h.1), ry.dp s (SeqAt.canLay_of_shaped h.2), h.1, h.2, hQ⟩
    · rw [if_neg h] at hg; cases hg
end L2.VE

namespace L2.VE
open PySem PySem.Spec PyProof.Rows
/-! ### is None -/
def isNonD : D → Bool
  | .non => true | .bl _ => false | .int _ => false | .str _ => false | .lst _ => false | .sl _ => false | .tup _ => false | .dk _ => false | .dt _ => false
def gIsN (x y : D) : Option Bool := match y with
  | .non => some (isNonD x)
  | _ => none
def gNotN (x y : D) : Option Bool := match gIsN x y with
  | some b => some (!b)
  | none => none
theorem RepH.isN {K : PySem.W.Frag} {F H : Hp} {x : D} {v : V} (h : RepH K F H x v) : decide (v = .non) = isNonD x := by
  rcases h with h | ⟨a, e, t⟩
  · cases x with
    | non => rw [show v = .non from h]; rfl
    | bl b => rw [show v = .bl b from h]; rfl
    | int b => rw [show v = .int b from h]; rfl
    | str b => rw [show v = .str b from h]; rfl
    | lst b => obtain ⟨a, _, e, _⟩ := h; rw [e]; rfl
    | sl b => obtain ⟨a, _, e, _⟩ := h; rw [e]; rfl
    | tup b => obtain ⟨a, _, e, _⟩ := h; rw [e]; rfl
    | dk b => obtain ⟨a, _, e, _⟩ := h; rw [e]; rfl
    | dt b => obtain ⟨a, _, e, _⟩ := h; rw [e]; rfl
  · rw [e]
    cases x <;> first | exact t.elim | rfl
theorem o_isN {K : PySem.W.Frag} : OpB K (fun x y H Q => y = .non ∧ Q (.bl (decide (x = .non))) H) gIsN := fun F H x y v w b Q s rx ry hg hQ => by
  unfold gIsN at hg
  split at hg
  · refine ⟨ry.non, ?_⟩
    rw [rx.isN]
    cases hg; exact hQ
  · cases hg
theorem o_notN {K : PySem.W.Frag} : OpB K (fun x y H Q => y = .non ∧ Q (.bl (!decide (x = .non))) H) gNotN := fun F H x y v w b Q s rx ry hg hQ => by
  unfold gNotN gIsN at hg
  cases y <;> try (cases hg)
  refine ⟨ry.non, ?_⟩
  rw [rx.isN]
  exact hQ
/-! ### in -/
def flatD : D → Bool
  | .non => true | .bl _ => true | .int _ => true | .str _ => true | _ => false
def eqF : D → D → Bool
  | .non, .non => true
  | .bl a, .bl b => a == b
  | .bl a, .int b => (if a then 1 else 0) == b
  | .int a, .bl b => a == (if b then 1 else 0)
  | .int a, .int b => a == b
  | .str a, .str b => a == b
  | _, _ => false
def toV : D → V
  | .non => .non | .bl b => .bl b | .int i => .int i | .str x => .str x | _ => .non
theorem Rep.flat {K : PySem.W.Frag} {F : Hp} : ∀ {x : D} {v : V}, flatD x = true → Rep K F x v → v = toV x
  | .non, _, _, h => h
  | .bl _, _, _, h => h
  | .int _, _, _, h => h
  | .str _, _, _, h => h
theorem RepH.flat {K : PySem.W.Frag} {F H : Hp} {x : D} {v : V} (f : flatD x = true) (h : RepH K F H x v) : v = toV x := by
  rcases h with h | ⟨a, e, t⟩
  · exact h.flat f
  · cases x <;> first | exact t.elim | cases f
theorem flatV_of : ∀ {x : D}, flatD x = true → flatV (toV x) = true
  | .non, _ => rfl
  | .bl _, _ => rfl
  | .int _, _ => rfl
  | .str _, _ => rfl
theorem eqV_of : ∀ {x y : D}, flatD x = true → flatD y = true → eqV (toV x) (toV y) = eqF x y
  | .non, .non, _, _ => rfl
  | .non, .bl _, _, _ => rfl
  | .non, .int _, _, _ => rfl
  | .non, .str _, _, _ => rfl
  | .bl _, .non, _, _ => rfl
  | .bl _, .bl _, _, _ => rfl
  | .bl _, .int _, _, _ => rfl
  | .bl _, .str _, _, _ => rfl
  | .int _, .non, _, _ => rfl
  | .int _, .bl _, _, _ => rfl
  | .int _, .int _, _, _ => rfl
  | .int _, .str _, _, _ => rfl
  | .str _, .non, _, _ => rfl
  | .str _, .bl _, _, _ => rfl
  | .str _, .int _, _, _ => rfl
  | .str _, .str _, _, _ => rfl
theorem RepL.flats {K : PySem.W.Frag} {F : Hp} : ∀ {xs : List D} {vs : List V}, xs.all flatD = true → RepL K F xs vs → vs = xs.map toV
  | [], _, _, h => h
  | x :: xs, _, f, ⟨v, r, e, h1, h2⟩ => by
    rw [List.all_cons, Bool.and_eq_true] at f
    rw [e, h1.flat f.1, RepL.flats f.2 h2]; rfl
theorem flats_all : ∀ {xs : List D}, xs.all flatD = true → (xs.map toV).all flatV = true
  | [], _ => rfl
  | x :: xs, f => by
    rw [List.all_cons, Bool.and_eq_true] at f
    rw [List.map_cons, List.all_cons, flatV_of f.1, flats_all f.2]; rfl
theorem inV_of {x : D} (fx : flatD x = true) : ∀ {xs : List D}, xs.all flatD = true → inV (toV x) (xs.map toV) = xs.any fun y => eqF y x
  | [], _ => rfl
  | y :: xs, f => by
    rw [List.all_cons, Bool.and_eq_true] at f
    have ih := inV_of fx f.2
    unfold inV at ih ⊢
    rw [List.map_cons, List.any_cons, List.any_cons, eqV_of f.1 fx, ih]
/-- keys of dicts -/
def keyD : D → Option Key
  | .int i => some (.inl i)
  | .str x => some (.inr x)
  | _ => none
def keysD : List D → Option (List Key)
  | [] => some []
  | x :: xs => match keyD x with
    | some k => match keysD xs with
      | some ks => some (k :: ks)
      | none => none
    | none => none
def keyT : D → Option (List Key)
  | .tup xs => keysD xs
  | _ => none
theorem keyD_of {K : PySem.W.Frag} {F : Hp} {x : D} {v : V} {k : Key} (h : keyD x = some k) (r : Rep K F x v) : v = kV k := by
  cases x <;> try (cases h)
  · exact r
  · exact r
theorem keyD_H {K : PySem.W.Frag} {F H : Hp} {x : D} {v : V} {k : Key} (h : keyD x = some k) (r : RepH K F H x v) : v = kV k := by
  rcases r with r | ⟨a, e, t⟩
  · exact keyD_of h r
  · cases x <;> first | exact t.elim | cases h
theorem keysD_of {K : PySem.W.Frag} {F : Hp} : ∀ {xs : List D} {vs : List V} {ks : List Key}, keysD xs = some ks → RepL K F xs vs → vs = ks.map kV
  | [], _, _, h, r => by cases h; exact r
  | x :: xs, _, ks, h, ⟨v, w, e, r1, r2⟩ => by
    unfold keysD at h
    cases q : keyD x with
    | none => rw [q] at h; cases h
    | some k =>
      rw [q] at h
      cases q2 : keysD xs with
      | none => simp only [q2] at h; cases h
      | some ks' =>
        simp only [q2] at h
        cases h
        rw [e, keyD_of q r1, keysD_of q2 r2]; rfl
section
variable {κ : Type} [DecidableEq κ]
def look (k : κ) : List (κ × D) → Option D
  | [] => none
  | (j, x) :: r => if j = k then some x else look k r
def put (k : κ) (x : D) (l : List (κ × D)) : List (κ × D) := if (l.any fun p => decide (p.1 = k)) = true then l.map (fun p => if p.1 = k then (p.1, x) else p) else l ++ [(k, x)]
end
theorem RepK.look {K : PySem.W.Frag} {F : Hp} {k : Key} : ∀ {ds : List (Key × D)} {vs : List (Key × V)}, RepK K F ds vs → (∃ x v, VE.look k ds = some x ∧ valV vs k = some v ∧ Rep K F x v) ∨ (VE.look k ds = none ∧ valV vs k = none)
  | [], _, h => by rw [show _ = [] from h]; exact .inr ⟨rfl, rfl⟩
  | (j, d) :: ds, _, ⟨v, r, e, h1, h2⟩ => by
    rw [e]
    by_cases q : j = k
    · exact .inl ⟨d, v, by unfold VE.look; rw [if_pos q], valV_pos (p := (j, v)) q, h1⟩
    · rcases RepK.look (k := k) h2 with ⟨x, w, a, b, c⟩ | ⟨a, b⟩
      · exact .inl ⟨x, w, by unfold VE.look; rw [if_neg q]; exact a, by rw [valV_neg (p := (j, v)) q]; exact b, c⟩
      · exact .inr ⟨by unfold VE.look; rw [if_neg q]; exact a, by rw [valV_neg (p := (j, v)) q]; exact b⟩
theorem RepT.look {K : PySem.W.Frag} {F : Hp} {k : List Key} : ∀ {ds : List (List Key × D)} {vs : List (List Key × V)}, RepT K F ds vs → (∃ x v, VE.look k ds = some x ∧ valV vs k = some v ∧ Rep K F x v) ∨ (VE.look k ds = none ∧ valV vs k = none)
  | [], _, h => by rw [show _ = [] from h]; exact .inr ⟨rfl, rfl⟩
  | (j, d) :: ds, _, ⟨v, r, e, h1, h2⟩ => by
    rw [e]
    by_cases q : j = k
    · exact .inl ⟨d, v, by unfold VE.look; rw [if_pos q], valV_pos (p := (j, v)) q, h1⟩
    · rcases RepT.look (k := k) h2 with ⟨x, w, a, b, c⟩ | ⟨a, b⟩
      · exact .inl ⟨x, w, by unfold VE.look; rw [if_neg q]; exact a, by rw [valV_neg (p := (j, v)) q]; exact b, c⟩
      · exact .inr ⟨by unfold VE.look; rw [if_neg q]; exact a, by rw [valV_neg (p := (j, v)) q]; exact b⟩
/-- what a dict holds at a key: none: it can't be told -/
def dget (d k : D) : Option (Option D) := match d with
  | .dk kvs => match keyD k with
    | some k => some (look k kvs)
    | none => none
  | .dt kvs => match keyT k with
    | some k => some (look k kvs)
    | none => none
  | _ => none
def GetR (K : PySem.W.Frag) (F : Hp) : Option D → Option V → Prop
  | some d, o => ∃ u, o = some u ∧ Rep K F d u
  | none, o => o = none
theorem dget_ok {K : PySem.W.Frag} {F H : Hp} {x y : D} {v w : V} {o : Option D} (s : Same F H) (rx : RepH K F H x v) (ry : RepH K F H y w) (h : dget x y = some o) :
    ∃ a o', v = .ref a ∧ DGet H a w o' ∧ GetR K F o o' := by
  unfold dget at h
  split at h
  · rename_i kvs
    obtain ⟨a, ws, e, q, r⟩ := rx.dk s
    cases q1 : keyD y with
    | none => rw [q1] at h; cases h
    | some k =>
      rw [q1] at h
      cases h
      have ew := keyD_H q1 ry
      refine ⟨a, _, e, ew ▸ DGet.k q, ?_⟩
      rcases RepK.look (k := k) r with ⟨x, u, l1, l2, l3⟩ | ⟨l1, l2⟩
      · rw [l1]; exact ⟨u, l2, l3⟩
      · rw [l1]; exact l2
  · rename_i kvs
    obtain ⟨a, ws, e, q, r⟩ := rx.dt s
    cases q1 : keyT y with
    | none => rw [q1] at h; cases h
    | some k =>
      rw [q1] at h
      cases h
      cases y <;> try (cases q1)
      rename_i zs
      obtain ⟨b, us, e2, q2, r2⟩ := ry.tup s
      have eu := keysD_of q1 r2
      subst eu
      subst e2
      refine ⟨a, _, e, DGet.t q q2, ?_⟩
      rcases RepT.look (k := k) r with ⟨x, u, l1, l2, l3⟩ | ⟨l1, l2⟩
      · rw [l1]; exact ⟨u, l2, l3⟩
      · rw [l1]; exact l2
  · cases h
def rInDict : R2 := fun y x H Q => ∃ a o, x = .ref a ∧ DGet H a y o ∧ Q (.bl o.isSome) H
def rNotInDict : R2 := fun y x H Q => ∃ a o, x = .ref a ∧ DGet H a y o ∧ Q (.bl (!o.isSome)) H
theorem op_inDict {X : Cx} (hu : X.A.units + 1 < cLine) : OpR X (compareOp .In) rInDict := by
  intro pins s σ H y x u v Q I ry rx h
  obtain ⟨a, o, rfl, g, q⟩ := h
  cases rx
  exact d_in hu I g ry fun s' I' => ⟨.bl o.isSome, H, I', rfl, q⟩
theorem op_notInDict {X : Cx} (hu : X.A.units + 1 < cLine) : OpR X (compareOp .NotIn) rNotInDict := by
  intro pins s σ H y x u v Q I ry rx h
  obtain ⟨a, o, rfl, g, q⟩ := h
  cases rx
  exact d_notIn hu I g ry fun s' I' => ⟨.bl (!o.isSome), H, I', rfl, q⟩
def strIn (i j : Str) : Bool := !(Builtin.Str.occurrences j i 0 j.length 1).isEmpty
def rIn4 (K : PySem.W.Frag) : R2 := fun x y H Q => ((rIn K false x y H Q ∨ rInD K x y H Q) ∨ (∃ i j, x = .str i ∧ y = .str j ∧ Q (.bl (!(Builtin.Str.occurrences j i 0 j.length 1).isEmpty)) H)) ∨ rInDict x y H Q
def rNotIn4 (K : PySem.W.Frag) : R2 := fun x y H Q => ((rIn K true x y H Q ∨ rNotInD K x y H Q) ∨ (∃ i j, x = .str i ∧ y = .str j ∧ Q (.bl (!(!(Builtin.Str.occurrences j i 0 j.length 1).isEmpty))) H)) ∨ rNotInDict x y H Q
theorem op_in4 {X : Cx} (hu : X.A.units + 65 < cLine) : OpR X (compareOp .In) (rIn4 X.K) := ((op_in_seq.or (op_inD hu)).or op_in_str).or (op_inDict (by omega))
theorem op_notIn4 {X : Cx} (hu : X.A.units + 65 < cLine) : OpR X (compareOp .NotIn) (rNotIn4 X.K) := ((op_notIn_seq.or (op_notInD hu)).or op_notin_str).or (op_notInDict (by omega))
def inSeq (x : D) (ys : List D) (deep : Bool) : Option Bool := if flatD x && ys.all flatD then some (ys.any fun y => eqF y x) else
  if deep && (okP x && okP (.lst ys)) then some (ys.any fun y => PyData.eqv (toP y) (toP x)) else none
def gIn (x y : D) : Option Bool := match y with
  | .lst ys => inSeq x ys true
  | .sl ys => inSeq x ys false
  | .tup ys => inSeq x ys false
  | .str j => match x with
    | .str i => some (strIn i j)
    | _ => none
  | _ => match dget y x with
    | some o => some o.isSome
    | none => none
def gNotIn (x y : D) : Option Bool := match gIn x y with
  | some b => some (!b)
  | none => none
theorem toPs_any (x : PyData) : ∀ ys : List D, ((toPs ys).any fun z => PyData.eqv z x) = ys.any fun y => PyData.eqv (toP y) x
  | [] => rfl
  | y :: ys => by rw [toPs, List.any_cons, List.any_cons, toPs_any x ys]
theorem o_in_aux {K : PySem.W.Frag} (neg : Bool) {r : R2}
    (h1 : ∀ x y H Q, rIn K neg x y H Q → r x y H Q)
    (h2 : ∀ x y H (Q : VK), (∃ d ds, Dp K H x d ∧ Dp K H y (.list ds) ∧ SeqAt.shaped d = true ∧ SeqAt.shaped (.list ds) = true ∧ Q (.bl (if neg then !ds.any (fun z => PyData.eqv z d) else ds.any fun z => PyData.eqv z d)) H) → r x y H Q)
    (h3 : ∀ x y H (Q : VK), (∃ i j, x = .str i ∧ y = .str j ∧ Q (.bl (if neg then !strIn i j else strIn i j)) H) → r x y H Q)
    (h4 : ∀ x y H (Q : VK), (∃ a o, y = .ref a ∧ DGet H a x o ∧ Q (.bl (if neg then !o.isSome else o.isSome)) H) → r x y H Q) :
    ∀ (F H : Hp) (x y : D) (v w : V) (b : Bool) (Q : VK), Same F H → RepH K F H x v → RepH K F H y w → gIn x y = some b → Q (.bl (if neg then !b else b)) H → r v w H Q := fun F H x y v w b Q s rx ry hg hQ => by
  have seq : ∀ (p : Addr) (us : List V) (ys : List D), (SqL K H p us ∨ SqT K H p us) → RepL K F ys us → flatD x = true → ys.all flatD = true → Q (.bl (if neg then !(ys.any fun y => eqF y x) else (ys.any fun y => eqF y x))) H → r v (.ref p) H Q := fun p us ys hp ru fx fs q => by
    refine h1 _ _ _ _ ⟨p, us, rfl, hp, by rw [rx.flat fx]; exact flatV_of fx, by rw [ru.flats fs]; exact flats_all fs, ?_⟩
    rw [rx.flat fx, ru.flats fs, inV_of fx fs]
    exact q
  unfold gIn at hg
  split at hg
  · rename_i ys
    obtain ⟨p, us, e, q, ru⟩ := ry.lst s
    unfold inSeq at hg
    split at hg
    · rename_i hf
      rw [Bool.and_eq_true] at hf
      cases hg
      rw [e]
      exact seq p us ys (.inl (SqL.of q)) ru hf.1 hf.2 hQ
    · split at hg
      · rename_i hf
        rw [Bool.true_and, Bool.and_eq_true] at hf
        cases hg
        have hd := ry.dp s (SeqAt.canLay_of_shaped hf.2)
        rw [toP] at hd
        refine h2 _ _ _ _ ⟨_, _, rx.dp s (SeqAt.canLay_of_shaped hf.1), hd, hf.1, ?_, ?_⟩
        · have := hf.2; unfold okP at this; rw [toP] at this; exact this
        · rw [toPs_any]; exact hQ
      · cases hg
  · rename_i ys
    obtain ⟨p, us, e, q, ru⟩ := ry.sl s
    unfold inSeq at hg
    split at hg
    · rename_i hf
      rw [Bool.and_eq_true] at hf
      cases hg
      rw [e]
      exact seq p us ys (.inl q) ru hf.1 hf.2 hQ
    · rw [Bool.false_and] at hg; cases hg
  · rename_i ys
    obtain ⟨p, us, e, q, ru⟩ := ry.tup s
    unfold inSeq at hg
    split at hg
    · rename_i hf
      rw [Bool.and_eq_true] at hf
      cases hg
      rw [e]
      exact seq p us ys (.inr (SqT.of q)) ru hf.1 hf.2 hQ
    · rw [Bool.false_and] at hg; cases hg
  · rename_i j
    split at hg
    · cases hg
      exact h3 _ _ _ _ ⟨_, _, rx.str, ry.str, hQ⟩
    · cases hg
  · split at hg
    · rename_i o q
      cases hg
      obtain ⟨a, o', e, g, m⟩ := dget_ok s ry rx q
      refine h4 _ _ _ _ ⟨a, o', e, g, ?_⟩
      cases o with
      | none => have m : o' = none := m; rw [m]; exact hQ
      | some d => obtain ⟨u, eu, _⟩ := m; rw [eu]; exact hQ
    · cases hg
theorem o_in {K : PySem.W.Frag} : OpB K (rIn4 K) gIn := o_in_aux false (fun _ _ _ _ h => .inl (.inl (.inl h))) (fun _ _ _ _ h => .inl (.inl (.inr h))) (fun _ _ _ _ h => .inl (.inr h)) (fun _ _ _ _ h => .inr h)
theorem o_notIn {K : PySem.W.Frag} : OpB K (rNotIn4 K) gNotIn := fun F H x y v w b Q s rx ry hg hQ => by
  unfold gNotIn at hg
  cases q : gIn x y with
  | none => rw [q] at hg; cases hg
  | some b' =>
    rw [q] at hg
    cases hg
    exact o_in_aux true (fun _ _ _ _ h => .inl (.inl (.inl h))) (fun _ _ _ _ h => .inl (.inl (.inr h))) (fun _ _ _ _ h => .inl (.inr h)) (fun _ _ _ _ h => .inr h) F H x y v w b' Q s rx ry q hQ
end L2.VE

namespace L2.VE
open PySem PySem.Spec PyProof.Rows
section
variable {X : Cx} {cm : Cm} {W : WX} {a b c e : Expr} {fa fb fc f : Ev → ER} {pos : Pos} {K : PySem.W.Frag}
/-! ### one place operations -/
def Op1 (K : PySem.W.Frag) (r : V → Hp → VK → Prop) (g : D → Option EV) : Prop :=
  ∀ (F H : Hp) (x : D) (v : V) (e : EV) (Q : VK), Same F H → RepH K F H x v → g x = some e → (∀ F' H' u, Step K F H F' H' u e → Q u H') → r v H Q
def fin1 (g : D → Option EV) (e1 : EV) (δ : Ev) : ER := match evD δ e1 with
  | some x => match g x with
    | some e => .ok e δ
    | none => .no
  | none => .no
def fOp1 (g : D → Option EV) (fa : Ev → ER) (δ : Ev) : ER := (fa δ).bind fun e1 δ1 => fin1 g e1 δ1
theorem fin1_ok {c : Cc} {T : Temps} {σ : St} {F H : Hp} {Q : VK} {r : V → Hp → VK → Prop} {g : D → Option EV} {e1 : EV} {v : V} {δ : Ev} (hg : Op1 K r g) (I : SI K c δ ((v, e1) :: T) σ F H) (h : GE K cm c W T σ Q (fin1 g e1 δ)) : r v H Q := by
  unfold fin1 at h
  cases q1 : evD δ e1 with
  | none => rw [q1] at h; exact h.elim
  | some x =>
    rw [q1] at h
    cases q3 : g x with
    | none => simp only [q3] at h; exact h.elim
    | some e =>
      simp only [q3] at h
      exact hg F H x v e Q I.fh (I.view q1) q3 fun F' H' u st => h u F' H' (I.drop.step st)
theorem tE_op1 {r : V → Hp → VK → Prop} {g : D → Option EV} (hg : Op1 K r g) : ∀ σ H Q, tE K cm W (fOp1 g fa) σ H Q → tUn r (tE K cm W fa) σ H Q := fun σ H Q ⟨c, δ, T, F, I, h⟩ =>
  goE I h fun e1 δ1 h1 v F1 H1 I1 => fin1_ok hg I1 h1
def gNeg : D → Option EV
  | .int i => some (.d (.int (-i)))
  | _ => none
theorem o_neg : Op1 K (rU fun i => .int (-i)) gNeg := fun F H x v e Q s rx hg hQ => by
  unfold gNeg at hg
  split at hg
  · cases hg; exact ⟨_, rx.int, hQ F H _ (.old rfl)⟩
  · cases hg
theorem vc_neg (ha : PE X a (tE X.K cm W fa)) : PE X (.UnaryOp .USub a pos) (tE X.K cm W (fOp1 gNeg fa)) := PE.imp (pe_un un_neg ha) (tE_op1 o_neg)
/-! ### truth -/
def truD : D → Option Bool
  | .non => some false
  | .bl b => some b
  | .int i => some (i != 0)
  | .str y => if y.length ≤ szl then some ((y.length : Int) != 0) else none
  | .lst xs => some (!xs.isEmpty)
  | .sl xs => some (!xs.isEmpty)
  | .tup xs => some (!xs.isEmpty)
  | .dk xs => some (!xs.isEmpty)
  | .dt _ => none
theorem RepL.emp {F : Hp} {xs : List D} {vs : List V} (h : RepL K F xs vs) : vs.isEmpty = xs.isEmpty := by
  cases xs with
  | nil => rw [show vs = [] from h]; rfl
  | cons x r => obtain ⟨_, _, e, _⟩ := h; rw [e]; rfl
theorem RepK.emp {F : Hp} {xs : List (Key × D)} {vs : List (Key × V)} (h : RepK K F xs vs) : vs.isEmpty = xs.isEmpty := by
  cases xs with
  | nil => rw [show vs = [] from h]; rfl
  | cons x r => obtain ⟨_, _⟩ := x; obtain ⟨_, _, e, _⟩ := h; rw [e]; rfl
theorem truD_ok {F H : Hp} {x : D} {v : V} {k : Bool} (s : Same F H) (r : RepH K F H x v) (h : truD x = some k) : TruV K v H k := by
  cases x with
  | non => cases h; rw [r.non]; exact rfl
  | bl b => cases h; rw [r.bl]; exact rfl
  | int b => cases h; rw [r.int]; exact rfl
  | str b =>
    rw [r.str]
    have h : (if b.length ≤ szl then some ((b.length : Int) != 0) else none) = some k := h
    by_cases hl : b.length ≤ szl
    · rw [if_pos hl] at h; cases h; exact ⟨by rw [szl_eq]; exact hl, rfl⟩
    · rw [if_neg hl] at h; cases h
  | lst b => cases h; obtain ⟨p, us, e, q, ru⟩ := r.lst s; rw [e, ← ru.emp]; exact .inl ⟨us, SqL.of q, rfl⟩
  | sl b => cases h; obtain ⟨p, us, e, q, ru⟩ := r.sl s; rw [e, ← ru.emp]; exact .inl ⟨us, q, rfl⟩
  | tup b => cases h; obtain ⟨p, us, e, q, ru⟩ := r.tup s; rw [e, ← ru.emp]; exact .inr (.inl ⟨us, SqT.of q, rfl⟩)
  | dk b => cases h; obtain ⟨p, us, e, q, ru⟩ := r.dk s; rw [e, ← ru.emp]; exact .inr (.inr ⟨us, q, rfl⟩)
  | dt b => cases h
def truE (e : EV) (δ : Ev) : BR := match evD δ e with
  | some x => match truD x with
    | some b => .ok b δ
    | none => .no
  | none => .no
def fTru (f : Ev → ER) (δ : Ev) : BR := (f δ).bindB truE
theorem vt_truth (ha : PE X a (tE X.K cm W f)) (he : ∀ whole, isTrue a X.env whole = (do let v ← whole; standAt a.pos; holding [v] (truthy v)) := by intro _; rfl) : PT X a (tT X.K cm W (fTru f)) :=
  PT.imp (pt_truth ha he) fun σ H Q ⟨c, δ, T, F, I, h⟩ => goEB I h fun e δ1 h1 v F1 H1 I1 => by
    unfold truE at h1
    cases q1 : evD δ1 e with
    | none => rw [q1] at h1; exact h1.elim
    | some x =>
      rw [q1] at h1
      cases q2 : truD x with
      | none => simp only [q2] at h1; exact h1.elim
      | some k => simp only [q2] at h1; exact ⟨k, truD_ok I1.fh (I1.view q1) q2, h1 F1 H1 I1.drop⟩
/-! tests made of tests -/
def fTAnd (p q : Ev → BR) (δ : Ev) : BR := (p δ).bind fun b δ1 => match b with
  | true => q δ1
  | false => .ok false δ1
def fTOr (p q : Ev → BR) (δ : Ev) : BR := (p δ).bind fun b δ1 => match b with
  | true => .ok true δ1
  | false => q δ1
def fTNot (p : Ev → BR) (δ : Ev) : BR := (p δ).bind fun b δ1 => .ok (!b) δ1
variable {p q : Ev → BR} {rest : List Expr}
theorem vw_and1 (ha : PT X a (tT X.K cm W p)) : PW X (.BoolOp .And [a] pos) (tT X.K cm W p) := pw_and1 ha
theorem vw_or1 (ha : PT X a (tT X.K cm W p)) : PW X (.BoolOp .Or [a] pos) (tT X.K cm W p) := pw_or1 ha
theorem vw_and (ha : PT X a (tT X.K cm W p)) (hb : PW X (.BoolOp .And (b :: rest) pos) (tT X.K cm W q)) : PW X (.BoolOp .And (a :: b :: rest) pos) (tT X.K cm W (fTAnd p q)) :=
  PW.imp (pw_and ha hb) fun σ H Q ⟨c, δ, T, F, I, h⟩ => goB I h fun k δ1 h1 F1 H1 I1 => by
    cases k with
    | true => rw [if_pos rfl]; exact ⟨c, δ1, T, F1, I1, h1⟩
    | false => rw [if_neg (by decide)]; exact h1 F1 H1 I1
theorem vw_or (ha : PT X a (tT X.K cm W p)) (hb : PW X (.BoolOp .Or (b :: rest) pos) (tT X.K cm W q)) : PW X (.BoolOp .Or (a :: b :: rest) pos) (tT X.K cm W (fTOr p q)) :=
  PW.imp (pw_or ha hb) fun σ H Q ⟨c, δ, T, F, I, h⟩ => goB I h fun k δ1 h1 F1 H1 I1 => by
    cases k with
    | false => rw [if_neg (by decide)]; exact ⟨c, δ1, T, F1, I1, h1⟩
    | true => rw [if_pos rfl]; exact h1 F1 H1 I1
theorem vt_not (ha : PT X a (tT X.K cm W p)) : PT X (.UnaryOp .Not a pos) (tT X.K cm W (fTNot p)) :=
  PT.imp (pt_not ha) fun σ H Q ⟨c, δ, T, F, I, h⟩ => goB I h fun k δ1 h1 F1 H1 I1 => h1 F1 H1 I1
/-! values made of tests: not a; a and b of bools -/
def fNotV (f : Ev → ER) (δ : Ev) : ER := (f δ).bind fun e δ1 => match truE e δ1 with
  | .ok b δ2 => .ok (.d (.bl (!b))) δ2
  | _ => .no
theorem vc_not (ha : PE X a (tE X.K cm W f)) : PE X (.UnaryOp .Not a pos) (tE X.K cm W (fNotV f)) :=
  PE.imp (pe_notT ha) fun σ H Q ⟨c, δ, T, F, I, h⟩ => goE I h fun e δ1 h1 v F1 H1 I1 => by
    unfold truE at h1
    cases q1 : evD δ1 e with
    | none => rw [q1] at h1; exact h1.elim
    | some x =>
      rw [q1] at h1
      cases q2 : truD x with
      | none => simp only [q2] at h1; exact h1.elim
      | some k => simp only [q2] at h1; exact ⟨k, truD_ok I1.fh (I1.view q1) q2, h1 _ F1 H1 (I1.drop.pushD rfl)⟩
/-- a and b, a or b by truth -/
def fAndV (f g : Ev → ER) (δ : Ev) : ER := (f δ).bind fun e δ1 => match truE e δ1 with
  | .ok true δ2 => g δ2
  | .ok false δ2 => .ok e δ2
  | _ => .no
def fOrV (f g : Ev → ER) (δ : Ev) : ER := (f δ).bind fun e δ1 => match truE e δ1 with
  | .ok true δ2 => .ok e δ2
  | .ok false δ2 => g δ2
  | _ => .no
theorem vc_one {op : BoolOp} (ha : PE X a (tE X.K cm W f)) : PE X (.BoolOp op [a] pos) (tE X.K cm W f) := pe_one ha
theorem vc_and (ha : PE X a (tE X.K cm W fa)) (hb : PE X (.BoolOp .And (b :: rest) pos) (tE X.K cm W fb)) : PE X (.BoolOp .And (a :: b :: rest) pos) (tE X.K cm W (fAndV fa fb)) :=
  PE.imp (pe_andT ha hb) fun σ H Q ⟨c, δ, T, F, I, h⟩ => goE I h fun e δ1 h1 v F1 H1 I1 => by
    unfold truE at h1
    cases q1 : evD δ1 e with
    | none => rw [q1] at h1; exact h1.elim
    | some x =>
      rw [q1] at h1
      cases q2 : truD x with
      | none => simp only [q2] at h1; exact h1.elim
      | some k =>
        simp only [q2] at h1
        refine ⟨k, truD_ok I1.fh (I1.view q1) q2, ?_⟩
        cases k with
        | true => rw [if_pos rfl]; exact ⟨c, δ1, T, F1, I1.drop, h1⟩
        | false => rw [if_neg (by decide)]; exact h1 v F1 H1 I1
theorem vc_or (ha : PE X a (tE X.K cm W fa)) (hb : PE X (.BoolOp .Or (b :: rest) pos) (tE X.K cm W fb)) : PE X (.BoolOp .Or (a :: b :: rest) pos) (tE X.K cm W (fOrV fa fb)) :=
  PE.imp (pe_orT ha hb) fun σ H Q ⟨c, δ, T, F, I, h⟩ => goE I h fun e δ1 h1 v F1 H1 I1 => by
    unfold truE at h1
    cases q1 : evD δ1 e with
    | none => rw [q1] at h1; exact h1.elim
    | some x =>
      rw [q1] at h1
      cases q2 : truD x with
      | none => simp only [q2] at h1; exact h1.elim
      | some k =>
        simp only [q2] at h1
        refine ⟨k, truD_ok I1.fh (I1.view q1) q2, ?_⟩
        cases k with
        | false => rw [if_neg (by decide)]; exact ⟨c, δ1, T, F1, I1.drop, h1⟩
        | true => rw [if_pos rfl]; exact h1 v F1 H1 I1
def fIfE (p : Ev → BR) (f g : Ev → ER) (δ : Ev) : ER := (p δ).bindE fun b δ1 => match b with
  | true => f δ1
  | false => g δ1
theorem vc_ifExp (hc : PT X c (tT X.K cm W p)) (ha : PE X a (tE X.K cm W fa)) (hb : PE X b (tE X.K cm W fb)) : PE X (.IfExp c a b pos) (tE X.K cm W (fIfE p fa fb)) :=
  PE.imp (pe_ifExp hc ha hb) fun σ H Q ⟨c, δ, T, F, I, h⟩ => goBE I h fun k δ1 h1 F1 H1 I1 => by
    cases k with
    | true => rw [if_pos rfl]; exact ⟨c, δ1, T, F1, I1, h1⟩
    | false => rw [if_neg (by decide)]; exact ⟨c, δ1, T, F1, I1, h1⟩
/-! ### items, slices -/
def gIx : D → D → Option EV
  | .lst xs, .int i => match atI xs i with | some x => some (.d x) | none => none
  | .sl xs, .int i => match atI xs i with | some x => some (.d x) | none => none
  | .tup xs, .int i => match atI xs i with | some x => some (.d x) | none => none
  | .str z, .int i => if z.length ≤ szl then (match atI z.cps.toList i with | some c => some (.d (.str ⟨#[c]⟩)) | none => none) else none
  | _, _ => none
theorem atI_rep {F : Hp} {xs : List D} {vs : List V} {i : Int} {x : D} (h : RepL K F xs vs) (q : atI xs i = some x) : ∃ v, atI vs i = some v ∧ Rep K F x v := by
  unfold atI at q ⊢
  rw [h.length]
  cases e : ixN xs.length i with
  | none => rw [e] at q; cases q
  | some j =>
    rw [e] at q
    exact h.get q
theorem o_ix : Op2 K (rIx K) gIx := fun F H x y v w e Q s rx ry hg hQ => by
  unfold gIx at hg
  split at hg
  · split at hg
    · rename_i q
      cases hg
      obtain ⟨p, us, e, h, r⟩ := rx.lst s
      obtain ⟨u, h1, h2⟩ := atI_rep r q
      exact .inl ⟨p, us, _, u, e, ry.int, SqL.of h, h1, hQ F H _ (.old h2)⟩
    · cases hg
  · split at hg
    · rename_i q
      cases hg
      obtain ⟨p, us, e, h, r⟩ := rx.sl s
      obtain ⟨u, h1, h2⟩ := atI_rep r q
      exact .inl ⟨p, us, _, u, e, ry.int, h, h1, hQ F H _ (.old h2)⟩
    · cases hg
  · split at hg
    · rename_i q
      cases hg
      obtain ⟨p, us, e, h, r⟩ := rx.tup s
      obtain ⟨u, h1, h2⟩ := atI_rep r q
      exact .inr (.inl ⟨p, us, _, u, e, ry.int, SqT.of h, h1, hQ F H _ (.old h2)⟩)
    · cases hg
  · split at hg
    · rename_i hl
      split at hg
      · rename_i q
        cases hg
        exact .inr (.inr ⟨_, _, _, rx.str, ry.int, by rw [szl_eq]; exact hl, q, hQ F H _ (.old rfl)⟩)
      · cases hg
    · cases hg
  · cases hg
theorem vc_ix (ha : PE X a (tE X.K cm W fa)) (hb : PE X b (tE X.K cm W fb)) (hs : PlainIx b := by exact fun _ _ => rfl) : PE X (.Subscript a b pos) (tE X.K cm W (fOp2 gIx fa fb)) := PE.imp (pe_ix ix_seq ha hb hs) (tE_op2 o_ix)
def gDix (x y : D) : Option EV := match dget x y with
  | some (some d) => some (.d d)
  | _ => none
theorem o_dix : Op2 K (fun x y H Q => ∃ a v, x = .ref a ∧ DGet H a y (some v) ∧ Q v H) gDix := fun F H x y v w e Q s rx ry hg hQ => by
  unfold gDix at hg
  split at hg
  · rename_i d q
    cases hg
    obtain ⟨a, o', ea, g, m⟩ := dget_ok s rx ry q
    obtain ⟨u, eu, r⟩ := m
    exact ⟨a, u, ea, by rw [← eu]; exact g, hQ F H _ (.old r)⟩
  · cases hg
theorem vc_dix (hu : X.A.units + 1 < cLine) (ha : PE X a (tE X.K cm W fa)) (hb : PE X b (tE X.K cm W fb)) (hs : NoSl b := by exact fun _ _ => rfl) : PE X (.Subscript a b pos) (tE X.K cm W (fOp2 gDix fa fb)) := PE.imp (pe_dget hu ha hb hs) (tE_op2 o_dix)
inductive PR where
  | ok (o : Option Int) (δ : Ev) | ex (x : XD) (δ : Ev) | no
def PR.bindE : PR → (Option Int → Ev → ER) → ER
  | .ok o δ, k => k o δ
  | .ex x δ, _ => .ex x δ
  | .no, _ => .no
def fPN (δ : Ev) : PR := .ok none δ
def fPS (f : Ev → ER) (δ : Ev) : PR := match f δ with
  | .ok (.d (.int i)) δ1 => .ok (some i) δ1
  | .ex x δ1 => .ex x δ1
  | _ => .no
def GP (K : PySem.W.Frag) (cm : Cm) (c : Cc) (W : WX) (T : Temps) (σ : St) (Q : Option Int → Hp → Prop) : PR → Prop
  | .ok o δ => ∀ F' H', SI K c δ T σ F' H' → Q o H'
  | .ex x δ => XOk K cm c W σ δ x
  | .no => False
def tO (K : PySem.W.Frag) (cm : Cm) (W : WX) (f : Ev → PR) : TO := fun σ H Q => ∃ (c : Cc) (δ : Ev) (T : Temps) (F : Hp), SI K (c.at cm) δ T σ F H ∧ GP K cm (c.at cm) W T σ Q (f δ)
theorem PO.imp {X : Cx} {e : Option Expr} {t t' : TO} (h : PO X e t) (w : ∀ σ H Q, t' σ H Q → t σ H Q) : PO X e t' := ⟨fun pins s σ H Q I q => h.run pins s σ H Q I (w σ H Q q)⟩
theorem vo_none : PO X none (tO X.K cm W fPN) := PO.imp po_none fun σ H Q ⟨c, δ, T, F, I, h⟩ => h F H I
theorem vo_some (ha : PE X a (tE X.K cm W f)) : PO X (some a) (tO X.K cm W (fPS f)) := PO.imp (po_some ha) fun σ H Q ⟨c, δ, T, F, I, h⟩ => by
  refine ⟨c, δ, T, F, I, ?_⟩
  unfold fPS at h
  cases q : f δ with
  | no => rw [q] at h; exact h.elim
  | ex x δ1 => rw [q] at h; exact h
  | ok e δ1 =>
    rw [q] at h
    cases e with
    | d x =>
      cases x <;> try exact h.elim
      exact fun v F1 H1 I1 => ⟨_, (I1.view rfl : RepH X.K F1 H1 (.int _) v).int, h F1 H1 I1.drop⟩
    | _ => exact h.elim
theorem goPE {c : Cc} {δ : Ev} {T T' : Temps} {σ : St} {F H : Hp} {f : Ev → PR} {k : Option Int → Ev → ER} {Q : Option Int → Hp → Prop} {Q0 : VK} (I : SI K (c.at cm) δ T' σ F H) (h : GE K cm (c.at cm) W T σ Q0 ((f δ).bindE k))
    (n : ∀ e δ1, GE K cm (c.at cm) W T σ Q0 (k e δ1) → ∀ F' H', SI K (c.at cm) δ1 T' σ F' H' → Q e H') : tO K cm W f σ H Q := by
  refine ⟨c, δ, T', F, I, ?_⟩
  cases e : f δ with
  | ok e1 δ1 => rw [e] at h; exact n e1 δ1 h
  | ex x δ1 => rw [e] at h; exact h
  | no => rw [e] at h; exact h
def cutD (xs : List D) (lo hi : Option Int) : List D := (xs.drop (HT.sIx xs.length 0 lo)).take (HT.sIx xs.length xs.length hi - HT.sIx xs.length 0 lo)
theorem RepL.cut {F : Hp} {xs : List D} {vs : List V} (h : RepL K F xs vs) (lo hi : Option Int) : RepL K F (cutD xs lo hi) (cutV vs lo hi) := by
  unfold cutD cutV
  rw [h.length]
  exact (h.drop _).take _
def gSl (lo hi : Option Int) : D → Option EV
  | .lst xs => some (.fr (.lst (cutD xs lo hi)))
  | .sl xs => some (.fr (.lst (cutD xs lo hi)))
  | .str z => if z.length ≤ szl then some (.d (.str (cutS z lo hi))) else none
  | .tup xs => if HT.sIx xs.length 0 lo = 0 ∧ HT.sIx xs.length xs.length hi = xs.length then none else some (.d (.tup (cutD xs lo hi)))
  | _ => none
def rSl4 (K : PySem.W.Frag) : V → Option Int → Option Int → Hp → VK → Prop := fun x lo hi H Q => (rSlL K x lo hi H Q ∨ rSlS x lo hi H Q) ∨ rSlT K x lo hi H Q
theorem o_sl {lo hi : Option Int} : Op1 K (fun v H Q => rSl4 K v lo hi H Q) (gSl lo hi) := fun F H x v e Q s rx hg hQ => by
  unfold gSl at hg
  split at hg
  · cases hg
    obtain ⟨p, us, e, h, r⟩ := rx.lst s
    exact .inl (.inl ⟨p, us, e, SqL.of h, fun p hp => hQ _ _ _ (.newM hp ⟨_, upd_same, r.cut lo hi⟩)⟩)
  · cases hg
    obtain ⟨p, us, e, h, r⟩ := rx.sl s
    exact .inl (.inl ⟨p, us, e, h, fun p hp => hQ _ _ _ (.newM hp ⟨_, upd_same, r.cut lo hi⟩)⟩)
  · split at hg
    · rename_i hl
      cases hg
      exact .inl (.inr ⟨_, rx.str, by rw [szl_eq]; exact hl, hQ F H _ (.old rfl)⟩)
    · cases hg
  · split at hg
    · cases hg
    · rename_i hl
      cases hg
      obtain ⟨p, us, e, h, r⟩ := rx.tup s
      refine .inr ⟨p, us, e, SqT.of h, by rw [r.length]; exact hl, fun p hp => hQ _ _ _ (.newF hp ?_)⟩
      exact ⟨p, _, rfl, upd_same, (r.cut lo hi).mono (same_upd (s.free hp))⟩
  · cases hg
def fSl (f : Ev → ER) (lo hi : Ev → PR) (δ : Ev) : ER := (f δ).bind fun e δ1 => (lo δ1).bindE fun l δ2 => (hi δ2).bindE fun u δ3 => fin1 (gSl l u) e δ3
theorem vc_slice {lo hi : Option Expr} {fl fh : Ev → PR} {p2 : Pos} (ha : PE X a (tE X.K cm W f)) (hl : PO X lo (tO X.K cm W fl)) (hh : PO X hi (tO X.K cm W fh)) : PE X (.Subscript a (.Slice lo hi none p2) pos) (tE X.K cm W (fSl f fl fh)) :=
  PE.imp (pe_slice (r := rSl4 X.K) ((sl_list.or sl_str).or sl_tup) ha hl hh) fun σ H Q ⟨c, δ, T, F, I, h⟩ =>
    goE I h fun e δ1 h1 v F1 H1 I1 => goPE I1 h1 fun l δ2 h2 F2 H2 I2 => goPE I2 h2 fun u δ3 h3 F3 H3 I3 => fin1_ok o_sl I3 h3
/-- xs[::-1] -/
def gRev : D → Option EV
  | .lst xs => some (.fr (.lst xs.reverse))
  | _ => none
theorem o_rev : Op1 K (fun x H Q => ∃ a xs, x = .ref a ∧ SqL K H a xs ∧ ∀ p, H p = none → Q (.ref p) (upd H p (.lst xs.reverse))) gRev := fun F H x v e Q s rx hg hQ => by
  unfold gRev at hg
  split at hg
  · cases hg
    obtain ⟨p, us, e, h, r⟩ := rx.lst s
    exact ⟨p, us, e, SqL.of h, fun p hp => hQ _ _ _ (.newM hp ⟨_, upd_same, r.reverse⟩)⟩
  · cases hg
theorem vc_rev {k : Nat} {p1 p2 p3 : Pos} (ha : PE X a (tE X.K cm W f)) : PE X (.Subscript a (.Slice none none (some (.UnaryOp .USub (.Constant (.int 1) k p1) p2)) p3) pos) (tE X.K cm W (fOp1 gRev f)) := PE.imp (pe_revL ha) (tE_op1 o_rev)
end
end L2.VE

namespace L2.VE
open PySem PySem.Spec PyProof.Rows
section
variable {X : Cx} {cm : Cm} {W : WX} {a b c e : Expr} {es : List Expr} {fa fb fc f : Ev → ER} {fs : Ev → AR} {pos : Pos} {K : PySem.W.Frag}
/-! ### freezing -/
def fzE (e : EV) (δ : Ev) : ER := match e with
  | .d x => .ok (.d x) δ
  | .fr x => .ok (.d x) δ
  | .sl i => match δ[i]? with
    | some (.ow x) => .ok (.d x) (δ.set i (.d x))
    | some (.d x) => .ok (.d x) δ
    | _ => .no
  | .jk => .no
def fFz (f : Ev → ER) (δ : Ev) : ER := (f δ).bind fzE
theorem SI.fzE {c : Cc} {T : Temps} {σ : St} {F H : Hp} {e : EV} {v : V} {δ : Ev} {Q : VK} (I : SI K c δ ((v, e) :: T) σ F H) (h : GE K cm c W T σ Q (VE.fzE e δ)) : Q v H := by
  unfold VE.fzE at h
  split at h
  · exact h v F H I
  · obtain ⟨F', _, I'⟩ := I.freezeT
    exact h v F' H I'
  · rename_i i
    split at h
    · rename_i x q
      obtain ⟨F', _, I'⟩ := I.freezeS q
      obtain ⟨O, _, b, t, _⟩ := id I'.ow
      have hl : i < δ.length := (List.getElem?_eq_some_iff.mp q).1
      obtain ⟨w, e1, r⟩ := b i (.d x) (List.getElem?_set_self hl)
      have t : σ[i]? = some (some v) := t
      rw [t] at e1; cases e1
      exact h v F' H (I'.drop.pushD r)
    · rename_i x q
      obtain ⟨O, _, b, t, _⟩ := id I.ow
      obtain ⟨w, e1, r⟩ := b i (.d x) q
      have t : σ[i]? = some (some v) := t
      rw [t] at e1; cases e1
      exact h v F H (I.drop.pushD r)
    · exact h.elim
  · exact h.elim
theorem vc_fz (ha : PE X a (tE X.K cm W f)) : PE X a (tE X.K cm W (fFz f)) := PE.imp ha fun σ H Q ⟨c, δ, T, F, I, h⟩ => goE I h fun e δ1 h1 v F1 H1 I1 => I1.fzE h1
/-! ### arguments -/
def fNil (δ : Ev) : AR := .ok [] δ
def consA (e : EV) : AR → AR
  | .ok es δ => .ok (e :: es) δ
  | .ex x δ => .ex x δ
  | .no => .no
def fCons (f : Ev → ER) (fs : Ev → AR) (δ : Ev) : AR := (f δ).bindA fun e δ1 => consA e (fs δ1)
theorem va_nil : PA X [] (tA X.K cm W fNil) := PA.imp pa_nil fun σ H Q ⟨c, δ, T, F, I, h⟩ => h [] F H rfl I
theorem va_cons (ha : PE X a (tE X.K cm W f)) (hr : PA X es (tA X.K cm W fs)) (hs : starEach (a :: es) X.env = (false, eval a X.env) :: starEach es X.env := by rfl) : PA X (a :: es) (tA X.K cm W (fCons f fs)) :=
  PA.imp (pa_cons ha hr hs) fun σ H Q ⟨c, δ, T, F, I, h⟩ => goEA I h fun e δ1 h1 v F1 H1 I1 => by
    refine ⟨c, δ1, _, F1, I1, ?_⟩
    unfold consA at h1
    cases q : fs δ1 with
    | no => rw [q] at h1; exact h1.elim
    | ex x δ2 => rw [q] at h1; exact h1
    | ok es' δ2 =>
      rw [q] at h1
      exact fun vs F2 H2 l I2 => h1 (v :: vs) F2 H2 (by rw [List.length_cons, List.length_cons, l]) I2
/-! ### displays -/
def allD : List EV → Option (List D)
  | [] => some []
  | .d x :: es => match allD es with
    | some xs => some (x :: xs)
    | none => none
  | _ :: _ => none
theorem SI.reps {c : Cc} {δ : Ev} {σ : St} {F H : Hp} : ∀ {es : List EV} {vs : List V} {xs : List D} {T : Temps}, SI K c δ (pushL vs es T) σ F H → vs.length = es.length → allD es = some xs → RepL K F xs vs
  | [], [], xs, _, _, _, h => by cases h; exact rfl
  | [], _ :: _, _, _, _, l, _ => by cases l
  | _ :: _, [], _, _, _, l, _ => by cases l
  | e :: es, v :: vs, xs, T, I, l, h => by
    have I' : SI K c δ (pushL vs es ((v, e) :: T)) σ F H := I
    cases e with
    | d x =>
      unfold allD at h
      cases q : allD es with
      | none => rw [q] at h; cases h
      | some ys =>
        rw [q] at h
        cases h
        obtain ⟨O, _, _, t, _⟩ := I'.dropL.ow
        exact ⟨v, vs, rfl, t, SI.reps I' (Nat.succ.inj l) q⟩
    | _ => cases h
def mkLst (es : List EV) (δ : Ev) : ER := match allD es with
  | some xs => if xs.length ≤ szl then .ok (.fr (.lst xs)) δ else .no
  | none => .no
def mkTup (es : List EV) (δ : Ev) : ER := match allD es with
  | some xs => if xs.length ≤ szl then .ok (.d (.tup xs)) δ else .no
  | none => .no
def fLst (fs : Ev → AR) (δ : Ev) : ER := (fs δ).bindE mkLst
def fTup (fs : Ev → AR) (δ : Ev) : ER := (fs δ).bindE mkTup
theorem vc_lst (h : PA X es (tA X.K cm W fs)) : PE X (.List es pos) (tE X.K cm W (fLst fs)) :=
  PE.imp (pe_lst h) fun σ H Q ⟨c, δ, T, F, I, h⟩ => goAE I h fun es' δ1 h1 vs F1 H1 l I1 => by
    unfold mkLst at h1
    cases q : allD es' with
    | none => rw [q] at h1; exact h1.elim
    | some xs =>
      rw [q] at h1
      by_cases hl : xs.length ≤ szl
      · simp only [if_pos hl] at h1
        have r := I1.reps l q
        exact ⟨by rw [r.length, szl_eq]; exact hl, fun p hp => h1 _ F1 _ (I1.dropL.newM hp ⟨_, upd_same, r⟩)⟩
      · simp only [if_neg hl] at h1; exact h1.elim
theorem vc_tup {x1 : Nat} (h : PA X es (tA X.K cm W fs)) : PE X (.Tuple es x1 pos) (tE X.K cm W (fTup fs)) :=
  PE.imp (pe_tup h) fun σ H Q ⟨c, δ, T, F, I, h⟩ => goAE I h fun es' δ1 h1 vs F1 H1 l I1 => by
    unfold mkTup at h1
    cases q : allD es' with
    | none => rw [q] at h1; exact h1.elim
    | some xs =>
      rw [q] at h1
      by_cases hl : xs.length ≤ szl
      · simp only [if_pos hl] at h1
        have r := I1.reps l q
        exact ⟨by rw [r.length, szl_eq]; exact hl, fun p hp => h1 _ _ _ (I1.dropL.newF hp ⟨p, _, rfl, upd_same, r.mono (same_upd (I1.fh.free hp))⟩)⟩
      · simp only [if_neg hl] at h1; exact h1.elim
def fDk (δ : Ev) : ER := .ok (.fr (.dk [])) δ
def fDt (δ : Ev) : ER := .ok (.fr (.dt [])) δ
theorem vc_dk : PE X (.Dict [] [] pos) (tE X.K cm W fDk) := PE.imp pe_dnewK fun σ H Q ⟨c, δ, T, F, I, h⟩ p hp => h _ F _ (I.newM hp ⟨[], upd_same, rfl⟩)
theorem vc_dt : PE X (.Dict [] [] pos) (tE X.K cm W fDt) := PE.imp pe_dnewT fun σ H Q ⟨c, δ, T, F, I, h⟩ p hp => h _ F _ (I.newM hp ⟨[], upd_same, rfl⟩)
/-! ### calls of built-ins -/
def Cl (K : PySem.W.Frag) (r : List V → Hp → VK → Prop) (g : List D → Option EV) : Prop :=
  ∀ (F H : Hp) (xs : List D) (vs : List V) (e : EV) (Q : VK), Same F H → RepHL K F H xs vs → g xs = some e → (∀ F' H' u, Step K F H F' H' u e → Q u H') → r vs H Q
def finL (g : List D → Option EV) (es : List EV) (δ : Ev) : ER := match evDs δ es with
  | some xs => match g xs with
    | some e => .ok e δ
    | none => .no
  | none => .no
def fCallB (g : List D → Option EV) (fs : Ev → AR) (δ : Ev) : ER := (fs δ).bindE (finL g)
theorem tE_callB {r : List V → Hp → VK → Prop} {g : List D → Option EV} (hg : Cl K r g) : ∀ σ H Q, tE K cm W (fCallB g fs) σ H Q → tCB r (tA K cm W fs) σ H Q := fun σ H Q ⟨c, δ, T, F, I, h⟩ =>
  goAE I h fun es δ1 h1 vs F1 H1 l I1 => by
    unfold finL at h1
    cases q : evDs δ1 es with
    | none => rw [q] at h1; exact h1.elim
    | some xs =>
      rw [q] at h1
      cases q2 : g xs with
      | none => simp only [q2] at h1; exact h1.elim
      | some e =>
        simp only [q2] at h1
        exact hg F1 H1 xs vs e Q I1.fh (I1.views l q) q2 fun F' H' u st => h1 u F' H' (I1.dropL.step st)
theorem vc_callB {x : Str} {p : Pos} {id : String} {r : List V → Hp → VK → Prop} {g : List D → Option EV} (hc : CallR X (.builtin id) r) (hg : Cl X.K r g) (hm : X.mg x = none) (hv : bootBuiltins x = some (.builtin id)) (ha : PA X (e :: es) (tA X.K cm W fs))
    (hgl : Gl X x := by rfl) (hn : x ≠ "__name__" := by decide) (hdb : (x == ("__debug__" : Str)) = false := by decide)
    (he : starEach (e :: es) X.env = (false, eval e X.env) :: starEach es X.env := by rfl) (hpl : (backTo pos (starEach es X.env)).any (·.1) = false := by rfl) : PE X (.Call (.Name x p) (e :: es) [] pos) (tE X.K cm W (fCallB g fs)) :=
  PE.imp (pe_callB hc hgl hm hv ha hn hdb he hpl) (tE_callB hg)
theorem vc_callT {x : Str} {p : Pos} {T : String} {r : List V → Hp → VK → Prop} {g : List D → Option EV} (hc : CallR X (.type T) r) (hg : Cl X.K r g) (hm : X.mg x = none) (hv : bootBuiltins x = some (.type T)) (ha : PA X (e :: es) (tA X.K cm W fs))
    (hgl : Gl X x := by rfl) (hn : x ≠ "__name__" := by decide) (hdb : (x == ("__debug__" : Str)) = false := by decide)
    (he : starEach (e :: es) X.env = (false, eval e X.env) :: starEach es X.env := by rfl) (hpl : (backTo pos (starEach es X.env)).any (·.1) = false := by rfl) : PE X (.Call (.Name x p) (e :: es) [] pos) (tE X.K cm W (fCallB g fs)) :=
  PE.imp (pe_callTy hc hgl hm hv ha hn hdb he hpl) (tE_callB hg)
theorem RepHL.one {F H : Hp} {x : D} {vs : List V} (h : RepHL K F H [x] vs) : ∃ v, vs = [v] ∧ RepH K F H x v := by
  obtain ⟨v, r, e, h1, h2⟩ := h
  rw [show r = [] from h2] at e
  exact ⟨v, e, h1⟩
theorem RepHL.two {F H : Hp} {x y : D} {vs : List V} (h : RepHL K F H [x, y] vs) : ∃ v w, vs = [v, w] ∧ RepH K F H x v ∧ RepH K F H y w := by
  obtain ⟨v, r, e, h1, h2⟩ := h
  obtain ⟨w, e2, h3⟩ := h2.one
  exact ⟨v, w, by rw [e, e2], h1, h3⟩
/-! lists of one kind -/
def intsD : List D → Option (List Int)
  | [] => some []
  | .int i :: r => match intsD r with
    | some ns => some (i :: ns)
    | none => none
  | _ => none
theorem intsD_eq : ∀ {xs : List D} {ns : List Int}, intsD xs = some ns → xs = ns.map D.int
  | [], ns, h => by cases h; rfl
  | x :: xs, ns, h => by
    cases x <;> try (cases h)
    unfold intsD at h
    cases q : intsD xs with
    | none => rw [q] at h; cases h
    | some ms => rw [q] at h; cases h; rw [intsD_eq q]; rfl
theorem intsD_map : ∀ ns : List Int, intsD (ns.map D.int) = some ns
  | [] => rfl
  | n :: ns => by rw [List.map_cons, intsD, intsD_map ns]
def strsD : List D → Option (List Str)
  | [] => some []
  | .str i :: r => match strsD r with
    | some ns => some (i :: ns)
    | none => none
  | _ => none
theorem strsD_eq : ∀ {xs : List D} {ns : List Str}, strsD xs = some ns → xs = ns.map D.str
  | [], ns, h => by cases h; rfl
  | x :: xs, ns, h => by
    cases x <;> try (cases h)
    unfold strsD at h
    cases q : strsD xs with
    | none => rw [q] at h; cases h
    | some ms => rw [q] at h; cases h; rw [strsD_eq q]; rfl
theorem strsD_map : ∀ ns : List Str, strsD (ns.map D.str) = some ns
  | [] => rfl
  | n :: ns => by rw [List.map_cons, strsD, strsD_map ns]
def blsD : List D → Option (List Bool)
  | [] => some []
  | .bl i :: r => match blsD r with
    | some ns => some (i :: ns)
    | none => none
  | _ => none
theorem blsD_eq : ∀ {xs : List D} {ns : List Bool}, blsD xs = some ns → xs = ns.map D.bl
  | [], ns, h => by cases h; rfl
  | x :: xs, ns, h => by
    cases x <;> try (cases h)
    unfold blsD at h
    cases q : blsD xs with
    | none => rw [q] at h; cases h
    | some ms => rw [q] at h; cases h; rw [blsD_eq q]; rfl
theorem blsD_map : ∀ ns : List Bool, blsD (ns.map D.bl) = some ns
  | [] => rfl
  | n :: ns => by rw [List.map_cons, blsD, blsD_map ns]
/-- any list or tuple -/
def seqD : D → Option (List D)
  | .lst xs => some xs
  | .sl xs => some xs
  | .tup xs => some xs
  | _ => none
theorem seqD_ok {F H : Hp} {x : D} {xs : List D} {v : V} (s : Same F H) (h : seqD x = some xs) (r : RepH K F H x v) : ∃ p us, v = .ref p ∧ (SqL K H p us ∨ SqT K H p us) ∧ RepL K F xs us := by
  cases x <;> cases h
  · obtain ⟨p, us, e, q, ru⟩ := r.lst s; exact ⟨p, us, e, .inl (SqL.of q), ru⟩
  · obtain ⟨p, us, e, q, ru⟩ := r.tup s; exact ⟨p, us, e, .inr (SqT.of q), ru⟩
  · obtain ⟨p, us, e, q, ru⟩ := r.sl s; exact ⟨p, us, e, .inl q, ru⟩
def lsD : D → Option (List D)
  | .lst xs => some xs
  | .sl xs => some xs
  | _ => none
theorem lsD_ok {F H : Hp} {x : D} {xs : List D} {v : V} (s : Same F H) (h : lsD x = some xs) (r : RepH K F H x v) : ∃ p us, v = .ref p ∧ SqL K H p us ∧ RepL K F xs us := by
  cases x <;> cases h
  · obtain ⟨p, us, e, q, ru⟩ := r.lst s; exact ⟨p, us, e, SqL.of q, ru⟩
  · obtain ⟨p, us, e, q, ru⟩ := r.sl s; exact ⟨p, us, e, q, ru⟩
def lsI (x : D) : Option (List Int) := match lsD x with
  | some xs => intsD xs
  | none => none
theorem lsI_ok {F H : Hp} {x : D} {ns : List Int} {v : V} (s : Same F H) (h : lsI x = some ns) (r : RepH K F H x v) : ∃ p, v = .ref p ∧ SqL K H p (ns.map V.int) := by
  unfold lsI at h
  cases q : lsD x with
  | none => rw [q] at h; cases h
  | some xs =>
    rw [q] at h
    obtain ⟨p, us, e, h1, ru⟩ := lsD_ok s q r
    rw [intsD_eq h] at ru
    rw [ru.ints] at h1
    exact ⟨p, e, h1⟩
def lsS (x : D) : Option (List Str) := match lsD x with
  | some xs => strsD xs
  | none => none
theorem lsS_ok {F H : Hp} {x : D} {ns : List Str} {v : V} (s : Same F H) (h : lsS x = some ns) (r : RepH K F H x v) : ∃ p, v = .ref p ∧ SqL K H p (ns.map V.str) := by
  unfold lsS at h
  cases q : lsD x with
  | none => rw [q] at h; cases h
  | some xs =>
    rw [q] at h
    obtain ⟨p, us, e, h1, ru⟩ := lsD_ok s q r
    rw [strsD_eq h] at ru
    rw [ru.strs] at h1
    exact ⟨p, e, h1⟩
def lsB (x : D) : Option (List Bool) := match lsD x with
  | some xs => blsD xs
  | none => none
theorem lsB_ok {F H : Hp} {x : D} {ns : List Bool} {v : V} (s : Same F H) (h : lsB x = some ns) (r : RepH K F H x v) : ∃ p, v = .ref p ∧ SqL K H p (ns.map V.bl) := by
  unfold lsB at h
  cases q : lsD x with
  | none => rw [q] at h; cases h
  | some xs =>
    rw [q] at h
    obtain ⟨p, us, e, h1, ru⟩ := lsD_ok s q r
    rw [blsD_eq h] at ru
    rw [ru.bls] at h1
    exact ⟨p, e, h1⟩
/-! len -/
def lenD : D → Option Nat
  | .str y => if y.length ≤ szl then some y.length else none
  | .lst xs => some xs.length
  | .sl xs => some xs.length
  | .tup xs => some xs.length
  | .dk xs => some xs.length
  | _ => none
def gLen : List D → Option EV
  | [x] => match lenD x with
    | some n => some (.d (.int (n : Nat)))
    | none => none
  | _ => none
theorem RepK.length {F : Hp} : ∀ {ds : List (Key × D)} {vs : List (Key × V)}, RepK K F ds vs → vs.length = ds.length
  | [], _, h => by rw [show _ = [] from h]; rfl
  | (k, d) :: ds, _, ⟨v, r, e, _, h2⟩ => by rw [e, List.length_cons, List.length_cons, RepK.length h2]
theorem o_len : Cl K (fun xs H Q => (∃ x n, xs = [x] ∧ LenV K x H n ∧ Q (.int n) H) ∨ (∃ a kvs, xs = [V.ref a] ∧ H a = some (.dK kvs) ∧ Q (.int kvs.length) H)) gLen := fun F H xs vs e Q s r hg hQ => by
  unfold gLen at hg
  split at hg
  · rename_i x
    obtain ⟨v, rfl, rv⟩ := r.one
    split at hg
    · rename_i n q
      cases hg
      have hq := hQ F H _ (.old (v := .int (n : Nat)) rfl)
      cases x with
      | str y =>
        have q : (if y.length ≤ szl then some y.length else none) = some n := q
        by_cases hl : y.length ≤ szl
        · rw [if_pos hl] at q; cases q
          exact .inl ⟨_, _, rfl, by rw [rv.str]; exact ⟨by rw [szl_eq]; exact hl, rfl⟩, hq⟩
        · rw [if_neg hl] at q; cases q
      | lst ys => cases q; obtain ⟨p, us, e, h, ru⟩ := rv.lst s; exact .inl ⟨_, _, rfl, by rw [e]; exact .inl ⟨us, SqL.of h, ru.length.symm⟩, hq⟩
      | sl ys => cases q; obtain ⟨p, us, e, h, ru⟩ := rv.sl s; exact .inl ⟨_, _, rfl, by rw [e]; exact .inl ⟨us, h, ru.length.symm⟩, hq⟩
      | tup ys => cases q; obtain ⟨p, us, e, h, ru⟩ := rv.tup s; exact .inl ⟨_, _, rfl, by rw [e]; exact .inr ⟨us, SqT.of h, ru.length.symm⟩, hq⟩
      | dk ys => cases q; obtain ⟨p, us, e, h, ru⟩ := rv.dk s; exact .inr ⟨p, us, by rw [e], h, by rw [ru.length]; exact hq⟩
      | _ => cases q
    · cases hg
  · cases hg
theorem cr_len4 : CallR X (.builtin "len") (fun xs H Q => (∃ x n, xs = [x] ∧ LenV X.K x H n ∧ Q (.int n) H) ∨ (∃ a kvs, xs = [V.ref a] ∧ H a = some (.dK kvs) ∧ Q (.int kvs.length) H)) := CallR.or call_len call_lenD
/-! abs, int, sum -/
def gAbs : List D → Option EV
  | [.int i] => some (.d (.int (if i < 0 then -i else i)))
  | _ => none
theorem o_abs : Cl K (fun xs H Q => ∃ i, xs = [.int i] ∧ Q (.int (if i < 0 then -i else i)) H) gAbs := fun F H xs vs e Q s r hg hQ => by
  unfold gAbs at hg
  split at hg
  · cases hg; obtain ⟨v, rfl, rv⟩ := r.one; exact ⟨_, by rw [rv.int], hQ F H _ (.old rfl)⟩
  · cases hg
def gInt : List D → Option EV
  | [.int i] => some (.d (.int i))
  | [.bl k] => some (.d (.int (if k then 1 else 0)))
  | _ => none
theorem o_int : Cl K (fun xs H Q => (∃ i, xs = [.int i] ∧ Q (.int i) H) ∨ ∃ k, xs = [.bl k] ∧ Q (.int (if k then 1 else 0)) H) gInt := fun F H xs vs e Q s r hg hQ => by
  unfold gInt at hg
  split at hg
  · cases hg; obtain ⟨v, rfl, rv⟩ := r.one; exact .inl ⟨_, by rw [rv.int], hQ F H _ (.old rfl)⟩
  · cases hg; obtain ⟨v, rfl, rv⟩ := r.one; exact .inr ⟨_, by rw [rv.bl], hQ F H _ (.old rfl)⟩
  · cases hg
def gSum : List D → Option EV
  | [x] => match lsI x with
    | some ns => some (.d (.int ns.sum))
    | none => none
  | _ => none
theorem o_sum : Cl K (rSum K) gSum := fun F H xs vs e Q s r hg hQ => by
  unfold gSum at hg
  split at hg
  · obtain ⟨v, rfl, rv⟩ := r.one
    split at hg
    · rename_i q; cases hg; obtain ⟨p, e, h⟩ := lsI_ok s q rv; exact ⟨p, _, by rw [e], h, hQ F H _ (.old rfl)⟩
    · cases hg
  · cases hg
def gAll : List D → Option EV
  | [x] => match lsB x with
    | some ns => some (.d (.bl (ns.all id)))
    | none => none
  | _ => none
theorem o_all : Cl K (rAll K) gAll := fun F H xs vs e Q s r hg hQ => by
  unfold gAll at hg
  split at hg
  · obtain ⟨v, rfl, rv⟩ := r.one
    split at hg
    · rename_i q; cases hg; obtain ⟨p, e, h⟩ := lsB_ok s q rv; exact ⟨p, _, by rw [e], h, hQ F H _ (.old rfl)⟩
    · cases hg
  · cases hg
def gAny : List D → Option EV
  | [x] => match lsB x with
    | some ns => some (.d (.bl (ns.any id)))
    | none => none
  | _ => none
theorem o_any : Cl K (rAny K) gAny := fun F H xs vs e Q s r hg hQ => by
  unfold gAny at hg
  split at hg
  · obtain ⟨v, rfl, rv⟩ := r.one
    split at hg
    · rename_i q; cases hg; obtain ⟨p, e, h⟩ := lsB_ok s q rv; exact ⟨p, _, by rw [e], h, hQ F H _ (.old rfl)⟩
    · cases hg
  · cases hg
/-! min, max -/
def lmin : Int → List Int → Int
  | m, [] => m
  | m, y :: r => lmin (if y < m then y else m) r
def lmax : Int → List Int → Int
  | m, [] => m
  | m, y :: r => lmax (if m < y then y else m) r
theorem lmin_le : ∀ (r : List Int) (m : Int), lmin m r ≤ m ∧ (∀ y ∈ r, lmin m r ≤ y) ∧ (lmin m r = m ∨ lmin m r ∈ r)
  | [], m => ⟨Int.le_refl _, fun _ h => by simp at h, .inl rfl⟩
  | y :: r, m => by
    obtain ⟨h1, h2, h3⟩ := lmin_le r (if y < m then y else m)
    unfold lmin
    by_cases c : y < m
    · rw [if_pos c] at h1 h2 h3 ⊢
      refine ⟨by omega, fun z hz => ?_, .inr ?_⟩
      · rcases List.mem_cons.mp hz with e | e
        · rw [e]; exact h1
        · exact h2 z e
      · rcases h3 with e | e
        · rw [e]; exact List.mem_cons_self
        · exact List.mem_cons_of_mem _ e
    · rw [if_neg c] at h1 h2 h3 ⊢
      refine ⟨h1, fun z hz => ?_, ?_⟩
      · rcases List.mem_cons.mp hz with e | e
        · rw [e]; omega
        · exact h2 z e
      · rcases h3 with e | e
        · exact .inl e
        · exact .inr (List.mem_cons_of_mem _ e)
theorem lmax_ge : ∀ (r : List Int) (m : Int), m ≤ lmax m r ∧ (∀ y ∈ r, y ≤ lmax m r) ∧ (lmax m r = m ∨ lmax m r ∈ r)
  | [], m => ⟨Int.le_refl _, fun _ h => by simp at h, .inl rfl⟩
  | y :: r, m => by
    obtain ⟨h1, h2, h3⟩ := lmax_ge r (if m < y then y else m)
    unfold lmax
    by_cases c : m < y
    · rw [if_pos c] at h1 h2 h3 ⊢
      refine ⟨by omega, fun z hz => ?_, .inr ?_⟩
      · rcases List.mem_cons.mp hz with e | e
        · rw [e]; exact h1
        · exact h2 z e
      · rcases h3 with e | e
        · rw [e]; exact List.mem_cons_self
        · exact List.mem_cons_of_mem _ e
    · rw [if_neg c] at h1 h2 h3 ⊢
      refine ⟨h1, fun z hz => ?_, ?_⟩
      · rcases List.mem_cons.mp hz with e | e
        · rw [e]; omega
        · exact h2 z e
      · rcases h3 with e | e
        · exact .inl e
        · exact .inr (List.mem_cons_of_mem _ e)
def gMin : List D → Option EV
  | [.int i, .int j] => some (.d (.int (if j < i then j else i)))
  | [x] => match lsI x with
    | some (n :: ns) => some (.d (.int (lmin n ns)))
    | _ => none
  | _ => none
def gMax : List D → Option EV
  | [.int i, .int j] => some (.d (.int (if j > i then j else i)))
  | [x] => match lsI x with
    | some (n :: ns) => some (.d (.int (lmax n ns)))
    | _ => none
  | _ => none
theorem o_min : Cl K (fun xs H Q => (∃ i j, xs = [.int i, .int j] ∧ Q (.int (if j < i then j else i)) H) ∨ rMin K xs H Q) gMin := fun F H xs vs e Q s r hg hQ => by
  unfold gMin at hg
  split at hg
  · cases hg; obtain ⟨v, w, rfl, rv, rw'⟩ := r.two; exact .inl ⟨_, _, by rw [rv.int, rw'.int], hQ F H _ (.old rfl)⟩
  · obtain ⟨v, rfl, rv⟩ := r.one
    split at hg
    · rename_i n ns q
      cases hg
      obtain ⟨p, e, h⟩ := lsI_ok s q rv
      refine .inr ⟨p, _, by rw [e], h, Nat.succ_pos _, fun m hm hl => ?_⟩
      obtain ⟨h1, h2, h3⟩ := lmin_le ns n
      have e1 : m = lmin n ns := by
        have a1 : m ≤ lmin n ns := by
          rcases h3 with z | z
          · rw [z]; exact hl n List.mem_cons_self
          · exact hl _ (List.mem_cons_of_mem _ z)
        have a2 : lmin n ns ≤ m := by
          rcases List.mem_cons.mp hm with z | z
          · rw [z]; exact h1
          · exact h2 _ z
        omega
      rw [e1]
      exact hQ F H _ (.old rfl)
    · cases hg
  · cases hg
theorem o_max : Cl K (fun xs H Q => (∃ i j, xs = [.int i, .int j] ∧ Q (.int (if j > i then j else i)) H) ∨ rMax K xs H Q) gMax := fun F H xs vs e Q s r hg hQ => by
  unfold gMax at hg
  split at hg
  · cases hg; obtain ⟨v, w, rfl, rv, rw'⟩ := r.two; exact .inl ⟨_, _, by rw [rv.int, rw'.int], hQ F H _ (.old rfl)⟩
  · obtain ⟨v, rfl, rv⟩ := r.one
    split at hg
    · rename_i n ns q
      cases hg
      obtain ⟨p, e, h⟩ := lsI_ok s q rv
      refine .inr ⟨p, _, by rw [e], h, Nat.succ_pos _, fun m hm hl => ?_⟩
      obtain ⟨h1, h2, h3⟩ := lmax_ge ns n
      have e1 : m = lmax n ns := by
        have a1 : lmax n ns ≤ m := by
          rcases h3 with z | z
          · rw [z]; exact hl n List.mem_cons_self
          · exact hl _ (List.mem_cons_of_mem _ z)
        have a2 : m ≤ lmax n ns := by
          rcases List.mem_cons.mp hm with z | z
          · rw [z]; exact h1
          · exact h2 _ z
        omega
      rw [e1]
      exact hQ F H _ (.old rfl)
    · cases hg
  · cases hg
theorem cr_min4 (hc : X.calm = true) : CallR X (.builtin "min") (fun xs H Q => (∃ i j, xs = [.int i, .int j] ∧ Q (.int (if j < i then j else i)) H) ∨ rMin X.K xs H Q) := (call_min2 hc).or (cr_min hc)
theorem cr_max4 (hc : X.calm = true) : CallR X (.builtin "max") (fun xs H Q => (∃ i j, xs = [.int i, .int j] ∧ Q (.int (if j > i then j else i)) H) ∨ rMax X.K xs H Q) := (call_max2 hc).or (cr_max hc)
/-! list, tuple -/
def gList : List D → Option EV
  | [x] => match seqD x with
    | some xs => some (.fr (.lst xs))
    | none => none
  | _ => none
theorem o_list : Cl K (fun xs H Q => ∃ p ys, xs = [.ref p] ∧ (SqL K H p ys ∨ SqT K H p ys) ∧ ∀ l, H l = none → Q (.ref l) (upd H l (.lst ys))) gList := fun F H xs vs e Q s r hg hQ => by
  unfold gList at hg
  split at hg
  · obtain ⟨v, rfl, rv⟩ := r.one
    split at hg
    · rename_i q; cases hg; obtain ⟨p, us, e, h, ru⟩ := seqD_ok s q rv; exact ⟨p, us, by rw [e], h, fun l hl => hQ _ _ _ (.newM hl ⟨_, upd_same, ru⟩)⟩
    · cases hg
  · cases hg
def gTuple : List D → Option EV
  | [x] => match seqD x with
    | some xs => some (.d (.tup xs))
    | none => none
  | _ => none
theorem o_tuple_aux {F H : Hp} {x : D} {xs : List D} {v : V} {Q : VK} (s : Same F H) (rv : RepH K F H x v) (q : seqD x = some xs) (hQ : ∀ F' H' u, Step K F H F' H' u (.d (.tup xs)) → Q u H') :
    ∃ p ys, [v] = [.ref p] ∧ ((SqL K H p ys ∧ ∀ l, H l = none → Q (.ref l) (upd H l (.tup ys))) ∨ (SqT K H p ys ∧ Q (.ref p) H)) := by
  have new : ∀ (us : List V), RepL K F xs us → ∀ l, H l = none → Q (.ref l) (upd H l (.tup us)) := fun us ru l hl => hQ _ _ _ (.newF hl ⟨l, us, rfl, upd_same, ru.mono (same_upd (s.free hl))⟩)
  cases x <;> cases q
  · obtain ⟨p, us, e, h, ru⟩ := rv.lst s; exact ⟨p, us, by rw [e], .inl ⟨SqL.of h, new us ru⟩⟩
  · obtain ⟨p, us, e, h, ru⟩ := rv.tup s
    refine ⟨p, us, by rw [e], .inr ⟨SqT.of h, ?_⟩⟩
    rcases rv with rv | ⟨a', _, z⟩
    · rw [← e]; exact hQ F H _ (.old rv)
    · exact z.elim
  · obtain ⟨p, us, e, h, ru⟩ := rv.sl s; exact ⟨p, us, by rw [e], .inl ⟨h, new us ru⟩⟩
theorem o_tuple : Cl K (fun xs H Q => ∃ p ys, xs = [.ref p] ∧ ((SqL K H p ys ∧ ∀ l, H l = none → Q (.ref l) (upd H l (.tup ys))) ∨ (SqT K H p ys ∧ Q (.ref p) H))) gTuple := fun F H xs vs e Q s r hg hQ => by
  unfold gTuple at hg
  split at hg
  · obtain ⟨v, rfl, rv⟩ := r.one
    split at hg
    · rename_i q
      cases hg
      exact o_tuple_aux s rv q hQ
    · cases hg
  · cases hg
/-! sorted, of ints -/
def ins (x : Int) : List Int → List Int
  | [] => [x]
  | y :: r => if x ≤ y then x :: y :: r else y :: ins x r
def isort : List Int → List Int
  | [] => []
  | x :: r => ins x (isort r)
theorem ins_perm (x : Int) : ∀ l : List Int, (ins x l).Perm (x :: l)
  | [] => .refl _
  | y :: r => by
    unfold ins
    split
    · exact .refl _
    · exact ((ins_perm x r).cons y).trans (.swap x y r)
theorem isort_perm : ∀ l : List Int, (isort l).Perm l
  | [] => .refl _
  | x :: r => (ins_perm x (isort r)).trans ((isort_perm r).cons x)
theorem ins_sorted (x : Int) : ∀ l : List Int, l.Pairwise (· ≤ ·) → (ins x l).Pairwise (· ≤ ·)
  | [], _ => by simp [ins]
  | y :: r, h => by
    obtain ⟨h1, h2⟩ := List.pairwise_cons.mp h
    unfold ins
    split
    · rename_i c
      exact List.pairwise_cons.mpr ⟨fun z hz => by
        rcases List.mem_cons.mp hz with e | e
        · rw [e]; exact c
        · exact Int.le_trans c (h1 z e), h⟩
    · rename_i c
      refine List.pairwise_cons.mpr ⟨fun z hz => ?_, ins_sorted x r h2⟩
      rcases List.mem_cons.mp ((ins_perm x r).mem_iff.mp hz) with e | e
      · rw [e]; omega
      · exact h1 z e
theorem isort_sorted : ∀ l : List Int, (isort l).Pairwise (· ≤ ·)
  | [] => .nil
  | x :: r => ins_sorted x _ (isort_sorted r)
theorem sorted_same : ∀ {l m : List Int}, l.Perm m → l.Pairwise (· ≤ ·) → m.Pairwise (· ≤ ·) → l = m
  | [], m, p, _, _ => (List.nil_perm.mp p).symm
  | x :: l, [], p, _, _ => by have := p.length_eq; simp at this
  | x :: l, y :: m, p, h1, h2 => by
    obtain ⟨a1, a2⟩ := List.pairwise_cons.mp h1
    obtain ⟨b1, b2⟩ := List.pairwise_cons.mp h2
    have e : x = y := by
      have hx : x ∈ y :: m := p.mem_iff.mp List.mem_cons_self
      have hy : y ∈ x :: l := p.mem_iff.mpr List.mem_cons_self
      rcases List.mem_cons.mp hx with e | e
      · exact e
      · rcases List.mem_cons.mp hy with e' | e'
        · exact e'.symm
        · have := b1 x e; have := a1 y e'; omega
    subst e
    rw [sorted_same (List.Perm.cons_inv p) a2 b2]
def gSorted : List D → Option EV
  | [x] => match lsI x with
    | some ns => some (.fr (.lst ((isort ns).map D.int)))
    | none => none
  | _ => none
theorem o_sorted : Cl K (rSortedI K) gSorted := fun F H xs vs e Q s r hg hQ => by
  unfold gSorted at hg
  split at hg
  · obtain ⟨v, rfl, rv⟩ := r.one
    split at hg
    · rename_i ns q
      cases hg
      obtain ⟨p, e, h⟩ := lsI_ok s q rv
      refine ⟨p, _, by rw [e], h, fun ns' l h1 h2 hl => ?_⟩
      have e2 : ns' = isort ns := sorted_same (h1.trans (isort_perm ns).symm) h2 (isort_sorted ns)
      rw [e2]
      exact hQ _ _ _ (.newM hl ⟨_, upd_same, RepL.of_ints _⟩)
    · cases hg
  · cases hg
end
end L2.VE

namespace L2.VE
open PySem PySem.Spec PyProof.Rows
section
variable {X : Cx} {cm : Cm} {W : WX} {a b e : Expr} {es : List Expr} {fa fb fc f : Ev → ER} {fs : Ev → AR} {p : Ev → BR} {pos : Pos} {K : PySem.W.Frag} {st : Stmt} {rest : List Stmt} {s1 s2 : Ev → SR}
/-! ### what is stored -/
/-- an alias is frozen, what is new stays one's own -/
def unE (e : EV) (δ : Ev) : ER := match e with
  | .fr x => .ok (.fr x) δ
  | e => fzE e δ
def fUn (f : Ev → ER) (δ : Ev) : ER := (f δ).bind unE
def slotE : EV → Slot
  | .d x => .d x
  | .fr x => .ow x
  | _ => .un
def setE (i : Nat) (e : EV) (δ : Ev) : SR := match e with
  | .d x => .nx (δ.set i (.d x))
  | .fr x => .nx (δ.set i (.ow x))
  | _ => .no
def fSet (i : Nat) (f : Ev → ER) (δ : Ev) : SR := (f δ).bindS fun e δ1 => (unE e δ1).bindS (setE i)
theorem SI.unE {c : Cc} {T : Temps} {σ : St} {F H : Hp} {e : EV} {v : V} {δ : Ev} {D : Ends} {k : EV → Ev → SR} {G : Prop} (I : SI K c δ ((v, e) :: T) σ F H) (h : GS K cm c W D ((VE.unE e δ).bindS k))
    (n : ∀ e' δ' F', (∀ i, e' ≠ .sl i) → SI K c δ' ((v, e') :: T) σ F' H → GS K cm c W D (k e' δ') → G) : G := by
  have fz : ∀ (e0 : EV), (∀ x, e0 ≠ .fr x) → SI K c δ ((v, e0) :: T) σ F H → GS K cm c W D ((VE.fzE e0 δ).bindS k) → G := fun e0 ne I h => by
    unfold VE.fzE at h
    split at h
    · exact n _ δ F (fun _ z => EV.noConfusion z) I h
    · exact absurd rfl (ne _)
    · rename_i i
      split at h
      · rename_i x q
        obtain ⟨F', _, I'⟩ := I.freezeS q
        obtain ⟨O, _, b, t, _⟩ := id I'.ow
        have hl : i < δ.length := (List.getElem?_eq_some_iff.mp q).1
        obtain ⟨w, e1, r⟩ := b i (.d x) (List.getElem?_set_self hl)
        have t : σ[i]? = some (some v) := t
        rw [t] at e1; cases e1
        exact n _ _ F' (fun _ z => EV.noConfusion z) (I'.drop.pushD r) h
      · rename_i x q
        obtain ⟨O, _, b, t, _⟩ := id I.ow
        obtain ⟨w, e1, r⟩ := b i (.d x) q
        have t : σ[i]? = some (some v) := t
        rw [t] at e1; cases e1
        exact n _ _ F (fun _ z => EV.noConfusion z) (I.drop.pushD r) h
      · exact h.elim
    · exact h.elim
  cases e with
  | fr x => exact n (.fr x) δ F (fun _ z => EV.noConfusion z) I h
  | d x => exact fz _ (fun _ z => EV.noConfusion z) I h
  | sl i => exact fz _ (fun _ z => EV.noConfusion z) I h
  | jk => exact fz _ (fun _ z => EV.noConfusion z) I h
theorem vs_set {i : Nat} {x : Str} {pos' : Pos} (hN : X.N.Nodup) (hi : X.N[i]? = some x) (hx : Loc X.env.scope x) (he : PE X e (tE X.K cm W f)) (hs : swapsWith e (some (.Name x pos')) pos.line X.env = pure false := by rfl) (hf : X.fn x = true ∨ X.env.scope.names.lookup x = some .local := by first | exact .inl rfl | exact .inr rfl) :
    PS X (.Assign [.Name x pos'] e pos) (tS X.K cm W (fSet i f)) :=
  PS.imp (ps_set hN hi hx he hs hf) fun D σ H ⟨c, δ, F, I, h⟩ => goES I h fun e1 δ1 h1 v F1 H1 I1 => I1.unE h1 fun e' δ' F' _ I' h' => by
    unfold setE at h'
    split at h'
    · exact h' _ F' H1 (SI.setD True.intro I'.drop (by obtain ⟨O, _, _, t, _⟩ := I'.ow; exact t))
    · exact h' _ F' H1 (SI.setOw True.intro I')
    · exact h'.elim
/-! ### statements -/
def fSeq (s1 s2 : Ev → SR) (δ : Ev) : SR := match s1 δ with
  | .nx δ1 => s2 δ1
  | .rt e δ1 => .rt e δ1
  | .bk δ1 => .bk δ1
  | .ct δ1 => .ct δ1
  | .ex x δ1 => .ex x δ1
  | .no => .no
def fNext (δ : Ev) : SR := .nx δ
theorem vss_nil : PSs X [] (tS X.K cm W fNext) := PSs.imp pss_nil fun D σ H ⟨c, δ, F, I, h⟩ => h σ F H I
theorem vss_cons (h1 : PS X st (tS X.K cm W s1)) (h2 : PSs X rest (tS X.K cm W s2)) : PSs X (st :: rest) (tS X.K cm W (fSeq s1 s2)) :=
  PSs.imp (pss_cons h1 h2) fun D σ H ⟨c, δ, F, I, h⟩ => by
    refine ⟨c, δ, F, I, ?_⟩
    unfold fSeq at h
    cases q : s1 δ with
    | nx δ1 => rw [q] at h; exact fun σ' F' H' I' => ⟨c, δ1, F', I', h⟩
    | rt e δ1 => rw [q] at h; exact h
    | bk δ1 => rw [q] at h; exact h
    | ct δ1 => rw [q] at h; exact h
    | ex x δ1 => rw [q] at h; exact h
    | no => rw [q] at h; exact h
theorem vss_one (h1 : PS X st (tS X.K cm W s1)) : PSs X [st] (tS X.K cm W s1) := pss_one h1
theorem vs_pass : PS X (.Pass pos) (tS X.K cm W fNext) := PS.imp ps_pass fun D σ H ⟨c, δ, F, I, h⟩ => h σ F H I
def fBreak (δ : Ev) : SR := .bk δ
def fCont (δ : Ev) : SR := .ct δ
theorem vs_break : PS X (.Break pos) (tS X.K cm W fBreak) := PS.imp ps_break fun D σ H ⟨c, δ, F, I, h⟩ => h σ F H I
theorem vs_continue : PS X (.Continue pos) (tS X.K cm W fCont) := PS.imp ps_continue fun D σ H ⟨c, δ, F, I, h⟩ => h σ F H I
theorem vs_doc {x : Str} {j : Nat} {pos' : Pos} : PS X (.Expr (.Constant (.str x) j pos) pos') (tS X.K cm W fNext) := PS.imp ps_doc fun D σ H ⟨c, δ, F, I, h⟩ => h σ F H I
def fDrop (f : Ev → ER) (δ : Ev) : SR := (f δ).bindS fun _ δ1 => .nx δ1
theorem vs_expr (he : PE X e (tE X.K cm W f)) (hs : swapsWith e none pos.line X.env = pure false := by rfl) : PS X (.Expr e pos) (tS X.K cm W (fDrop f)) :=
  PS.imp (ps_expr he hs) fun D σ H ⟨c, δ, F, I, h⟩ => goES I h fun e1 δ1 h1 v F1 H1 I1 => h1 σ F1 H1 I1.drop
def fRet (f : Ev → ER) (δ : Ev) : SR := (f δ).bindS fun e δ1 => .rt e δ1
theorem vs_ret (he : PE X e (tE X.K cm W f)) : PS X (.Return (some e) pos) (tS X.K cm W (fRet f)) :=
  PS.imp (ps_ret he) fun D σ H ⟨c, δ, F, I, h⟩ => goES I h fun e1 δ1 h1 v F1 H1 I1 => h1 v σ F1 H1 I1
def fRetN (δ : Ev) : SR := .rt (.d .non) δ
theorem vs_retN : PS X (.Return none pos) (tS X.K cm W fRetN) := PS.imp ps_retN fun D σ H ⟨c, δ, F, I, h⟩ => h _ σ F H (I.pushD rfl)
def fIf (p : Ev → BR) (s1 s2 : Ev → SR) (δ : Ev) : SR := (p δ).bindS fun b δ1 => match b with
  | true => s1 δ1
  | false => s2 δ1
theorem vs_if {c : Expr} {st1 st2 : List Stmt} (hc : PT X c (tT X.K cm W p)) (ha : PSs X st1 (tS X.K cm W s1)) (hb : PSs X st2 (tS X.K cm W s2)) : PS X (.If c st1 st2 pos) (tS X.K cm W (fIf p s1 s2)) :=
  PS.imp (ps_if hc ha hb) fun D σ H ⟨c, δ, F, I, h⟩ => goBS I h fun k δ1 h1 F1 H1 I1 => by
    cases k with
    | true => rw [if_pos rfl]; exact ⟨c, δ1, F1, I1, h1⟩
    | false => rw [if_neg (by decide)]; exact ⟨c, δ1, F1, I1, h1⟩
/-! a op= b at a name -/
def fAug (i : Nat) (g : D → D → Option EV) (f : Ev → ER) (δ : Ev) : SR := match δ[i]? with
  | some (.d x) => (f δ).bindS fun e δ1 => match fin2 g (.d x) e δ1 with
    | .ok (.d z) δ2 => .nx (δ2.set i (.d z))
    | _ => .no
  | _ => .no
theorem vs_aug {op : Operator} {r : R2} {g : D → D → Option EV} {i : Nat} {x : Str} {pos' : Pos} (ho : OpR X (inplaceOp op) r) (hg : Op2 X.K r g) (hN : X.N.Nodup) (hi : X.N[i]? = some x) (hx : Loc X.env.scope x) (he : PE X e (tE X.K cm W f))
    (hf : X.fn x = true ∨ X.env.scope.names.lookup x = some .local := by first | exact .inl rfl | exact .inr rfl) : PS X (.AugAssign (.Name x pos') op e pos) (tS X.K cm W (fAug i g f)) :=
  PS.imp (ps_aug (ti := r) hN hi hx he ho hf) fun D σ H ⟨c, δ, F, I, h⟩ => by
    unfold fAug at h
    cases q : δ[i]? with
    | none => rw [q] at h; exact h.elim
    | some s =>
      rw [q] at h
      cases s with
      | d y =>
        obtain ⟨O, _, b, _⟩ := id I.ow
        obtain ⟨v, e1, r1⟩ := b i _ q
        refine ⟨v, e1, goES (T' := [(v, .d y)]) (I.pushD r1) h fun e2 δ1 h1 w F1 H1 I1 => ?_⟩
        have I1 : SI X.K (c.at cm) δ1 [(w, e2), (v, .d y)] σ F1 H1 := I1
        cases q2 : fin2 g (.d y) e2 δ1 with
        | ok e3 δ2 =>
          have key : GE X.K cm (c.at cm) W [] σ (fun z H2 => D.nx (σ.set i (some z)) H2) (fin2 g (.d y) e2 δ1) := by
            rw [q2] at h1 ⊢
            cases e3 with
            | d z => exact fun u F2 H2 I2 => h1 _ F2 H2 (SI.setD True.intro I2.drop (by obtain ⟨O, _, _, t, _⟩ := I2.ow; exact t))
            | _ => exact h1.elim
          exact fin2_ok hg I1 key
        | ex z δ2 => rw [q2] at h1; exact h1.elim
        | no => rw [q2] at h1; exact h1.elim
      | _ => exact h.elim
/-! while -/
def fWhile (p : Ev → BR) (s : Ev → SR) : Nat → Ev → SR
  | 0, _ => .no
  | n + 1, δ => match p δ with
    | .ok true δ1 => match s δ1 with
      | .nx δ2 => fWhile p s n δ2
      | .ct δ2 => fWhile p s n δ2
      | .bk δ2 => .nx δ2
      | .rt e δ2 => .rt e δ2
      | .ex x δ2 => .ex x δ2
      | .no => .no
    | .ok false δ1 => .nx δ1
    | .ex x δ1 => .ex x δ1
    | .no => .no
theorem vs_while {c : Expr} {body : List Stmt} (n : Nat) (hp : PassesOwn (model X.prog X.w) X.A X.env X.xe) (hc : PT X c (tT X.K cm W p)) (hb : PSs X body (tS X.K cm W s1)) : PS X (.While c body [] pos) (tS X.K cm W (fWhile p s1 n)) :=
  PS.imp (ps_while hp hc hb) fun D σ H ⟨c, δ, F, I, h⟩ => by
    refine ⟨fun m σ H => ∃ δ F, SI X.K (c.at cm) δ [] σ F H ∧ GS X.K cm (c.at cm) W D (fWhile p s1 m δ), ⟨n, δ, F, I, h⟩, ?_⟩
    rintro m σ H ⟨δ, F, I, h⟩
    cases m with
    | zero => exact h.elim
    | succ m =>
      refine ⟨c, δ, [], F, I, ?_⟩
      unfold fWhile at h
      cases q : p δ with
      | no => rw [q] at h; exact h.elim
      | ex x δ1 => rw [q] at h; exact h σ
      | ok b δ1 =>
        rw [q] at h
        cases b with
        | false => exact fun F1 H1 I1 => iteF (h σ F1 H1 I1)
        | true =>
          refine fun F1 H1 I1 => iteT ?_
          refine ⟨fun σ' H' => ∃ δ F, SI X.K (c.at cm) δ [] σ' F H' ∧ GS X.K cm (c.at cm) W D (fWhile p s1 m δ), fun σ' H' hh => ⟨m, Nat.lt_succ_self _, hh⟩, c, δ1, F1, I1, ?_⟩
          cases q2 : s1 δ1 with
          | nx δ2 => simp only [q2] at h; exact fun σ' F' H' I' => ⟨δ2, F', I', h⟩
          | ct δ2 => simp only [q2] at h; exact fun σ' F' H' I' => ⟨δ2, F', I', h⟩
          | bk δ2 => simp only [q2] at h; exact h
          | rt e δ2 => simp only [q2] at h; exact h
          | ex x δ2 => simp only [q2] at h; exact h
          | no => simp only [q2] at h; exact h.elim
/-! ### targets -/
def Agr (vs : List Nat) (σ σ' : St) : Prop := wipe σ' vs = wipe σ vs
def tG (K : PySem.W.Frag) (vs : List Nat) (g : D → Ev → Option Ev) : TG := fun v σ H Q => ∃ c δ x T F, SI K c δ T σ F H ∧ Rep K F x v ∧ noSl T ∧ ∃ δ', g x δ = some δ' ∧ ∀ σ', SI K c δ' T σ' F H → Agr vs σ σ' → Q σ' H
def tGs (K : PySem.W.Frag) (vs : List Nat) (g : List D → Ev → Option Ev) : TGs := fun v σ H Q => ∃ c δ x T F, SI K c δ T σ F H ∧ RepL K F x v ∧ noSl T ∧ ∃ δ', g x δ = some δ' ∧ ∀ σ', SI K c δ' T σ' F H → Agr vs σ σ' → Q σ' H
def gNm (i : Nat) (x : D) (δ : Ev) : Option Ev := some (δ.set i (.d x))
def gTs0 (xs : List D) (δ : Ev) : Option Ev := match xs with
  | [] => some δ
  | _ => none
def gTsC (g : D → Ev → Option Ev) (h : List D → Ev → Option Ev) (xs : List D) (δ : Ev) : Option Ev := match xs with
  | x :: r => match g x δ with
    | some δ1 => h r δ1
    | none => none
  | _ => none
def gTp (n : Nat) (h : List D → Ev → Option Ev) (x : D) (δ : Ev) : Option Ev := match x with
  | .tup xs => if xs.length = n then h xs δ else none
  | _ => none
theorem PG.imp {X : Cx} {e : Expr} {t t' : TG} (h : PG X e t) (w : ∀ v σ H Q, t' v σ H Q → t v σ H Q) : PG X e t' := ⟨fun pins s σ H v u Q I r q => h.run pins s σ H v u Q I r (w v σ H Q q)⟩
theorem PGs.imp {X : Cx} {e : List Expr} {t t' : TGs} (h : PGs X e t) (w : ∀ v σ H Q, t' v σ H Q → t v σ H Q) : PGs X e t' := ⟨fun pins s σ H v u Q I r q => h.run pins s σ H v u Q I r (w v σ H Q q)⟩
theorem wipe_get {σ : St} {j : Nat} : ∀ {vs : List Nat}, (wipe σ vs)[j]? = if j ∈ vs then (if j < σ.length then some none else none) else σ[j]?
  | [] => by simp [wipe]
  | v :: vs => by
    unfold wipe
    by_cases e : v = j
    · subst e
      rw [if_pos List.mem_cons_self]
      by_cases hl : v < σ.length
      · rw [if_pos hl, List.getElem?_set_self (by rw [wipe_length]; exact hl)]
      · rw [if_neg hl, List.getElem?_eq_none (by rw [List.length_set, wipe_length]; omega)]
    · rw [List.getElem?_set_ne e, wipe_get (vs := vs)]
      by_cases m : j ∈ vs
      · rw [if_pos m, if_pos (List.mem_cons_of_mem _ m)]
      · rw [if_neg m, if_neg (fun z => by rcases List.mem_cons.mp z with z | z; exact e z.symm; exact m z)]
theorem Agr.set {vs : List Nat} {σ : St} {i : Nat} {o : Option V} (h : i ∈ vs) : Agr vs σ (σ.set i o) := by
  apply List.ext_getElem?
  intro j
  rw [wipe_get, wipe_get, List.length_set]
  by_cases m : j ∈ vs
  · rw [if_pos m, if_pos m]
  · rw [if_neg m, if_neg m, List.getElem?_set_ne (fun z => by subst z; exact m h)]
theorem Agr.refl (vs : List Nat) (σ : St) : Agr vs σ σ := rfl
theorem Agr.trans {vs : List Nat} {σ σ1 σ2 : St} (a : Agr vs σ σ1) (b : Agr vs σ1 σ2) : Agr vs σ σ2 := Eq.trans b a
theorem vg_name {vs : List Nat} {i : Nat} {x : Str} (hN : X.N.Nodup) (hi : X.N[i]? = some x) (hx : Loc X.env.scope x) (hf : X.fn x = true ∨ X.env.scope.names.lookup x = some .local := by first | exact .inl rfl | exact .inr rfl) (hv : i ∈ vs := by decide) : PG X (.Name x pos) (tG X.K vs (gNm i)) :=
  PG.imp (pg_name hN hi hx hf) fun v σ H Q ⟨c, δ, x, T, F, I, r, n, δ', e, h⟩ => by
    cases e
    exact h _ (SI.setD n I r) (Agr.set hv)
theorem vgs_nil {vs : List Nat} : PGs X [] (tGs X.K vs gTs0) := PGs.imp pgs_nil fun v σ H Q ⟨c, δ, xs, T, F, I, r, n, δ', e, h⟩ => by
  cases xs with
  | nil => cases e; exact ⟨r, h _ I (Agr.refl _ _)⟩
  | cons => cases e
theorem vgs_cons {vs : List Nat} {g : D → Ev → Option Ev} {h : List D → Ev → Option Ev} (h1 : PG X e (tG X.K vs g)) (h2 : PGs X es (tGs X.K vs h)) (hs : (assignEach (e :: es) X.env).map (·.2) = assign e X.env :: (assignEach es X.env).map (·.2) := by rfl) : PGs X (e :: es) (tGs X.K vs (gTsC g h)) :=
  PGs.imp (pgs_cons h1 h2 hs) fun v σ H Q ⟨c, δ, xs, T, F, I, r, n, δ', e, hh⟩ => by
    cases xs with
    | nil => cases e
    | cons x xs =>
      obtain ⟨v0, vr, ev, r1, r2⟩ := r
      unfold gTsC at e
      cases q : g x δ with
      | none => simp only [q] at e; cases e
      | some δ1 =>
        simp only [q] at e
        exact ⟨v0, vr, ev, c, δ, x, T, F, I, r1, n, δ1, q, fun σ1 I1 a1 => ⟨c, δ1, xs, T, F, I1, r2, n, δ', e, fun σ2 I2 a2 => hh σ2 I2 (a1.trans a2)⟩⟩
theorem vg_tup {vs : List Nat} {k n : Nat} {h : List D → Ev → Option Ev} (hc : X.calm = true) (hg : PGs X es (tGs X.K vs h)) (hn : (assignEach es X.env).length = n := by rfl) (hst : (assignEach es X.env).findIdx? (·.1) = none := by rfl) : PG X (.Tuple es k pos) (tG X.K vs (gTp n h)) :=
  PG.imp (pg_tup hc hg hn hst) fun v σ H Q ⟨c, δ, x, T, F, I, r, n', δ', e, hh⟩ => by
    cases x <;> try (cases e)
    rename_i xs
    unfold gTp at e
    by_cases hl : xs.length = n
    · simp only [if_pos hl] at e
      obtain ⟨p, us, ev, q, ru⟩ := r
      exact ⟨p, us, ev, SqT.of (I.fh _ _ q), by rw [ru.length]; exact hl, c, δ, xs, T, F, I, ru, n', δ', e, hh⟩
    · simp only [if_neg hl] at e; cases e
/-- a, b = e, e a tuple -/
def fAsgT (g : D → Ev → Option Ev) (f : Ev → ER) (δ : Ev) : SR := (f δ).bindS fun e δ1 => match e with
  | .d x => match g x δ1 with
    | some δ2 => .nx δ2
    | none => .no
  | _ => .no
theorem vs_asgT {vs : List Nat} {tg : Expr} {g : D → Ev → Option Ev} (he : PE X e (tE X.K cm W f)) (hg : PG X tg (tG X.K vs g)) (hs : swapsWithSole [tg] e pos.line X.env = pure false := by rfl) (hw : swappedStores [tg] e X.env = pure none := by rfl)
    (h1 : (assignEach [tg] X.env).map (·.2) = [assign tg X.env] := by rfl) : PS X (.Assign [tg] e pos) (tS X.K cm W (fAsgT g f)) :=
  PS.imp (ps_asg he hg hs hw h1) fun D σ H ⟨c, δ, F, I, h⟩ => goES I h fun e1 δ1 h1 v F1 H1 I1 => by
    split at h1
    · rename_i x
      split at h1
      · rename_i δ2 q
        exact ⟨c.at cm, δ1, x, [], F1, I1.drop, (by obtain ⟨O, _, _, t, _⟩ := I1.ow; exact t), True.intro, δ2, q, fun σ' I' _ => h1 σ' F1 H1 I'⟩
      · exact h1.elim
    · exact h1.elim
/-- a, b = x, y -/
def fPar (i j : Nat) (fa fb : Ev → ER) (δ : Ev) : SR := (fa δ).bindS fun e δ1 => (unE e δ1).bindS fun e1 δ2 => (fb δ2).bindS fun e' δ3 => (unE e' δ3).bindS fun e2 δ4 => match e2 with
  | .d y => setE i e1 (δ4.set j (.d y))
  | .fr y => setE i e1 (δ4.set j (.ow y))
  | _ => .no
theorem SI.any {c : Cc} {T : Temps} {σ : St} {F H : Hp} {v : V} {e : EV} {δ : Ev} (I : SI K c δ ((v, e) :: T) σ F H) : SI K c δ ((v, .jk) :: T) σ F H :=
  ⟨I.old, I.f0, I.fh, I.kp, I.dom, I.len, let ⟨O, a, b, t⟩ := I.ow; ⟨O, a, b, True.intro, t.2⟩⟩
theorem vs_par {i j : Nat} {x y : Str} {px py pt : Pos} {kt : Nat} {k2 : Nat} {pt2 : Pos} (hc : X.calm = true) (hN : X.N.Nodup) (hi : X.N[i]? = some x) (hj : X.N[j]? = some y) (hij : i ≠ j)
    (hx : X.env.scope.names.lookup x = some .local) (hy : X.env.scope.names.lookup y = some .local) (ha : PE X a (tE X.K cm W fa)) (hb : PE X b (tE X.K cm W fb))
    (hw : swappedStores [.Tuple [.Name x px, .Name y py] kt pt] (.Tuple [a, b] k2 pt2) X.env = pure (some [x, y]) := by rfl)
    (hs : swapsWithSole [.Tuple [.Name x px, .Name y py] kt pt] (.Tuple [a, b] k2 pt2) pos.line X.env = pure false := by rfl)
    (hst : starEach [a, b] X.env = (false, eval a X.env) :: starEach [b] X.env := by rfl) (hst2 : starEach [b] X.env = (false, eval b X.env) :: starEach [] X.env := by rfl) :
    PS X (.Assign [.Tuple [.Name x px, .Name y py] kt pt] (.Tuple [a, b] k2 pt2) pos) (tS X.K cm W (fPar i j fa fb)) :=
  PS.imp (ps_par hc hN hi hj hij hx hy (pa_cons ha (pa_cons hb pa_nil hst2) hst) hw hs) fun D σ H ⟨c, δ, F, I, h⟩ =>
    goES I h fun e δ1 h1 v F1 H1 I1 => I1.unE h1 fun e1 δ2 F2 n1 I2 h2 => goES I2 h2 fun e' δ3 h3 w F3 H3 I3 => I3.unE h3 fun e2 δ4 F4 n2 I4 h4 => by
      refine ⟨v, w, rfl, ?_⟩
      have nT : noSl [(v, e1)] := ⟨n1, True.intro⟩
      rw [List.set_comm _ _ hij]
      have fin : ∀ (s : Slot), SI X.K (c.at cm) (δ4.set j s) [(v, e1)] (σ.set j (some w)) F4 H3 → GS X.K cm (c.at cm) W D (setE i e1 (δ4.set j s)) → D.nx ((σ.set j (some w)).set i (some v)) H3 := fun s I5 h5 => by
        unfold setE at h5
        split at h5
        · exact h5 _ F4 H3 (SI.setD True.intro I5.drop (by obtain ⟨O, _, _, t, _⟩ := I5.ow; exact t))
        · exact h5 _ F4 H3 (SI.setOw True.intro I5)
        · exact h5.elim
      split at h4
      · exact fin _ (SI.setD nT I4.drop (by obtain ⟨O, _, _, t, _⟩ := I4.ow; exact t)) h4
      · exact fin _ (SI.setOw nT I4) h4
      · exact h4.elim
end
end L2.VE

namespace L2.VE
open PySem PySem.Spec PyProof.Rows
section
variable {X : Cx} {cm : Cm} {W : WX} {a b e : Expr} {es : List Expr} {fa fb fc f : Ev → ER} {fs : Ev → AR} {p : Ev → BR} {pos : Pos} {K : PySem.W.Frag}
/-! ### what is walked -/
inductive IR where
  | okF (ds : List D) (δ : Ev) | okL (i : Nat) (δ : Ev) | ex (x : XD) (δ : Ev) | no
def ItOk (K : PySem.W.Frag) (J : It) (P : Hp → Hp → Prop) (ds : List D) : Prop :=
  ∀ F H, Same F H → P F H → (∀ i x, ds[i]? = some x → J.go i H ∧ ∀ v H', J.yld i H v H' → ∃ F', Step K F H F' H' v (.d x)) ∧ ∀ i, ds.length ≤ i → J.stop i H
def lkP (K : PySem.W.Frag) (a : Addr) (ds : List D) (F H : Hp) : Prop := ∃ us, H a = some (.lst us) ∧ RepL K F ds us
def GI (K : PySem.W.Frag) (cm : Cm) (c : Cc) (W : WX) (T : Temps) (σ : St) (R : It → Hp → Prop) : IR → Prop
  | .okF ds δ => ∀ F' H' J, SI K c δ T σ F' H' → ItOk K J (fun F _ => Same F' F) ds → R J H'
  | .okL i δ => ∀ F' H' J a ds, σ[i]? = some (some (.ref a)) → (δ[i]? = some (.ow (.lst ds)) ∨ δ[i]? = some (.lk (.lst ds)) ∨ δ[i]? = some (.ro (.lst ds))) → SI K c δ T σ F' H' → ItOk K J (lkP K a ds) ds → R J H'
  | .ex x δ => XOk K cm c W σ δ x
  | .no => False
def tI (K : PySem.W.Frag) (cm : Cm) (W : WX) (f : Ev → IR) : TI := fun σ H R => ∃ (c : Cc) (δ : Ev) (T : Temps) (F : Hp), SI K (c.at cm) δ T σ F H ∧ GI K cm (c.at cm) W T σ R (f δ)
theorem PI.imp {X : Cx} {tg e : Expr} {t t' : TI} (h : PI X tg e t) (w : ∀ σ H Q, t' σ H Q → t σ H Q) : PI X tg e t' := ⟨fun pins s σ H Q I q => h.run pins s σ H Q I (w σ H Q q)⟩
theorem PI.or {X : Cx} {tg e : Expr} {t t' : TI} (h : PI X tg e t) (h' : PI X tg e t') : PI X tg e (fun σ H Q => t σ H Q ∨ t' σ H Q) := ⟨fun pins s σ H Q I q => q.elim (h.run pins s σ H Q I) (h'.run pins s σ H Q I)⟩
def ER.bindI : ER → (EV → Ev → IR) → IR
  | .ok e δ, k => k e δ
  | .ex x δ, _ => .ex x δ
  | .no, _ => .no
def AR.bindI : AR → (List EV → Ev → IR) → IR
  | .ok e δ, k => k e δ
  | .ex x δ, _ => .ex x δ
  | .no, _ => .no
theorem goEI {c : Cc} {δ : Ev} {T T' : Temps} {σ : St} {F H : Hp} {f : Ev → ER} {k : EV → Ev → IR} {Q : VK} {R : It → Hp → Prop} (I : SI K (c.at cm) δ T' σ F H) (h : GI K cm (c.at cm) W T σ R ((f δ).bindI k))
    (n : ∀ e δ1, GI K cm (c.at cm) W T σ R (k e δ1) → ∀ v F' H', SI K (c.at cm) δ1 ((v, e) :: T') σ F' H' → Q v H') : tE K cm W f σ H Q := by
  refine ⟨c, δ, T', F, I, ?_⟩
  cases e : f δ with
  | ok e1 δ1 => rw [e] at h; exact n e1 δ1 h
  | ex x δ1 => rw [e] at h; exact h
  | no => rw [e] at h; exact h
theorem goAI {c : Cc} {δ : Ev} {T T' : Temps} {σ : St} {F H : Hp} {f : Ev → AR} {k : List EV → Ev → IR} {Q : List V → Hp → Prop} {R : It → Hp → Prop} (I : SI K (c.at cm) δ T' σ F H) (h : GI K cm (c.at cm) W T σ R ((f δ).bindI k))
    (n : ∀ es δ1, GI K cm (c.at cm) W T σ R (k es δ1) → ∀ vs F' H', vs.length = es.length → SI K (c.at cm) δ1 (pushL vs es T') σ F' H' → Q vs H') : tA K cm W f σ H Q := by
  refine ⟨c, δ, T', F, I, ?_⟩
  cases e : f δ with
  | ok e1 δ1 => rw [e] at h; exact n e1 δ1 h
  | ex x δ1 => rw [e] at h; exact h
  | no => rw [e] at h; exact h
theorem itl_ok {P : Hp → Hp → Prop} {ds : List D} {a : Addr} (h : ∀ F H, Same F H → P F H → ∃ us, SqL K H a us ∧ RepL K F ds us) : ItOk K (Itl K a) P ds := fun F H s p => by
  obtain ⟨us, q, r⟩ := h F H s p
  refine ⟨fun i x e => ?_, fun i hi => ⟨us, q, by rw [r.length]; exact hi⟩⟩
  obtain ⟨v, ev, rv⟩ := r.get e
  refine ⟨⟨us, v, q, ev⟩, fun w H' y => ?_⟩
  obtain ⟨e1, y⟩ := y
  have := y us q
  rw [ev] at this; cases this; subst e1
  exact ⟨F, .old rv⟩
theorem itt_ok {P : Hp → Hp → Prop} {ds : List D} {a : Addr} (h : ∀ F H, Same F H → P F H → ∃ us, SqT K H a us ∧ RepL K F ds us) : ItOk K (Itt K a) P ds := fun F H s p => by
  obtain ⟨us, q, r⟩ := h F H s p
  refine ⟨fun i x e => ?_, fun i hi => ⟨us, q, by rw [r.length]; exact hi⟩⟩
  obtain ⟨v, ev, rv⟩ := r.get e
  refine ⟨⟨us, v, q, ev⟩, fun w H' y => ?_⟩
  obtain ⟨e1, y⟩ := y
  have := y us q
  rw [ev] at this; cases this; subst e1
  exact ⟨F, .old rv⟩
def chrs : List Nat → List D
  | [] => []
  | c :: r => .str ⟨#[c]⟩ :: chrs r
theorem chrs_map (l : List Nat) : chrs l = l.map fun c => D.str ⟨#[c]⟩ := by
  induction l with
  | nil => rfl
  | cons c r ih => rw [chrs, ih]; rfl
def itE (e : EV) (δ : Ev) : IR := match e with
  | .d (.lst xs) => .okF xs δ
  | .d (.sl xs) => .okF xs δ
  | .d (.tup xs) => .okF xs δ
  | .d (.str z) => .okF (chrs z.cps.toList) δ
  | .fr (.lst xs) => .okF xs δ
  | .sl i => match δ[i]? with
    | some (.ow (.lst _)) => .okL i δ
    | some (.lk (.lst _)) => .okL i δ
    | some (.ro (.lst _)) => .okL i δ
    | some (.d (.lst xs)) => .okF xs δ
    | _ => .no
  | _ => .no
def fIt (f : Ev → ER) (δ : Ev) : IR := (f δ).bindI itE
theorem its_ok {P : Hp → Hp → Prop} {z : Str} : ItOk K (Its z) P (chrs z.cps.toList) := fun F H s p => by
  rw [chrs_map]
  refine ⟨fun i x e => ?_, fun i hi => by rw [List.length_map, Array.length_toList] at hi; exact hi⟩
  rw [List.getElem?_map] at e
  cases q : z.cps.toList[i]? with
  | none => rw [q] at e; cases e
  | some ch =>
    rw [q] at e
    cases e
    have hi : i < z.cps.size := by have := (List.getElem?_eq_some_iff.mp q).1; simpa using this
    refine ⟨hi, fun w H' y => ?_⟩
    obtain ⟨e1, c2, y, e3⟩ := y
    subst e1; subst e3
    have : ch = c2 := by
      have q' : z.cps[i]? = some ch := by simpa using q
      rw [q'] at y; exact Option.some.inj y
    subst this
    exact ⟨F, .old rfl⟩
/-- a list, a tuple, a text -/
theorem vi_seq {tg : Expr} (he : PE X e (tE X.K cm W f)) : PI X tg e (tI X.K cm W (fIt f)) :=
  VE.PI.imp (VE.PI.or (VE.PI.or (pi_list he) (pi_tup he)) (pi_str he)) fun σ H R ⟨c, δ, T, F, I, h⟩ => by
    unfold fIt at h
    cases q : f δ with
    | no => rw [q] at h; exact h.elim
    | ex x δ1 => exact .inl (.inl ⟨c, δ, T, F, I, by rw [q] at h ⊢; exact h⟩)
    | ok e1 δ1 =>
      rw [q] at h
      replace h : GI X.K cm (c.at cm) W T σ R (itE e1 δ1) := h
      unfold itE at h
      split at h
      · refine .inl (.inl ⟨c, δ, T, F, I, ?_⟩)
        rw [q]
        intro v F1 H1 I1
        obtain ⟨O, _, _, ⟨a, us, ev, q1, r⟩, _⟩ := id I1.ow
        exact ⟨a, ev, ⟨us, SqL.of (I1.fh _ _ q1)⟩, h F1 H1 _ I1.drop (itl_ok fun F' H' s p => ⟨us, SqL.of (s _ _ (p _ _ q1)), r.mono p⟩)⟩
      · refine .inl (.inl ⟨c, δ, T, F, I, ?_⟩)
        rw [q]
        intro v F1 H1 I1
        obtain ⟨O, _, _, ⟨a, us, ev, q1, r⟩, _⟩ := id I1.ow
        exact ⟨a, ev, ⟨us, I1.fh.seq q1⟩, h F1 H1 _ I1.drop (itl_ok fun F' H' s p => ⟨us, s.seq (p.seq q1), r.mono p⟩)⟩
      · refine .inl (.inr ⟨c, δ, T, F, I, ?_⟩)
        rw [q]
        intro v F1 H1 I1
        obtain ⟨O, _, _, ⟨a, us, ev, q1, r⟩, _⟩ := id I1.ow
        exact ⟨a, ev, ⟨us, SqT.of (I1.fh _ _ q1)⟩, h F1 H1 _ I1.drop (itt_ok fun F' H' s p => ⟨us, SqT.of (s _ _ (p _ _ q1)), r.mono p⟩)⟩
      · refine .inr ⟨c, δ, T, F, I, ?_⟩
        rw [q]
        intro v F1 H1 I1
        obtain ⟨O, _, _, ev, _⟩ := id I1.ow
        exact ⟨_, ev, h F1 H1 _ I1.drop its_ok⟩
      · refine .inl (.inl ⟨c, δ, T, F, I, ?_⟩)
        rw [q]
        intro v F1 H1 I0
        obtain ⟨F1, _, I1⟩ := I0.freezeT
        obtain ⟨O, _, _, ⟨a, us, ev, q1, r⟩, _⟩ := id I1.ow
        exact ⟨a, ev, ⟨us, SqL.of (I1.fh _ _ q1)⟩, h F1 H1 _ I1.drop (itl_ok fun F' H' s p => ⟨us, SqL.of (s _ _ (p _ _ q1)), r.mono p⟩)⟩
      · rename_i i
        refine .inl (.inl ⟨c, δ, T, F, I, ?_⟩)
        rw [q]
        intro v F1 H1 I1
        split at h
        · rename_i xs qi
          obtain ⟨O, _, b, t, _⟩ := id I1.ow
          obtain ⟨a, e1, _, _, us, hq, r⟩ := b i _ qi
          have t : σ[i]? = some (some v) := t
          have e1' := e1
          rw [t] at e1; cases e1
          refine ⟨a, rfl, ⟨us, SqL.of hq⟩, h F1 H1 _ a xs e1' (.inl qi) I1.drop (itl_ok fun F' H' s p => ?_)⟩
          obtain ⟨us2, h2, r2⟩ := p
          exact ⟨us2, SqL.of h2, r2⟩
        · rename_i xs qi
          obtain ⟨O, _, b, t, _⟩ := id I1.ow
          obtain ⟨a, e1, _, _, _, us, hq, r⟩ := b i _ qi
          have t : σ[i]? = some (some v) := t
          have e1' := e1
          rw [t] at e1; cases e1
          refine ⟨a, rfl, ⟨us, SqL.of hq⟩, h F1 H1 _ a xs e1' (.inr (.inl qi)) I1.drop (itl_ok fun F' H' s p => ?_)⟩
          obtain ⟨us2, h2, r2⟩ := p
          exact ⟨us2, SqL.of h2, r2⟩
        · rename_i xs qi
          obtain ⟨O, _, b, t, _⟩ := id I1.ow
          obtain ⟨a, e1, na, tp⟩ := b i _ qi
          obtain ⟨us, hq, r⟩ := I1.roTop na tp
          have t : σ[i]? = some (some v) := t
          have e1' := e1
          rw [t] at e1; cases e1
          refine ⟨a, rfl, ⟨us, SqL.of hq⟩, h F1 H1 _ a xs e1' (.inr (.inr qi)) I1.drop (itl_ok fun F' H' s p => ?_)⟩
          obtain ⟨us2, h2, r2⟩ := p
          exact ⟨us2, SqL.of h2, r2⟩
        · rename_i xs qi
          obtain ⟨O, _, b, t, _⟩ := id I1.ow
          obtain ⟨v', e1, a, us, ev, q1, r⟩ := b i _ qi
          have t : σ[i]? = some (some v) := t
          rw [t] at e1; cases e1
          exact ⟨a, ev, ⟨us, SqL.of (I1.fh _ _ q1)⟩, h F1 H1 _ I1.drop (itl_ok fun F' H' s p => ⟨us, SqL.of (s _ _ (p _ _ q1)), r.mono p⟩)⟩
        · exact h.elim
      · exact h.elim
/-! ranges -/
def rangeD (lo : Int) : Nat → List D
  | 0 => []
  | n + 1 => .int lo :: rangeD (lo + 1) n
theorem rangeD_get : ∀ (n : Nat) (lo : Int) (i : Nat), (rangeD lo n)[i]? = if i < n then some (.int (lo + i)) else none
  | 0, lo, i => by simp [rangeD]
  | n + 1, lo, 0 => by simp [rangeD]
  | n + 1, lo, i + 1 => by
    rw [rangeD, List.getElem?_cons_succ, rangeD_get n]
    by_cases h : i < n
    · rw [if_pos h, if_pos (by omega)]
      congr 2
      omega
    · rw [if_neg h, if_neg (by omega)]
theorem rangeD_len : ∀ (n : Nat) (lo : Int), (rangeD lo n).length = n
  | 0, _ => rfl
  | n + 1, lo => by rw [rangeD, List.length_cons, rangeD_len n]
theorem itr_ok {P : Hp → Hp → Prop} {lo : Int} {n : Nat} : ItOk K (Itr lo n) P (rangeD lo n) := fun F H s p => by
  refine ⟨fun i x e => ?_, fun i hi => by rw [rangeD_len] at hi; exact hi⟩
  rw [rangeD_get] at e
  by_cases hi : i < n
  · rw [if_pos hi] at e
    cases e
    refine ⟨hi, fun w H' y => ?_⟩
    obtain ⟨e1, e2⟩ := y
    subst e1; subst e2
    exact ⟨F, .old rfl⟩
  · rw [if_neg hi] at e; cases e
theorem len1 {c : Cc} {δ : Ev} {T : Temps} {σ : St} {F H : Hp} {x : D} {vs : List V} (I : SI K c δ (pushL vs [.d x] T) σ F H) (l : vs.length = 1) : ∃ v, vs = [v] ∧ Rep K F x v := by
  match vs, l with
  | [v], _ =>
    have I' : SI K c δ ((v, .d x) :: T) σ F H := I
    obtain ⟨O, _, _, t, _⟩ := I'.ow
    exact ⟨v, rfl, t⟩
theorem len2 {c : Cc} {δ : Ev} {T : Temps} {σ : St} {F H : Hp} {x y : D} {vs : List V} (I : SI K c δ (pushL vs [.d x, .d y] T) σ F H) (l : vs.length = 2) : ∃ v w, vs = [v, w] ∧ Rep K F x v ∧ Rep K F y w := by
  match vs, l with
  | [v, w], _ =>
    have I' : SI K c δ ((w, .d y) :: (v, .d x) :: T) σ F H := I
    obtain ⟨O, _, _, t, t2, _⟩ := I'.ow
    exact ⟨v, w, rfl, t2, t⟩
theorem len3 {c : Cc} {δ : Ev} {T : Temps} {σ : St} {F H : Hp} {x y z : D} {vs : List V} (I : SI K c δ (pushL vs [.d x, .d y, .d z] T) σ F H) (l : vs.length = 3) : ∃ v w u, vs = [v, w, u] ∧ Rep K F x v ∧ Rep K F y w ∧ Rep K F z u := by
  match vs, l with
  | [v, w, u], _ =>
    have I' : SI K c δ ((u, .d z) :: (w, .d y) :: (v, .d x) :: T) σ F H := I
    obtain ⟨O, _, _, t, t2, t3, _⟩ := I'.ow
    exact ⟨v, w, u, rfl, t3, t2, t⟩
def rg1E (es : List EV) (δ : Ev) : IR := match es with
  | [.d (.int j)] => if -(2 ^ 62) ≤ j ∧ j < 2 ^ 62 then .okF (rangeD 0 j.toNat) δ else .no
  | _ => .no
def rg2E (es : List EV) (δ : Ev) : IR := match es with
  | [.d (.int i), .d (.int j)] => if -(2 ^ 62) ≤ i ∧ i < 2 ^ 62 ∧ -(2 ^ 62) ≤ j ∧ j < 2 ^ 62 then .okF (rangeD i (j - i).toNat) δ else .no
  | _ => .no
def fRg1 (fs : Ev → AR) (δ : Ev) : IR := (fs δ).bindI rg1E
def fRg2 (fs : Ev → AR) (δ : Ev) : IR := (fs δ).bindI rg2E
theorem vi_range1 {tg : Expr} {p pos : Pos} (hm : X.mg "range" = none) (ha : PA X [a] (tA X.K cm W fs)) (hg : Gl X "range" := by rfl) (hs : starEach [a] X.env = [(false, eval a X.env)] := by rfl) : PI X tg (.Call (.Name "range" p) [a] [] pos) (tI X.K cm W (fRg1 fs)) :=
  VE.PI.imp (pi_range1 hg hm ha hs) fun σ H R ⟨c, δ, T, F, I, h⟩ => goAI I h fun es' δ1 h1 vs F1 H1 l I1 => by
    unfold rg1E at h1
    split at h1
    · rename_i j
      split at h1
      · rename_i hj
        obtain ⟨v, rfl, rv⟩ := len1 I1 l
        exact ⟨j, by rw [show v = .int j from rv], hj.1, hj.2, h1 F1 H1 _ I1.dropL itr_ok⟩
      · exact h1.elim
    · exact h1.elim
theorem vi_range2 {tg : Expr} {p pos : Pos} (hm : X.mg "range" = none) (ha : PA X [a, b] (tA X.K cm W fs)) (hg : Gl X "range" := by rfl) (hs : starEach [a, b] X.env = [(false, eval a X.env), (false, eval b X.env)] := by rfl) (hs2 : starEach [b] X.env = [(false, eval b X.env)] := by rfl) :
    PI X tg (.Call (.Name "range" p) [a, b] [] pos) (tI X.K cm W (fRg2 fs)) :=
  VE.PI.imp (pi_range2 hg hm ha hs hs2) fun σ H R ⟨c, δ, T, F, I, h⟩ => goAI I h fun es' δ1 h1 vs F1 H1 l I1 => by
    unfold rg2E at h1
    split at h1
    · rename_i i j
      split at h1
      · rename_i hj
        obtain ⟨v, w, rfl, rv, rw'⟩ := len2 I1 l
        exact ⟨i, j, by rw [show v = .int i from rv, show w = .int j from rw'], hj, h1 F1 H1 _ I1.dropL itr_ok⟩
      · exact h1.elim
    · exact h1.elim
/-- range(a, b, c) -/
def stepD (lo c : Int) : Nat → List D
  | 0 => []
  | n + 1 => .int lo :: stepD (lo + c) c n
theorem stepD_get : ∀ (n : Nat) (lo c : Int) (i : Nat), (stepD lo c n)[i]? = if i < n then some (.int (lo + i * c)) else none
  | 0, lo, c, i => by simp [stepD]
  | n + 1, lo, c, 0 => by simp [stepD]
  | n + 1, lo, c, i + 1 => by
    rw [stepD, List.getElem?_cons_succ, stepD_get n]
    by_cases h : i < n
    · rw [if_pos h, if_pos (by omega)]
      congr 2
      rw [show ((i + 1 : Nat) : Int) = (i : Int) + 1 from rfl, Int.add_mul, Int.one_mul]
      omega
    · rw [if_neg h, if_neg (by omega)]
theorem stepD_len : ∀ (n : Nat) (lo c : Int), (stepD lo c n).length = n
  | 0, _, _ => rfl
  | n + 1, lo, c => by rw [stepD, List.length_cons, stepD_len n]
theorem itc_ok {P : Hp → Hp → Prop} {lo c : Int} {n : Nat} : ItOk K (Itc lo c n) P (stepD lo c n) := fun F H s p => by
  refine ⟨fun i x e => ?_, fun i hi => by rw [stepD_len] at hi; exact hi⟩
  rw [stepD_get] at e
  by_cases hi : i < n
  · rw [if_pos hi] at e
    cases e
    refine ⟨hi, fun w H' y => ?_⟩
    obtain ⟨e1, e2⟩ := y
    subst e1; subst e2
    exact ⟨F, .old rfl⟩
  · rw [if_neg hi] at e; cases e
def rg3E (es : List EV) (δ : Ev) : IR := match es with
  | [.d (.int i), .d (.int j), .d (.int c)] => if c ≠ 0 ∧ c.natAbs < 1073741824 ∧ Builtin.Range.small i j c = true ∧ 0 ≤ Builtin.Range.rangeSize i j c then .okF (stepD i c (Builtin.Range.rangeSize i j c).toNat) δ else .no
  | _ => .no
def fRg3 (fs : Ev → AR) (δ : Ev) : IR := (fs δ).bindI rg3E
theorem vi_range3 {tg c : Expr} {p pos : Pos} (hm : X.mg "range" = none) (ha : PA X [a, b, c] (tA X.K cm W fs)) (hg : Gl X "range" := by rfl)
    (hs : starEach [a, b, c] X.env = (false, eval a X.env) :: starEach [b, c] X.env := by rfl) (hpl : (backTo pos (starEach [b, c] X.env)).any (·.1) = false := by rfl) :
    PI X tg (.Call (.Name "range" p) [a, b, c] [] pos) (tI X.K cm W (fRg3 fs)) :=
  VE.PI.imp (pi_range3 hg hm ha hs hpl) fun σ H R ⟨c, δ, T, F, I, h⟩ => goAI I h fun es' δ1 h1 vs F1 H1 l I1 => by
    unfold rg3E at h1
    split at h1
    · rename_i i j k
      split at h1
      · rename_i hj
        obtain ⟨v, w, u, rfl, rv, rw', ru⟩ := len3 I1 l
        exact ⟨i, j, k, (Builtin.Range.rangeSize i j k).toNat, by rw [show v = .int i from rv, show w = .int j from rw', show u = .int k from ru], ⟨hj.1, hj.2.1, hj.2.2.1, (Int.toNat_of_nonneg hj.2.2.2).symm⟩, h1 F1 H1 _ I1.dropL itc_ok⟩
      · exact h1.elim
    · exact h1.elim
/-! enumerate, zip, reversed: of frozen lists -/
def enumD : Nat → List D → List D
  | _, [] => []
  | i, x :: r => .tup [.int (i : Nat), x] :: enumD (i + 1) r
theorem enumD_get : ∀ (l : List D) (k i : Nat), (enumD k l)[i]? = (l[i]?).map fun x => D.tup [.int ((k + i : Nat) : Int), x]
  | [], k, i => by simp [enumD]
  | x :: r, k, 0 => by simp [enumD]
  | x :: r, k, i + 1 => by
    rw [enumD, List.getElem?_cons_succ, List.getElem?_cons_succ, enumD_get r]
    have : k + 1 + i = k + (i + 1) := by omega
    rw [this]
theorem enumD_len : ∀ (l : List D) (k : Nat), (enumD k l).length = l.length
  | [], _ => rfl
  | x :: r, k => by rw [enumD, List.length_cons, List.length_cons, enumD_len r]
def lstE : List EV → Option (List D)
  | [.d (.lst xs)] => some xs
  | [.d (.sl xs)] => some xs
  | _ => none
theorem lstE_ok {c : Cc} {δ : Ev} {T : Temps} {σ : St} {F H : Hp} {es : List EV} {xs : List D} {vs : List V} (h : lstE es = some xs) (I : SI K c δ (pushL vs es T) σ F H) (l : vs.length = es.length) :
    ∃ a us, vs = [.ref a] ∧ SqL K F a us ∧ RepL K F xs us := by
  unfold lstE at h
  split at h
  · cases h
    obtain ⟨v, rfl, a, us, ev, q, r⟩ := len1 I l
    exact ⟨a, us, by rw [ev], SqL.of q, r⟩
  · cases h
    obtain ⟨v, rfl, a, us, ev, q, r⟩ := len1 I l
    exact ⟨a, us, by rw [ev], q, r⟩
  · cases h
def enE (es : List EV) (δ : Ev) : IR := match lstE es with
  | some xs => .okF (enumD 0 xs) δ
  | none => .no
def fEnum (fs : Ev → AR) (δ : Ev) : IR := (fs δ).bindI enE
theorem vi_enum {p pos tpos : Pos} {elts : List Expr} {kk : Nat} (hm : X.mg "enumerate" = none) (ha : PA X [e] (tA X.K cm W fs)) (hg : Gl X "enumerate" := by rfl) (hs : starEach [e] X.env = [(false, eval e X.env)] := by rfl) :
    PI X (.Tuple elts kk tpos) (.Call (.Name "enumerate" p) [e] [] pos) (tI X.K cm W (fEnum fs)) :=
  VE.PI.imp (pi_enum hg hm ha hs) fun σ H R ⟨c, δ, T, F, I, h⟩ => goAI I h fun es' δ1 h1 vs F1 H1 l I1 => by
    unfold enE at h1
    split at h1
    · rename_i xs q
      obtain ⟨a, us, ev, hq, r⟩ := lstE_ok q I1 l
      refine ⟨a, us, ev, I1.fh.seq hq, h1 F1 H1 _ I1.dropL fun F' H' s p => ?_⟩
      have p : Same F1 F' := p
      have hq' := s.seq (p.seq hq)
      refine ⟨fun i x e => ?_, fun i hi => ⟨us, hq', by rw [enumD_len] at hi; rw [r.length]; exact hi⟩⟩
      rw [enumD_get] at e
      cases q2 : xs[i]? with
      | none => rw [q2] at e; cases e
      | some y =>
        rw [q2] at e
        cases e
        obtain ⟨v, ev, rv⟩ := r.get q2
        refine ⟨⟨us, v, hq', ev⟩, fun w H2 y' => ?_⟩
        obtain ⟨Ta, z, e1, nT, e2, hz⟩ := y'
        have := hz us hq'
        rw [ev] at this; cases this
        subst e1; subst e2
        refine ⟨_, .newF nT ⟨Ta, _, rfl, upd_same, ⟨_, _, rfl, by rw [Nat.zero_add]; exact rfl, _, _, rfl, (rv.mono p).mono (same_upd (s.free nT)), rfl⟩⟩⟩
    · exact h1.elim
def zipD : List D → List D → List D
  | x :: xs, y :: ys => .tup [x, y] :: zipD xs ys
  | _, _ => []
theorem zipD_get : ∀ (xs ys : List D) (i : Nat) (z : D), (zipD xs ys)[i]? = some z → ∃ x y, xs[i]? = some x ∧ ys[i]? = some y ∧ z = .tup [x, y]
  | [], ys, i, z, h => by simp [zipD] at h
  | x :: xs, [], i, z, h => by simp [zipD] at h
  | x :: xs, y :: ys, 0, z, h => by simp [zipD] at h; exact ⟨x, y, rfl, rfl, h.symm⟩
  | x :: xs, y :: ys, i + 1, z, h => by
    rw [zipD, List.getElem?_cons_succ] at h
    simpa using zipD_get xs ys i z h
theorem zipD_len : ∀ (xs ys : List D), (zipD xs ys).length = min xs.length ys.length
  | [], ys => by simp [zipD]
  | x :: xs, [] => by simp [zipD]
  | x :: xs, y :: ys => by rw [zipD, List.length_cons, zipD_len xs ys, List.length_cons, List.length_cons]; omega
def zpE (es : List EV) (δ : Ev) : IR := match es with
  | [.d (.lst xs), .d (.lst ys)] => .okF (zipD xs ys) δ
  | _ => .no
def fZip (fs : Ev → AR) (δ : Ev) : IR := (fs δ).bindI zpE
theorem vi_zip {e2 : Expr} {p pos tpos : Pos} {elts : List Expr} {kk : Nat} (hm : X.mg "zip" = none) (ha : PA X [e, e2] (tA X.K cm W fs)) (hg : Gl X "zip" := by rfl)
    (hs : starEach [e, e2] X.env = (false, eval e X.env) :: starEach [e2] X.env := by rfl) (hpl : (backTo pos (starEach [e2] X.env)).any (·.1) = false := by rfl) :
    PI X (.Tuple elts kk tpos) (.Call (.Name "zip" p) [e, e2] [] pos) (tI X.K cm W (fZip fs)) :=
  VE.PI.imp (pi_zip hg hm ha hs hpl) fun σ H R ⟨c, δ, T, F, I, h⟩ => goAI I h fun es' δ1 h1 vs F1 H1 l I1 => by
    unfold zpE at h1
    split at h1
    · rename_i xs ys
      obtain ⟨v, w, rfl, ⟨a, us, ev, q1, r1⟩, b, ws, ew, q2, r2⟩ := len2 I1 l
      subst ev; subst ew
      refine ⟨a, b, us, ws, rfl, SqL.of (I1.fh _ _ q1), SqL.of (I1.fh _ _ q2), h1 F1 H1 _ I1.dropL fun F' H' s p => ?_⟩
      have p : Same F1 F' := p
      have hq1 : SqL X.K H' a us := SqL.of (s _ _ (p _ _ q1))
      have hq2 : SqL X.K H' b ws := SqL.of (s _ _ (p _ _ q2))
      refine ⟨fun i x e => ?_, fun i hi => ⟨us, ws, hq1, hq2, by rw [zipD_len] at hi; rw [r1.length, r2.length]; omega⟩⟩
      obtain ⟨x', y', e1, e2, e3⟩ := zipD_get _ _ _ _ e
      subst e3
      obtain ⟨v1, ev1, rv1⟩ := r1.get e1
      obtain ⟨v2, ev2, rv2⟩ := r2.get e2
      refine ⟨⟨us, ws, v1, v2, hq1, hq2, ev1, ev2⟩, fun w H2 y' => ?_⟩
      obtain ⟨Ta, z1, z2, e1, nT, e2, hz1, hz2⟩ := y'
      have t1 := hz1 us hq1
      have t2 := hz2 ws hq2
      rw [ev1] at t1; cases t1
      rw [ev2] at t2; cases t2
      subst e1; subst e2
      have sF := same_upd (o := .tup [v1, v2]) (s.free nT)
      exact ⟨_, .newF nT ⟨Ta, _, rfl, upd_same, ⟨_, _, rfl, (rv1.mono p).mono sF, _, _, rfl, (rv2.mono p).mono sF, rfl⟩⟩⟩
    · exact h1.elim
def rvE (e : EV) (δ : Ev) : IR := match e with
  | .d (.lst xs) => .okF xs.reverse δ
  | _ => .no
def fRevI (f : Ev → ER) (δ : Ev) : IR := (f δ).bindI rvE
theorem vi_rev {tg : Expr} {p pos : Pos} (hm : X.mg "reversed" = none) (he : PE X e (tE X.K cm W f)) (hg : Gl X "reversed" := by rfl) (hs : starEach [e] X.env = (false, eval e X.env) :: starEach [] X.env := by rfl) :
    PI X tg (.Call (.Name "reversed" p) [e] [] pos) (tI X.K cm W (fRevI f)) :=
  VE.PI.imp (RT.pi_revA hg hm he hs) fun σ H R ⟨c, δ, T, F, I, h⟩ => goEI I h fun e1 δ1 h1 v F1 H1 I1 => by
    unfold rvE at h1
    split at h1
    · rename_i xs
      obtain ⟨O, _, _, ⟨a, us, ev, q1, r⟩, _⟩ := id I1.ow
      refine ⟨a, us, ev, .inl ⟨SqL.of (I1.fh _ _ q1), h1 F1 H1 _ I1.drop fun F' H' s p => ?_⟩⟩
      have p : Same F1 F' := p
      have hq : SqL X.K H' a us := SqL.of (s _ _ (p _ _ q1))
      refine ⟨fun i x e => ?_, fun i hi => by rw [List.length_reverse] at hi; show us.length ≤ i; rw [r.length]; exact hi⟩
      have hi : i < xs.length := by have := (List.getElem?_eq_some_iff.mp e).1; rw [List.length_reverse] at this; exact this
      rw [List.getElem?_reverse hi] at e
      obtain ⟨v1, ev1, rv1⟩ := r.get e
      have ev1' : us[us.length - 1 - i]? = some v1 := by rw [r.length]; exact ev1
      refine ⟨⟨by rw [r.length]; exact hi, us, v1, hq, ev1'⟩, fun w H2 y => ?_⟩
      obtain ⟨e1, y⟩ := y
      have := y us hq
      rw [ev1'] at this; cases this; subst e1
      exact ⟨F', .old (rv1.mono p)⟩
    · exact h1.elim
end
end L2.VE

namespace L2.VE
open PySem PySem.Spec PyProof.Rows
section
variable {X : Cx} {cm : Cm} {W : WX} {a b e : Expr} {es : List Expr} {fa fb fc f : Ev → ER} {fs : Ev → AR} {fi : Ev → IR} {p : Ev → BR} {pos : Pos} {K : PySem.W.Frag} {c c1 : Cc} {δ : Ev} {T : Temps} {σ : St} {F H F0 : Hp}
/-! ### contexts -/
theorem SlotOk.cc {O : Own} {i : Nat} (h0 : c1.H0 = c.H0) (hi : c1.io = c.io) (hx : c1.xc = c.xc) (hm : c1.xm = c.xm) (hl : ∀ p, c1.lk i = some p → c.lk i = some p) : ∀ {x : Slot}, SlotOk K c1 σ F H O i x → SlotOk K c σ F H O i x
  | .un, _ => True.intro
  | .d x, h => h
  | .ow x, ⟨a, e, o, n, t⟩ => ⟨a, e, o, h0 ▸ n, t⟩
  | .lk x, ⟨a, e, o, n, l, t⟩ => ⟨a, e, o, h0 ▸ n, hl _ l, t⟩
  | .io x, ⟨a, e, o, n, t⟩ => ⟨a, e, o, hi ▸ n, t⟩
  | .ro x, ⟨a, e, n, t⟩ => ⟨a, e, fun ⟨j, z⟩ => n ⟨j, by rw [hi]; exact z⟩, by rw [← h0]; exact t⟩
  | .xc x, ⟨a, d, e, q, t⟩ => ⟨a, d, e, by rw [← hx, ← hm]; exact q, t⟩
theorem TempsOk.cc {O : Own} (h0 : c1.H0 = c.H0) : ∀ {T : Temps}, TempsOk K c1 σ F H O T → TempsOk K c σ F H O T
  | [], _ => True.intro
  | (v, e) :: T, ⟨t1, t2⟩ => ⟨by
      cases e with
      | fr x => obtain ⟨a, e, o, n, t⟩ := t1; exact ⟨a, e, o, h0 ▸ n, t⟩
      | _ => exact t1, TempsOk.cc h0 t2⟩
def Cc.rb (c : Cc) (F : Hp) : Cc := { c with F0 := F }
theorem SI.rebase (I : SI K c δ T σ F H) : SI K (c.rb F) δ T σ F H :=
  ⟨fun _ _ => rfl, Same.refl F, I.fh, I.kp, I.dom, I.len, let ⟨O, a, b, t⟩ := I.ow; ⟨O, a, fun i s e => SlotOk.cc (c1 := c) (c := c.rb F) rfl rfl rfl rfl (fun _ h => h) (b i s e), TempsOk.cc (c1 := c) (c := c.rb F) rfl t⟩⟩
theorem SI.unbase {δ' : Ev} {T' : Temps} {σ' : St} {F' H' : Hp} (I : SI K c δ T σ F H) (J : SI K (c.rb F) δ' T' σ' F' H') : SI K c δ' T' σ' F' H' :=
  ⟨fun a h => (J.old a h).trans (I.old a h), I.f0.trans J.f0, J.fh, J.kp, J.dom, J.len, let ⟨O, a, b, t⟩ := J.ow; ⟨O, a, fun i s e => SlotOk.cc (c1 := c.rb F) (c := c) rfl rfl rfl rfl (fun _ h => h) (b i s e), TempsOk.cc (c1 := c.rb F) (c := c) rfl t⟩⟩
theorem SI.roP {F' : Hp} {a : Addr} {ds : List D} (na : ¬ c.isIo a) (tp : Top K F' c.H0 (.lst ds) a) (I : SI K (c.rb F') δ T σ F H) : lkP K a ds F H :=
  SI.roTop (c := c.rb F') I na (tp.mono I.f0 rfl)
def Cc.lock (c : Cc) (i : Nat) (a : Addr) (x : D) : Cc := { c with lk := fun j => if j = i then some (a, x) else c.lk j }
theorem SI.lock {i : Nat} {x : D} {a : Addr} (I : SI K c δ T σ F H) (hi : δ[i]? = some (.ow x)) (ha : σ[i]? = some (some (.ref a))) : SI K (c.lock i a x) (δ.set i (.lk x)) T σ F H := by
  obtain ⟨O, o, b, t⟩ := I.ow
  refine ⟨I.old, I.f0, I.fh, I.kp, I.dom, by rw [List.length_set]; exact I.len, O, o, fun j s e => ?_, TempsOk.cc (c1 := c) (c := c.lock i a x) rfl t⟩
  rcases get_set e with ⟨e1, e2, _⟩ | ⟨e1, e2⟩
  · subst e1; subst e2
    obtain ⟨p, ep, op, hp, tp⟩ := b i _ hi
    rw [ha] at ep; cases ep
    exact ⟨a, ha, op, hp, by show (if i = i then some (a, x) else c.lk i) = some (a, x); rw [if_pos rfl], tp⟩
  · refine SlotOk.cc (c1 := c) (c := c.lock i a x) rfl rfl rfl rfl (fun q h => ?_) (b j s e2)
    show (if j = i then some (a, x) else c.lk j) = some q
    rw [if_neg (fun z => e1 z.symm)]; exact h
def unlkD (i : Nat) (δ : Ev) : Option Ev := match δ[i]? with
  | some (.lk x) => some (δ.set i (.ow x))
  | _ => none
theorem SI.unlock {i : Nat} {x : D} {a : Addr} {δ1 : Ev} (I : SI K (c.lock i a x) δ T σ F H) (h : unlkD i δ = some δ1) : SI K c δ1 T σ F H := by
  unfold unlkD at h
  split at h
  · rename_i y q
    cases h
    obtain ⟨O, o, b, t⟩ := I.ow
    refine ⟨I.old, I.f0, I.fh, I.kp, I.dom, by rw [List.length_set]; exact I.len, O, o, fun j s e => ?_, TempsOk.cc (c1 := c.lock i a x) (c := c) rfl t⟩
    rcases get_set e with ⟨e1, e2, _⟩ | ⟨e1, e2⟩
    · subst e1; subst e2
      obtain ⟨p, ep, op, hp, _, tp⟩ := b i _ q
      exact ⟨p, ep, op, hp, tp⟩
    · refine SlotOk.cc (c1 := c.lock i a x) (c := c) rfl rfl rfl rfl (fun q h => ?_) (b j s e2)
      have h : (if j = i then some (a, x) else c.lk j) = some q := h
      rw [if_neg (fun z => e1 z.symm)] at h; exact h
  · cases h
def isLk (i : Nat) (δ : Ev) : Bool := match δ[i]? with
  | some (.lk _) => true
  | _ => false
theorem SI.locked {i : Nat} {ds : List D} {a : Addr} (hl : c1.lk i = some (a, .lst ds)) (I : SI K c1 δ T σ F H) (h : isLk i δ = true) : lkP K a ds F H := by
  unfold isLk at h
  split at h
  · rename_i y q
    obtain ⟨O, o, b, t⟩ := I.ow
    obtain ⟨p, ep, op, hp, l, tp⟩ := b i _ q
    rw [hl] at l; cases l
    exact tp
  · cases h
theorem XOk.imp {x : XD} (w : ∀ F' H', SI K c1 δ [] σ F' H' → SI K c δ [] σ F' H') (h : XOk K cm c W σ δ x) : XOk K cm c1 W σ δ x := fun d F' H' I q => h d F' H' (w F' H' I) q
theorem GS.imp {D : Ends} {r : SR} (w : ∀ δ T σ F H, SI K c1 δ T σ F H → SI K c δ T σ F H) (h : GS K cm c W D r) : GS K cm c1 W D r := by
  cases r with
  | nx δ => exact fun σ F H I => h σ F H (w _ _ _ _ _ I)
  | rt e δ => exact fun v σ F H I => h v σ F H (w _ _ _ _ _ I)
  | bk δ => exact fun σ F H I => h σ F H (w _ _ _ _ _ I)
  | ct δ => exact fun σ F H I => h σ F H (w _ _ _ _ _ I)
  | ex x δ => exact fun σ => (h σ).imp fun _ _ I => w _ _ _ _ _ I
  | no => exact h
def unlk (i : Nat) : SR → SR
  | .nx δ => match unlkD i δ with | some δ1 => .nx δ1 | none => .no
  | .rt e δ => match unlkD i δ with | some δ1 => .rt e δ1 | none => .no
  | .ex x δ => match unlkD i δ with | some δ1 => .ex x δ1 | none => .no
  | _ => .no
theorem GS.lock {r : SR} {i : Nat} {x : D} {a : Addr} {E : Ends} (h : GS K cm c W E (unlk i r)) : GS K cm (c.lock i a x) W E r := by
  cases r with
  | nx δ =>
    unfold unlk at h
    cases q : unlkD i δ with
    | none => simp only [q] at h; exact h.elim
    | some δ1 => simp only [q] at h; exact fun σ F H I => h σ F H (I.unlock q)
  | rt e δ =>
    unfold unlk at h
    cases q : unlkD i δ with
    | none => simp only [q] at h; exact h.elim
    | some δ1 => simp only [q] at h; exact fun v σ F H I => h v σ F H (I.unlock q)
  | ex y δ =>
    unfold unlk at h
    cases q : unlkD i δ with
    | none => simp only [q] at h; exact h.elim
    | some δ1 => simp only [q] at h; exact fun σ d F H I => h σ d F H (I.unlock q)
  | bk δ => exact h.elim
  | ct δ => exact h.elim
  | no => exact h.elim
theorem Cc.at_rb (h : c.at cm = c) : (c.rb F).at cm = c.rb F := by
  show (c.at cm).rb F = c.rb F
  rw [h]
theorem Cc.at_lock {i : Nat} {a : Addr} {x : D} (h : c.at cm = c) : (c.lock i a x).at cm = c.lock i a x := by
  show (c.at cm).lock i a x = c.lock i a x
  rw [h]
/-! ### for -/
def fForGo (chk : Ev → Bool) (tg : D → Ev → Option Ev) (body : Ev → SR) : List D → Ev → SR
  | [], δ => if chk δ then .nx δ else .no
  | x :: xs, δ => if chk δ then (match tg x δ with
      | some δ1 => match body δ1 with
        | .nx δ2 => fForGo chk tg body xs δ2
        | .ct δ2 => fForGo chk tg body xs δ2
        | .bk δ2 => .nx δ2
        | .rt e δ2 => .rt e δ2
        | .ex x δ2 => .ex x δ2
        | .no => .no
      | none => .no) else .no
def chkT (_ : Ev) : Bool := true
def fFor (fi : Ev → IR) (tg : D → Ev → Option Ev) (body : Ev → SR) (δ : Ev) : SR := match fi δ with
  | .okF ds δ1 => fForGo chkT tg body ds δ1
  | .okL i δ1 => match δ1[i]? with
    | some (.ow (.lst ds)) => unlk i (fForGo (isLk i) tg body ds (δ1.set i (.lk (.lst ds))))
    | some (.lk (.lst ds)) => fForGo (isLk i) tg body ds δ1
    | some (.ro (.lst ds)) => fForGo chkT tg body ds δ1
    | _ => .no
  | .ex x δ1 => .ex x δ1
  | .no => .no
theorem for_core {J : It} {P : Hp → Hp → Prop} {ds : List D} {chk : Ev → Bool} {tg : D → Ev → Option Ev} {body : Ev → SR} {E : Ends} {vs : List Nat} (hat : c1.at cm = c1) (hJ : ItOk K J P ds) (hP : ∀ δ σ F H, SI K c1 δ [] σ F H → chk δ = true → P F H)
    (I : SI K c1 δ [] σ F H) (h : GS K cm c1 W E (fForGo chk tg body ds δ)) :
    ∃ W' : Nat → Nat → St → Hp → Prop, (∃ m, W' 0 m σ H) ∧ ∀ i m σ H, W' i m σ H →
      (J.stop i H ∧ E.nx σ H) ∨ (J.go i H ∧ ∃ N : St → Hp → Prop, (∀ σ' H', N σ' H' → ∃ m', m' < m ∧ W' (i + 1) m' σ' H') ∧ ∀ x H', J.yld i H x H' → tG K vs tg x σ H' fun σ2 H2 => tS K cm W body { E with nx := N, ct := N, bk := E.nx } σ2 H2) := by
  refine ⟨fun i m σ H => ∃ δ F, SI K c1 δ [] σ F H ∧ GS K cm c1 W E (fForGo chk tg body (ds.drop i) δ) ∧ m = ds.length - i ∧ i ≤ ds.length, ⟨ds.length, δ, F, I, h, by omega, by omega⟩, ?_⟩
  rintro i m σ H ⟨δ, F, I, h, rfl, hi⟩
  by_cases hl : i < ds.length
  · rw [List.drop_eq_getElem_cons hl] at h
    unfold fForGo at h
    by_cases hc : chk δ = true
    · rw [if_pos hc] at h
      obtain ⟨go, st⟩ := hJ F H I.fh (hP δ σ F H I hc)
      obtain ⟨g1, g2⟩ := go i _ (List.getElem?_eq_getElem hl)
      cases q : tg ds[i] δ with
      | none => simp only [q] at h; exact h.elim
      | some δ1 =>
        simp only [q] at h
        refine .inr ⟨g1, fun σ' H' => ∃ δ F, SI K c1 δ [] σ' F H' ∧ GS K cm c1 W E (fForGo chk tg body (ds.drop (i + 1)) δ), fun σ' H' ⟨δ2, F2, I2, h2⟩ => ⟨ds.length - (i + 1), by omega, δ2, F2, I2, h2, rfl, hl⟩, fun v H' y => ?_⟩
        obtain ⟨F', s⟩ := g2 v H' y
        have I' := I.step s
        refine ⟨c1, δ, _, [], F', I'.drop, (by obtain ⟨O, _, _, t, _⟩ := I'.ow; exact t), True.intro, δ1, q, fun σ2 I2 _ => ⟨c1, δ1, F', by rw [hat]; exact I2, ?_⟩⟩
        rw [hat]
        cases q2 : body δ1 with
        | nx δ2 => simp only [q2] at h; exact fun σ' F' H' I' => ⟨δ2, F', I', h⟩
        | ct δ2 => simp only [q2] at h; exact fun σ' F' H' I' => ⟨δ2, F', I', h⟩
        | bk δ2 => simp only [q2] at h; exact h
        | rt e δ2 => simp only [q2] at h; exact h
        | ex x δ2 => simp only [q2] at h; exact h
        | no => simp only [q2] at h; exact h.elim
    · rw [if_neg hc] at h; exact h.elim
  · have e : i = ds.length := by omega
    subst e
    rw [List.drop_eq_nil_of_le (Nat.le_refl _)] at h
    unfold fForGo at h
    by_cases hc : chk δ = true
    · rw [if_pos hc] at h
      exact .inl ⟨(hJ F H I.fh (hP δ σ F H I hc)).2 _ (Nat.le_refl _), h σ F H I⟩
    · rw [if_neg hc] at h; exact h.elim
theorem vs_for {vs : List Nat} {tg iter : Expr} {body : List Stmt} {g : D → Ev → Option Ev} {s1 : Ev → SR} (hp : PassesOwn (model X.prog X.w) X.A X.env X.xe) (hc : X.calm = true) (hi : PI X tg iter (tI X.K cm W fi)) (hg : PG X tg (tG X.K vs g)) (hb : PSs X body (tS X.K cm W s1))
    (hs : ∀ x, foldedSetIterable iter X.env x = pure x := by intro _; rfl) : PS X (.For tg iter body [] pos) (tS X.K cm W (fFor fi g s1)) :=
  PS.imp (ps_for hp hc hi hg hb hs) fun E σ H ⟨c, δ, F, I, h⟩ => by
    have hat : (c.at cm).at cm = c.at cm := rfl
    generalize c.at cm = c at I h hat
    refine ⟨c, δ, [], F, by rw [hat]; exact I, ?_⟩
    rw [hat]
    unfold fFor at h
    cases q : fi δ with
    | no => rw [q] at h; exact h.elim
    | ex x δ1 => rw [q] at h; exact h σ
    | okF ds δ1 =>
      rw [q] at h
      intro F' H' J I' hJ
      exact for_core (Cc.at_rb hat) hJ (c1 := c.rb F') (fun δ σ F H I _ => I.f0) I'.rebase (GS.imp (fun _ _ _ _ _ J => I'.unbase J) h)
    | okL i δ1 =>
      rw [q] at h
      intro F' H' J a ds ha hd I' hJ
      rcases hd with hd | hd | hd
      · simp only [hd] at h
        exact for_core (Cc.at_lock hat) hJ (c1 := c.lock i a (.lst ds)) (fun δ σ F H I hc => I.locked (by show (if i = i then some (a, D.lst ds) else c.lk i) = some (a, D.lst ds); rw [if_pos rfl]) hc) (I'.lock hd ha) (GS.lock h)
      · simp only [hd] at h
        obtain ⟨O, _, b, _⟩ := id I'.ow
        obtain ⟨p, ep, _, _, l, _⟩ := b i _ hd
        rw [ha] at ep; cases ep
        exact for_core hat hJ (c1 := c) (fun δ σ F H I hc => I.locked l hc) I' h
      · simp only [hd] at h
        obtain ⟨O, _, b, _⟩ := id I'.ow
        obtain ⟨p, ep, na, tp⟩ := b i _ hd
        rw [ha] at ep; cases ep
        exact for_core (Cc.at_rb hat) hJ (c1 := c.rb F') (fun δ σ F H I hc => SI.roP na tp I) I'.rebase (GS.imp (fun _ _ _ _ _ J => I'.unbase J) h)
/-! ### comprehensions -/
def wipeD (δ : Ev) : List Nat → Ev
  | [] => δ
  | v :: vs => (wipeD δ vs).set v .un
theorem wipeD_len (δ : Ev) : ∀ vs, (wipeD δ vs).length = δ.length
  | [] => rfl
  | v :: vs => by unfold wipeD; rw [List.length_set, wipeD_len δ vs]
theorem wipeD_get {j : Nat} {s : Slot} : ∀ {vs : List Nat}, (wipeD δ vs)[j]? = some s → s = .un ∨ (j ∉ vs ∧ δ[j]? = some s)
  | [], h => .inr ⟨by simp, h⟩
  | v :: vs, h => by
    unfold wipeD at h
    rcases get_set h with ⟨e1, e2, _⟩ | ⟨e1, e2⟩
    · exact .inl e2
    · rcases wipeD_get e2 with z | ⟨z1, z2⟩
      · exact .inl z
      · exact .inr ⟨fun z => by rcases List.mem_cons.mp z with z | z; exact e1 z.symm; exact z1 z, z2⟩
/-- other slots' values, the same but for those of vs -/
theorem SI.rewipe {vs : List Nat} {σ' : St} (n : noSl T) (h : Agr vs σ σ') (I : SI K c δ T σ F H) : SI K c (wipeD δ vs) T σ' F H := by
  obtain ⟨O, o, b, t⟩ := I.ow
  have hl : σ'.length = σ.length := by have := congrArg List.length h; rw [wipe_length, wipe_length] at this; exact this
  refine ⟨I.old, I.f0, I.fh, I.kp, I.dom, by rw [wipeD_len, hl]; exact I.len, O, o, fun j s e => ?_, t.any n⟩
  rcases wipeD_get e with z | ⟨z1, z2⟩
  · subst z; exact True.intro
  · refine (b j s z2).sig ?_
    have this : (wipe σ' vs)[j]? = (wipe σ vs)[j]? := congrArg (fun l => l[j]?) h
    rw [wipe_get, wipe_get, if_neg z1, if_neg z1] at this
    exact this
theorem SI.junk (I : SI K c δ T σ F H) : SI K c δ (VE.junk T) σ F H :=
  ⟨I.old, I.f0, I.fh, I.kp, I.dom, I.len, let ⟨O, a, b, t⟩ := I.ow; ⟨O, a, b, t.junk⟩⟩
theorem SI.sls (I : SI K c δ T σ F H) : slOk σ T := let ⟨O, a, b, t⟩ := I.ow; t.sls
/-- slots that held data before hold it again -/
def restD (δ0 δ : Ev) : List Nat → Ev
  | [] => δ
  | v :: vs => match δ0[v]? with
    | some (.d x) => (restD δ0 δ vs).set v (.d x)
    | _ => restD δ0 δ vs
theorem restD_len (δ0 δ : Ev) : ∀ vs, (restD δ0 δ vs).length = δ.length
  | [] => rfl
  | v :: vs => by
    unfold restD
    split
    · rw [List.length_set, restD_len δ0 δ vs]
    · exact restD_len δ0 δ vs
theorem SI.rest {δ0 : Ev} (hd : ∀ (j : Nat) x, δ0[j]? = some (.d x) → ∃ v, σ[j]? = some (some v) ∧ Rep K F x v) (I : SI K c δ T σ F H) : ∀ vs : List Nat, SI K c (restD δ0 δ vs) T σ F H
  | [] => I
  | v :: vs => by
    have ih := SI.rest hd I vs
    unfold restD
    split
    · rename_i x q
      obtain ⟨O, o, b, t⟩ := ih.ow
      refine ⟨ih.old, ih.f0, ih.fh, ih.kp, ih.dom, by rw [List.length_set]; exact ih.len, O, o, fun j s e => ?_, t⟩
      rcases get_set e with ⟨e1, e2, _⟩ | ⟨e1, e2⟩
      · subst e1; subst e2; exact hd v x q
      · exact b j s e2
    · exact ih
theorem wipe_wipe {vs : List Nat} : wipe (wipe σ vs) vs = wipe σ vs := by
  apply List.ext_getElem?
  intro j
  rw [wipe_get, wipe_get, wipe_length]
  by_cases m : j ∈ vs
  · rw [if_pos m, if_pos m]
  · rw [if_neg m, if_neg m]
/-- the uppermost temp, a list of one's own, grows -/
theorem SI.mutT {x y : D} {a : Addr} {o : HO} (I : SI K c δ ((.ref a, .fr x) :: T) σ F H) (t : Top K F (upd H a o) y a) : SI K c δ ((.ref a, .fr y) :: T) σ F (upd H a o) := by
  obtain ⟨O, oo, b, ⟨p, ep, op, hp, t0⟩, tt⟩ := I.ow
  cases ep
  obtain ⟨fp, _⟩ := oo a _ op
  have keep : ∀ (q : Addr) (tg : Tag), tg ≠ .temp T.length → O q = some tg → H q ≠ none → O q = some tg ∧ (upd H a o) q = H q := fun q tg n oq z => by
    have hq : q ≠ a := fun w => by subst w; rw [op] at oq; exact n (Option.some.inj oq).symm
    exact ⟨oq, upd_ne hq⟩
  refine ⟨I.old, I.f0, fun q u e => by rw [upd_ne (ne_of_none e fp)]; exact I.fh _ _ e, fun q u e n => by rw [upd_ne (ne_of_none e hp)]; exact I.kp q u e n, fun q e => ?_, I.len, O, oo, fun j s e => (b j s e).move (Same.refl _) fun q oq z => keep q (.slot j) (fun w => Tag.noConfusion w) oq z, ⟨a, rfl, op, hp, t⟩, tt.move (Same.refl _) fun n q hn oq z => keep q (.temp n) (fun w => Nat.ne_of_lt hn (Tag.temp.inj w)) oq z⟩
  by_cases hq : q = a
  · subst hq; rw [upd_same]; intro z; cases z
  · rw [upd_ne hq]; exact I.dom q e
inductive LR where
  | ok (acc : List D) (δ : Ev) | no
/-- the turns: what is made so far -/
def fLcGo (chk : Ev → Bool) (vs : List Nat) (tg : D → Ev → Option Ev) (p : Ev → BR) (f : Ev → ER) : List D → List D → Ev → LR
  | [], acc, δ => if chk δ then .ok acc δ else .no
  | x :: xs, acc, δ => if chk δ then (match tg x δ with
      | some δ1 => match p δ1 with
        | .ok true δ2 => match fFz f δ2 with
          | .ok (.d y) δ3 => if acc.length < szl then fLcGo chk vs tg p f xs (acc ++ [y]) (wipeD δ3 vs) else .no
          | _ => .no
        | .ok false δ2 => fLcGo chk vs tg p f xs acc (wipeD δ2 vs)
        | _ => .no
      | none => .no) else .no
def lcE (δ0 : Ev) (vs : List Nat) (r : LR) : ER := match r with
  | .ok acc δ => .ok (.fr (.lst acc)) (restD δ0 (wipeD δ vs) vs)
  | .no => .no
def lcU (i : Nat) (r : LR) : LR := match r with
  | .ok acc δ => match unlkD i δ with | some δ1 => .ok acc δ1 | none => .no
  | .no => .no
def fLc (fi : Ev → IR) (vs : List Nat) (tg : D → Ev → Option Ev) (p : Ev → BR) (f : Ev → ER) (δ : Ev) : ER := match fi δ with
  | .okF ds δ1 => lcE δ1 vs (fLcGo chkT vs tg p f ds [] (wipeD δ1 vs))
  | .okL i δ1 => match δ1[i]? with
    | some (.ow (.lst ds)) => if i ∈ vs then .no else lcE δ1 vs (lcU i (fLcGo (isLk i) vs tg p f ds [] (wipeD (δ1.set i (.lk (.lst ds))) vs)))
    | some (.lk (.lst ds)) => if i ∈ vs then .no else lcE δ1 vs (fLcGo (isLk i) vs tg p f ds [] (wipeD δ1 vs))
    | some (.ro (.lst ds)) => lcE δ1 vs (fLcGo chkT vs tg p f ds [] (wipeD δ1 vs))
    | _ => .no
  | .ex x δ1 => .ex x δ1
  | .no => .no
abbrev W0 : WX := fun _ _ _ _ => False
theorem lc_go {J : It} {P : Hp → Hp → Prop} {ds : List D} {chk : Ev → Bool} {tg : D → Ev → Option Ev} {vs : List Nat} {A : Addr} {G : Hp → Prop} (hat : c1.at cm = c1) (hJ : ItOk K J P ds) (hn : noSl T)
    (hP : ∀ δ T σ F H, SI K c1 δ T σ F H → chk δ = true → P F H) {acc0 : List D}
    (I : SI K c1 δ ((.ref A, .fr (.lst acc0)) :: T) (wipe σ vs) F H) {acc' : List D} {δ' : Ev} (h : fLcGo chk vs tg p f ds acc0 δ = .ok acc' δ')
    (hG : ∀ F' H', SI K c1 δ' ((.ref A, .fr (.lst acc')) :: T) (wipe σ vs) F' H' → G H') :
    ∃ W' : Nat → Nat → Hp → Prop, (∃ m, W' 0 m H) ∧ ∀ i m H, W' i m H →
      (J.stop i H ∧ G H) ∨ (J.go i H ∧ ∃ Nx : Hp → Prop, (∀ H', Nx H' → ∃ m', m' < m ∧ W' (i + 1) m' H') ∧ ∀ x H', J.yld i H x H' → tG K vs tg x (wipe σ vs) H' fun σ2 H2 => wipe σ2 vs = wipe σ vs ∧ tT K cm W0 p σ2 H2 fun b H3 =>
        if b = true then tE K cm W0 (fFz f) σ2 H3 fun y H4 => ∃ acc, H4 A = some (.lst acc) ∧ acc.length < sizeLine ∧ Nx (upd H4 A (.lst (acc ++ [y]))) else Nx H3) := by
  refine ⟨fun i m H => ∃ δ acc F, SI K c1 δ ((.ref A, .fr (.lst acc)) :: T) (wipe σ vs) F H ∧ fLcGo chk vs tg p f (ds.drop i) acc δ = .ok acc' δ' ∧ m = ds.length - i ∧ i ≤ ds.length, ⟨ds.length, δ, acc0, F, I, h, by omega, by omega⟩, ?_⟩
  rintro i m H ⟨δ, acc, F, I, h, rfl, hi⟩
  by_cases hl : i < ds.length
  · rw [List.drop_eq_getElem_cons hl] at h
    unfold fLcGo at h
    by_cases hc : chk δ = true
    · rw [if_pos hc] at h
      obtain ⟨go, st⟩ := hJ F H I.fh (hP _ _ _ F H I hc)
      obtain ⟨g1, g2⟩ := go i _ (List.getElem?_eq_getElem hl)
      cases q : tg ds[i] δ with
      | none => simp only [q] at h; cases h
      | some δ1 =>
        simp only [q] at h
        refine .inr ⟨g1, fun H' => ∃ δ acc F, SI K c1 δ ((.ref A, .fr (.lst acc)) :: T) (wipe σ vs) F H' ∧ fLcGo chk vs tg p f (ds.drop (i + 1)) acc δ = .ok acc' δ', fun H' ⟨δ2, acc2, F2, I2, h2⟩ => ⟨ds.length - (i + 1), by omega, δ2, acc2, F2, I2, h2, rfl, hl⟩, fun v H' y => ?_⟩
        obtain ⟨F', s⟩ := g2 v H' y
        have I' := I.step s
        have nT : noSl ((V.ref A, EV.fr (.lst acc)) :: T) := ⟨fun _ z => EV.noConfusion z, hn⟩
        refine ⟨c1, δ, _, _, F', I'.drop, (by obtain ⟨O, _, _, t, _⟩ := I'.ow; exact t), nT, δ1, q, fun σ2 I2 ag => ?_⟩
        have ag' : Agr vs σ2 (wipe σ vs) := ag.symm
        have e2 : wipe σ2 vs = wipe σ vs := by rw [ag, wipe_wipe]
        refine ⟨e2, c1, δ1, _, F', by rw [hat]; exact I2, ?_⟩
        rw [hat]
        cases q2 : p δ1 with
        | no => simp only [q2] at h; cases h
        | ex x δ2 => simp only [q2] at h; cases h
        | ok k δ2 =>
          simp only [q2] at h
          cases k with
          | false =>
            intro F3 H3 I3
            refine iteF ?_
            exact ⟨_, acc, F3, SI.rewipe nT ag' I3, h⟩
          | true =>
            intro F3 H3 I3
            refine iteT ⟨c1, δ2, _, F3, by rw [hat]; exact I3, ?_⟩
            rw [hat]
            cases q3 : fFz f δ2 with
            | no => simp only [q3] at h; cases h
            | ex x δ3 => simp only [q3] at h; cases h
            | ok e3 δ3 =>
              simp only [q3] at h
              cases e3 with
              | d y =>
                by_cases hz : acc.length < szl
                · simp only [if_pos hz] at h
                  intro w F4 H4 I4
                  obtain ⟨O, _, _, ry, ⟨p', ep, _, _, us, hus, ru⟩, _⟩ := id I4.ow
                  cases ep
                  refine ⟨us, hus, by rw [ru.length, szl_eq]; exact hz, _, acc ++ [y], F4, ?_, h⟩
                  exact SI.rewipe ⟨fun _ z => EV.noConfusion z, hn⟩ ag' (I4.drop.mutT ⟨us ++ [w], upd_same, ru.append (RepL.one ry)⟩)
                · simp only [if_neg hz] at h; cases h
              | _ => cases h
    · rw [if_neg hc] at h; cases h
  · have e : i = ds.length := by omega
    subst e
    rw [List.drop_eq_nil_of_le (Nat.le_refl _)] at h
    unfold fLcGo at h
    by_cases hc : chk δ = true
    · rw [if_pos hc] at h
      cases h
      exact .inl ⟨(hJ F H I.fh (hP _ _ _ F H I hc)).2 _ (Nat.le_refl _), hG F H I⟩
    · rw [if_neg hc] at h; cases h
theorem noSl_jk : noSl (VE.junk T) := noSl_junk T
theorem SI.back {vs : List Nat} {δ0 δ' : Ev} {A : Addr} {acc : List D} {F' H' : Hp} (sl : slOk σ T) (hd : ∀ (j : Nat) x, δ0[j]? = some (.d x) → ∃ v, σ[j]? = some (some v) ∧ Rep K F' x v)
    (I : SI K c δ' ((.ref A, .fr (.lst acc)) :: VE.junk T) (wipe σ vs) F' H') : SI K c (restD δ0 (wipeD δ' vs) vs) ((.ref A, .fr (.lst acc)) :: T) σ F' H' := by
  have I1 := SI.rewipe (vs := vs) (σ' := σ) (T := (.ref A, .fr (.lst acc)) :: VE.junk T) ⟨fun _ z => EV.noConfusion z, noSl_junk T⟩ (by unfold Agr; rw [wipe_wipe]) I
  have I2 := I1.rest hd vs
  refine ⟨I2.old, I2.f0, I2.fh, I2.kp, I2.dom, I2.len, ?_⟩
  obtain ⟨O, o, b, t1, t2⟩ := I2.ow
  have t1' : TempOk K c σ F' H' O (VE.junk T).length (.ref A) (.fr (.lst acc)) := t1
  rw [junk_length] at t1'
  exact ⟨O, o, b, t1', t2.unjunk sl⟩
theorem SI.datas (I : SI K c δ T σ F H) {F' : Hp} (s : Same F F') : ∀ (j : Nat) x, δ[j]? = some (.d x) → ∃ v, σ[j]? = some (some v) ∧ Rep K F' x v := fun j x e => by
  obtain ⟨O, o, b, t⟩ := I.ow
  obtain ⟨v, ev, r⟩ := b j _ e
  exact ⟨v, ev, r.mono s⟩
theorem restD_same {vs : List Nat} {i : Nat} {x y : D} (hx : ∀ z, x = z → True) : True := True.intro
theorem tE_Lc {vs : List Nat} {g : D → Ev → Option Ev} : ∀ σ H Q, tE K cm W (fLc fi vs g p f) σ H Q → tLc (tI K cm W fi) (tG K vs g) (tT K cm W0 p) (tE K cm W0 (fFz f)) vs σ H Q := fun σ H Q ⟨c, δ, T, F, I, h⟩ => by
  have hat : (c.at cm).at cm = c.at cm := rfl
  generalize c.at cm = c at I h hat
  refine ⟨c, δ, T, F, by rw [hat]; exact I, ?_⟩
  rw [hat]
  unfold fLc at h
  cases q : fi δ with
  | no => rw [q] at h; exact h.elim
  | ex x δ1 => rw [q] at h; exact h
  | okF ds δ1 =>
    rw [q] at h
    intro F' H' J I' hJ A hA
    have h : GE K cm c W T σ Q (lcE δ1 vs (fLcGo chkT vs g p f ds [] (wipeD δ1 vs))) := h
    cases q2 : fLcGo chkT vs g p f ds [] (wipeD δ1 vs) with
    | no => rw [q2] at h; exact h.elim
    | ok acc δ2 =>
      rw [q2] at h
      have I2 : SI K (c.rb F') (wipeD δ1 vs) ((.ref A, .fr (.lst [])) :: VE.junk T) (wipe σ vs) F' (upd H' A (.lst [])) :=
        SI.newM (SI.rewipe (noSl_junk T) (by unfold Agr; rw [wipe_wipe]) I'.rebase.junk) hA ⟨[], upd_same, rfl⟩
      refine lc_go (Cc.at_rb hat) hJ (noSl_junk T) (c1 := c.rb F') (fun δ T σ F H I _ => I.f0) I2 q2 fun F3 H3 I3 => ?_
      exact h _ F3 H3 (I'.unbase (SI.back I'.sls (I'.datas I3.f0) I3))
  | okL i δ1 =>
    rw [q] at h
    intro F' H' J a ds ha hd I' hJ A hA
    rcases hd with hd | hd | hd
    · simp only [hd] at h
      by_cases hm : i ∈ vs
      · rw [if_pos hm] at h; exact h.elim
      · rw [if_neg hm] at h
        cases q2 : fLcGo (isLk i) vs g p f ds [] (wipeD (δ1.set i (.lk (.lst ds))) vs) with
        | no => rw [q2] at h; exact h.elim
        | ok acc δ2 =>
          rw [q2] at h
          unfold lcU at h
          cases q3 : unlkD i δ2 with
          | none => simp only [q3] at h; exact h.elim
          | some δ3 =>
            simp only [q3] at h
            have IL := (I'.rebase).lock hd ha
            have I2 : SI K ((c.rb F').lock i a (.lst ds)) (wipeD (δ1.set i (.lk (.lst ds))) vs) ((.ref A, .fr (.lst [])) :: VE.junk T) (wipe σ vs) F' (upd H' A (.lst [])) :=
              SI.newM (SI.rewipe (noSl_junk T) (by unfold Agr; rw [wipe_wipe]) IL.junk) hA ⟨[], upd_same, rfl⟩
            refine lc_go (Cc.at_lock (Cc.at_rb hat)) hJ (noSl_junk T) (c1 := (c.rb F').lock i a (.lst ds)) (fun δ T σ F H I hc => I.locked (by show (if i = i then some (a, D.lst ds) else (c.rb F').lk i) = some (a, D.lst ds); rw [if_pos rfl]) hc) I2 q2 fun F3 H3 I3 => ?_
            have I4 := I3.unlock q3
            exact h _ F3 H3 (I'.unbase (SI.back I'.sls (I'.datas I4.f0) I4))
    · simp only [hd] at h
      by_cases hm : i ∈ vs
      · rw [if_pos hm] at h; exact h.elim
      · rw [if_neg hm] at h
        cases q2 : fLcGo (isLk i) vs g p f ds [] (wipeD δ1 vs) with
        | no => rw [q2] at h; exact h.elim
        | ok acc δ2 =>
          rw [q2] at h
          obtain ⟨O, _, b, _⟩ := id I'.ow
          obtain ⟨p', ep, _, _, l, _⟩ := b i _ hd
          rw [ha] at ep; cases ep
          have I2 : SI K (c.rb F') (wipeD δ1 vs) ((.ref A, .fr (.lst [])) :: VE.junk T) (wipe σ vs) F' (upd H' A (.lst [])) :=
            SI.newM (SI.rewipe (noSl_junk T) (by unfold Agr; rw [wipe_wipe]) I'.rebase.junk) hA ⟨[], upd_same, rfl⟩
          refine lc_go (Cc.at_rb hat) hJ (noSl_junk T) (c1 := c.rb F') (fun δ T σ F H I hc => SI.locked (c1 := c.rb F') l I hc) I2 q2 fun F3 H3 I3 => ?_
          exact h _ F3 H3 (I'.unbase (SI.back I'.sls (I'.datas I3.f0) I3))
    · simp only [hd] at h
      cases q2 : fLcGo chkT vs g p f ds [] (wipeD δ1 vs) with
      | no => rw [q2] at h; exact h.elim
      | ok acc δ2 =>
        rw [q2] at h
        obtain ⟨O, _, b, _⟩ := id I'.ow
        obtain ⟨p', ep, na, tp⟩ := b i _ hd
        rw [ha] at ep; cases ep
        have I2 : SI K (c.rb F') (wipeD δ1 vs) ((.ref A, .fr (.lst [])) :: VE.junk T) (wipe σ vs) F' (upd H' A (.lst [])) :=
          SI.newM (SI.rewipe (noSl_junk T) (by unfold Agr; rw [wipe_wipe]) I'.rebase.junk) hA ⟨[], upd_same, rfl⟩
        refine lc_go (Cc.at_rb hat) hJ (noSl_junk T) (c1 := c.rb F') (fun δ T σ F H I hc => SI.roP na tp I) I2 q2 fun F3 H3 I3 => ?_
        exact h _ F3 H3 (I'.unbase (SI.back I'.sls (I'.datas I3.f0) I3))
end
end L2.VE

namespace L2.VE
open PySem PySem.Spec PyProof.Rows
section
variable {X : Cx} {cm : Cm} {W : WX} {a b e : Expr} {es : List Expr} {fa fb fc f : Ev → ER} {fs : Ev → AR} {fi : Ev → IR} {p : Ev → BR} {pos : Pos} {K : PySem.W.Frag} {c c1 : Cc} {δ : Ev} {T : Temps} {σ : St} {F H F0 : Hp}
def fYes (δ : Ev) : BR := .ok true δ
theorem PTs.imp {X : Cx} {e : List Expr} {t t' : TT} (h : PTs X e t) (w : ∀ σ H Q, t' σ H Q → t σ H Q) : PTs X e t' := ⟨fun pins s σ H Q I q => h.run pins s σ H Q I (w σ H Q q)⟩
theorem vts_nil : PTs X [] (tT X.K cm W fYes) := VE.PTs.imp pts_nil fun σ H Q ⟨c, δ, T, F, I, h⟩ => h F H I
theorem vts_one {c : Expr} (h : PT X c (tT X.K cm W p)) : PTs X [c] (tT X.K cm W p) := pts_one h
/-- [elt for tg in iter if ..] -/
theorem vc_lc {elt tg iter : Expr} {ifs : List Expr} {scope : Scope} {g : D → Ev → Option Ev} (own : List (Str × Nat)) (hc : X.calm = true) (hN : X.N.Nodup) (hi : PI X tg iter (tI X.K cm W fi)) (ok : BlkOk X.N X.env.scope scope own)
    (hg : ∀ (s : Shared) (H : Hp) (C : Addr) (cl : List (Str × Addr)) (fp : List Addr), PG (X.blk s H scope (compEnvC scope cl C X.env) fp) tg (tG X.K (own.map (·.2)) g))
    (ht : ∀ (s : Shared) (H : Hp) (C : Addr) (cl : List (Str × Addr)) (fp : List Addr), PTs (X.blk s H scope (compEnvC scope cl C X.env) fp) ifs (tT X.K cm W0 p))
    (he : ∀ (s : Shared) (H : Hp) (C : Addr) (cl : List (Str × Addr)) (fp : List Addr), PE (X.blk s H scope (compEnvC scope cl C X.env) fp) elt (tE X.K cm W0 f)) (hs : ∀ x, foldedSetIterable iter X.env x = pure x := by intro _; rfl) :
    PE X (.ListComp elt [⟨tg, iter, ifs, 0⟩] scope pos) (tE X.K cm W (fLc fi (own.map (·.2)) g p f)) :=
  PE.imp (pe_lc hc hN hi ok hg ht (fun s H C cl fp => vc_fz (X := X.blk s H scope (compEnvC scope cl C X.env) fp) (he s H C cl fp)) hs) tE_Lc
theorem vs_setLc {i : Nat} {y : Str} {py spos : Pos} {elt tg iter : Expr} {ifs : List Expr} {scope : Scope} {g : D → Ev → Option Ev} (own : List (Str × Nat)) (hc : X.calm = true) (hN : X.N.Nodup) (hy : X.N[i]? = some y) (hyl : X.env.scope.names.lookup y = some .local)
    (hsw : swapsWith (.ListComp elt [⟨tg, iter, ifs, 0⟩] scope pos) (some (.Name y py)) spos.line X.env = pure true) (hi : PI X tg iter (tI X.K cm W fi)) (ok : BlkOk X.N X.env.scope scope own)
    (hg : ∀ (s : Shared) (H : Hp) (C : Addr) (cl : List (Str × Addr)) (fp : List Addr), PG (X.blk s H scope (compEnvC scope cl C X.env) fp) tg (tG X.K (own.map (·.2)) g))
    (ht : ∀ (s : Shared) (H : Hp) (C : Addr) (cl : List (Str × Addr)) (fp : List Addr), PTs (X.blk s H scope (compEnvC scope cl C X.env) fp) ifs (tT X.K cm W0 p))
    (he : ∀ (s : Shared) (H : Hp) (C : Addr) (cl : List (Str × Addr)) (fp : List Addr), PE (X.blk s H scope (compEnvC scope cl C X.env) fp) elt (tE X.K cm W0 f)) (hs : ∀ x, foldedSetIterable iter X.env x = pure x := by intro _; rfl) :
    PS X (.Assign [.Name y py] (.ListComp elt [⟨tg, iter, ifs, 0⟩] scope pos) spos) (tS X.K cm W (fSet i (fLc fi (own.map (·.2)) g p f))) :=
  PS.imp (ps_setLc hc hN hy hyl hsw hi ok hg ht (fun s H C cl fp => vc_fz (X := X.blk s H scope (compEnvC scope cl C X.env) fp) (he s H C cl fp)) hs) fun E σ H ⟨c, δ, F, I, h⟩ =>
    tE_Lc σ H _ (goES I h fun e1 δ1 h1 v F1 H1 I1 => I1.unE h1 fun e' δ' F' _ I' h' => by
      unfold setE at h'
      split at h'
      · exact h' _ F' H1 (SI.setD True.intro I'.drop (by obtain ⟨O, _, _, t, _⟩ := I'.ow; exact t))
      · exact h' _ F' H1 (SI.setOw True.intro I')
      · exact h'.elim)
/-! ### stores into a list, a dict -/
theorem RepK.any {k : Key} : ∀ {ds : List (Key × D)} {vs : List (Key × V)}, RepK K F ds vs → (vs.any fun kv => decide (kv.1 = k)) = ds.any fun p => decide (p.1 = k)
  | [], _, h => by rw [show _ = [] from h]; rfl
  | (j, d) :: ds, _, ⟨v, r, e, _, h2⟩ => by rw [e, List.any_cons, List.any_cons, RepK.any h2]
theorem RepK.mapSet {k : Key} {x : D} {v : V} (rx : Rep K F x v) : ∀ {ds : List (Key × D)} {vs : List (Key × V)}, RepK K F ds vs → RepK K F (ds.map fun p => if p.1 = k then (p.1, x) else p) (vs.map fun p => if p.1 = k then (p.1, v) else p)
  | [], _, h => by rw [show _ = [] from h]; exact rfl
  | (j, d) :: ds, _, ⟨u, r, e, h1, h2⟩ => by
    rw [e, List.map_cons, List.map_cons]
    by_cases q : j = k
    · rw [if_pos q, if_pos q]; exact ⟨v, _, rfl, rx, RepK.mapSet rx h2⟩
    · rw [if_neg q, if_neg q]; exact ⟨u, _, rfl, h1, RepK.mapSet rx h2⟩
theorem RepK.append : ∀ {ds es : List (Key × D)} {vs ws : List (Key × V)}, RepK K F ds vs → RepK K F es ws → RepK K F (ds ++ es) (vs ++ ws)
  | [], _, _, _, h, q => by rw [show _ = [] from h]; exact q
  | (k, d) :: ds, _, _, _, ⟨v, r, e, h1, h2⟩, q => by subst e; exact ⟨v, _, rfl, h1, RepK.append h2 q⟩
theorem RepK.put {k : Key} {x : D} {v : V} {ds : List (Key × D)} {vs : List (Key × V)} (h : RepK K F ds vs) (rx : Rep K F x v) : RepK K F (VE.put k x ds) (putK vs k v) := by
  unfold VE.put putK
  rw [h.any]
  split
  · exact h.mapSet rx
  · exact h.append ⟨v, [], rfl, rx, rfl⟩
theorem RepT.any {k : List Key} : ∀ {ds : List (List Key × D)} {vs : List (List Key × V)}, RepT K F ds vs → (vs.any fun kv => decide (kv.1 = k)) = ds.any fun p => decide (p.1 = k)
  | [], _, h => by rw [show _ = [] from h]; rfl
  | (j, d) :: ds, _, ⟨v, r, e, _, h2⟩ => by rw [e, List.any_cons, List.any_cons, RepT.any h2]
theorem RepT.mapSet {k : List Key} {x : D} {v : V} (rx : Rep K F x v) : ∀ {ds : List (List Key × D)} {vs : List (List Key × V)}, RepT K F ds vs → RepT K F (ds.map fun p => if p.1 = k then (p.1, x) else p) (vs.map fun p => if p.1 = k then (p.1, v) else p)
  | [], _, h => by rw [show _ = [] from h]; exact rfl
  | (j, d) :: ds, _, ⟨u, r, e, h1, h2⟩ => by
    rw [e, List.map_cons, List.map_cons]
    by_cases q : j = k
    · rw [if_pos q, if_pos q]; exact ⟨v, _, rfl, rx, RepT.mapSet rx h2⟩
    · rw [if_neg q, if_neg q]; exact ⟨u, _, rfl, h1, RepT.mapSet rx h2⟩
theorem RepT.append : ∀ {ds es : List (List Key × D)} {vs ws : List (List Key × V)}, RepT K F ds vs → RepT K F es ws → RepT K F (ds ++ es) (vs ++ ws)
  | [], _, _, _, h, q => by rw [show _ = [] from h]; exact q
  | (k, d) :: ds, _, _, _, ⟨v, r, e, h1, h2⟩, q => by subst e; exact ⟨v, _, rfl, h1, RepT.append h2 q⟩
theorem RepT.put {k : List Key} {x : D} {v : V} {ds : List (List Key × D)} {vs : List (List Key × V)} (h : RepT K F ds vs) (rx : Rep K F x v) : RepT K F (VE.put k x ds) (putK vs k v) := by
  unfold VE.put putK
  rw [h.any]
  split
  · exact h.mapSet rx
  · exact h.append ⟨v, [], rfl, rx, rfl⟩
theorem RepK.len : ∀ {ds : List (Key × D)} {vs : List (Key × V)}, RepK K F ds vs → vs.length = ds.length := RepK.length
theorem RepT.len : ∀ {ds : List (List Key × D)} {vs : List (List Key × V)}, RepT K F ds vs → vs.length = ds.length
  | [], _, h => by rw [show _ = [] from h]; rfl
  | (k, d) :: ds, _, ⟨v, r, e, _, h2⟩ => by rw [e, List.length_cons, List.length_cons, RepT.len h2]
/-- the content behind x[k] = v -/
def gSet (x k v : D) : Option D := match x with
  | .lst xs => match k with
    | .int i => match ixN xs.length i with
      | some j => some (.lst (xs.set j v))
      | none => none
    | _ => none
  | .dk kvs => match keyD k with
    | some q => if kvs.length < szl then some (.dk (put q v kvs)) else none
    | none => none
  | .dt kvs => match keyT k with
    | some q => if kvs.length < szl then some (.dt (put q v kvs)) else none
    | none => none
  | _ => none
def rSet4 : V → V → V → Hp → (Hp → Prop) → Prop := fun o i v H Q => rSetL o i v H Q ∨ ∃ a H', o = .ref a ∧ DPut H a i v H' ∧ Q H'
theorem set4 (hu : X.A.units + 1 < cLine) : PSet X rSet4 := by
  intro pins s σ H o i v ov iv u Q I ro ri rv h
  rcases h with h | ⟨a, H', rfl, g, q⟩
  · exact set_list pins s σ H o i v ov iv u Q I ro ri rv h
  · cases ro
    exact d_setItem hu I g ri rv fun s' I' => ⟨H', I', q⟩
theorem gSet_ok {x k v y : D} {a : Addr} {kv vv : V} {Q : Hp → Prop} (s : Same F H) (t : Top K F H x a) (rk : RepH K F H k kv) (rv : Rep K F v vv) (h : gSet x k v = some y) (hQ : ∀ o, Top K F (upd H a o) y a → Q (upd H a o)) : rSet4 (.ref a) kv vv H Q := by
  unfold gSet at h
  cases x with
  | lst xs =>
    obtain ⟨us, hu, ru⟩ := t
    simp only at h
    split at h
    · rename_i i
      split at h
      · rename_i j q
        cases h
        exact .inl ⟨a, us, i, j, rfl, rk.int, hu, by rw [ru.length]; exact q, hQ _ ⟨_, upd_same, ru.set rv j⟩⟩
      · cases h
    · cases h
  | dk kvs =>
    obtain ⟨us, hu, ru⟩ := t
    simp only at h
    cases q : keyD k with
    | none => simp only [q] at h; cases h
    | some q' =>
      simp only [q] at h
      by_cases hl : kvs.length < szl
      · simp only [if_pos hl] at h
        cases h
        refine .inr ⟨a, _, rfl, ?_, hQ (.dK (putK us q' vv)) ⟨_, upd_same, ru.put rv⟩⟩
        rw [keyD_H q rk]
        exact DPut.k hu (by rw [ru.len, szl_eq]; exact hl)
      · simp only [if_neg hl] at h; cases h
  | dt kvs =>
    obtain ⟨us, hu, ru⟩ := t
    simp only at h
    cases q : keyT k with
    | none => simp only [q] at h; cases h
    | some q' =>
      simp only [q] at h
      by_cases hl : kvs.length < szl
      · simp only [if_pos hl] at h
        cases h
        cases k <;> try (cases q)
        rename_i zs
        obtain ⟨b, ws, e2, q2, r2⟩ := rk.tup s
        have eu := keysD_of q r2
        subst eu
        subst e2
        exact .inr ⟨a, _, rfl, DPut.t hu q2 (by rw [ru.len, szl_eq]; exact hl), hQ _ ⟨_, upd_same, ru.put rv⟩⟩
      · simp only [if_neg hl] at h; cases h
  | _ => exact t.elim
/-- a slot's content changed -/
def chgS (i : Nat) (y : D) (δ : Ev) : Ev := match δ[i]? with
  | some (.ow _) => δ.set i (.ow y)
  | some (.io _) => δ.set i (.io y)
  | _ => δ
def owD (i : Nat) (δ : Ev) : Option D := match δ[i]? with
  | some (.ow x) => some x
  | some (.io x) => some x
  | _ => none
theorem SI.chg {i : Nat} {x : D} (I : SI K c δ T σ F H) (h : owD i δ = some x) : ∃ a, σ[i]? = some (some (.ref a)) ∧ Top K F H x a ∧ ∀ y o, Top K F (upd H a o) y a → SI K c (chgS i y δ) T σ F (upd H a o) := by
  unfold owD at h
  split at h
  · rename_i q
    cases h
    obtain ⟨a, ha, t⟩ := I.at_ow q
    exact ⟨a, ha, t, fun y o t' => by unfold chgS; rw [q]; exact I.mut q ha t'⟩
  · rename_i q
    cases h
    obtain ⟨a, ha, t⟩ := I.at_io q
    exact ⟨a, ha, t, fun y o t' => by unfold chgS; rw [q]; exact I.mutIo q ha t'⟩
  · cases h
/-- o[k] = v, o a name -/
def putE (i : Nat) (xv : D) (ek : EV) (δ : Ev) : SR := match owD i δ with
  | some x => match evD δ ek with
    | some k => match gSet x k xv with
      | some y => .nx (chgS i y δ)
      | none => .no
    | none => .no
  | none => .no
def fPut (i : Nat) (fk fv : Ev → ER) (δ : Ev) : SR := (fFz fv δ).bindS fun ev δ1 => match ev with
  | .d xv => match owD i δ1 with
    | some _ => (fk δ1).bindS (putE i xv)
    | none => .no
  | _ => .no
theorem fzE_d {e e' : EV} {δ δ' : Ev} (h : fzE e δ = .ok e' δ') : ∃ x, e' = .d x := by
  unfold fzE at h
  split at h
  · cases h; exact ⟨_, rfl⟩
  · cases h; exact ⟨_, rfl⟩
  · split at h
    · cases h; exact ⟨_, rfl⟩
    · cases h; exact ⟨_, rfl⟩
    · cases h
  · cases h
theorem fFz_d {f : Ev → ER} {e' : EV} {δ δ' : Ev} (h : fFz f δ = .ok e' δ') : ∃ x, e' = .d x := by
  unfold fFz at h
  cases q : f δ with
  | ok e1 δ1 => rw [q] at h; exact fzE_d h
  | ex x δ1 => rw [q] at h; cases h
  | no => rw [q] at h; cases h
theorem goFz {E : Ends} {f : Ev → ER} {k : EV → Ev → SR} {Q : VK} (I : SI K (c.at cm) δ T σ F H) (h : GS K cm (c.at cm) W E ((fFz f δ).bindS k))
    (n : ∀ x δ1, GS K cm (c.at cm) W E (k (.d x) δ1) → ∀ v F' H', SI K (c.at cm) δ1 ((v, .d x) :: T) σ F' H' → Q v H') : tE K cm W (fFz f) σ H Q := by
  refine ⟨c, δ, T, F, I, ?_⟩
  cases e : fFz f δ with
  | ok e1 δ1 =>
    rw [e] at h
    obtain ⟨x, rfl⟩ := fFz_d e
    exact n x δ1 h
  | ex x δ1 => rw [e] at h; exact h σ
  | no => rw [e] at h; exact h
theorem vs_put {i : Nat} {x : Str} {fk fv : Ev → ER} {k value : Expr} {px pt : Pos} (hu : X.A.units + 1 < cLine) (hN : X.N[i]? = some x) (hk : PE X k (tE X.K cm W fk)) (hv : PE X value (tE X.K cm W fv))
    (hs : swapsWithSole [.Subscript (.Name x px) k pt] value pos.line X.env = pure false := by rfl) (hw : swappedStores [.Subscript (.Name x px) k pt] value X.env = pure none := by rfl)
    (h1 : (assignEach [.Subscript (.Name x px) k pt] X.env).map (·.2) = [assign (.Subscript (.Name x px) k pt) X.env] := by rfl)
    (hvis : Vis X.env.scope x := by first | exact Or.inl rfl | exact Or.inr (Or.inl rfl) | exact Or.inr (Or.inr rfl)) (hd : (x == ("__debug__" : Str)) = false := by decide) (hcd : (x == ("__classdict__" : Str)) = false := by decide)
    (ha : ∀ v, assign (.Subscript (.Name x px) k pt) X.env v = (do
      let ov ← holding [v] (eval (.Name x px) X.env)
      let iv ← holding [v, ov] (eval k X.env)
      standAt pt
      holding [v, ov, iv] (setItem ov iv v)
      release [v, ov, iv] []) := by intro _; rfl) :
    PS X (.Assign [.Subscript (.Name x px) k pt] value pos) (tS X.K cm W (fPut i fk fv)) :=
  PS.imp (ps_asg (vc_fz hv) (pg_sub (pe_var hN hvis hd hcd) hk (set4 hu) ha) hs hw h1) fun E σ H ⟨c, δ, F, I, h⟩ =>
    goFz I h fun xv δ1 h1 v F1 H1 I1 => by
      cases q : owD i δ1 with
      | none => simp only [q] at h1; exact h1.elim
      | some x0 =>
        simp only [q] at h1
        obtain ⟨a, ha, _⟩ := I1.chg q
        refine ⟨_, ha, goES I1 h1 fun ek δ2 h2 w F2 H2 I2 => ?_⟩
        have I2 : SI X.K (c.at cm) δ2 [(w, ek), (v, .d xv)] σ F2 H2 := I2
        unfold putE at h2
        cases q1 : owD i δ2 with
        | none => rw [q1] at h2; exact h2.elim
        | some x =>
          rw [q1] at h2
          cases q2 : evD δ2 ek with
          | none => simp only [q2] at h2; exact h2.elim
          | some kk =>
            simp only [q2] at h2
            cases q3 : gSet x kk xv with
            | none => simp only [q3] at h2; exact h2.elim
            | some y =>
              simp only [q3] at h2
              obtain ⟨a', ha', tp, mv⟩ := (I2.drop.drop).chg q1
              rw [ha] at ha'; cases ha'
              exact gSet_ok I2.fh tp (I2.view q2) (by obtain ⟨O, _, _, _, t, _⟩ := I2.ow; exact t) q3 fun o t' => h2 σ F2 _ (mv y o t')
/-! o[k] op= e -/
theorem get_list : PGet X (rIxL X.K) := by
  intro pins s σ H x y v u Q I rx ry h
  obtain ⟨p, xs, i, z, rfl, rfl, hq, he, q⟩ := h
  cases rx
  obtain ⟨t, rfl⟩ := ry
  obtain ⟨its, r, pl, hz⟩ := I.list hq
  obtain ⟨j, h1, h2, h3, h4, h5⟩ := atI_get he
  obtain ⟨w, ew, rw'⟩ := r.get h2
  have hl := r.length
  have hn := line63
  have fin : EP X pins σ Q w s := ⟨z, H, I, rw', q⟩
  by_cases h0 : 0 ≤ i
  · have hj : i.toNat = j := by
      rw [seqIndex_of h0 h5] at h1
      exact Option.some.inj h1
    exact wpAny_getItem_list pl.isList h0 (by omega) (by rw [hj]; simpa using ew) fin
  · have hj : (i + (its.toArray.size : Int)).toNat = j := by
      rw [seqIndex_neg (by omega) h4] at h1
      rw [List.size_toArray, ← hl]
      exact Option.some.inj h1
    exact wpAny_getItem_list_neg pl.isList (by omega) (by rw [List.size_toArray] <;> omega) (by omega) (by rw [hj]; simpa using ew) fin
def rGet4 (K : PySem.W.Frag) : R2 := fun x y H Q => rIxL K x y H Q ∨ ∃ a v, x = .ref a ∧ DGet H a y (some v) ∧ Q v H
theorem get4 (hu : X.A.units + 1 < cLine) : PGet X (rGet4 X.K) := by
  intro pins s σ H x y v u Q I rx ry h
  rcases h with h | ⟨a, w, rfl, g, q⟩
  · exact get_list pins s σ H x y v u Q I rx ry h
  · cases rx
    exact d_getItem hu I g ry fun w' s' I' r' => ⟨w, H, I', r', q⟩
def gGet (x k : D) : Option D := match x with
  | .lst xs => match k with
    | .int i => atI xs i
    | _ => none
  | _ => match dget x k with
    | some (some v) => some v
    | _ => none
theorem gGet_ok {x k y : D} {a : Addr} {kv : V} {Q : VK} (s : Same F H) (t : Top K F H x a) (rk : RepH K F H k kv) (h : gGet x k = some y) (hQ : ∀ v, Rep K F y v → Q v H) : rGet4 K (.ref a) kv H Q := by
  unfold gGet at h
  split at h
  · split at h
    · obtain ⟨us, hu, ru⟩ := t
      obtain ⟨v, h1, h2⟩ := atI_rep ru h
      exact .inl ⟨a, us, _, v, rfl, rk.int, SqL.of hu, h1, hQ v h2⟩
    · cases h
  · split at h
    · rename_i q
      cases h
      obtain ⟨a', o', ea, g, m⟩ := dget_ok s (.inr ⟨a, rfl, t⟩) rk q
      cases ea
      obtain ⟨u, eu, r⟩ := m
      exact .inr ⟨a, u, rfl, by rw [← eu]; exact g, hQ u r⟩
    · cases h
/-- o[k] op= e: the operation gives data -/
def augE (i : Nat) (g : D → D → Option EV) (ek : EV) (xo : D) (e : EV) (δ : Ev) : SR := match fin2 g (.d xo) e δ with
  | .ok (.d z) δ2 => match owD i δ2 with
    | some x => match evD δ2 ek with
      | some k => match gSet x k z with
        | some y => .nx (chgS i y δ2)
        | none => .no
      | none => .no
    | none => .no
  | _ => .no
def fAugS (i : Nat) (g : D → D → Option EV) (fk fv : Ev → ER) (δ : Ev) : SR := match owD i δ with
  | some _ => (fk δ).bindS fun ek δ1 => match owD i δ1 with
    | some x => match evD δ1 ek with
      | some k => match gGet x k with
        | some xo => (fv δ1).bindS (augE i g ek xo)
        | none => .no
      | none => .no
    | none => .no
  | none => .no
theorem fin2_d {g : D → D → Option EV} {e1 e2 : EV} {δ δ2 : Ev} {e : EV} (h : fin2 g e1 e2 δ = .ok e δ2) : δ2 = δ := by
  unfold fin2 at h
  split at h
  · split at h
    · split at h
      · cases h; rfl
      · cases h
    · cases h
  · cases h
theorem vs_augS {i : Nat} {x : Str} {fk fv : Ev → ER} {k value : Expr} {px pt : Pos} {op : Operator} {r : R2} {g : D → D → Option EV} (ho : OpR X (inplaceOp op) r) (hg : Op2 X.K r g) (hu : X.A.units + 1 < cLine) (hN : X.N[i]? = some x) (hk : PE X k (tE X.K cm W fk)) (hv : PE X value (tE X.K cm W fv))
    (hvis : Vis X.env.scope x := by first | exact Or.inl rfl | exact Or.inr (Or.inl rfl) | exact Or.inr (Or.inr rfl)) (hd : (x == ("__debug__" : Str)) = false := by decide) (hcd : (x == ("__classdict__" : Str)) = false := by decide)
    (ha : ∀ ov iv new, augStore k ov iv new = (do holding [new, ov, iv] (setItem ov iv new); release [new, ov, iv] []; pure .next) := by intros; rfl) :
    PS X (.AugAssign (.Subscript (.Name x px) k pt) op value pos) (tS X.K cm W (fAugS i g fk fv)) :=
  PS.imp (ps_augS (pe_var hN hvis hd hcd) hk (get4 hu) hv ho (set4 hu) ha) fun E σ H ⟨c, δ, F, I, h⟩ => by
    unfold fAugS at h
    cases q : owD i δ with
    | none => rw [q] at h; exact h.elim
    | some x0 =>
      simp only [q] at h
      obtain ⟨a, hsa, _⟩ := I.chg q
      refine ⟨_, hsa, goES I h fun ek δ1 h1 w F1 H1 I1 => ?_⟩
      have I1 : SI X.K (c.at cm) δ1 [(w, ek)] σ F1 H1 := I1
      cases q1 : owD i δ1 with
      | none => simp only [q1] at h1; exact h1.elim
      | some x1 =>
        simp only [q1] at h1
        cases q2 : evD δ1 ek with
        | none => simp only [q2] at h1; exact h1.elim
        | some kk =>
          simp only [q2] at h1
          cases q3 : gGet x1 kk with
          | none => simp only [q3] at h1; exact h1.elim
          | some xo =>
            simp only [q3] at h1
            obtain ⟨a', ha', tp, _⟩ := I1.chg q1
            rw [hsa] at ha'; cases ha'
            refine gGet_ok I1.fh tp (I1.view q2) q3 fun vo ro => ?_
            refine goES (T' := [(vo, .d xo), (w, ek)]) (I1.pushD ro) h1 fun e2 δ2 h2 u F2 H2 I2 => ?_
            have I2 : SI X.K (c.at cm) δ2 [(u, e2), (vo, .d xo), (w, ek)] σ F2 H2 := I2
            have key : GE X.K cm (c.at cm) W [(w, ek)] σ (fun z H3 => rSet4 (.ref a) w z H3 fun H6 => E.nx σ H6) (fin2 g (.d xo) e2 δ2) := by
              unfold augE at h2
              cases q4 : fin2 g (.d xo) e2 δ2 with
              | no => rw [q4] at h2; exact h2.elim
              | ex z δ3 => rw [q4] at h2; exact h2.elim
              | ok e3 δ3 =>
                rw [q4] at h2
                cases e3 with
                | d z =>
                  simp only at h2
                  intro vz F3 H3 I3
                  have I3 : SI X.K (c.at cm) δ3 [(vz, .d z), (w, ek)] σ F3 H3 := I3
                  cases q5 : owD i δ3 with
                  | none => simp only [q5] at h2; exact h2.elim
                  | some x3 =>
                    simp only [q5] at h2
                    cases q6 : evD δ3 ek with
                    | none => simp only [q6] at h2; exact h2.elim
                    | some k3 =>
                      simp only [q6] at h2
                      cases q7 : gSet x3 k3 z with
                      | none => simp only [q7] at h2; exact h2.elim
                      | some y =>
                        simp only [q7] at h2
                        obtain ⟨a3, ha3, tp3, mv⟩ := (I3.drop.drop).chg q5
                        rw [hsa] at ha3; cases ha3
                        exact gSet_ok I3.fh tp3 (I3.drop.view q6) (by obtain ⟨O, _, _, t, _⟩ := I3.ow; exact t) q7 fun o t' => h2 σ F3 _ (mv y o t')
                | _ => exact h2.elim
            exact fin2_ok hg I2 key
end
end L2.VE

namespace L2.VE
open PySem PySem.Spec PyProof.Rows
section
variable {X : Cx} {cm : Cm} {W : WX} {a b e : Expr} {es : List Expr} {fa fb fc f : Ev → ER} {fs : Ev → AR} {p : Ev → BR} {pos : Pos} {K : PySem.W.Frag} {c c1 : Cc} {δ δ2 : Ev} {T : Temps} {σ : St} {F H F' H' : Hp}
/-! ### calls of defs -/
def frE (e : EV) (δ : Ev) : ER := match e with
  | .fr x => .ok (.d x) δ
  | e => .ok e δ
def fFr (f : Ev → ER) (δ : Ev) : ER := (f δ).bind frE
/-- an argument that is only read: what is new is frozen -/
theorem vc_fr (ha : PE X a (tE X.K cm W f)) : PE X a (tE X.K cm W (fFr f)) := PE.imp ha fun σ H Q ⟨c, δ, T, F, I, h⟩ => goE I h fun e δ1 h1 v F1 H1 I1 => by
  unfold frE at h1
  split at h1
  · obtain ⟨F2, _, I2⟩ := I1.freezeT
    exact h1 v F2 H1 I2
  · exact h1 v F1 H1 I1
def tIo (io : Option Nat) (es : List EV) (δ : Ev) : Option (Option Nat) := match io with
  | none => some none
  | some j => match es[j]? with
    | some (.sl i) => match owD i δ with
      | some _ => some (some i)
      | none => none
    | _ => none
def argIo (δ : Ev) : EV → Option Slot
  | .sl i => match owD i δ with
    | some x => some (.io x)
    | none => none
  | _ => none
def roS : Option Slot → Option Slot
  | some (.d x) => some (.d x)
  | some (.ow x) => some (.ro x)
  | some (.io x) => some (.ro x)
  | some (.lk x) => some (.ro x)
  | some (.ro x) => some (.ro x)
  | _ => none
def argRo (t : Option Nat) (δ : Ev) : EV → Option Slot
  | .d x => some (.d x)
  | .sl i => if t = some i then none else roS δ[i]?
  | _ => none
def argS (t : Option Nat) (here : Bool) (δ : Ev) (e : EV) : Option Slot := match here with
  | true => argIo δ e
  | false => argRo t δ e
def argsS (io t : Option Nat) (δ : Ev) : Nat → List EV → Option (List Slot)
  | _, [] => some []
  | k, e :: es => match argS t (io == some k) δ e with
    | some s => match argsS io t δ (k + 1) es with
      | some ss => some (s :: ss)
      | none => none
    | none => none
def postC (io t : Option Nat) (δ δ' : Ev) : Option Ev := match io with
  | none => some δ
  | some j => match t with
    | some i => match δ'[j]? with
      | some (.io y) => some (chgS i y δ)
      | _ => none
    | none => none
def retC (e : EV) (δ' : Ev) : Option EV := match e with
  | .d x => some (.d x)
  | .fr x => some (.fr x)
  | .sl i => match δ'[i]? with
    | some (.ow x) => some (.fr x)
    | some (.d x) => some (.d x)
    | _ => none
  | .jk => none
def endC (io t : Option Nat) (δ : Ev) : SR → ER
  | .nx δ' => match postC io t δ δ' with
    | some δ2 => .ok (.d .non) δ2
    | none => .no
  | .rt e δ' => match postC io t δ δ' with
    | some δ2 => match retC e δ' with
      | some e' => .ok e' δ2
      | none => .no
    | none => .no
  | .ex x δ' => match postC io t δ δ' with
    | some δ2 => .ex x δ2
    | none => .no
  | _ => .no
def padS (n : Nat) (ss : List Slot) : Ev := ss ++ List.replicate (n - ss.length) .un
def runC (n : Nat) (io t : Option Nat) (g : Ev → SR) (es : List EV) (δ : Ev) : ER := match argsS io t δ 0 es with
  | some ss => endC io t δ (g (padS n ss))
  | none => .no
def finC (len n : Nat) (io : Option Nat) (g : Ev → SR) (es : List EV) (δ : Ev) : ER := match tIo io es δ with
  | some t => if es.length = len then runC n io t g es δ else .no
  | none => .no
def fCall (len n : Nat) (io : Option Nat) (g : Ev → SR) (fs : Ev → AR) (δ : Ev) : ER := (fs δ).bindE (finC len n io g)
/-! coming back -/
def RetOk (K : PySem.W.Frag) (F' H H' : Hp) (v : V) : EV → Prop
  | .d x => Rep K F' x v
  | .fr x => ∃ a, v = .ref a ∧ F' a = none ∧ H a = none ∧ Top K F' H' x a
  | _ => False
theorem owD_cases {i : Nat} {x : D} (h : owD i δ = some x) : δ[i]? = some (.ow x) ∨ δ[i]? = some (.io x) := by
  unfold owD at h
  split at h
  · cases h; exact .inl (by assumption)
  · cases h; exact .inr (by assumption)
  · cases h
theorem SI.leave (ia : Option (Nat × Addr)) (I : SI K c δ T σ F H) (s : Same F F') (s2 : Same F' H') (old : ∀ a, H a ≠ none → F' a = F a) (kp : ∀ a o, H a = some o → (∀ i, ia ≠ some (i, a)) → H' a = some o) (dom : ∀ a, H a ≠ none → H' a ≠ none)
    (hn : ia = none → δ2 = δ) (hs : ∀ i a, ia = some (i, a) → ∃ x y, owD i δ = some x ∧ σ[i]? = some (some (.ref a)) ∧ Top K F' H' y a ∧ δ2 = chgS i y δ) {v : V} {e : EV} (r : RetOk K F' H H' v e) : SI K c δ2 ((v, e) :: T) σ F' H' := by
  obtain ⟨O, oo, b, tt⟩ := id I.ow
  -- the changed place is a slot's own
  have own : ∀ i a, ia = some (i, a) → O a = some (.slot i) := fun i a e => by
    obtain ⟨x, y, h1, h2, _, _⟩ := hs i a e
    rcases owD_cases h1 with q | q
    · obtain ⟨p, ep, op, _⟩ := b i _ q; rw [h2] at ep; cases ep; exact op
    · obtain ⟨p, ep, op, _⟩ := b i _ q; rw [h2] at ep; cases ep; exact op
  have keep : ∀ a t, O a = some t → (∀ i, ia = some (i, a) → t ≠ .slot i) → H a ≠ none → H' a = H a := fun a t ot ne z => by
    cases q : H a with
    | none => exact absurd q z
    | some o => exact kp a o q fun i e => ne i e (by have := own i a e; rw [ot] at this; exact Option.some.inj this)
  have len2 : δ2.length = δ.length := by
    cases q : ia with
    | none => rw [hn q]
    | some p =>
      obtain ⟨x, y, _, _, _, e⟩ := hs p.1 p.2 q
      rw [e]
      unfold chgS
      split
      · exact List.length_set
      · exact List.length_set
      · rfl
  -- owners behind the call: with the result's
  let R : Addr → Prop := fun a => match e with
    | .fr _ => v = .ref a
    | _ => False
  have Rfree : ∀ a, R a → F' a = none ∧ H a = none := fun a h => by
    cases e with
    | fr x => obtain ⟨p, e1, h1, h2, _⟩ := r; have h : v = .ref a := h; rw [h] at e1; cases e1; exact ⟨h1, h2⟩
    | _ => exact h.elim
  classical
  let O2 : Own := fun a => if R a then some (.temp T.length) else if H a = none then none else O a
  have o2 : ∀ a t, O a = some t → H a ≠ none → O2 a = some t := fun a t ot z => by
    show (if R a then some (.temp T.length) else if H a = none then none else O a) = some t
    rw [if_neg (fun h => z (Rfree a h).2), if_neg z]; exact ot
  refine ⟨fun a h => (old a (I.dom a h)).trans (I.old a h), I.f0.trans s, s2, fun a o h n => ?_, fun a h => dom a (I.dom a h), len2.trans I.len, O2, fun a t h => ?_, fun i sl h => ?_, ?_, ?_⟩
  · refine kp a o (I.kp a o h n) fun i z => ?_
    have := (oo a _ (own i a z)).2
    rcases this with q | q
    · rw [h] at q; cases q
    · exact n q
  · have h : (if R a then some (Tag.temp T.length) else if H a = none then none else O a) = some t := h
    by_cases hr : R a
    · obtain ⟨h1, h2⟩ := Rfree a hr
      refine ⟨h1, .inl ?_⟩
      cases q : c.H0 a with
      | none => rfl
      | some o => exact absurd h2 (I.dom a (by rw [q]; intro z; cases z))
    · rw [if_neg hr] at h
      by_cases hz : H a = none
      · rw [if_pos hz] at h; cases h
      · rw [if_neg hz] at h
        obtain ⟨h1, h2⟩ := oo a t h
        exact ⟨by rw [old a hz]; exact h1, h2⟩
  · -- slots
    have mv : ∀ (sl : Slot), δ[i]? = some sl → (∀ a, ia ≠ some (i, a)) → SlotOk K c σ F' H' O2 i sl := fun sl h n =>
      (b i sl h).move s fun a oa z => ⟨o2 a _ oa z, keep a _ oa (fun j e w => by injection w with w; subst w; exact n a e) z⟩
    cases q : ia with
    | none => rw [hn q] at h; exact mv sl h fun a z => by rw [q] at z; cases z
    | some p =>
      obtain ⟨x, y, h1, h2, tp, e2⟩ := hs p.1 p.2 q
      rw [e2] at h
      rcases owD_cases h1 with w | w
      · have e3 : chgS p.1 y δ = δ.set p.1 (.ow y) := by unfold chgS; rw [w]
        rw [e3] at h
        rcases get_set h with ⟨e1, e2, _⟩ | ⟨e1, e2⟩
        · subst e1; subst e2
          obtain ⟨a, ea, oa, ha, ta⟩ := b _ _ w
          rw [h2] at ea; cases ea
          exact ⟨_, h2, o2 _ _ oa ta.ne, ha, tp⟩
        · exact mv sl e2 fun a z => by rw [q] at z; cases z; exact e1 rfl
      · have e3 : chgS p.1 y δ = δ.set p.1 (.io y) := by unfold chgS; rw [w]
        rw [e3] at h
        rcases get_set h with ⟨e1, e2, _⟩ | ⟨e1, e2⟩
        · subst e1; subst e2
          obtain ⟨a, ea, oa, ha, ta⟩ := b _ _ w
          rw [h2] at ea; cases ea
          exact ⟨_, h2, o2 _ _ oa ta.ne, ha, tp⟩
        · exact mv sl e2 fun a z => by rw [q] at z; cases z; exact e1 rfl
  · cases e with
    | d x => exact r
    | fr x =>
      obtain ⟨a, e1, h1, h2, tp⟩ := r
      refine ⟨a, e1, ?_, ?_, tp⟩
      · exact if_pos (show R a from e1)
      · cases q : c.H0 a with
        | none => rfl
        | some o => exact absurd h2 (I.dom a (by rw [q]; intro z; cases z))
    | sl i => exact r.elim
    | jk => exact r.elim
  · exact tt.move s fun n a hn oa z => ⟨o2 a _ oa z, keep a _ oa (fun j e w => nomatch w) z⟩
/-! going in -/
def cIn (cm : Cm) (H F : Hp) (io : Option Nat) (ad : Option Addr) : Cc := ⟨H, F, fun j => if io = some j then ad else none, fun _ => none, cm.m, cm.x⟩
def adOf : Option V → Option Addr
  | some (.ref a) => some a
  | _ => none
/-- an argument, in the callee's slot -/
def ArgOk (K : PySem.W.Frag) (F H : Hp) (ad : Option Addr) (v : V) : Slot → Prop
  | .d x => Rep K F x v
  | .ro x => ∃ a, v = .ref a ∧ ad ≠ some a ∧ Top K F H x a
  | .io x => ∃ a, v = .ref a ∧ ad = some a ∧ Top K F H x a
  | _ => False
def ArgsOk (K : PySem.W.Frag) (F H : Hp) (ad : Option Addr) (io : Option Nat) : Nat → List V → List Slot → Prop
  | _, [], [] => True
  | k, v :: vs, s :: ss => ArgOk K F H ad v s ∧ (∀ x, s = .io x → io = some k) ∧ ArgsOk K F H ad io (k + 1) vs ss
  | _, _, _ => False
theorem ArgsOk.length {ad : Option Addr} {io : Option Nat} : ∀ {k : Nat} {vs : List V} {ss : List Slot}, ArgsOk K F H ad io k vs ss → vs.length = ss.length
  | _, [], [], _ => rfl
  | _, _ :: _, _ :: _, h => by rw [List.length_cons, List.length_cons, ArgsOk.length h.2.2]
  | _, [], _ :: _, h => h.elim
  | _, _ :: _, [], h => h.elim
theorem ArgsOk.get {ad : Option Addr} {io : Option Nat} : ∀ {k : Nat} {vs : List V} {ss : List Slot} {i : Nat} {s : Slot}, ArgsOk K F H ad io k vs ss → ss[i]? = some s → ∃ v, vs[i]? = some v ∧ ArgOk K F H ad v s ∧ (∀ x, s = .io x → io = some (k + i))
  | _, [], [], _, _, _, e => by simp at e
  | _, [], _ :: _, _, _, h, _ => h.elim
  | _, _ :: _, [], _, _, h, _ => h.elim
  | k, v :: vs, s :: ss, 0, s', h, e => by simp at e; subst e; exact ⟨v, rfl, h.1, h.2.1⟩
  | k, v :: vs, s :: ss, i + 1, s', h, e => by
    obtain ⟨w, e1, h1, h2⟩ := ArgsOk.get (i := i) h.2.2 (by simpa using e)
    exact ⟨w, by simpa using e1, h1, fun x z => by rw [h2 x z]; congr 1; omega⟩
theorem SI.enter {N : List Str} {io : Option Nat} {ad : Option Addr} {vs : List V} {ss : List Slot} (fh : Same F H) (fa : ∀ a, ad = some a → F a = none) (io' : ad ≠ none → io ≠ none) (h : ArgsOk K F H ad io 0 vs ss) :
    SI K (cIn cm H F io ad) (padS N.length ss) [] (start N vs) F H := by
  have hl := h.length
  refine ⟨fun _ _ => rfl, Same.refl F, fh, fun _ _ e _ => e, fun _ e => e, ?_, fun a => if ad = some a then io.map .slot else none, fun a t e => ?_, fun i s e => ?_, True.intro⟩
  · unfold padS start
    rw [List.length_append, List.length_append, List.length_replicate, List.length_replicate, List.length_map, hl]
  · have e : (if ad = some a then io.map Tag.slot else none) = some t := e
    by_cases q : ad = some a
    · refine ⟨fa a q, .inr ?_⟩
      cases w : io with
      | none => rw [w] at io'; exact absurd rfl (io' (by rw [q]; intro z; cases z))
      | some j => exact ⟨j, by show (if some j = some j then ad else none) = some a; rw [if_pos rfl]; exact q⟩
    · rw [if_neg q] at e; cases e
  · unfold padS at e
    by_cases hi : i < ss.length
    · rw [List.getElem?_append_left hi] at e
      obtain ⟨v, ev, ok, hio⟩ := h.get e
      have es : (start N vs)[i]? = some (some v) := by
        unfold start
        rw [List.getElem?_append_left (by rw [List.length_map, hl]; exact hi), List.getElem?_map, ev]; rfl
      cases s with
      | d x => exact ⟨v, es, ok⟩
      | ro x =>
        obtain ⟨a, e1, n, t⟩ := ok
        refine ⟨a, by rw [es, e1], fun ⟨j, z⟩ => ?_, t⟩
        have z : (if io = some j then ad else none) = some a := z
        by_cases w : io = some j
        · rw [if_pos w] at z; exact n z
        · rw [if_neg w] at z; cases z
      | io x =>
        obtain ⟨a, e1, n, t⟩ := ok
        have hi' : io = some i := by have := hio x rfl; rwa [Nat.zero_add] at this
        refine ⟨a, by rw [es, e1], ?_, ?_, t⟩
        · show (if ad = some a then io.map Tag.slot else none) = some (.slot i)
          rw [if_pos n, hi']; rfl
        · show (if io = some i then ad else none) = some a
          rw [if_pos hi']; exact n
      | _ => exact ok.elim
    · rw [List.getElem?_append_right (by omega)] at e
      have := (List.getElem?_eq_some_iff.mp e)
      obtain ⟨hw, hz⟩ := this
      rw [List.getElem_replicate] at hz
      subst hz
      exact True.intro
/-- the caller's arguments -/
theorem argsS_ok {io t : Option Nat} {O : Own} {ad : Option Addr} (b : ∀ i s, δ[i]? = some s → SlotOk K c σ F H O i s) (rt : ∀ x a, ¬ c.isIo a → Top K F c.H0 x a → Top K F H x a) (oo : ∀ a t, O a = some t → c.H0 a = none ∨ c.isIo a)
    (had : ∀ a, ad = some a → ∃ i, t = some i ∧ O a = some (.slot i)) : ∀ {k : Nat} {es : List EV} {vs : List V} {ss : List Slot} {T : Temps}, SI K c δ (pushL vs es T) σ F H → vs.length = es.length → argsS io t δ k es = some ss →
      (∀ j, io = some (k + j) → ∀ v, vs[j]? = some v → adOf (some v) = ad) → ArgsOk K F H ad io k vs ss
  | k, [], [], ss, T, _, _, h, _ => by cases h; exact True.intro
  | k, [], _ :: _, _, _, _, l, _, _ => by cases l
  | k, _ :: _, [], _, _, _, l, _, _ => by cases l
  | k, e :: es, v :: vs, ss, T, I, l, h, hj => by
    have I' : SI K c δ (pushL vs es ((v, e) :: T)) σ F H := I
    unfold argsS at h
    cases q : argS t (io == some k) δ e with
    | none => rw [q] at h; cases h
    | some s =>
      rw [q] at h
      cases q2 : argsS io t δ (k + 1) es with
      | none => simp only [q2] at h; cases h
      | some ss' =>
        simp only [q2] at h
        cases h
        have rest := argsS_ok b rt oo had (T := (v, e) :: T) I' (Nat.succ.inj l) q2 fun j z w hw => hj (j + 1) (by rw [z]; congr 1; omega) w (by simpa using hw)
        have tv : TempOk K c σ F H (Classical.choose I'.dropL.ow) T.length v e := (Classical.choose_spec I'.dropL.ow).2.2.1
        by_cases hk : io = some k
        · have e0 : (io == some k) = true := by rw [hk]; simp
          rw [e0] at q
          replace q : argIo δ e = some s := q
          cases e with
          | d x => cases q
          | fr x => cases q
          | jk => cases q
          | sl i =>
            replace q : (match owD i δ with | some x => some (Slot.io x) | none => none) = some s := q
            have tv : σ[i]? = some (some v) := tv
            cases q3 : owD i δ with
            | none => rw [q3] at q; cases q
            | some x =>
              rw [q3] at q
              cases q
              refine ⟨?_, fun y z => hk, rest⟩
              have hv := hj 0 (by rw [hk]; rfl) v rfl
              rcases owD_cases q3 with w | w
              · obtain ⟨a, ea, _, _, ta⟩ := b i _ w
                rw [tv] at ea; cases ea
                exact ⟨a, rfl, hv.symm, ta⟩
              · obtain ⟨a, ea, _, _, ta⟩ := b i _ w
                rw [tv] at ea; cases ea
                exact ⟨a, rfl, hv.symm, ta⟩
        · have e0 : (io == some k) = false := by simpa using hk
          rw [e0] at q
          replace q : argRo t δ e = some s := q
          have nio : ∀ {x y : D}, Slot.d x = .io y → io = some k := fun z => nomatch z
          have nio2 : ∀ {x y : D}, Slot.ro x = .io y → io = some k := fun z => nomatch z
          cases e with
          | d x => cases q; exact ⟨tv, fun _ z => nio z, rest⟩
          | fr x => cases q
          | jk => cases q
          | sl i =>
            replace q : (if t = some i then none else roS δ[i]?) = some s := q
            have tv : σ[i]? = some (some v) := tv
            by_cases ht : t = some i
            · rw [if_pos ht] at q; cases q
            · rw [if_neg ht] at q
              have nad : ∀ a, O a = some (.slot i) → ad ≠ some a := fun a oa z => by
                obtain ⟨i', e1, e2⟩ := had a z
                rw [oa] at e2
                injection e2 with e2; injection e2 with e2
                subst e2
                exact ht e1
              cases w : δ[i]? with
              | none => rw [w] at q; cases q
              | some s0 =>
                rw [w] at q
                have so := b i s0 w
                cases s0 with
                | un => cases q
                | xc x => cases q
                | d x =>
                  cases q
                  obtain ⟨u, eu, r⟩ := so
                  rw [tv] at eu; cases eu
                  exact ⟨r, fun _ z => nio z, rest⟩
                | ow x =>
                  cases q
                  obtain ⟨a, ea, oa, _, ta⟩ := so
                  rw [tv] at ea; cases ea
                  exact ⟨⟨a, rfl, nad a oa, ta⟩, fun _ z => nio2 z, rest⟩
                | io x =>
                  cases q
                  obtain ⟨a, ea, oa, _, ta⟩ := so
                  rw [tv] at ea; cases ea
                  exact ⟨⟨a, rfl, nad a oa, ta⟩, fun _ z => nio2 z, rest⟩
                | lk x =>
                  cases q
                  obtain ⟨a, ea, oa, _, _, ta⟩ := so
                  rw [tv] at ea; cases ea
                  exact ⟨⟨a, rfl, nad a oa, ta⟩, fun _ z => nio2 z, rest⟩
                | ro x =>
                  cases q
                  obtain ⟨a, ea, na, ta⟩ := so
                  rw [tv] at ea; cases ea
                  refine ⟨⟨a, rfl, fun z => ?_, rt x a na ta⟩, fun _ z => nio2 z, rest⟩
                  obtain ⟨i', _, e2⟩ := had a z
                  rcases oo a _ e2 with q | q
                  · exact ta.ne q
                  · exact na q
theorem SI.sl_at : ∀ {es : List EV} {vs : List V} {T : Temps} {i j : Nat} {v : V}, SI K c δ (pushL vs es T) σ F H → vs.length = es.length → es[j]? = some (.sl i) → vs[j]? = some v → σ[i]? = some (some v)
  | [], _, _, _, _, _, _, _, h, _ => by simp at h
  | e :: es, [], _, _, _, _, _, l, _, _ => by cases l
  | e :: es, u :: vs, T, i, 0, v, I, l, h, hv => by
    have I' : SI K c δ (pushL vs es ((u, e) :: T)) σ F H := I
    simp at h hv
    subst h; subst hv
    exact (Classical.choose_spec I'.dropL.ow).2.2.1
  | e :: es, u :: vs, T, i, j + 1, v, I, l, h, hv => by
    have I' : SI K c δ (pushL vs es ((u, e) :: T)) σ F H := I
    exact SI.sl_at I' (Nat.succ.inj l) (by simpa using h) (by simpa using hv)
theorem retC_ok {io : Option Nat} {ad : Option Addr} {δ' : Ev} {σ' : St} {v : V} {e e' : EV} (J : SI K (cIn cm H F io ad) δ' [(v, e)] σ' F' H') (h : retC e δ' = some e') : RetOk K F' H H' v e' := by
  obtain ⟨O, oo, b, t, _⟩ := id J.ow
  unfold retC at h
  cases e with
  | d x => cases h; exact t
  | fr x => cases h; obtain ⟨a, e1, oa, ha, ta⟩ := t; exact ⟨a, e1, (oo a _ oa).1, ha, ta⟩
  | jk => cases h
  | sl i =>
    have t : σ'[i]? = some (some v) := t
    simp only at h
    split at h
    · rename_i x q
      cases h
      obtain ⟨a, ea, oa, ha, ta⟩ := b i _ q
      rw [t] at ea; cases ea
      exact ⟨a, rfl, (oo a _ oa).1, ha, ta⟩
    · rename_i x q
      cases h
      obtain ⟨u, ea, r⟩ := b i _ q
      rw [t] at ea; cases ea
      exact r
    · cases h
/-- the argument that is changed: in the caller's slot i, at a -/
def IoAt (δ : Ev) (σ : St) (io t : Option Nat) (ad : Option Addr) : Prop := match io with
  | none => t = none ∧ ad = none
  | some _ => ∃ i a x, t = some i ∧ ad = some a ∧ owD i δ = some x ∧ σ[i]? = some (some (.ref a))
theorem SI.ret {io t : Option Nat} {ad : Option Addr} {δ' : Ev} {σ' : St} {T' : Temps} {v : V} {e : EV} (I : SI K c δ T σ F H) (ia : IoAt δ σ io t ad) (J : SI K (cIn cm H F io ad) δ' T' σ' F' H') (hp : postC io t δ δ' = some δ2) (r : RetOk K F' H H' v e) :
    SI K c δ2 ((v, e) :: T) σ F' H' := by
  cases io with
  | none =>
    obtain ⟨rfl, rfl⟩ := ia
    cases hp
    refine SI.leave none I J.f0 J.fh J.old (fun a o h _ => J.kp a o h fun ⟨j, z⟩ => ?_) J.dom (fun _ => rfl) (fun i a z => nomatch z) r
    have z : (if (none : Option Nat) = some j then (none : Option Addr) else none) = some a := z
    rw [if_neg (fun w => nomatch w)] at z; cases z
  | some j =>
    obtain ⟨i, a, x, rfl, rfl, h1, h2⟩ := ia
    have hp : (match δ'[j]? with | some (.io y) => some (chgS i y δ) | _ => none) = some δ2 := hp
    split at hp
    · rename_i y q
      cases hp
      refine SI.leave (some (i, a)) I J.f0 J.fh J.old (fun b o h n => J.kp b o h fun ⟨j', z⟩ => ?_) J.dom (fun z => nomatch z) (fun i' a' z => ?_) r
      · have z : (if some j = some j' then some a else none) = some b := z
        by_cases w : some j = some j'
        · rw [if_pos w] at z; cases z; exact n i rfl
        · rw [if_neg w] at z; cases z
      · cases z
        obtain ⟨O, _, b, _⟩ := id J.ow
        obtain ⟨a', _, _, ha, ta⟩ := b j _ q
        have ha : (if some j = some j then some a else none) = some a' := ha
        rw [if_pos rfl] at ha; cases ha
        exact ⟨x, y, h1, h2, ta, rfl⟩
    · cases hp
/-- a def's promise: its evaluator -/
def spV (K : PySem.W.Frag) (cm : Cm) (len : Nat) (N : List Str) (g : Ev → SR) : Sp := fun vs H Q E => vs.length = len ∧ tS K cm (fun cls d _ H' => E cls d H') g { nx := fun _ H' => Q .non H', rt := Q } (start N vs) H
theorem call_run {len : Nat} {N : List Str} {io : Option Nat} {g : Ev → SR} {es : List EV} {vs : List V} {Q : VK} (l : vs.length = es.length) (I : SI K c δ (pushL vs es T) σ F H) (h : GE K cm c W T σ Q (finC len N.length io g es δ)) :
    spV K cm len N g vs H Q (WE W σ) := by
  obtain ⟨O, oo, b, _⟩ := id I.dropL.ow
  have key : ∀ (t : Option Nat) (ad : Option Addr), IoAt δ σ io t ad → (∀ a, ad = some a → ∃ i, t = some i ∧ O a = some (.slot i)) → (∀ j, io = some (0 + j) → ∀ v, vs[j]? = some v → adOf (some v) = ad) →
      GE K cm c W T σ Q (if es.length = len then runC N.length io t g es δ else .no) → spV K cm len N g vs H Q (WE W σ) := fun t ad ia had hj h => by
    by_cases hl : es.length = len
    · rw [if_pos hl] at h
      refine ⟨l.trans hl, ?_⟩
      unfold runC at h
      cases q : argsS io t δ 0 es with
      | none => rw [q] at h; exact h.elim
      | some ss =>
        rw [q] at h
        have ao := argsS_ok b (fun x a n tp => I.dropL.roTop n tp) (fun a t h => (oo a t h).2) had I l q hj
        refine ⟨cIn cm H F io ad, padS N.length ss, F, SI.enter I.fh (fun a z => ?_) (fun z => ?_) ao, ?_⟩
        · obtain ⟨i, _, oi⟩ := had a z; exact (oo a _ oi).1
        · intro w; subst w; exact z ia.2
        replace h : GE K cm c W T σ Q (endC io t δ (g (padS N.length ss))) := h
        unfold endC at h
        cases q2 : g (padS N.length ss) with
        | nx δ' =>
          rw [q2] at h
          cases q3 : postC io t δ δ' with
          | none => simp only [q3] at h; exact h.elim
          | some δ2 =>
            simp only [q3] at h
            exact fun σ' F' H' J => h _ F' H' (I.dropL.ret ia J q3 (v := .non) (e := .d .non) rfl)
        | rt e δ' =>
          rw [q2] at h
          cases q3 : postC io t δ δ' with
          | none => simp only [q3] at h; exact h.elim
          | some δ2 =>
            simp only [q3] at h
            cases q4 : retC e δ' with
            | none => simp only [q4] at h; exact h.elim
            | some e' =>
              simp only [q4] at h
              exact fun v σ' F' H' J => h v F' H' (I.dropL.ret ia J q3 (retC_ok J q4))
        | ex x δ' =>
          rw [q2] at h
          cases q3 : postC io t δ δ' with
          | none => simp only [q3] at h; exact h.elim
          | some δ2 =>
            simp only [q3] at h
            exact fun σ' d F' H' J xf => h d F' H' ((I.dropL.ret ia J q3 (v := .non) (e := .d .non) rfl).drop.clear) xf
        | bk δ' => rw [q2] at h; exact h.elim
        | ct δ' => rw [q2] at h; exact h.elim
        | no => rw [q2] at h; exact h.elim
    · rw [if_neg hl] at h; exact h.elim
  unfold finC tIo at h
  cases io with
  | none => exact key none none ⟨rfl, rfl⟩ (fun _ z => nomatch z) (fun _ z => nomatch z) h
  | some j =>
    simp only at h
    split at h
    · rename_i t' q'
      split at q'
      · rename_i i q
        split at q'
        · rename_i x qo
          cases q'
          obtain ⟨a, ha, _, _⟩ := I.dropL.chg qo
          refine key (some i) (some a) ⟨i, a, x, rfl, rfl, qo, ha⟩ (fun a' z => ?_) (fun j' z v hv => ?_) h
          · cases z
            refine ⟨i, rfl, ?_⟩
            rcases owD_cases qo with w | w
            · obtain ⟨p, ep, op, _⟩ := b i _ w; rw [ha] at ep; cases ep; exact op
            · obtain ⟨p, ep, op, _⟩ := b i _ w; rw [ha] at ep; cases ep; exact op
          · rw [Nat.zero_add] at z
            cases z
            have := I.sl_at l q hv
            rw [ha] at this; cases this; rfl
        · cases q'
      · cases q'
    · exact h.elim
variable {k len nn : Nat} {f0 : Addr} {fd : FuncData} {ps N : List Str} {g : Ev → SR} {x : Str} {p0 : Pos}
theorem vc_call (io : Option Nat) (F : FnOk X.prog X.w X.K X.mg X.base (L2.CX X.prog X.w) k f0 fd ps (spV X.K cm len N g)) (hr : Room k X.A) (tk : Takes X W) (hm : X.mg x = some (.ref f0)) (hk : PySem.W.keepIn X.K (.ref f0) = true) (hb : Binds X.K fd ps [])
    (ha : PA X (e :: es) (tA X.K cm W fs)) (hn : N.length = nn := by rfl) (hg : Gl X x := by rfl) (hdb : (x == ("__debug__" : Str)) = false := by decide) (he : starEach (e :: es) X.env = (false, eval e X.env) :: starEach es X.env := by rfl) (hpl : (backTo pos (starEach es X.env)).any (·.1) = false := by rfl) :
    PE X (.Call (.Name x p0) (e :: es) [] pos) (tE X.K cm W (fCall len nn io g fs)) :=
  PE.imp (pe_callS F hr hg hm hk hb (fun σ => passAt tk σ) ha hdb he hpl) fun σ H Q ⟨c, δ, T, F, I, h⟩ => goAE I h fun es' δ1 h1 vs F1 H1 l I1 => call_run l I1 (hn ▸ h1)
end
end L2.VE

namespace L2.VE
open PySem PySem.Spec PyProof.Rows
section
variable {X : Cx} {cm : Cm} {W : WX} {a b e o : Expr} {es : List Expr} {fa fb fc f : Ev → ER} {fs : Ev → AR} {p : Ev → BR} {pos : Pos} {K : PySem.W.Frag} {c c1 : Cc} {δ δ2 : Ev} {T : Temps} {σ : St} {F H F' H' : Hp}
/-! ### methods that change a slot's own list -/
def MtL (r : V → List V → Hp → VK → Prop) (K : PySem.W.Frag) (g : List D → List D → Option (List D × D)) : Prop :=
  ∀ (F H : Hp) (a : Addr) (us vs : List V) (xs ds ys : List D) (e : D) (Q : VK), Same F H → H a = some (.lst us) → RepL K F xs us → RepL K F ds vs → g xs ds = some (ys, e) →
    (∀ ws u, RepL K F ys ws → Rep K F e u → Q u (upd H a (.lst ws))) → r (.ref a) vs H Q
def gApp (xs : List D) : List D → Option (List D × D)
  | [y] => if xs.length < szl then some (xs ++ [y], .non) else none
  | _ => none
theorem m_app : MtL rAppend K gApp := fun F H a us vs xs ds ys e Q s hu r rv h q => by
  unfold gApp at h
  split at h
  · split at h
    · rename_i hl
      cases h
      obtain ⟨v, _, e1, r1, e2⟩ := rv
      cases e2; subst e1
      exact ⟨a, us, v, rfl, rfl, hu, by rw [r.length, szl_eq]; exact hl, q _ _ (r.append (RepL.one r1)) rfl⟩
    · cases h
  · cases h
def gExt (xs : List D) : List D → Option (List D × D)
  | [.lst zs] => if xs.length + zs.length ≤ szl then some (xs ++ zs, .non) else none
  | _ => none
theorem m_ext : MtL rExtend K gExt := fun F H a us vs xs ds ys e Q s hu r rv h q => by
  unfold gExt at h
  split at h
  · split at h
    · rename_i hl
      cases h
      obtain ⟨v, _, e1, r1, e2⟩ := rv
      cases e2; subst e1
      obtain ⟨b, ws, ev, hb, rb⟩ := r1
      exact ⟨a, b, us, ws, rfl, by rw [ev], hu, s _ _ hb, by rw [r.length, rb.length, szl_eq]; exact hl, q _ _ (r.append rb) rfl⟩
    · cases h
  · cases h
def gPop (xs : List D) : List D → Option (List D × D)
  | [] => match xs[xs.length - 1]? with
    | some y => some (xs.dropLast, y)
    | none => none
  | _ => none
theorem m_pop : MtL rPop K gPop := fun F H a us vs xs ds ys e Q s hu r rv h q => by
  unfold gPop at h
  split at h
  · split at h
    · rename_i y hy
      cases h
      obtain ⟨v, ev, rv'⟩ := r.get hy
      exact ⟨a, us, v, rfl, rv, hu, by rw [r.length]; exact ev, q _ _ r.dropLast rv'⟩
    · cases h
  · cases h
def gPopAt (xs : List D) : List D → Option (List D × D)
  | [.int i] => if -(2 ^ 63) ≤ i ∧ i < 2 ^ 63 then (match ixN xs.length i with
    | some k => match xs[k]? with
      | some y => some (xs.eraseIdx k, y)
      | none => none
    | none => none) else none
  | _ => none
theorem m_popAt : MtL rPopAt K gPopAt := fun F H a us vs xs ds ys e Q s hu r rv h q => by
  unfold gPopAt at h
  split at h
  · rename_i i
    split at h
    · rename_i hi
      split at h
      · rename_i k hk
        split at h
        · rename_i y hy
          cases h
          obtain ⟨v, _, e1, r1, e2⟩ := rv
          cases e2; subst e1
          obtain ⟨w, ew, rw'⟩ := r.get hy
          exact ⟨a, us, i, k, w, rfl, by rw [show v = .int i from r1], hu, hi.1, hi.2, by rw [r.length]; exact (ixN_seq hk).1, ew, q _ _ (r.eraseIdx k) rw'⟩
        · cases h
      · cases h
    · cases h
  · cases h
def gRevM (xs : List D) : List D → Option (List D × D)
  | [] => some (xs.reverse, .non)
  | _ => none
theorem m_rev : MtL rReverse K gRevM := fun F H a us vs xs ds ys e Q s hu r rv h q => by
  unfold gRevM at h
  split at h
  · cases h
    exact ⟨a, us, rfl, rv, hu, q _ _ r.reverse rfl⟩
  · cases h
def gSortM (xs : List D) : List D → Option (List D × D)
  | [] => match intsD xs with
    | some ns => some ((isort ns).map .int, .non)
    | none => none
  | _ => none
theorem m_sort : MtL rSortI K gSortM := fun F H a us vs xs ds ys e Q s hu r rv h q => by
  unfold gSortM at h
  split at h
  · split at h
    · rename_i ns hn
      cases h
      rw [intsD_eq hn] at r
      have e1 := r.ints
      subst e1
      refine ⟨a, ns, rfl, rv, hu, fun ns' p1 p2 => ?_⟩
      have e2 : ns' = isort ns := sorted_same (p1.trans (isort_perm ns).symm) p2 (isort_sorted ns)
      rw [e2]
      exact q _ _ (RepL.of_ints _) rfl
    · cases h
  · cases h
def finM (i : Nat) (g : List D → List D → Option (List D × D)) (es : List EV) (δ : Ev) : ER := match owD i δ with
  | some (.lst xs) => match allD es with
    | some ds => match g xs ds with
      | some (ys, e) => .ok (.d e) (chgS i (.lst ys) δ)
      | none => .no
    | none => .no
  | _ => .no
def fMut (i : Nat) (g : List D → List D → Option (List D × D)) (fs : Ev → AR) (δ : Ev) : ER := match owD i δ with
  | some (.lst _) => (fs δ).bindE (finM i g)
  | _ => .no
theorem finM_ok {i : Nat} {g : List D → List D → Option (List D × D)} {r : V → List V → Hp → VK → Prop} {es' : List EV} {vs : List V} {a0 : Addr} {Q : VK} (hg : MtL r K g) (I : SI K c δ (pushL vs es' T) σ F H) (l : vs.length = es'.length) (ha : σ[i]? = some (some (.ref a0)))
    (h : GE K cm c W T σ Q (finM i g es' δ)) : r (.ref a0) vs H Q := by
  unfold finM at h
  split at h
  · rename_i xs q
    split at h
    · rename_i ds qd
      split at h
      · rename_i ys e qg
        obtain ⟨a1, ha1, tp, mv⟩ := I.dropL.chg q
        rw [ha] at ha1; cases ha1
        obtain ⟨us, hu, r1⟩ := tp
        exact hg F H a0 us vs xs ds ys e Q I.fh hu r1 (I.reps l qd) qg fun ws u rw re => h u F _ ((mv (.lst ys) (.lst ws) ⟨ws, upd_same, rw⟩).pushD re)
      · exact h.elim
    · exact h.elim
  · exact h.elim
variable {name x : Str} {px apos : Pos} {id : String}
theorem vc_mut (i : Nat) {g : List D → List D → Option (List D × D)} {r : V → List V → Hp → VK → Prop} (slot : PySem.Slot "list" name id) (hty : typeOf (.builtin id) = pure (.type "method_descriptor")) (hm : MtR X id r) (hg : MtL r X.K g) (ha : PA X (e :: es) (tA X.K cm W fs))
    (hN : X.N[i]? = some x := by rfl) (hv : Vis X.env.scope x := by first | exact Or.inl rfl | exact Or.inr (Or.inl rfl) | exact Or.inr (Or.inr rfl)) (hd : (x == ("__debug__" : Str)) = false := by decide)
    (hcd : (x == ("__classdict__" : Str)) = false := by decide)
    (hbase : attributeBase (.Name x px) name X.env (eval (.Name x px) X.env) = eval (.Name x px) X.env := by rfl)
    (hfew : ((backTo pos (starEach (e :: es) X.env)).all (fun x => !x.1) && (backToKw pos (keywordEach [] X.env)).all (fun x => x.1.isSome)
      && decide ((e :: es).length + ([] : List Keyword).length + (if ([] : List Keyword).isEmpty then 0 else 1) < 30)) = true := by rfl)
    (hline : (apos.endLine == pos.line) = true := by rfl) (hs : starEach (e :: es) X.env = (false, eval e X.env) :: starEach es X.env := by rfl) (hplain : (backTo pos (starEach es X.env)).any (·.1) = false := by rfl) :
    PE X (.Call (.Attribute (.Name x px) name apos) (e :: es) [] pos) (tE X.K cm W (fMut i g fs)) :=
  PE.imp (pe_bm PySem.F.plainAttrs_list slot hty hm (pe_var hN hv hd hcd) ha hbase hfew hline hs hplain) fun σ H Q ⟨c, δ, T, F, I, h⟩ => by
    unfold fMut at h
    split at h
    · rename_i xs q
      obtain ⟨a0, ha0, ⟨us, hu, _⟩, _⟩ := I.chg q
      exact ⟨_, ha0, .inl ⟨rfl, us, SqL.of hu⟩, goAE I h fun es' δ1 h1 vs F1 H1 l I1 => finM_ok hg I1 l ha0 h1⟩
    · exact h.elim
theorem vc_mut0 (i : Nat) {g : List D → List D → Option (List D × D)} {r : V → List V → Hp → VK → Prop} (slot : PySem.Slot "list" name id) (hty : typeOf (.builtin id) = pure (.type "method_descriptor")) (hm : MtR X id r) (hg : MtL r X.K g)
    (hN : X.N[i]? = some x := by rfl) (hv : Vis X.env.scope x := by first | exact Or.inl rfl | exact Or.inr (Or.inl rfl) | exact Or.inr (Or.inr rfl)) (hd : (x == ("__debug__" : Str)) = false := by decide)
    (hcd : (x == ("__classdict__" : Str)) = false := by decide)
    (hbase : attributeBase (.Name x px) name X.env (eval (.Name x px) X.env) = eval (.Name x px) X.env := by rfl) (hline : (apos.endLine == pos.line) = true := by rfl) :
    PE X (.Call (.Attribute (.Name x px) name apos) [] [] pos) (tE X.K cm W (fMut i g fNil)) :=
  PE.imp (pe_bm0 PySem.F.plainAttrs_list slot hty hm (pe_var hN hv hd hcd) hbase hline) fun σ H Q ⟨c, δ, T, F, I, h⟩ => by
    unfold fMut at h
    split at h
    · rename_i xs q
      obtain ⟨a0, ha0, ⟨us, hu, _⟩, _⟩ := I.chg q
      have I0 : SI X.K (c.at cm) δ (pushL [] [] T) σ F H := I
      exact ⟨_, ha0, .inl ⟨rfl, us, SqL.of hu⟩, finM_ok (es' := []) hg I0 rfl ha0 h⟩
    · exact h.elim
/-! ### methods that only read -/
def tyOk (T : String) : D → Bool
  | .lst _ => T == "list" | .sl _ => T == "list" | .str _ => T == "str" | .dk _ => T == "dict" | .dt _ => T == "dict" | _ => false
theorem tyOk_ok {T : String} {x : D} {v : V} (s : Same F H) (h : tyOk T x = true) (r : RepH K F H x v) : tyV K T v H := by
  cases x with
  | lst xs => obtain ⟨p, us, e, q, _⟩ := r.lst s; rw [e]; exact .inl ⟨eq_of_beq h, us, SqL.of q⟩
  | sl xs => obtain ⟨p, us, e, q, _⟩ := r.sl s; rw [e]; exact .inl ⟨eq_of_beq h, us, q⟩
  | str z => rw [r.str]; exact eq_of_beq h
  | dk kvs => obtain ⟨p, us, e, q, _⟩ := r.dk s; rw [e]; exact .inr (.inr (.inl ⟨eq_of_beq h, .inl ⟨us, q⟩⟩))
  | dt kvs => obtain ⟨p, us, e, q, _⟩ := r.dt s; rw [e]; exact .inr (.inr (.inl ⟨eq_of_beq h, .inr ⟨us, q⟩⟩))
  | _ => cases h
def Mv (K : PySem.W.Frag) (r : V → List V → Hp → VK → Prop) (g : D → List D → Option EV) : Prop :=
  ∀ (F H : Hp) (x : D) (xs : List D) (v : V) (vs : List V) (e : EV) (Q : VK), Same F H → RepH K F H x v → RepHL K F H xs vs → g x xs = some e → (∀ F' H' u, Step K F H F' H' u e → Q u H') → r v vs H Q
def finV (g : D → List D → Option EV) (e0 : EV) (es : List EV) (δ : Ev) : ER := match evD δ e0 with
  | some x => match evDs δ es with
    | some xs => match g x xs with
      | some e => .ok e δ
      | none => .no
    | none => .no
  | none => .no
def finT (T : String) (e0 : EV) (δ : Ev) : Bool := match evD δ e0 with
  | some x => tyOk T x
  | none => false
def fMet (T : String) (g : D → List D → Option EV) (f : Ev → ER) (fs : Ev → AR) (δ : Ev) : ER := (f δ).bind fun e0 δ1 => match finT T e0 δ1 with
  | true => (fs δ1).bindE (finV g e0)
  | false => .no
theorem finV_ok {g : D → List D → Option EV} {r : V → List V → Hp → VK → Prop} {es' : List EV} {e0 : EV} {v : V} {vs : List V} {Q : VK} (hg : Mv K r g) (I : SI K c δ (pushL vs es' ((v, e0) :: T)) σ F H) (l : vs.length = es'.length)
    (h : GE K cm c W T σ Q (finV g e0 es' δ)) : r v vs H Q := by
  unfold finV at h
  split at h
  · rename_i x q
    split at h
    · rename_i xs qx
      split at h
      · rename_i e qg
        exact hg F H x xs v vs e Q I.fh (I.dropL.view q) (I.views l qx) qg fun F' H' u st => h u F' H' (I.dropL.drop.step st)
      · exact h.elim
    · exact h.elim
  · exact h.elim
theorem finT_ok {Ty : String} {e0 : EV} {v : V} (I : SI K c δ ((v, e0) :: T) σ F H) (h : finT Ty e0 δ = true) : tyV K Ty v H := by
  unfold finT at h
  split at h
  · rename_i x q
    exact tyOk_ok I.fh h (I.view q)
  · cases h
theorem vc_met {Ty : String} {g : D → List D → Option EV} {r : V → List V → Hp → VK → Prop} (pa : PlainAttrs Ty) (slot : PySem.Slot Ty name id) (hty : typeOf (.builtin id) = pure (.type "method_descriptor")) (hm : MtR X id r) (hg : Mv X.K r g) (ho : PE X o (tE X.K cm W f)) (ha : PA X (e :: es) (tA X.K cm W fs))
    (hbase : attributeBase o name X.env (eval o X.env) = eval o X.env := by rfl)
    (hfew : ((backTo pos (starEach (e :: es) X.env)).all (fun x => !x.1) && (backToKw pos (keywordEach [] X.env)).all (fun x => x.1.isSome)
      && decide ((e :: es).length + ([] : List Keyword).length + (if ([] : List Keyword).isEmpty then 0 else 1) < 30)) = true := by rfl)
    (hline : (apos.endLine == pos.line) = true := by rfl) (hs : starEach (e :: es) X.env = (false, eval e X.env) :: starEach es X.env := by rfl) (hplain : (backTo pos (starEach es X.env)).any (·.1) = false := by rfl) :
    PE X (.Call (.Attribute o name apos) (e :: es) [] pos) (tE X.K cm W (fMet Ty g f fs)) :=
  PE.imp (pe_bm pa slot hty hm ho ha hbase hfew hline hs hplain) fun σ H Q ⟨c, δ, T, F, I, h⟩ => goE I h fun e0 δ1 h1 v F1 H1 I1 => by
    split at h1
    · rename_i q
      exact ⟨finT_ok I1 q, goAE I1 h1 fun es' δ2 h2 vs F2 H2 l I2 => finV_ok hg I2 l h2⟩
    · exact h1.elim
theorem vc_met0 {Ty : String} {g : D → List D → Option EV} {r : V → List V → Hp → VK → Prop} (pa : PlainAttrs Ty) (slot : PySem.Slot Ty name id) (hty : typeOf (.builtin id) = pure (.type "method_descriptor")) (hm : MtR X id r) (hg : Mv X.K r g) (ho : PE X o (tE X.K cm W f))
    (hbase : attributeBase o name X.env (eval o X.env) = eval o X.env := by rfl) (hline : (apos.endLine == pos.line) = true := by rfl) :
    PE X (.Call (.Attribute o name apos) [] [] pos) (tE X.K cm W (fMet Ty g f fNil)) :=
  PE.imp (pe_bm0 pa slot hty hm ho hbase hline) fun σ H Q ⟨c, δ, T, F, I, h⟩ => goE I h fun e0 δ1 h1 v F1 H1 I1 => by
    split at h1
    · rename_i q
      have I0 : SI X.K (c.at cm) δ1 (pushL [] [] ((v, e0) :: T)) σ F1 H1 := I1
      exact ⟨finT_ok I1 q, finV_ok (es' := []) hg I0 rfl h1⟩
    · exact h1.elim
/-- list.index, of flat things -/
def gIndex (x : D) : List D → Option EV
  | [y] => match lsD x with
    | some xs => if flatD y && xs.all flatD then (match xs.findIdx? (fun z => eqF z y) with
      | some j => some (.d (.int (j : Nat)))
      | none => none) else none
    | none => none
  | _ => none
theorem m_index : Mv K (rIndex K) gIndex := fun F H x xs v vs e Q s r rv h q => by
  unfold gIndex at h
  split at h
  · rename_i y
    split at h
    · rename_i zs hz
      split at h
      · rename_i hf
        split at h
        · rename_i j hj
          cases h
          rw [Bool.and_eq_true] at hf
          obtain ⟨w, rfl, rw'⟩ := rv.one
          obtain ⟨p, us, ev, hs, ru⟩ := lsD_ok s hz r
          have eu := ru.flats hf.2
          have ew := rw'.flat hf.1
          subst eu; subst ew
          obtain ⟨hl, h1, h2⟩ := List.findIdx?_eq_some_iff_getElem.mp hj
          refine ⟨p, _, _, j, toV zs[j], ev, rfl, hs, flatV_of hf.1, flats_all hf.2, by rw [List.getElem?_map, List.getElem?_eq_getElem hl]; rfl, ?_, fun m z' hm hz' => ?_, q F H _ (.old rfl)⟩
          · rw [eqV_of (List.all_eq_true.mp hf.2 _ (List.getElem_mem hl)) hf.1]; exact h1
          · have hml : m < zs.length := by omega
            rw [List.getElem?_map, List.getElem?_eq_getElem hml] at hz'
            cases hz'
            rw [eqV_of (List.all_eq_true.mp hf.2 _ (List.getElem_mem hml)) hf.1]
            simpa using h2 m hm
        · cases h
      · cases h
    · cases h
  · cases h
/-- list.count, of ints -/
def gCount (x : D) : List D → Option EV
  | [.int k] => match lsI x with
    | some ns => some (.d (.int (ns.count k : Nat)))
    | none => none
  | _ => none
theorem m_count : Mv K (rCntI K) gCount := fun F H x xs v vs e Q s r rv h q => by
  unfold gCount at h
  split at h
  · rename_i k
    split at h
    · rename_i ns hn
      cases h
      obtain ⟨w, rfl, rw'⟩ := rv.one
      obtain ⟨p, ev, hs⟩ := lsI_ok s hn r
      exact ⟨p, ns, k, ev, by rw [rw'.int], hs, q F H _ (.old rfl)⟩
    · cases h
  · cases h
/-! ### isinstance -/
def tyN : D → String
  | .non => "NoneType" | .bl _ => "bool" | .int _ => "int" | .str _ => "str" | .lst _ => "list" | .sl _ => "list" | .tup _ => "tuple" | .dk _ => "dict" | .dt _ => "dict"
def isiB (a b : String) : Bool := a == b || (a == "bool" && b == "int")
abbrev TyT (T : String) : Prop := ∀ a ∈ ["NoneType", "bool", "int", "str", "list", "tuple", "dict"], kitB a T = some (isiB a T)
theorem tyN_mem (x : D) : tyN x ∈ ["NoneType", "bool", "int", "str", "list", "tuple", "dict"] := by
  cases x <;> simp [tyN]
theorem tt_list : TyT "list" := by decide +kernel
theorem tt_tuple : TyT "tuple" := by decide +kernel
theorem tt_int : TyT "int" := by decide +kernel
theorem tt_bool : TyT "bool" := by decide +kernel
theorem tt_str : TyT "str" := by decide +kernel
theorem tt_dict : TyT "dict" := by decide +kernel
theorem RepH.tyX {x : D} {v : V} (s : Same F H) (r : RepH K F H x v) : TyX K H v (.type (tyN x)) := by
  cases x with
  | non => rw [r.non]; exact .base .non
  | bl b => rw [r.bl]; exact .base (.bl _)
  | int b => rw [r.int]; exact .base (.int _)
  | str b => rw [r.str]; exact .base (.str _)
  | lst xs => obtain ⟨p, us, e, q, _⟩ := r.lst s; rw [e]; exact .base (.lst q)
  | tup xs => obtain ⟨p, us, e, q, _⟩ := r.tup s; rw [e]; exact .base (.tup q)
  | dk xs => obtain ⟨p, us, e, q, _⟩ := r.dk s; rw [e]; exact .base (.dK q)
  | dt xs => obtain ⟨p, us, e, q, _⟩ := r.dt s; rw [e]; exact .base (.dT q)
  | sl xs =>
    obtain ⟨p, us, e, q, _⟩ := r.sl s
    rw [e]
    rcases q with (q | ⟨o, q⟩) | ⟨o, its, n, q, cl, _⟩
    · exact .base (.lst q)
    · exact .base (.frz q)
    · exact .kList q cl
def isiE (T : String) (e : EV) (δ : Ev) : ER := match evD δ e with
  | some x => .ok (.d (.bl (isiB (tyN x) T))) δ
  | none => .no
def fIsi (T : String) (f : Ev → ER) (δ : Ev) : ER := (f δ).bind (isiE T)
theorem vc_isi {T : String} {y : Str} {p1 p2 pos : Pos} (tt : TyT T) (hm : X.mg "isinstance" = none) (hm2 : X.mg y = none) (hv2 : bootBuiltins y = some (.type T)) (ha : PE X a (tE X.K cm W f))
    (hg : Gl X "isinstance" := by rfl) (hg2 : Gl X y := by rfl) (hv : bootBuiltins "isinstance" = some (.builtin "isinstance") := by rfl) (hn2 : y ≠ "__name__" := by decide) (hd2 : (y == ("__debug__" : Str)) = false := by decide)
    (hs1 : starEach [.Name y p2] X.env = (false, eval (.Name y p2) X.env) :: starEach [] X.env := by rfl) (he : starEach [a, .Name y p2] X.env = (false, eval a X.env) :: starEach [.Name y p2] X.env := by rfl) (hpl : (backTo pos (starEach [.Name y p2] X.env)).any (·.1) = false := by rfl) :
    PE X (.Call (.Name "isinstance" p1) [a, .Name y p2] [] pos) (tE X.K cm W (fIsi T f)) :=
  PE.imp (pe_callB call_isi hg hm hv (pa_cons ha (pa_cons (pe_bltn (v := .ty T) hg2 hm2 hv2 rfl hn2 hd2) pa_nil hs1) he) (by decide) (by decide) he hpl) fun σ H Q ⟨c, δ, T', F, I, h⟩ => goE I h fun e δ1 h1 v F1 H1 I1 => by
    unfold isiE at h1
    split at h1
    · rename_i x q
      exact ⟨v, .ty T, .type (tyN x), .type T, isiB (tyN x) T, rfl, .ty T, (I1.view q).tyX I1.fh, kit_ty (tt _ (tyN_mem x)), h1 _ F1 H1 (I1.drop.pushD rfl)⟩
    · exact h1.elim
/-! ### list(range(..)) -/
theorem rep_rg : ∀ (n : Nat) (a : Int), RepL K F (rangeD a n) ((List.range n).map fun i => V.int (a + (i : Nat)))
  | 0, a => rfl
  | n + 1, a => by
    rw [List.range_succ_eq_map, List.map_cons, List.map_map]
    refine ⟨_, _, rfl, by show V.int (a + ((0 : Nat) : Int)) = .int a; simp, ?_⟩
    have h := rep_rg n (a + 1)
    have e : (List.range n).map (fun i => V.int (a + 1 + (i : Nat))) = (List.range n).map ((fun i => V.int (a + (i : Nat))) ∘ Nat.succ) := by
      apply List.map_congr_left
      intro i _
      show V.int (a + 1 + (i : Nat)) = V.int (a + ((i + 1 : Nat) : Int))
      congr 1
      rw [Int.natCast_add]
      omega
    rw [e] at h
    exact h
def lr1E (e : EV) (δ : Ev) : ER := match e with
  | .d (.int n) => if -(2 ^ 62) ≤ n ∧ n ≤ 16777216 then .ok (.fr (.lst (rangeD 0 n.toNat))) δ else .no
  | _ => .no
def fLr1 (f : Ev → ER) (δ : Ev) : ER := (f δ).bind lr1E
theorem vc_lr1 {p1 p2 p3 pos : Pos} (hc : X.calm = true) (hm : X.mg "list" = none) (hm2 : X.mg "range" = none) (ha : PE X a (tE X.K cm W f)) (hg : Gl X "list" := by rfl) (hg2 : Gl X "range" := by rfl)
    (na : starEach [a] X.env = (false, eval a X.env) :: starEach [] X.env := by rfl) (nb : starEach [.Call (.Name "range" p2) [a] [] p3] X.env = (false, eval (.Call (.Name "range" p2) [a] [] p3) X.env) :: starEach [] X.env := by rfl) :
    PE X (.Call (.Name "list" p1) [.Call (.Name "range" p2) [a] [] p3] [] pos) (tE X.K cm W (fLr1 f)) :=
  PE.imp (pe_listRg hc hg hm (prg_1 hg2 hm2 ha na) nb) fun σ H Q ⟨c, δ, T, F, I, h⟩ => goE I h fun e δ1 h1 v F1 H1 I1 => by
    unfold lr1E at h1
    split at h1
    · rename_i n
      split at h1
      · rename_i hn
        refine ⟨n, (I1.view rfl : RepH X.K F1 H1 (.int n) v).int, ⟨by omega, by omega, by omega, by omega, by omega⟩, fun q hq => h1 _ F1 _ (I1.drop.newM hq ⟨_, upd_same, ?_⟩)⟩
        have := rep_rg (K := X.K) (F := F1) n.toNat 0
        unfold rgV
        rw [Int.sub_zero]
        exact this
      · exact h1.elim
    · exact h1.elim
def lr2E (e1 e2 : EV) (δ : Ev) : ER := match e1, e2 with
  | .d (.int i), .d (.int j) => if -(2 ^ 62) ≤ i ∧ i < 2 ^ 62 ∧ -(2 ^ 62) ≤ j ∧ j < 2 ^ 62 ∧ (j - i).toNat ≤ 16777216 then .ok (.fr (.lst (rangeD i (j - i).toNat))) δ else .no
  | _, _ => .no
def fLr2 (fa fb : Ev → ER) (δ : Ev) : ER := (fa δ).bind fun e1 δ1 => (fb δ1).bind (lr2E e1)
theorem vc_lr2 {p1 p2 p3 pos : Pos} (hc : X.calm = true) (hm : X.mg "list" = none) (hm2 : X.mg "range" = none) (ha : PE X a (tE X.K cm W fa)) (hb : PE X b (tE X.K cm W fb)) (hg : Gl X "list" := by rfl) (hg2 : Gl X "range" := by rfl)
    (na : starEach [a, b] X.env = (false, eval a X.env) :: starEach [b] X.env := by rfl) (nb : starEach [b] X.env = (false, eval b X.env) :: starEach [] X.env := by rfl) (hp : (backTo p3 (starEach [b] X.env)).any (·.1) = false := by rfl)
    (nc : starEach [.Call (.Name "range" p2) [a, b] [] p3] X.env = (false, eval (.Call (.Name "range" p2) [a, b] [] p3) X.env) :: starEach [] X.env := by rfl) :
    PE X (.Call (.Name "list" p1) [.Call (.Name "range" p2) [a, b] [] p3] [] pos) (tE X.K cm W (fLr2 fa fb)) :=
  PE.imp (pe_listRg hc hg hm (prg_2 hg2 hm2 ha hb na nb hp) nc) fun σ H Q ⟨c, δ, T, F, I, h⟩ => goE I h fun e1 δ1 h1 v F1 H1 I1 => goE I1 h1 fun e2 δ2 h2 w F2 H2 I2 => by
    unfold lr2E at h2
    split at h2
    · rename_i i j
      split at h2
      · rename_i hn
        refine ⟨i, j, (I2.drop.view rfl : RepH X.K F2 H2 (.int i) v).int, (I2.view rfl : RepH X.K F2 H2 (.int j) w).int, ⟨by omega, by omega, by omega, by omega, by omega⟩, fun q hq => h2 _ F2 _ (I2.drop.drop.newM hq ⟨_, upd_same, ?_⟩)⟩
        exact rep_rg (K := X.K) (F := F2) _ i
      · exact h2.elim
    · exact h2.elim
end
end L2.VE

namespace L2.VE
open PySem PySem.Spec PyProof.Rows
/-! ### a op= b -/
def rAddI : R2 := fun x y H Q => (∃ i j, x = .int i ∧ y = .int j ∧ Q (.int (i + j)) H) ∨ (∃ i j, x = .str i ∧ y = .str j ∧ i.length + j.length ≤ sizeLine ∧ Q (.str (i ++ j)) H)
theorem iop_add4 {X : Cx} : OpR X (inplaceOp .Add) rAddI := iop_add.or iop_add_str
def gAddI : D → D → Option EV
  | .int i, .int j => some (.d (.int (i + j)))
  | .str x, .str y => if x.length + y.length ≤ szl then some (.d (.str (x ++ y))) else none
  | _, _ => none
theorem o_addI {K : PySem.W.Frag} : Op2 K rAddI gAddI := fun F H x y v w e Q s rx ry hg hQ => by
  unfold gAddI at hg
  split at hg
  · cases hg
    exact .inl ⟨_, _, rx.int, ry.int, hQ F H _ (.old rfl)⟩
  · split at hg
    · rename_i hl
      cases hg
      exact .inr ⟨_, _, rx.str, ry.str, by rw [szl_eq]; exact hl, hQ F H _ (.old rfl)⟩
    · cases hg
  · cases hg
def gMulI : D → D → Option EV
  | .int i, .int j => if (-(2 ^ 64) < i ∧ i < 2 ^ 64) ∨ (-(2 ^ 64) < j ∧ j < 2 ^ 64) then some (.d (.int (i * j))) else none
  | _, _ => none
theorem o_mulI {K : PySem.W.Frag} : Op2 K (rI CMul fun i j => .int (i * j)) gMulI := fun F H x y v w e Q s rx ry hg hQ => by
  unfold gMulI at hg
  split at hg
  · split at hg
    · rename_i hm
      cases hg
      exact ⟨_, _, rx.int, ry.int, hm, hQ F H _ (.old rfl)⟩
    · cases hg
  · cases hg
def gFdivI : D → D → Option EV
  | .int i, .int j => if 0 < j ∧ j.natAbs.log2 < 9000 then some (.d (.int (i / j))) else none
  | _, _ => none
theorem o_fdivI {K : PySem.W.Frag} : Op2 K (rI CDivW fun i j => .int (i / j)) gFdivI := fun F H x y v w e Q s rx ry hg hQ => by
  unfold gFdivI at hg
  split at hg
  · split at hg
    · rename_i hm
      cases hg
      exact ⟨_, _, rx.int, ry.int, hm, hQ F H _ (.old rfl)⟩
    · cases hg
  · cases hg
def gModI : D → D → Option EV
  | .int i, .int j => if 0 < j then some (.d (.int (i % j))) else none
  | _, _ => none
theorem o_modI {K : PySem.W.Frag} : Op2 K (rI (fun _ j => 0 < j) fun i j => .int (i % j)) gModI := fun F H x y v w e Q s rx ry hg hQ => by
  unfold gModI at hg
  split at hg
  · split at hg
    · rename_i hm
      cases hg
      exact ⟨_, _, rx.int, ry.int, hm, hQ F H _ (.old rfl)⟩
    · cases hg
  · cases hg
def gSubI := gSub
theorem o_subI {K : PySem.W.Frag} : Op2 K (rI0 fun i j => .int (i - j)) gSubI := o_sub
/-! name += list -/
def fAugL (i : Nat) (f : Ev → ER) (δ : Ev) : SR := match owD i δ with
  | some (.lst _) => (fFz f δ).bindS fun e δ1 => match e with
    | .d (.lst zs) => match owD i δ1 with
      | some (.lst xs) => if xs.length + zs.length ≤ szl then .nx (chgS i (.lst (xs ++ zs)) δ1) else .no
      | _ => .no
    | _ => .no
  | _ => .no
section
variable {X : Cx} {cm : Cm} {W : WX} {a b e o : Expr} {f : Ev → ER} {pos : Pos}
theorem SI.setSame {K : PySem.W.Frag} {c : Cc} {δ : Ev} {T : Temps} {σ : St} {F H : Hp} {i : Nat} {v : V} (I : SI K c δ T σ F H) (h : σ[i]? = some (some v)) : SI K c δ T (σ.set i (some v)) F H := by
  have e : σ.set i (some v) = σ := by
    apply List.ext_getElem?
    intro j
    by_cases hj : i = j
    · subst hj
      rw [List.getElem?_set_self (List.getElem?_eq_some_iff.mp h).1, h]
    · rw [List.getElem?_set_ne hj]
  rw [e]; exact I
theorem vs_augL {i : Nat} {x : Str} {pos' : Pos} (hN : X.N.Nodup) (hi : X.N[i]? = some x) (hx : Loc X.env.scope x) (he : PE X e (tE X.K cm W f))
    (hf : X.fn x = true ∨ X.env.scope.names.lookup x = some .local := by first | exact .inl rfl | exact .inr rfl) : PS X (.AugAssign (.Name x pos') .Add e pos) (tS X.K cm W (fAugL i f)) :=
  PS.imp (ps_aug (ti := rExt2) hN hi hx (vc_fz he) iop_ext hf) fun D σ H ⟨c, δ, F, I, h⟩ => by
    unfold fAugL at h
    split at h
    · rename_i xs0 q
      obtain ⟨a0, ha0, _, _⟩ := I.chg q
      refine ⟨_, ha0, goES I h fun e1 δ1 h1 v F1 H1 I1 => ?_⟩
      split at h1
      · rename_i zs
        split at h1
        · rename_i xs q1
          split at h1
          · rename_i hl
            obtain ⟨a1, ha1, ⟨us, hu, ru⟩, mv⟩ := I1.drop.chg q1
            rw [ha0] at ha1; cases ha1
            obtain ⟨O, _, _, t, _⟩ := id I1.ow
            obtain ⟨b, ws, ev, hb, rb⟩ := t
            refine ⟨a0, b, us, ws, rfl, ev, hu, I1.fh _ _ hb, by rw [ru.length, rb.length, szl_eq]; exact hl, ?_⟩
            exact h1 _ F1 _ (SI.setSame (mv _ _ ⟨_, upd_same, ru.append rb⟩) ha0)
          · exact h1.elim
        · exact h1.elim
      · exact h1.elim
    · exact h.elim
end
theorem hu_le {A : Around} {k n : Nat} (hr : Room k A) (h : n ≤ 200) : A.units + n < cLine := by
  have := hr.un
  omega
/-! ### a def that calls itself -/
theorem fn_no {P : Program} {w : World} {K : PySem.W.Frag} {mg : Str → Option Value} {base : Heap} {CX : CXT} {k len : Nat} {f : Addr} {fd : FuncData} {ps N : List Str} {cm : Cm} (hl : len = ps.length) : FnOk P w K mg base CX k f fd ps (spV K cm len N fun _ => .no) :=
  ⟨fun _ _ _ _ h => h.1.trans hl, fun _ _ _ _ _ _ _ _ _ _ _ _ _ ⟨_, _, _, _, _, h⟩ => h.elim⟩
/-! ### the law -/
theorem law_sp {K : PySem.W.Frag} {cm : Cm} {N : List Str} {g : Ev → SR} {H : Hp} {a : Addr} {ns : List Int} {δ' : Ev} (hS : SqL K H a (ns.map V.int)) (h : g (padS N.length [.d (.sl (ns.map .int))]) = .rt (.d (.bl true)) δ') :
    spV K cm 1 N g [.ref a] H (fun v _ => v = .bl true) fun _ _ _ => False := by
  refine ⟨rfl, cIn cm H H none none, _, H, SI.enter (cm := cm) (io := none) (ad := none) (N := N) (Same.refl H) (fun _ z => nomatch z) (fun z => absurd rfl z) (vs := [.ref a]) (ss := [.d (.sl (ns.map .int))]) ⟨⟨a, _, rfl, hS, RepL.of_ints ns⟩, fun _ z => Slot.noConfusion z, True.intro⟩, ?_⟩
  rw [h]
  intro v σ' F' H' I
  exact (I.view rfl : RepH K F' H' (.bl true) v).bl
theorem cx_none {P : Program} {w : World} (H : Hp) (s : Shared) (e : Value) (s' : Shared) (h : L2.CX P w [] H s (fun _ _ _ => False) e s') : False := by
  obtain ⟨_, _, _, _, _, _, _, _, _, _, _, _, z⟩ := h
  exact z
theorem walk_ve {l : PySem.W.OpenLaw} {n k : Nat} {q : Program} {loose : List Str} {XP : (Str → Option Value) → Heap → Prop} {YP : World → Heap → Prop} {d : DefRec} {K : Params → PySem.W.Frag} {x : Str} {N : List Str} {g : Ev → SR}
    (hn : l.most = some n) (hn2 : n ≤ sizeLine) (hdf : d.params.defaults = []) (hr : Room k callerA)
    (hY : ∀ (w : World) (h : Heap), YP w h → (K w.params).In h)
    (F : ∀ (w : World) (mg : Str → Option Value) (fa : Addr) (h : Heap), (K w.params).In h → h.Ns mainGlobals mg → XP mg h → mg d.name = some (.ref fa) →
      ∃ (cm : Cm) (fd : FuncData), (∀ (s : Shared) (u : Value), BindsTo s fd ⟨[u], []⟩ [(x, u)]) ∧
        ∀ base : Heap, (K w.params).In base → base.Ns mainGlobals mg → FnOk l.prog w (K w.params) mg base (L2.CX l.prog w) k fa fd [x] (spV (K w.params) cm 1 N g))
    (hg : ∀ ns : List Int, ns.length ≤ n → ∃ δ', g (padS N.length [.d (.sl (ns.map .int))]) = .rt (.d (.bl true)) δ') :
    PySem.W.WalkO q loose XP YP l.row.toRowW d [] (fun f vs => PySem.call f vs) := by
  refine Att.attach_call hn hdf fun w s₀ s₁ mg mb fa o pm cd doc a vs ns G Y ho hd hcd hmg hobj hints hlen hg' => ?_
  have KX := hY w _ Y
  obtain ⟨cm, fd, hb, hF⟩ := F w mg fa _ KX G.T.g G.X hmg
  obtain ⟨δ', e⟩ := hg ns hlen
  exact law_call KX G.T.g G.T.b G.T.builtins G.T.nolimit hg' hobj hints (Nat.le_trans hlen hn2) hr hF hb (fun H hO hS => law_sp hS e) fun H e s' h => cx_none H _ e s' h
theorem loose_int {mg : Str → Option Value} {h : Heap} {x : Str} {i : Int} (z : ∃ v, mg x = some v ∧ PySem.W.ReadsLit h v (.int i) []) : ∃ v, mg x = some v ∧ RelV (.int i) v := by
  obtain ⟨v, e, r⟩ := z
  obtain ⟨t, rfl, _⟩ := PySem.W.readsW_int_inv r
  exact ⟨_, e, _, rfl⟩
end L2.VE

namespace L2.VE
open PySem PySem.Spec PyProof.Rows
theorem ix_nat {n i : Nat} (h : i < n) : ixN n (i : Int) = some i := by
  unfold ixN
  rw [if_pos (by omega), if_pos (by omega)]; simp
theorem ix_last {n : Nat} (h : 0 < n) : ixN n (-1) = some (n - 1) := by
  unfold ixN
  rw [if_neg (by decide), if_pos (by omega)]
  congr 1
  omega
theorem mul_r {i j : Int} (h : -(2 ^ 64) < j ∧ j < 2 ^ 64) : mulOk i j = true := decide_eq_true (.inr (.inl h))
theorem mul_l {i j : Int} (h : -(2 ^ 64) < i ∧ i < 2 ^ 64) : mulOk i j = true := decide_eq_true (.inl h)
theorem gMul_r {i j : Int} (h : -(2 ^ 64) < j ∧ j < 2 ^ 64) : gMul (.int i) (.int j) = some (.d (.int (i * j))) := by
  unfold gMul; simp only; rw [if_pos (mul_r h)]
theorem gMul_l {i j : Int} (h : -(2 ^ 64) < i ∧ i < 2 ^ 64) : gMul (.int i) (.int j) = some (.d (.int (i * j))) := by
  unfold gMul; simp only; rw [if_pos (mul_l h)]
theorem gMod_p {i j : Int} (h : 0 < j) : gMod (.int i) (.int j) = some (.d (.int (i % j))) := by
  unfold gMod; simp only; rw [if_pos h]
theorem gFdiv_p {i j : Int} (h : 0 < j) (h2 : j.natAbs.log2 < 9000) : gFdiv (.int i) (.int j) = some (.d (.int (i / j))) := by
  unfold gFdiv; simp only; rw [if_pos ⟨h, h2⟩]
theorem gPow_p {i j : Int} (h : 0 ≤ j ∧ j ≤ 1000000 ∧ i.natAbs < 2 ^ 64) : gPow (.int i) (.int j) = some (.d (.int (i ^ j.toNat))) := by
  unfold gPow; simp only; rw [if_pos h]
theorem gEq_i {i j : Int} : gEq (.int i) (.int j) = some (i == j) := rfl
theorem gNe_i {i j : Int} : gNe (.int i) (.int j) = some (!(i == j)) := rfl
theorem gLt_i {i j : Int} : gLt (.int i) (.int j) = some (decide (i < j)) := rfl
theorem gLe_i {i j : Int} : gLe (.int i) (.int j) = some (decide (i ≤ j)) := rfl
theorem gGt_i {i j : Int} : gGt (.int i) (.int j) = some (decide (j < i)) := rfl
theorem gGe_i {i j : Int} : gGe (.int i) (.int j) = some (decide (j ≤ i)) := rfl
/-! loops -/
theorem forGo_P {chk : Ev → Bool} {tg : D → Ev → Option Ev} {body : Ev → SR} {P : Nat → Ev → Prop} {ds : List D} (fin : ∀ i δ, P i δ → chk δ = true)
    (step : ∀ i δ x, ds[i]? = some x → P i δ → ∃ δ1 δ2, tg x δ = some δ1 ∧ body δ1 = .nx δ2 ∧ P (i + 1) δ2) : ∀ {δ : Ev}, P 0 δ → ∃ δ', fForGo chk tg body ds δ = .nx δ' ∧ P ds.length δ' := by
  have go : ∀ (m i : Nat) (δ : Ev), m = ds.length - i → i ≤ ds.length → P i δ → ∃ δ', fForGo chk tg body (ds.drop i) δ = .nx δ' ∧ P ds.length δ' := by
    intro m
    induction m with
    | zero =>
      intro i δ hm hi h
      have e : i = ds.length := by omega
      subst e
      rw [List.drop_eq_nil_of_le (Nat.le_refl _)]
      exact ⟨δ, by unfold fForGo; rw [if_pos (fin _ _ h)], h⟩
    | succ m ih =>
      intro i δ hm hi h
      have hl : i < ds.length := by omega
      obtain ⟨δ1, δ2, h1, h2, h3⟩ := step i δ ds[i] (List.getElem?_eq_getElem hl) h
      obtain ⟨δ', h4, h5⟩ := ih (i + 1) δ2 (by omega) hl h3
      refine ⟨δ', ?_, h5⟩
      rw [List.drop_eq_getElem_cons hl]
      unfold fForGo
      rw [if_pos (fin _ _ h)]
      simp only [h1, h2]
      exact h4
  intro δ h
  have := go ds.length 0 δ (by omega) (Nat.zero_le _) h
  rwa [List.drop_zero] at this
theorem while_P {p : Ev → BR} {s : Ev → SR} {P : Nat → Ev → Prop} {Q : Ev → Prop} (step : ∀ m δ, P m δ → (∃ δ1, p δ = .ok false δ1 ∧ Q δ1) ∨ ∃ m' δ1 δ2, m' < m ∧ p δ = .ok true δ1 ∧ s δ1 = .nx δ2 ∧ P m' δ2) :
    ∀ (n m : Nat) {δ : Ev}, m < n → P m δ → ∃ δ', fWhile p s n δ = .nx δ' ∧ Q δ'
  | 0, m, δ, h, _ => by omega
  | n + 1, m, δ, h, hp => by
    unfold fWhile
    rcases step m δ hp with ⟨δ1, h1, h2⟩ | ⟨m', δ1, δ2, h1, h2, h3, h4⟩
    · rw [h1]; exact ⟨δ1, rfl, h2⟩
    · rw [h2]
      simp only [h3]
      exact while_P step n m' (by omega) h4
theorem lcGo_map {chk : Ev → Bool} {vs : List Nat} {tg : D → Ev → Option Ev} {f : Ev → ER} {δ : Ev} {h : D → D} (hc : chk δ = true) : ∀ {ds acc : List D},
    (∀ x ∈ ds, ∃ δ1, tg x δ = some δ1 ∧ fFz f δ1 = .ok (.d (h x)) δ1 ∧ wipeD δ1 vs = δ) → acc.length + ds.length ≤ szl → fLcGo chk vs tg fYes f ds acc δ = .ok (acc ++ ds.map h) δ
  | [], acc, _, _ => by unfold fLcGo; rw [if_pos hc, List.map_nil, List.append_nil]
  | x :: ds, acc, hx, hl => by
    obtain ⟨δ1, h1, h2, h3⟩ := hx x List.mem_cons_self
    rw [List.length_cons] at hl
    unfold fLcGo
    rw [if_pos hc]
    simp only [h1, fYes, h2, h3]
    rw [if_pos (by omega), lcGo_map hc (fun y hy => hx y (List.mem_cons_of_mem _ hy)) (by rw [List.length_append, List.length_singleton]; omega)]
    rw [List.map_cons, List.append_assoc]
    rfl
theorem call0 {len n : Nat} {g : Ev → SR} {es : List EV} {ss : List Slot} {δ δ' : Ev} {e e' : EV} (h : argsS none none δ 0 es = some ss) (hl : es.length = len) (hr : g (padS n ss) = .rt e δ') (he : retC e δ' = some e') : finC len n none g es δ = .ok e' δ := by
  simp only [finC, tIo, hl, if_pos, runC, h, hr, endC, postC, he]
theorem lcGo_none {chk : Ev → Bool} {vs : List Nat} {tg : D → Ev → Option Ev} {p : Ev → BR} {f : Ev → ER} {δ : Ev} (hc : chk δ = true) : ∀ {ds acc : List D},
    (∀ x ∈ ds, ∃ δ1 δ2, tg x δ = some δ1 ∧ p δ1 = .ok false δ2 ∧ wipeD δ2 vs = δ) → fLcGo chk vs tg p f ds acc δ = .ok acc δ
  | [], acc, _ => by unfold fLcGo; rw [if_pos hc]
  | x :: ds, acc, hx => by
    obtain ⟨δ1, δ2, h1, h2, h3⟩ := hx x List.mem_cons_self
    unfold fLcGo
    rw [if_pos hc]
    simp only [h1, h2, h3]
    exact lcGo_none hc fun y hy => hx y (List.mem_cons_of_mem _ hy)
theorem rangeD_eq (n : Nat) : rangeD 0 n = (List.range n).map fun i => D.int (i : Nat) := by
  apply List.ext_getElem?
  intro i
  rw [rangeD_get, List.getElem?_map]
  by_cases h : i < n
  · rw [if_pos h, List.getElem?_range h]; simp
  · rw [if_neg h, List.getElem?_eq_none (by rw [List.length_range]; omega)]; rfl
theorem rangeD_mem {n : Nat} {lo : Int} {x : D} (h : x ∈ rangeD lo n) : ∃ i : Nat, i < n ∧ x = .int (lo + i) := by
  obtain ⟨i, hi, e⟩ := List.getElem_of_mem h
  have e2 := List.getElem?_eq_getElem hi
  rw [rangeD_get, e] at e2
  split at e2
  · rename_i hl; cases e2; exact ⟨i, hl, rfl⟩
  · cases e2
end L2.VE

namespace L2.VE
open PySem PySem.Spec PyProof.Rows
/-! ### the evaluators again, so that simp goes from the inside out -/
section
variable {fa fb fc f g2 : Ev → ER} {fs : Ev → AR} {p q : Ev → BR} {s1 s2 : Ev → SR} {δ : Ev} {i : Nat}
def optE (o : Option EV) (δ : Ev) : ER := match o with
  | some e => .ok e δ
  | none => .no
theorem kV : fV i δ = optE (readS i δ[i]?) δ := by unfold fV optE; cases readS i δ[i]? <;> rfl
def fin2o (g : D → D → Option EV) (δ : Ev) : Option D → Option D → ER
  | some x, some y => optE (g x y) δ
  | _, _ => .no
theorem k2 {g : D → D → Option EV} {e1 e2 : EV} : fin2 g e1 e2 δ = fin2o g δ (evD δ e1) (evD δ e2) := by
  unfold fin2
  cases evD δ e1 with
  | none => cases evD δ e2 <;> rfl
  | some x => cases evD δ e2 with
    | none => rfl
    | some y => show _ = optE (g x y) δ; unfold optE; cases q : g x y <;> simp only [q]
def op2l (g : D → D → Option EV) (e1 : EV) : ER → ER
  | .ok e2 δ => fin2 g e1 e2 δ
  | .ex x δ => .ex x δ
  | .no => .no
def op2k (g : D → D → Option EV) (fb : Ev → ER) : ER → ER
  | .ok e1 δ => op2l g e1 (fb δ)
  | .ex x δ => .ex x δ
  | .no => .no
theorem kOp2 {g : D → D → Option EV} : fOp2 g fa fb δ = op2k g fb (fa δ) := by
  unfold fOp2
  cases fa δ with
  | ok e1 δ1 => show (fb δ1).bind _ = op2l g e1 (fb δ1); cases fb δ1 <;> rfl
  | ex x δ1 => rfl
  | no => rfl
def fin1o (g : D → Option EV) (δ : Ev) : Option D → ER
  | some x => optE (g x) δ
  | none => .no
theorem k1 {g : D → Option EV} {e1 : EV} : fin1 g e1 δ = fin1o g δ (evD δ e1) := by
  unfold fin1
  cases evD δ e1 with
  | none => rfl
  | some x => show _ = optE (g x) δ; unfold optE; cases q : g x <;> simp only [q]
theorem kOp1 {g : D → Option EV} : fOp1 g fa δ = (fa δ).bind (fin1 g) := rfl
def lbo (o : Option Bool) : Option EV := match o with
  | some b => some (.d (.bl b))
  | none => none
theorem kLb {g : D → D → Option Bool} {x y : D} : liftB g x y = lbo (g x y) := by unfold liftB lbo; cases g x y <;> rfl
def optB (o : Option Bool) (δ : Ev) : BR := match o with
  | some b => .ok b δ
  | none => .no
def truO (o : Option D) (δ : Ev) : BR := match o with
  | some x => optB (truD x) δ
  | none => .no
theorem kTru {e : EV} : truE e δ = truO (evD δ e) δ := by
  unfold truE
  cases evD δ e with
  | none => rfl
  | some x => show _ = optB (truD x) δ; unfold optB; cases q : truD x <;> simp only [q]
def notB : BR → BR
  | .ok b δ => .ok (!b) δ
  | .ex x δ => .ex x δ
  | .no => .no
theorem kTNot : fTNot p δ = notB (p δ) := by unfold fTNot; cases p δ <;> rfl
def andB (q : Ev → BR) : BR → BR
  | .ok true δ => q δ
  | .ok false δ => .ok false δ
  | .ex x δ => .ex x δ
  | .no => .no
def orB (q : Ev → BR) : BR → BR
  | .ok false δ => q δ
  | .ok true δ => .ok true δ
  | .ex x δ => .ex x δ
  | .no => .no
theorem kTAnd : fTAnd p q δ = andB q (p δ) := by unfold fTAnd; rcases p δ with ⟨_ | _, _⟩ | _ | _ <;> rfl
theorem kTOr : fTOr p q δ = orB q (p δ) := by unfold fTOr; rcases p δ with ⟨_ | _, _⟩ | _ | _ <;> rfl
def notE : BR → ER
  | .ok b δ => .ok (.d (.bl (!b))) δ
  | _ => .no
def notF (e : EV) (δ : Ev) : ER := notE (truE e δ)
theorem kNotV : fNotV f δ = (f δ).bind notF := by
  unfold fNotV
  cases f δ with
  | ok e δ1 => simp only [ER.bind, notF]; cases truE e δ1 <;> rfl
  | ex x δ1 => rfl
  | no => rfl
def andE (e : EV) (g : Ev → ER) : BR → ER
  | .ok true δ => g δ
  | .ok false δ => .ok e δ
  | _ => .no
def orE (e : EV) (g : Ev → ER) : BR → ER
  | .ok true δ => .ok e δ
  | .ok false δ => g δ
  | _ => .no
def andF (g : Ev → ER) (e : EV) (δ : Ev) : ER := andE e g (truE e δ)
def orF (g : Ev → ER) (e : EV) (δ : Ev) : ER := orE e g (truE e δ)
theorem kAndV : fAndV f g2 δ = (f δ).bind (andF g2) := by
  unfold fAndV
  cases f δ with
  | ok e δ1 => simp only [ER.bind, andF]; rcases truE e δ1 with ⟨_ | _, _⟩ | _ | _ <;> rfl
  | ex x δ1 => rfl
  | no => rfl
theorem kOrV : fOrV f g2 δ = (f δ).bind (orF g2) := by
  unfold fOrV
  cases f δ with
  | ok e δ1 => simp only [ER.bind, orF]; rcases truE e δ1 with ⟨_ | _, _⟩ | _ | _ <;> rfl
  | ex x δ1 => rfl
  | no => rfl
def ifE (f g : Ev → ER) : BR → ER
  | .ok true δ => f δ
  | .ok false δ => g δ
  | .ex x δ => .ex x δ
  | .no => .no
theorem kIfE : fIfE p f g2 δ = ifE f g2 (p δ) := by unfold fIfE; rcases p δ with ⟨_ | _, _⟩ | _ | _ <;> rfl
def slK2 (e : EV) (l : Option Int) : PR → ER
  | .ok u δ => fin1 (gSl l u) e δ
  | .ex x δ => .ex x δ
  | .no => .no
def slK1 (hi : Ev → PR) (e : EV) : PR → ER
  | .ok l δ => slK2 e l (hi δ)
  | .ex x δ => .ex x δ
  | .no => .no
def slK0 (lo hi : Ev → PR) (e : EV) (δ : Ev) : ER := slK1 hi e (lo δ)
theorem kSl {lo hi : Ev → PR} : fSl f lo hi δ = (f δ).bind (slK0 lo hi) := by
  unfold fSl
  cases f δ with
  | ok e δ1 =>
    show (lo δ1).bindE _ = slK1 hi e (lo δ1)
    cases lo δ1 with
    | ok l δ2 => show (hi δ2).bindE _ = slK2 e l (hi δ2); cases hi δ2 <;> rfl
    | ex x δ2 => rfl
    | no => rfl
  | ex x δ1 => rfl
  | no => rfl
def psK : ER → PR
  | .ok (.d (.int i)) δ => .ok (some i) δ
  | .ex x δ => .ex x δ
  | _ => .no
theorem kPS : fPS f δ = psK (f δ) := by
  unfold fPS
  rcases f δ with ⟨(_ | _ | _ | _ | _ | _ | _ | _ | _) | _ | _ | _, _⟩ | _ | _ <;> rfl
def consK (fs : Ev → AR) (e : EV) (δ : Ev) : AR := consA e (fs δ)
theorem kCons : fCons f fs δ = (f δ).bindA (consK fs) := rfl
def finLo (g : List D → Option EV) (δ : Ev) : Option (List D) → ER
  | some xs => optE (g xs) δ
  | none => .no
theorem kL {g : List D → Option EV} {es : List EV} : finL g es δ = finLo g δ (evDs δ es) := by
  unfold finL
  cases evDs δ es with
  | none => rfl
  | some x => show _ = optE (g x) δ; unfold optE; cases q : g x <;> simp only [q]
def evDo : Option D → Option (List D) → Option (List D)
  | some x, some xs => some (x :: xs)
  | _, _ => none
theorem kDs {e : EV} {es : List EV} : evDs δ (e :: es) = evDo (evD δ e) (evDs δ es) := by
  rw [evDs]
  cases evD δ e with
  | none => cases evDs δ es <;> rfl
  | some x => cases evDs δ es <;> rfl
def setK (i : Nat) : ER → SR
  | .ok e δ => setE i e δ
  | .ex x δ => .ex x δ
  | .no => .no
def setF (i : Nat) (e : EV) (δ : Ev) : SR := setK i (unE e δ)
theorem kSet : fSet i f δ = (f δ).bindS (setF i) := by
  unfold fSet
  cases f δ with
  | ok e δ1 => show (unE e δ1).bindS _ = setK i (unE e δ1); cases unE e δ1 <;> rfl
  | ex x δ1 => rfl
  | no => rfl
def seqK (s2 : Ev → SR) : SR → SR
  | .nx δ => s2 δ
  | .rt e δ => .rt e δ
  | .bk δ => .bk δ
  | .ct δ => .ct δ
  | .ex x δ => .ex x δ
  | .no => .no
theorem kSeq : fSeq s1 s2 δ = seqK s2 (s1 δ) := by unfold fSeq; cases s1 δ <;> rfl
def dropK : ER → SR
  | .ok _ δ => .nx δ
  | .ex x δ => .ex x δ
  | .no => .no
theorem kDrop : fDrop f δ = dropK (f δ) := by unfold fDrop; cases f δ <;> rfl
def retK : ER → SR
  | .ok e δ => .rt e δ
  | .ex x δ => .ex x δ
  | .no => .no
theorem kRet : fRet f δ = retK (f δ) := by unfold fRet; cases f δ <;> rfl
def ifK (s1 s2 : Ev → SR) : BR → SR
  | .ok true δ => s1 δ
  | .ok false δ => s2 δ
  | .ex x δ => .ex x δ
  | .no => .no
theorem kIf : fIf p s1 s2 δ = ifK s1 s2 (p δ) := by unfold fIf; rcases p δ with ⟨_ | _, _⟩ | _ | _ <;> rfl
/-! methods -/
def mutO (e : List D × D) (i : Nat) (δ : Ev) : ER := .ok (.d e.2) (chgS i (.lst e.1) δ)
def mutK (i : Nat) (g : List D → List D → Option (List D × D)) (δ : Ev) : Option D → Option (List D) → ER
  | some (.lst xs), some ds => match g xs ds with
    | some (ys, e) => .ok (.d e) (chgS i (.lst ys) δ)
    | none => .no
  | _, _ => .no
theorem kM {g : List D → List D → Option (List D × D)} {es : List EV} : finM i g es δ = mutK i g δ (owD i δ) (allD es) := by
  unfold finM
  rcases owD i δ with _ | (_ | _ | _ | _ | _ | _ | _ | _ | _) <;> cases allD es <;> rfl
def mutS (i : Nat) (g : List D → List D → Option (List D × D)) (fs : Ev → AR) (δ : Ev) : Option D → ER
  | some (.lst _) => (fs δ).bindE (finM i g)
  | _ => .no
theorem kMut {g : List D → List D → Option (List D × D)} : fMut i g fs δ = mutS i g fs δ (owD i δ) := by
  unfold fMut
  rcases owD i δ with _ | (_ | _ | _ | _ | _ | _ | _ | _ | _) <;> rfl
def metO (g : D → List D → Option EV) (δ : Ev) : Option D → Option (List D) → ER
  | some x, some xs => optE (g x xs) δ
  | _, _ => .no
theorem kMv {g : D → List D → Option EV} {e0 : EV} {es : List EV} : finV g e0 es δ = metO g δ (evD δ e0) (evDs δ es) := by
  unfold finV
  cases evD δ e0 with
  | none => cases evDs δ es <;> rfl
  | some x => cases evDs δ es with
    | none => rfl
    | some xs => show _ = optE (g x xs) δ; unfold optE; cases q : g x xs <;> simp only [q]
def metK (g : D → List D → Option EV) (fs : Ev → AR) (e0 : EV) (δ : Ev) : Bool → ER
  | true => (fs δ).bindE (finV g e0)
  | false => .no
def metF (T : String) (g : D → List D → Option EV) (fs : Ev → AR) (e0 : EV) (δ : Ev) : ER := metK g fs e0 δ (finT T e0 δ)
theorem kMet {T : String} {g : D → List D → Option EV} : fMet T g f fs δ = (f δ).bind (metF T g fs) := by
  unfold fMet
  cases f δ with
  | ok e δ1 => simp only [ER.bind, metF]; cases finT T e δ1 <;> rfl
  | ex x δ1 => rfl
  | no => rfl
/-! stores -/
def putO (i : Nat) (δ : Ev) : Option D → SR
  | some y => .nx (chgS i y δ)
  | none => .no
def putK3 (i : Nat) (xv : D) (δ : Ev) : Option D → Option D → SR
  | some x, some k => putO i δ (gSet x k xv)
  | _, _ => .no
theorem kPutE {xv : D} {ek : EV} : putE i xv ek δ = putK3 i xv δ (owD i δ) (evD δ ek) := by
  unfold putE
  cases owD i δ with
  | none => cases evD δ ek <;> rfl
  | some x => cases evD δ ek with
    | none => rfl
    | some k => show _ = putO i δ (gSet x k xv); unfold putO; cases q : gSet x k xv <;> simp only [q]
def putK2 (i : Nat) (fk : Ev → ER) (xv : D) (δ : Ev) : Option D → SR
  | some _ => (fk δ).bindS (putE i xv)
  | none => .no
def putK1 (i : Nat) (fk : Ev → ER) : ER → SR
  | .ok (.d xv) δ => putK2 i fk xv δ (owD i δ)
  | .ex x δ => .ex x δ
  | _ => .no
theorem kPut {fk fv : Ev → ER} : fPut i fk fv δ = putK1 i fk (fFz fv δ) := by
  unfold fPut
  rcases fFz fv δ with ⟨_ | _ | _ | _, δ1⟩ | _ | _ <;> try rfl
def augK (i : Nat) (ek : EV) : ER → SR
  | .ok (.d z) δ => putK3 i z δ (owD i δ) (evD δ ek)
  | _ => .no
theorem kAugE {g : D → D → Option EV} {ek : EV} {xo : D} {e : EV} : augE i g ek xo e δ = augK i ek (fin2 g (.d xo) e δ) := by
  unfold augE
  rcases fin2 g (.d xo) e δ with ⟨_ | _ | _ | _, δ2⟩ | _ | _ <;> try rfl
  rename_i z
  show (match owD i δ2 with | some x => _ | none => SR.no) = putK3 i z δ2 (owD i δ2) (evD δ2 ek)
  cases owD i δ2 with
  | none => cases evD δ2 ek <;> rfl
  | some x => cases evD δ2 ek with
    | none => rfl
    | some k => show _ = putO i δ2 (gSet x k z); unfold putO; cases q : gSet x k z <;> simp only [q]
def augF3 (i : Nat) (g : D → D → Option EV) (fv : Ev → ER) (ek : EV) (δ : Ev) : Option D → SR
  | some xo => (fv δ).bindS (augE i g ek xo)
  | none => .no
def augF2 (i : Nat) (g : D → D → Option EV) (fv : Ev → ER) (ek : EV) (δ : Ev) : Option D → Option D → SR
  | some x, some k => augF3 i g fv ek δ (gGet x k)
  | _, _ => .no
def augF1 (i : Nat) (g : D → D → Option EV) (fv : Ev → ER) (ek : EV) (δ : Ev) : SR := augF2 i g fv ek δ (owD i δ) (evD δ ek)
def augF0 (i : Nat) (g : D → D → Option EV) (fk fv : Ev → ER) (δ : Ev) : Option D → SR
  | some _ => (fk δ).bindS (augF1 i g fv)
  | none => .no
theorem kAugS {g : D → D → Option EV} {fk fv : Ev → ER} : fAugS i g fk fv δ = augF0 i g fk fv δ (owD i δ) := by
  unfold fAugS
  cases owD i δ with
  | none => rfl
  | some x0 =>
    show (fk δ).bindS _ = (fk δ).bindS _
    cases fk δ with
    | ex x δ1 => rfl
    | no => rfl
    | ok ek δ1 =>
      show _ = augF2 i g fv ek δ1 (owD i δ1) (evD δ1 ek)
      simp only [ER.bindS]
      cases owD i δ1 with
      | none => cases evD δ1 ek <;> rfl
      | some x => cases evD δ1 ek with
        | none => rfl
        | some k => show _ = augF3 i g fv ek δ1 (gGet x k); unfold augF3; cases q : gGet x k <;> first | (simp only [q]; done) | (simp only [q]; rfl)
/-! walks -/
def forK2 (tg : D → Ev → Option Ev) (body : Ev → SR) (i : Nat) (δ : Ev) : Option L2.VE.Slot → SR
  | some (.ow (.lst ds)) => unlk i (fForGo (isLk i) tg body ds (δ.set i (.lk (.lst ds))))
  | some (.lk (.lst ds)) => fForGo (isLk i) tg body ds δ
  | some (.ro (.lst ds)) => fForGo chkT tg body ds δ
  | _ => .no
def forK (tg : D → Ev → Option Ev) (body : Ev → SR) : IR → SR
  | .okF ds δ => fForGo chkT tg body ds δ
  | .okL i δ => forK2 tg body i δ δ[i]?
  | .ex x δ => .ex x δ
  | .no => .no
theorem kFor {fi : Ev → IR} {tg : D → Ev → Option Ev} : fFor fi tg s1 δ = forK tg s1 (fi δ) := by
  unfold fFor
  cases fi δ with
  | okF ds δ1 => rfl
  | okL i δ1 =>
    show _ = forK2 tg s1 i δ1 δ1[i]?
    simp only
    rcases δ1[i]? with _ | (_ | _ | (_ | _ | _ | _ | _ | _ | _ | _ | _) | _ | (_ | _ | _ | _ | _ | _ | _ | _ | _) | (_ | _ | _ | _ | _ | _ | _ | _ | _)) <;> rfl
  | ex x δ1 => rfl
  | no => rfl
def lcK2 (vs : List Nat) (tg : D → Ev → Option Ev) (p : Ev → BR) (f : Ev → ER) (i : Nat) (δ : Ev) : Option L2.VE.Slot → ER
  | some (.ow (.lst ds)) => if i ∈ vs then .no else lcE δ vs (lcU i (fLcGo (isLk i) vs tg p f ds [] (wipeD (δ.set i (.lk (.lst ds))) vs)))
  | some (.lk (.lst ds)) => if i ∈ vs then .no else lcE δ vs (fLcGo (isLk i) vs tg p f ds [] (wipeD δ vs))
  | some (.ro (.lst ds)) => lcE δ vs (fLcGo chkT vs tg p f ds [] (wipeD δ vs))
  | _ => .no
def lcK (vs : List Nat) (tg : D → Ev → Option Ev) (p : Ev → BR) (f : Ev → ER) : IR → ER
  | .okF ds δ => lcE δ vs (fLcGo chkT vs tg p f ds [] (wipeD δ vs))
  | .okL i δ => lcK2 vs tg p f i δ δ[i]?
  | .ex x δ => .ex x δ
  | .no => .no
theorem kLc {fi : Ev → IR} {vs : List Nat} {tg : D → Ev → Option Ev} : fLc fi vs tg p f δ = lcK vs tg p f (fi δ) := by
  unfold fLc
  cases fi δ with
  | okF ds δ1 => rfl
  | okL i δ1 =>
    show _ = lcK2 vs tg p f i δ1 δ1[i]?
    simp only
    rcases δ1[i]? with _ | (_ | _ | (_ | _ | _ | _ | _ | _ | _ | _ | _) | _ | (_ | _ | _ | _ | _ | _ | _ | _ | _) | (_ | _ | _ | _ | _ | _ | _ | _ | _)) <;> rfl
  | ex x δ1 => rfl
  | no => rfl
def itO (i : Nat) (δ : Ev) : Option L2.VE.Slot → IR
  | some (.ow (.lst _)) => .okL i δ
  | some (.lk (.lst _)) => .okL i δ
  | some (.ro (.lst _)) => .okL i δ
  | some (.d (.lst xs)) => .okF xs δ
  | _ => .no
theorem kItS : itE (.sl i) δ = itO i δ δ[i]? := by
  unfold itE
  simp only
  rcases δ[i]? with _ | (_ | (_ | _ | _ | _ | _ | _ | _ | _ | _) | (_ | _ | _ | _ | _ | _ | _ | _ | _) | _ | (_ | _ | _ | _ | _ | _ | _ | _ | _) | (_ | _ | _ | _ | _ | _ | _ | _ | _)) <;> rfl
theorem kItL {xs : List D} : itE (.d (.lst xs)) δ = .okF xs δ := rfl
theorem kItF {xs : List D} : itE (.fr (.lst xs)) δ = .okF xs δ := rfl
end
/-! rows by constructors -/
section
variable {x y : D} {δ : Ev} {i : Nat} {b : Bool} {e : EV} {es : List EV}
theorem c_optE1 : optE (some e) δ = .ok e δ := rfl
theorem c_lbo : lbo (some b) = some (.d (.bl b)) := rfl
theorem c_optB : optB (some b) δ = .ok b δ := rfl
theorem c_truO : truO (some x) δ = optB (truD x) δ := rfl
theorem c_unE1 : unE (.fr x) δ = .ok (.fr x) δ := rfl
theorem c_unE2 : unE (.d x) δ = .ok (.d x) δ := rfl
def fzO (i : Nat) (δ : Ev) : Option L2.VE.Slot → ER
  | some (.ow x) => .ok (.d x) (δ.set i (.d x))
  | some (.d x) => .ok (.d x) δ
  | _ => .no
theorem c_fz3 : fzE (.sl i) δ = fzO i δ δ[i]? := by
  unfold fzE
  simp only
  rcases δ[i]? with _ | (_ | _ | _ | _ | _ | _) <;> rfl
theorem c_unE3 : unE (.sl i) δ = fzO i δ δ[i]? := c_fz3
theorem c_fz1 : fzE (.d x) δ = .ok (.d x) δ := rfl
theorem c_fz2 : fzE (.fr x) δ = .ok (.d x) δ := rfl
theorem c_fr1 : frE (.d x) δ = .ok (.d x) δ := rfl
theorem c_fr2 : frE (.fr x) δ = .ok (.d x) δ := rfl
theorem c_fr3 : frE (.sl i) δ = .ok (.sl i) δ := rfl
theorem c_set1 : setE i (.d x) δ = .nx (δ.set i (.d x)) := rfl
theorem c_set2 : setE i (.fr x) δ = .nx (δ.set i (.ow x)) := rfl
theorem c_tst : tstE (.d (.bl b)) δ = .ok b δ := rfl
theorem c_readS1 : readS i (some (.d x)) = some (.d x) := rfl
theorem c_readS2 : readS i (some (.ow x)) = some (.sl i) := rfl
theorem c_readS3 : readS i (some (.io x)) = some (.sl i) := rfl
theorem c_readS4 : readS i (some (.lk x)) = some (.sl i) := rfl
theorem c_readS5 : readS i (some (.ro x)) = some (.sl i) := rfl
theorem c_evD1 : evD δ (.d x) = some x := rfl
theorem c_evD2 : evD δ (.fr x) = some x := rfl
theorem c_evD3 : evD δ (.sl i) = slotD δ[i]? := rfl
def owO : Option L2.VE.Slot → Option D
  | some (.ow x) => some x
  | some (.io x) => some x
  | _ => none
theorem c_owD : owD i δ = owO δ[i]? := by
  unfold owD
  rcases δ[i]? with _ | (_ | _ | _ | _ | _ | _) <;> rfl
def chgO (i : Nat) (y : D) (δ : Ev) : Option L2.VE.Slot → Ev
  | some (.ow _) => δ.set i (.ow y)
  | some (.io _) => δ.set i (.io y)
  | _ => δ
theorem c_chgS : chgS i y δ = chgO i y δ δ[i]? := by
  unfold chgS
  rcases δ[i]? with _ | (_ | _ | _ | _ | _ | _) <;> rfl
def lstO (δ : Ev) : Option (List D) → ER
  | some xs => if xs.length ≤ szl then .ok (.fr (.lst xs)) δ else .no
  | none => .no
theorem c_mkLst : mkLst es δ = lstO δ (allD es) := by
  unfold mkLst
  cases allD es <;> rfl
def tupO (δ : Ev) : Option (List D) → ER
  | some xs => if xs.length ≤ szl then .ok (.d (.tup xs)) δ else .no
  | none => .no
theorem c_mkTup : mkTup es δ = tupO δ (allD es) := by
  unfold mkTup
  cases allD es <;> rfl
def allO : D → Option (List D) → Option (List D)
  | x, some xs => some (x :: xs)
  | _, none => none
theorem c_allD0 : allD [] = some [] := rfl
theorem c_allD1 : allD (.d x :: es) = allO x (allD es) := by
  rw [allD]
  cases allD es <;> rfl
theorem c_rg1 {j : Int} : rg1E [.d (.int j)] δ = if -(2 ^ 62) ≤ j ∧ j < 2 ^ 62 then .okF (rangeD 0 j.toNat) δ else .no := rfl
theorem c_rg2 {i j : Int} : rg2E [.d (.int i), .d (.int j)] δ = if -(2 ^ 62) ≤ i ∧ i < 2 ^ 62 ∧ -(2 ^ 62) ≤ j ∧ j < 2 ^ 62 then .okF (rangeD i (j - i).toNat) δ else .no := rfl
theorem c_lr1 {n : Int} : lr1E (.d (.int n)) δ = if -(2 ^ 62) ≤ n ∧ n ≤ 16777216 then .ok (.fr (.lst (rangeD 0 n.toNat))) δ else .no := rfl
theorem c_lcE {δ0 : Ev} {vs : List Nat} {acc : List D} : lcE δ0 vs (.ok acc δ) = .ok (.fr (.lst acc)) (restD δ0 (wipeD δ vs) vs) := rfl
def lcUo (acc : List D) : Option Ev → LR
  | some δ => .ok acc δ
  | none => .no
theorem c_lcU {acc : List D} : lcU i (.ok acc δ) = lcUo acc (unlkD i δ) := by
  unfold lcU
  simp only
  cases unlkD i δ <;> rfl
def isiO (T : String) (δ : Ev) : Option D → ER
  | some x => .ok (.d (.bl (isiB (tyN x) T))) δ
  | none => .no
theorem c_isi {T : String} : isiE T e δ = isiO T δ (evD δ e) := by
  unfold isiE
  cases evD δ e <;> rfl
def finTo (T : String) : Option D → Bool
  | some x => tyOk T x
  | none => false
theorem c_finT {T : String} : finT T e δ = finTo T (evD δ e) := by
  unfold finT
  cases evD δ e <;> rfl
def unlkO (i : Nat) (δ : Ev) : Option L2.VE.Slot → Option Ev
  | some (.lk x) => some (δ.set i (.ow x))
  | _ => none
theorem c_unlkD : unlkD i δ = unlkO i δ δ[i]? := by
  unfold unlkD
  rcases δ[i]? with _ | (_ | _ | _ | _ | _ | _) <;> rfl
def unlkN : Option Ev → SR
  | some δ => .nx δ
  | none => .no
theorem c_unlk : unlk i (.nx δ) = unlkN (unlkD i δ) := by
  unfold unlk
  simp only
  cases unlkD i δ <;> rfl
end
end L2.VE

namespace L2.VE
open PySem PySem.Spec PyProof.Rows
section
variable {X : Cx} {cm : Cm} {W : WX} {a e : Expr} {f : Ev → ER} {s1 s2 : Ev → SR} {pos : Pos} {K : PySem.W.Frag} {c : Cc} {δ : Ev} {T : Temps} {σ : St} {F H : Hp}
/-! ### raise -/
def raiseE (cls : String) (fld : Str) (e : EV) (δ : Ev) : SR := match e with
  | .d x => .ex ⟨cls, [(fld, x)]⟩ δ
  | _ => .no
def fRaise (cls : String) (fld : Str) (f : Ev → ER) (δ : Ev) : SR := (fFz f δ).bindS (raiseE cls fld)
/-! ### e.field -/
def xatO (cname : String) (fld : Str) (δ : Ev) : Option L2.VE.Slot → ER
  | some (.xc ⟨y, [v]⟩) => if y = cname ∧ v.1 = fld then .ok (.d v.2) δ else .no
  | _ => .no
def fXat (i : Nat) (cname : String) (fld : Str) (δ : Ev) : ER := xatO cname fld δ δ[i]?
/-! ### try -/
def isXc : L2.VE.Slot → Bool
  | .xc _ => true
  | _ => false
def noXc (δ : Ev) : Bool := δ.all fun s => !isXc s
theorem SI.recm {cm' : Cm} (I : SI K (c.at cm) δ T σ F H) (n : noXc δ = true) : SI K (c.at cm') δ T σ F H := by
  obtain ⟨O, o, b, t⟩ := I.ow
  refine ⟨I.old, I.f0, I.fh, I.kp, I.dom, I.len, O, o, fun i s e => ?_, ?_⟩
  · have hs := b i s e
    have hn : (!isXc s) = true := List.all_eq_true.mp n s (List.mem_of_getElem? e)
    cases s with
    | un => exact hs
    | d x => exact hs
    | ow x => exact hs
    | io x => exact hs
    | lk x => exact hs
    | ro x => exact hs
    | xc x => cases hn
  · have go : ∀ {T : Temps}, TempsOk K (c.at cm) σ F H O T → TempsOk K (c.at cm') σ F H O T := fun {T} => by
      induction T with
      | nil => exact fun h => h
      | cons p T ih =>
        obtain ⟨v, e⟩ := p
        intro h
        refine ⟨?_, ih h.2⟩
        have h1 := h.1
        cases e <;> exact h1
    exact go t
def unX (i : Nat) (δ : Ev) : Option Ev := if noXc (δ.set i .un) then some (δ.set i .un) else none
def afterX (i : Nat) : SR → SR
  | .nx δ => match unX i δ with | some δ1 => .nx δ1 | none => .no
  | .rt e δ => match unX i δ with | some δ1 => .rt e δ1 | none => .no
  | .bk δ => match unX i δ with | some δ1 => .bk δ1 | none => .no
  | .ct δ => match unX i δ with | some δ1 => .ct δ1 | none => .no
  | _ => .no
def fTryAs (i : Nat) (tbl : String → Option Bool) (s1 s2 : Ev → SR) (δ : Ev) : SR := match s1 δ with
  | .ex x δ1 => match tbl x.cls with
    | some true => if noXc δ1 then afterX i (s2 (δ1.set i (.xc x))) else .no
    | some false => .ex x δ1
    | none => .no
  | r => r
theorem unX_some {i : Nat} {δ1 : Ev} (h : unX i δ = some δ1) : δ1 = δ.set i .un ∧ noXc (δ.set i .un) = true := by
  unfold unX at h
  split at h
  · cases h; exact ⟨rfl, by assumption⟩
  · cases h
theorem SI.setX {i : Nat} {x : XD} {p : Addr} {d : Option Addr} (I : SI K (c.at cm) δ [] σ F H) (n : noXc δ = true) (xf : XFs K F d x.fs) (hi : ∀ s, δ[i]? = some s → True) :
    SI K (c.at ⟨cm.m, some (p, cm.m x.cls, d)⟩) (δ.set i (.xc x)) [] (σ.set i (some (.ref p))) F H := by
  have J : SI K (c.at ⟨cm.m, some (p, cm.m x.cls, d)⟩) δ [] σ F H := I.recm n
  obtain ⟨O, o, b, t⟩ := J.ow
  refine ⟨J.old, J.f0, J.fh, J.kp, J.dom, by rw [List.length_set, List.length_set]; exact J.len, O, o, fun j s e => ?_, True.intro⟩
  rcases get_set e with ⟨e1, e2, e3⟩ | ⟨e1, e2⟩
  · subst e1; subst e2
    exact ⟨p, d, List.getElem?_set_self (by rw [← J.len]; exact e3), rfl, xf⟩
  · exact (b j s e2).sig (List.getElem?_set_ne e1)
theorem GS.afterX {i : Nat} {E : Ends} {p : Addr} {cv : Value} {d : Option Addr} {r : SR} (h : GS K cm (c.at cm) W E (VE.afterX i r)) :
    GS K ⟨cm.m, some (p, cv, d)⟩ (c.at ⟨cm.m, some (p, cv, d)⟩) W0 { nx := fun σ' H' => E.nx (σ'.set i none) H', rt := E.rt, bk := fun σ' H' => E.bk (σ'.set i none) H', ct := fun σ' H' => E.ct (σ'.set i none) H' } r := by
  unfold VE.afterX at h
  cases r with
  | nx δ =>
    cases q : unX i δ with
    | none => simp only [q] at h; exact h.elim
    | some δ1 =>
      simp only [q] at h
      obtain ⟨rfl, n⟩ := unX_some q
      exact fun σ' F' H' I => h _ F' H' ((SI.forget (T := []) True.intro I).recm n)
  | bk δ =>
    cases q : unX i δ with
    | none => simp only [q] at h; exact h.elim
    | some δ1 =>
      simp only [q] at h
      obtain ⟨rfl, n⟩ := unX_some q
      exact fun σ' F' H' I => h _ F' H' ((SI.forget (T := []) True.intro I).recm n)
  | ct δ =>
    cases q : unX i δ with
    | none => simp only [q] at h; exact h.elim
    | some δ1 =>
      simp only [q] at h
      obtain ⟨rfl, n⟩ := unX_some q
      exact fun σ' F' H' I => h _ F' H' ((SI.forget (T := []) True.intro I).recm n)
  | rt e δ =>
    cases q : unX i δ with
    | none => simp only [q] at h; exact h.elim
    | some δ1 =>
      simp only [q] at h
      obtain ⟨rfl, n⟩ := unX_some q
      exact fun v σ' F' H' I => h v _ F' H' ((SI.un I).recm n)
  | ex x δ => exact h.elim
  | no => exact h.elim
theorem vs_tryAs {x n : Str} {cv : Value} {i : Nat} {body suite : List Stmt} {b₀ : Stmt} {np pos' : Pos} {tbl : String → Option Bool} (hs : X.stack = X.env :: X.outer) (hf : X.env.frame = some X.env.locals) (hN : X.N.Nodup) (hi : X.N[i]? = some n) (hln : X.env.kindOf n = some .local) (hc : Names X x cv) (tk : Takes X W)
    (ht : ∀ y b, tbl y = some b → PySem.W.exmOne X.K (cm.m y) cv = some b)
    (hb : ∀ (W : WX) (pn : List (Addr × Obj)) (xe : Value → Shared → Prop), Takes (X.tr pn xe) W → PassesOwn (model X.prog X.w) X.A X.env xe → PSs (X.tr pn xe) body (tS X.K cm W s1))
    (hsu : ∀ (a : Addr) (oe : Obj) (cls : Value) (d : Option Addr) (pn : List (Addr × Obj)), Zc cls d oe → (∃ vs, oe.data = .fields vs) → PSs (X.suite a ((a, oe) :: pn)) (b₀ :: suite) (tS X.K ⟨cm.m, some (a, cls, d)⟩ W0 s2)) :
    PS X (.Try body [.ExceptHandler (some (.Name x np)) (some n) (b₀ :: suite) pos'] [] [] pos) (tS X.K cm W (fTryAs i tbl s1 s2)) :=
  PS.imp (ps_try_as (tb := fun W => tS X.K cm W s1) (ts := fun a cls d => tS X.K ⟨cm.m, some (a, cls, d)⟩ W0 s2) (Wout := W) hs hf hN hi hln hc tk hb hsu) fun E σ H ⟨c, δ, F, I, h⟩ => by
    refine ⟨c, δ, F, I, ?_⟩
    unfold fTryAs at h
    cases q : s1 δ with
    | nx δ1 => rw [q] at h; exact h
    | rt e δ1 => rw [q] at h; exact h
    | bk δ1 => rw [q] at h; exact h
    | ct δ1 => rw [q] at h; exact h
    | no => rw [q] at h; exact h
    | ex y δ1 =>
      rw [q] at h
      simp only at h
      intro σ' d F' H' J xf
      cases q2 : tbl y.cls with
      | none => simp only [q2] at h; exact h.elim
      | some b =>
        refine ⟨b, ht _ _ q2, fun eb p hp => ?_, fun eb => ?_⟩
        · subst eb
          simp only [q2] at h
          by_cases n : noXc δ1 = true
          · rw [if_pos n] at h
            exact ⟨c, δ1.set i (.xc y), F', J.setX n xf (fun _ _ => True.intro), h.afterX⟩
          · rw [if_neg n] at h; exact h.elim
        · subst eb
          simp only [q2] at h
          exact h σ' d F' H' J xf
/-! ### isinstance(e, C) -/
def rIsX (K : PySem.W.Frag) (a : Addr) (cls : Value) (d : Option Addr) : List V → Hp → VK → Prop := fun xs H Q => ∃ (y : V) (cv : Value) (b : Bool) (C dd : Addr) (gs : List (Str × V)), xs = [.ref a, y] ∧ (∀ u, RelV y u → u = cv) ∧ cls = .ref C ∧ d = some dd ∧ ExcC K C ∧ PySem.W.kitOne K (.ref C) cv = some b ∧ H dd = some (.xd gs) ∧ Q (.bl b) H
theorem call_isX {pa : Addr} {oe : Obj} {cls : Value} {d : Option Addr} {pn : List (Addr × Obj)} (hz : Zc cls d oe) (hf : ∃ vs, oe.data = .fields vs) : CallR (X.suite pa ((pa, oe) :: pn)) (.builtin "isinstance") (rIsX X.K pa cls d) := by
  rintro pins s σ H xs us Q I r ⟨y, cv, b, C, dd, gs, rfl, hy, rfl, rfl, E, kb, hdd, q⟩
  match us, r with
  | [u1, u2], .cons r1 (.cons r2 .nil) =>
    have e1 : u1 = Value.ref pa := r1
    subst e1
    have e2 := hy _ r2
    subst e2
    have at_ := (I.pin (pa, oe) (List.mem_append_left _ List.mem_cons_self)).1
    obtain ⟨fv, hd⟩ := hf
    obtain ⟨mA, hns, _⟩ : ObjOk X.prog X.w H s.heap dd (.xd gs) := I.hok dd _ hdd
    obtain ⟨od, ho, _⟩ := lookIn_ns hns
    have J : PySem.W.InstAt s.heap pa oe C (some od) := ⟨at_, hz.1, (by unfold PySem.W.notCls; rw [hd] <;> rfl), (by rw [hz.2]; exact ho)⟩
    have cl : (PySem.W.clsIn X.K C).isSome = true := by
      obtain ⟨cd, hc, _⟩ := PySem.W.any_some E.hd
      rw [hc]; rfl
    exact PySem.W.kia_one (PySem.W.kitx_exc cl E.hg E.hk E.hs E.ha E.hn E.ht E.hm) I.kIn J kb (fun z => nomatch z) fun tk => ⟨.bl b, H, I.kept (t' := tk) fun _ _ z => z, rfl, q⟩
def isxB (o : Option Bool) (δ : Ev) : ER := match o with
  | some b => .ok (.d (.bl b)) δ
  | none => .no
def isxO (tbl : String → Option Bool) (δ : Ev) : Option L2.VE.Slot → ER
  | some (.xc ⟨y, _ :: _⟩) => isxB (tbl y) δ
  | _ => .no
def fIsX (i : Nat) (tbl : String → Option Bool) (δ : Ev) : ER := isxO tbl δ δ[i]?
theorem vc_isX (i : Nat) {x0 cn : Str} {p1 px p2 pos : Pos} {pa D : Addr} {oe : Obj} {cls : Value} {d : Option Addr} {pn : List (Addr × Obj)} {tbl : String → Option Bool} (hz : Zc cls d oe) (hf : ∃ vs, oe.data = .fields vs) (hx : cm.x = some (pa, cls, d))
    (ht : ∀ y b, tbl y = some b → ∃ C, cm.m y = .ref C ∧ ExcC X.K C ∧ PySem.W.kitOne X.K (.ref C) (.ref D) = some b) (hm : X.mg "isinstance" = none) (hm2 : X.mg cn = some (.ref D))
    (hN : (X.suite pa ((pa, oe) :: pn)).N[i]? = some x0 := by rfl) (hv : Vis (X.suite pa ((pa, oe) :: pn)).env.scope x0 := by first | exact Or.inl rfl | exact Or.inr (Or.inl rfl) | exact Or.inr (Or.inr rfl)) (hd : (x0 == ("__debug__" : Str)) = false := by decide)
    (hcd : (x0 == ("__classdict__" : Str)) = false := by decide)
    (hg : Gl (X.suite pa ((pa, oe) :: pn)) "isinstance" := by rfl) (hg2 : Gl (X.suite pa ((pa, oe) :: pn)) cn := by rfl) (hbb : bootBuiltins "isinstance" = some (.builtin "isinstance") := by rfl) (hd2 : (cn == ("__debug__" : Str)) = false := by decide)
    (hs1 : starEach [.Name cn p2] (X.suite pa ((pa, oe) :: pn)).env = (false, eval (.Name cn p2) (X.suite pa ((pa, oe) :: pn)).env) :: starEach [] (X.suite pa ((pa, oe) :: pn)).env := by rfl)
    (he : starEach [.Name x0 px, .Name cn p2] (X.suite pa ((pa, oe) :: pn)).env = (false, eval (.Name x0 px) (X.suite pa ((pa, oe) :: pn)).env) :: starEach [.Name cn p2] (X.suite pa ((pa, oe) :: pn)).env := by rfl) (hpl : (backTo pos (starEach [.Name cn p2] (X.suite pa ((pa, oe) :: pn)).env)).any (·.1) = false := by rfl) :
    PE (X.suite pa ((pa, oe) :: pn)) (.Call (.Name "isinstance" p1) [.Name x0 px, .Name cn p2] [] pos) (tE X.K cm W (fIsX i tbl)) :=
  PE.imp (pe_callB (call_isX hz hf) hg hm hbb (pa_cons (pe_var hN hv hd hcd) (pa_cons (pe_glob (v := .ref D) hg2 hm2 rfl hd2) pa_nil hs1) he) (by decide) (by decide) he hpl) fun σ H Q ⟨c, δ, T', F, I, h⟩ => by
    unfold fIsX isxO at h
    split at h
    · rename_i y v vs q
      obtain ⟨O, _, b, _⟩ := id I.ow
      obtain ⟨a', d', e1, e2, xf⟩ := b i _ q
      have e2 : cm.x = some (a', cm.m y, d') := e2
      rw [hx] at e2
      cases e2
      unfold isxB at h
      cases q2 : tbl y with
      | none => rw [q2] at h; exact h.elim
      | some k =>
        rw [q2] at h
        obtain ⟨C, ec, ex, kb⟩ := ht y k q2
        rcases xf with z | ⟨dd, gs, ed, hgs, r⟩
        · cases z
        · exact ⟨_, e1, _, .ref D, k, C, dd, gs, rfl, fun u hu => hu, ec, ed, ex, kb, I.fh _ _ hgs, h _ F H (I.pushD rfl)⟩
    · exact h.elim
end
theorem kit_self {K : PySem.W.Frag} {C : Addr} : PySem.W.kitOne K (.ref C) (.ref C) = some true := by
  unfold PySem.W.kitOne
  rw [if_pos (beq_self_eq_true _)]
theorem kit_ref {K : PySem.W.Frag} {C D : Addr} {b : Bool} (h : PySem.W.hasDictIn K D = true) (t : PySem.W.typeIn K (.ref D) = some (.type "type")) (s : PySem.W.subIn K (.ref C) (.ref D) = some b) (ss : PySem.W.subIn K (.ref D) (.ref D) = some true) : PySem.W.kitOne K (.ref C) (.ref D) = some b := by
  unfold PySem.W.kitOne
  by_cases e : C = D
  · subst e
    rw [if_pos (beq_self_eq_true _), ← ss, s]
  · rw [if_neg (fun z => e (Value.ref.inj (eq_of_beq z)))]
    obtain ⟨cd, hc, _⟩ := PySem.W.any_some h
    show (if ((PySem.W.clsIn K D).isSome && PySem.W.typeIn K (.ref D) == some (.type "type")) = true then PySem.W.subIn K (.ref C) (.ref D) else none) = some b
    rw [if_pos (by rw [hc, t] <;> rfl)]
    exact s
theorem ns_int {K : PySem.W.Frag} {h : Heap} {mg : Str → Option Value} {x : Str} {i : Int} {t : Tok} (X : K.In h) (G : h.Ns mainGlobals mg) (e : PySem.W.nsIn K mainGlobals x = some (some (.int i t))) : ∃ v, mg x = some v ∧ RelV (.int i) v :=
  ⟨_, PySem.W.mg_of X G e, _, rfl⟩
end L2.VE

namespace L2.VE
open PySem PySem.Spec PyProof.Rows
section
variable {fa fb fc f g2 : Ev → ER} {fs : Ev → AR} {p q : Ev → BR} {s1 s2 : Ev → SR} {δ : Ev} {i j : Nat}
/-! ### more rows -/
def asgO : Option Ev → SR
  | some δ => .nx δ
  | none => .no
def asgF (g : D → Ev → Option Ev) (e : EV) (δ : Ev) : SR := match e with
  | .d x => asgO (g x δ)
  | _ => .no
theorem kAsgT {g : D → Ev → Option Ev} : fAsgT g f δ = (f δ).bindS (asgF g) := by
  unfold fAsgT
  cases f δ with
  | ok e δ1 =>
    cases e with
    | d x => show (match g x δ1 with | some δ2 => SR.nx δ2 | none => SR.no) = asgO (g x δ1); cases g x δ1 <;> rfl
    | fr x => rfl
    | sl i => rfl
    | jk => rfl
  | ex x δ1 => rfl
  | no => rfl
theorem c_asg {g : D → Ev → Option Ev} {x : D} : asgF g (.d x) δ = asgO (g x δ) := rfl
def tsO (h : List D → Ev → Option Ev) (r : List D) : Option Ev → Option Ev
  | some δ => h r δ
  | none => none
theorem c_tsC {g : D → Ev → Option Ev} {h : List D → Ev → Option Ev} {x : D} {r : List D} : gTsC g h (x :: r) δ = tsO h r (g x δ) := by
  unfold gTsC
  simp only
  cases g x δ <;> rfl
theorem c_ts0 : gTs0 [] δ = some δ := rfl
def parF4 (i j : Nat) (e1 e2 : EV) (δ : Ev) : SR := match e2 with
  | .d y => setE i e1 (δ.set j (.d y))
  | .fr y => setE i e1 (δ.set j (.ow y))
  | _ => .no
def parF3 (i j : Nat) (e1 e' : EV) (δ : Ev) : SR := (unE e' δ).bindS (parF4 i j e1)
def parF2 (i j : Nat) (fb : Ev → ER) (e1 : EV) (δ : Ev) : SR := (fb δ).bindS (parF3 i j e1)
def parF1 (i j : Nat) (fb : Ev → ER) (e : EV) (δ : Ev) : SR := (unE e δ).bindS (parF2 i j fb)
theorem kPar : fPar i j fa fb δ = (fa δ).bindS (parF1 i j fb) := rfl
theorem c_par1 {e1 : EV} {y : D} : parF4 i j e1 (.d y) δ = setE i e1 (δ.set j (.d y)) := rfl
theorem c_par2 {e1 : EV} {y : D} : parF4 i j e1 (.fr y) δ = setE i e1 (δ.set j (.ow y)) := rfl
/-! try -/
def tryX (i : Nat) (s2 : Ev → SR) (x : XD) (δ1 : Ev) : Option Bool → SR
  | some true => if noXc δ1 then afterX i (s2 (δ1.set i (.xc x))) else .no
  | some false => .ex x δ1
  | none => .no
def tryK (i : Nat) (tbl : String → Option Bool) (s2 : Ev → SR) : SR → SR
  | .ex x δ1 => tryX i s2 x δ1 (tbl x.cls)
  | .no => .no
  | .nx δ => .nx δ
  | .rt e δ => .rt e δ
  | .bk δ => .bk δ
  | .ct δ => .ct δ
theorem kTry {tbl : String → Option Bool} : fTryAs i tbl s1 s2 δ = tryK i tbl s2 (s1 δ) := by
  unfold fTryAs
  cases s1 δ with
  | ex x δ1 => show (match tbl x.cls with | some true => _ | some false => _ | none => _) = tryX i s2 x δ1 (tbl x.cls); cases tbl x.cls with
    | none => rfl
    | some b => cases b <;> rfl
  | _ => rfl
theorem c_unX : unX i δ = if noXc (δ.set i .un) then some (δ.set i .un) else none := rfl
def aftR (e : EV) : Option Ev → SR
  | some δ => .rt e δ
  | none => .no
def aftN : Option Ev → SR
  | some δ => .nx δ
  | none => .no
def aftB : Option Ev → SR
  | some δ => .bk δ
  | none => .no
def aftC : Option Ev → SR
  | some δ => .ct δ
  | none => .no
theorem c_aftR {e : EV} : afterX i (.rt e δ) = aftR e (unX i δ) := by unfold afterX; simp only; cases unX i δ <;> rfl
theorem c_aftN : afterX i (.nx δ) = aftN (unX i δ) := by unfold afterX; simp only; cases unX i δ <;> rfl
theorem c_aftB : afterX i (.bk δ) = aftB (unX i δ) := by unfold afterX; simp only; cases unX i δ <;> rfl
theorem c_aftC : afterX i (.ct δ) = aftC (unX i δ) := by unfold afterX; simp only; cases unX i δ <;> rfl
theorem c_nox0 : noXc [] = true := rfl
theorem c_nox1 {s : Slot} {r : Ev} : noXc (s :: r) = (!isXc s && noXc r) := rfl
theorem kRaise {cls : String} {fld : Str} : fRaise cls fld f δ = (fFz f δ).bindS (raiseE cls fld) := rfl
end
/-! ### what simp may settle by arithmetic -/
theorem beq_i (i j : Int) : (i == j) = decide (i = j) := rfl
theorem beq_n (i j : Nat) : (i == j) = decide (i = j) := rfl
theorem c_rg1' {j : Int} {δ : Ev} (h : -(2 ^ 62) ≤ j ∧ j < 2 ^ 62) : rg1E [.d (.int j)] δ = .okF (rangeD 0 j.toNat) δ := if_pos h
theorem c_rg2' {i j : Int} {δ : Ev} (h : -(2 ^ 62) ≤ i ∧ i < 2 ^ 62 ∧ -(2 ^ 62) ≤ j ∧ j < 2 ^ 62) : rg2E [.d (.int i), .d (.int j)] δ = .okF (rangeD i (j - i).toNat) δ := if_pos h
theorem c_lr1' {n : Int} {δ : Ev} (h : -(2 ^ 62) ≤ n ∧ n ≤ 16777216) : lr1E (.d (.int n)) δ = .ok (.fr (.lst (rangeD 0 n.toNat))) δ := if_pos h
end L2.VE

namespace PySem
namespace LowX_limit
open PySem.W PySem.Calls PyProof.Rows PySem.HandSPX
/-! ### the text of __init__ -/
def iA (p1 p2 : Pos) : Arguments := { posonlyargs := [], args := [{ arg := "self", annotation := none, pos := p1 }, { arg := "limit", annotation := none, pos := p2 }], vararg := none, kwonlyargs := [], kw_defaults := [], kwarg := none, defaults := [] }
def iB (q1 q2 q3 q4 : Pos) : List Stmt := [.Assign [.Attribute (.Name "self" q1) "limit" q2] (.Name "limit" q3) q4]
def iS : Scope := { kind := .function, names := [(PySem.Str.ofString "self", .local), (PySem.Str.ofString "limit", .local)], isGenerator := false, isCoroutine := false, more := [] }
/-- what the written part says of Low, at C, and of its __init__, at fI -/
structure LowTxt (K : Frag) (mg : Str → Option Value) (C fI : Addr) (nm qn : Str) : Prop where
  gC : mg nm = some (.ref C)
  cls : ∃ nm2 q N bs bm sn sub ab col dd k0 k1 k2 k3 k5, K.lookup C = some (excClassObj nm2 q C N bs bm true sn sub ab col dd k0 k1 k2 k3 k5 "ValueError.__new__") ∧ refsVE bm = true
  sa : findIn K (.ref C) "__setattr__" = some (some (.builtin "object.__setattr__"))
  ga : findIn K (.ref C) "__getattribute__" = some (some (.builtin "BaseException.__getattribute__"))
  gg : findIn K (.ref C) "__getattr__" = some none
  noN : findIn K (.ref C) "limit" = some none
  iC : findIn K (.ref C) "__init__" = some (some (.ref fI))
  tC : typeIn K (.ref fI) = some (.type "function")
  kC : keepIn K (.ref C) = true
  exC : subIn K (.ref C) (.type "BaseException") = some true
  tyC : typeIn K (.ref C) = some (.type "type")
  hdC : hasDictIn K C = true
  te : exmOne K (.ref C) (.ref C) = some true
  fn : ∃ (oc : Value) (od : Option Addr) (doc pm : Value) (an : Option Addr) (cdv ct : Value) (osl : Array (Option Value)) (p1 p2 q1 q2 q3 q4 : Pos),
    K.lookup fI = some ⟨oc, od, .func (fnOf "__init__" qn (iA p1 p2) (iB q1 q2 q3 q4) iS .none .none doc pm an cdv ct), osl⟩ ∧ codeIn K cdv qn = true
theorem one_size (v : Value) : [v].length ≤ sizeLine := by
  rw [sizeLine_eq]
  exact (by decide : 1 ≤ 16777216)
theorem kept_but {K : Frag} {h h' : Heap} {x : Addr} (X : K.In h) (hx : K.lookup x = none) (k : ∀ b o, b ≠ x → h.get? b = some o → h'.get? b = some o) : K.In h' := fun a o e =>
  k a o (fun z => by rw [z, hx] at e; cases e) (X a o e)
theorem ldC {M : Model} {s : Shared} {name : Str} {scope : Scope} {L a : Addr} {cd : Value} {m : Str → Option Value} {x : Str} {pos : Pos} {v : Value} {Q : Value → Shared → Prop} {A : Around} {E : Value → Shared → Prop} (hn : s.heap.Ns L m) (hv : m x = some v) (h : Q v s)
    (hk : scope.kind = .function := by rfl) (hl : (envOfC name scope L a cd).kindOf x = some .local := by rfl) (hd : (x == ("__debug__" : Str)) = false := by decide) :
    wpAny M A (eval (.Name x pos) (envOfC name scope L a cd)) Q E s := wpAny_Name (wpAny_loadName_local hk hl hn hv h) hd
/-- what __init__ leaves of a fresh exception at x -/
structure InitEnd (h h' : Heap) (x C dx t1 : Addr) (v : Value) : Prop where
  keep : ∀ b o, b ≠ x → h.get? b = some o → h'.get? b = some o
  obj : h'.get? x = some { cls := .ref C, dict := some dx, data := .fields #[.ref t1, .none, .none, .none, .bool false, .none] }
  dbig : h.objs.size ≤ dx
  dne : dx ≠ x
  ns : h'.Ns1 dx (fun y => if y = "limit" then some v else none)
/-- a made Low -/
structure OwnMade (h h' : Heap) (e C d : Addr) (v : Value) : Prop where
  keep : ∀ b o, h.get? b = some o → h'.get? b = some o
  new : h.objs.size ≤ e
  obj : ∃ oe vs, h'.get? e = some oe ∧ oe.cls = .ref C ∧ oe.dict = some d ∧ oe.data = .fields vs ∧ vs[1]? = some .none
  dbig : h.objs.size ≤ d
  dne : d ≠ e
  ns : h'.Ns1 d (fun y => if y = "limit" then some v else none)
section
variable {prog : Program} {w : World} {A : Around} {E : Value → Shared → Prop} {R : Result → Shared → Prop} {s : Shared} {K : Frag} {mg : Str → Option Value} {C fI : Addr} {nm qn : Str}
theorem low_init (T : LowTxt K mg C fI nm qn) {x t0 : Addr} {v : Value} (X : K.In s.heap) (hlim : s.heap.NoLimit) (hx : s.heap.get? x = some (excO C t0)) (hnx : K.lookup x = none) (hroom : A.depth < recursionLimit)
    (hq : ∀ h' tk dx, InitEnd s.heap h' x C dx t0 v → R (.ok (.ret .none)) { s with heap := h', toks := tk }) :
    codeAny (model prog w) A (.call (.ref fI) ⟨[.ref x, v], []⟩) R s := by
  obtain ⟨oc, od, doc, pm, an, cdv, ct, osl, p1, p2, q1, q2, q3, q4, ho, hcd⟩ := T.fn
  obtain ⟨nm2, q, N, bs, bm, sn, sub, ab, col, dd, k0, k1, k2, k3, k5, hC, hbm⟩ := T.cls
  have hcl : clsIn K C = some { name := nm2, bases := bs, mro := .ref C :: bm, ns := N, qualname := q, hasDict := true, slotNames := sn, subclasses := sub, abstract := ab, collection := col, hasDel := false } := by unfold clsIn; rw [hC] <;> rfl
  refine Att.call_fn (binds := [("self", .ref x), ("limit", v)]) X hlim ho hcd hroom (BindsTo.of_eq (by first | rfl | with_unfolding_all rfl)) (by first | rfl | decide | with_unfolding_all rfl) (fun s₁ IC => ?_) rfl rfl rfl
  obtain ⟨h₁, tk₁, rfl⟩ := IC.toInCall.same
  have k : ∀ b o, s.heap.get? b = some o → h₁.get? b = some o := IC.toInCall.keep
  have hn := IC.toInCall.ns
  have hxL : s.heap.objs.size ≠ x := Nat.ne_of_gt (Heap.lt_size hx)
  have X₁ : K.In h₁ := X.keeps k
  have hx₁ := k _ _ hx
  -- self.by = by
  show wpAny _ _ (execs _ _) _ _ _
  refine wpAny_execs_cons (plainObj_wpAny_Assign_Attribute ?_)
  refine ldC (v := v) hn (by first | rfl | with_unfolding_all rfl | kernel_rfl) (ldC (v := .ref x) hn (by first | rfl | with_unfolding_all rfl | kernel_rfl) ?_)
  refine set_plain X₁ (ox := excO C t0) (od := none) ⟨hx₁, rfl, rfl, trivial⟩ T.sa ?_
  refine exc_osa X₁ hx₁ hcl (show refsVE (.ref C :: bm) = true from hbm) rfl T.noN (fun h₃ tk₃ dx k₃ dn dne hx₃ hn₃ => ?_)
  show wpAny _ _ (execs _ _) _ _ _
  have z : s.heap.objs.size < h₁.objs.size := hn.lt
  exact wpAny_execs_nil (hq h₃ tk₃ dx ⟨fun b o hb e => k₃ b o hb (k b o e), hx₃, Nat.le_of_lt (Nat.lt_of_lt_of_le z dn), dne, hn₃⟩)
theorem low_made (T : LowTxt K mg C fI nm qn) {v : Value} (X : K.In s.heap) (hlim : s.heap.NoLimit) (hroom : A.depth + 1 < recursionLimit)
    (hq : ∀ h' tk e d, OwnMade s.heap h' e C d v → R (.ok (.ret (.ref e))) { s with heap := h', toks := tk }) :
    codeAny (model prog w) A (.call (.ref C) ⟨[v], []⟩) R s := by
  obtain ⟨nm2, q, N, bs, bm, sn, sub, ab, col, dd, k0, k1, k2, k3, k5, hC, hbm⟩ := T.cls
  obtain ⟨hp, g, dr, tk, os⟩ := s
  have k : ∀ b o, hp.get? b = some o → ((hp.push (kdv_tup [v])).push (excO C hp.objs.size)).get? b = some o := fun b o e => Heap.get?_push_of_some _ (Heap.get?_push_of_some _ e)
  have hget : ((hp.push (kdv_tup [v])).push (excO C hp.objs.size)).get? (hp.objs.size + 1) = some (excO C hp.objs.size) := by heap_get
  have hnx : K.lookup (hp.objs.size + 1) = none := by
    cases e : K.lookup (hp.objs.size + 1) with
    | none => rfl
    | some o =>
      have z : hp.get? (hp.objs.size + 1) = some o := X _ _ e
      exact absurd (Nat.lt_of_succ_lt (Heap.lt_size z)) (Nat.lt_irrefl _)
  refine call_own F.excBase_ValueError (fun X => refsVE_contains X bm hbm) (X _ _ hC) (looks_findIn X T.iC) (fun self => bind_fn X self T.tC) (one_size v) ?_
  refine low_init (s := ⟨(hp.push (kdv_tup [v])).push (excO C hp.objs.size), g, dr, tk, os⟩) T (X.keeps k) (hlim.keeps k) hget hnx ?_ fun h' tk' dx ⟨k', hx, dn, dne, hns⟩ => ?_
  · show A.depth + 1 < recursionLimit
    exact hroom
  · have old : ∀ b o, hp.get? b = some o → h'.get? b = some o := fun b o e => k' b o (Nat.ne_of_lt (Nat.lt_succ_of_lt (Heap.lt_size e))) (k b o e)
    have z : hp.objs.size + 1 + 1 ≤ dx := by
      first
        | (simpa only [Heap.size_push] using dn)
        | exact dn
        | (have q := dn; rw [Heap.size_push, Heap.size_push] at q; exact q)
    exact ⟨rfl, hq h' tk' (hp.objs.size + 1) dx ⟨old, Nat.le_succ _, ⟨_, _, hx, rfl, rfl, rfl, rfl⟩, Nat.le_trans (Nat.le_trans (Nat.le_succ _) (Nat.le_succ _)) z, dne, hns⟩⟩
end
end LowX_limit
end PySem
namespace L2
namespace LX_limit
open PySem PySem.Spec PyProof.Rows
theorem relO_low {v : V} {v' : Value} (r : RelV v v') (f : Str) : RelO (List.lookup f [(("limit" : Str), v)]) (if f = "limit" then some v' else none) := by
  by_cases hw : f = "limit"
  · subst hw
    rw [if_pos rfl]
    have q : List.lookup ("limit" : Str) [(("limit" : Str), v)] = some v := by simp [List.lookup]
    rw [q]
    exact r
  · rw [if_neg hw]
    have qw : (f == ("limit" : Str)) = false := by simpa using hw
    have q2 : List.lookup f [(("limit" : Str), v)] = none := by simp [List.lookup, qw]
    rw [q2]
    trivial
section
variable {X : Cx} {C fI : Addr} {nm qn : Str}
/-- Low(e) -/
def tMkLow (C : Addr) (ta : TA) : St → Hp → XK → Prop := fun σ H Q => ta σ H fun vs H1 => ∃ v, vs = [v] ∧ ∀ d, H1 d = none → Q (.ref C) (some d) (upd H1 d (.xd [(("limit" : Str), v)]))
theorem pmk_low {a : Expr} {ta : TA} {p pos : Pos} {k : Nat} (T : PySem.LowX_limit.LowTxt X.K X.mg C fI nm qn) (hr : Room k X.A) (ha : PA X [a] ta) (hg : Gl X nm := by rfl) (hdb : (nm == ("__debug__" : Str)) = false := by decide)
    (he : starEach (a :: []) X.env = (false, eval a X.env) :: starEach [] X.env := by rfl) (hpl : (backTo pos (starEach [] X.env)).any (·.1) = false := by rfl) :
    PMk X (.Call (.Name nm p) [a] [] pos) (tMkLow C ta) := by
  intro pins s σ H Q I h
  refine wpAny_Call_Name_kw (ld_glob I hg T.gC ?_ hdb)
  refine PySem.W.callWith_K (h₀ := X.base) I.ok.mod.kin T.kC (thn (ha.run pos pins s σ H _ I h) fun us s1 hh => ?_) he hpl
  obtain ⟨vs, H1, I1, r1, v, ev, q1⟩ := hh
  subst ev
  refine ⟨I1.kIn, ?_⟩
  cases r1 with
  | cons rv rn =>
    rename_i v' us'
    cases rn
    show wpAny _ _ (call (.ref C) [v']) _ _ _
    have hlim := I1.nolimit
    obtain ⟨hp, g, dr, tk, os⟩ := s1
    refine wpAny_call (PySem.LowX_limit.low_made T I1.kIn hlim (by have := hr.dp; omega) fun h' tk' e d M => ?_)
    show MkP X pins σ Q (.ref e) ⟨h', g, dr, tk', os⟩
    obtain ⟨oe, fv, hoe, hc, hd, hdat, h1⟩ := M.obj
    have hns := M.ns
    obtain ⟨G', g1, g2⟩ := restrict h' fun b => decide (b ≠ e)
    have gk : ∀ b, b ≠ e → G'.get? b = h'.get? b := fun b hb => g1 b (decide_eq_true hb)
    have ge : G'.get? e = none := g2 e (by simp)
    have old : ∀ b o, hp.get? b = some o → G'.get? b = some o := fun b o q => (gk b (Nat.ne_of_lt (Nat.lt_of_lt_of_le (Heap.lt_size q) M.new))).trans (M.keep b o q)
    have ob : ObjOk X.prog X.w (upd H1 d (.xd [(("limit" : Str), v)])) G' d (.xd [(("limit" : Str), v)]) :=
      ⟨_, hns.at (fun o q => (gk d M.dne).trans q), fun f => relO_low rv f⟩
    have J : Inv X pins σ (upd H1 d (.xd [(("limit" : Str), v)])) ⟨G', g, dr, tk', os⟩ := I1.laid (t' := tk') old M.dbig ob
    refine ⟨e, oe, fv, ⟨G', g, dr, tk', os⟩, _, .ref C, some d, rfl, J, fun b o q => ?_, ge, hoe, ⟨hc, hd⟩, hdat, h1, ?_, rfl, I1.bare, raises_own T.exC T.tyC, q1 d (I1.hok.fresh M.dbig)⟩
    · by_cases hb : b = e
      · have q' : G'.get? b = some o := q
        rw [hb, ge] at q'; cases q'
      · exact (gk b hb).symm.trans q
    · rw [upd_ne (Ne.symm M.dne)]
      exact I1.hok.fresh M.new
/-- raise Low(e) -/
def tRaiseLow (C : Addr) (W : WX) (ta : TA) : TS := fun _ σ H => tMkLow C ta σ H fun cls d H' => W cls d σ H'
theorem ps_raiseLow {a : Expr} {ta : TA} {W : WX} {p pos pos2 : Pos} {k : Nat} (hc : X.calm = true) (T : PySem.LowX_limit.LowTxt X.K X.mg C fI nm qn) (hr : Room k X.A) (tk : Takes X W) (ha : PA X [a] ta) (hg : Gl X nm := by rfl) (hdb : (nm == ("__debug__" : Str)) = false := by decide)
    (he : starEach (a :: []) X.env = (false, eval a X.env) :: starEach [] X.env := by rfl) (hpl : (backTo pos (starEach [] X.env)).any (·.1) = false := by rfl) :
    PS X (.Raise (some (.Call (.Name nm p) [a] [] pos)) none pos2) (tRaiseLow C W ta) := ps_raise hc tk (pmk_low T hr ha hg hdb he hpl)
/-- low.by, low the exception that the suite holds (at a; its class cls, its dict d) -/
def tByLow (C : Addr) (a : Addr) (cls : Value) (d : Option Addr) (te : TE) : TE := fun σ H Q => te σ H fun x H1 => x = .ref a ∧ cls = .ref C ∧ ∃ (dd : Addr) (v : V), d = some dd ∧ H1 dd = some (.xd [(("limit" : Str), v)]) ∧ Q v H1
theorem pe_byLow {a : Addr} {oe : Obj} {cls : Value} {d : Option Addr} {pn : List (Addr × Obj)} {e : Expr} {te : TE} {pos : Pos} (T : PySem.LowX_limit.LowTxt X.K X.mg C fI nm qn) (hz : Zc cls d oe) (hf : ∃ vs, oe.data = .fields vs) (he : PE (X.suite a ((a, oe) :: pn)) e te)
    (hb : attributeBase e "limit" X.env (eval e X.env) = eval e X.env := by rfl) :
    PE (X.suite a ((a, oe) :: pn)) (.Attribute e "limit" pos) (tByLow C a cls d te) := by
  refine ⟨fun pins s σ H Q I h => ?_⟩
  refine attr_of hb (thn (he.run pins s σ H _ I h) fun u s1 hh => ?_)
  obtain ⟨x, H1, I1, rx, ex, ec, dd, v, ed, ea, q⟩ := hh
  subst ex
  obtain rfl : u = Value.ref a := rx
  subst ec
  subst ed
  obtain ⟨ha, _⟩ := I1.pin (a, oe) (List.mem_append_left _ List.mem_cons_self)
  obtain ⟨vs, hd⟩ := hf
  have hx : ObjOk X.prog X.w H1 s1.heap dd (.xd [(("limit" : Str), v)]) := I1.hok dd _ ea
  obtain ⟨mA, hns, hr⟩ := hx
  obtain ⟨od, ho, hl⟩ := lookIn_ns hns
  have l : List.lookup ("limit" : Str) [(("limit" : Str), v)] = some v := by simp [List.lookup]
  obtain ⟨u, hu, ru⟩ := RelO.some_of (v := v) (o := mA "limit") (by rw [← l]; exact hr "limit")
  have J : PySem.W.InstAt s1.heap a oe C (some od) := ⟨ha, hz.1, by unfold PySem.W.notCls; rw [hd] <;> rfl, by rw [hz.2]; exact ho⟩
  exact HandSPX.exc_get I1.kIn J T.ga T.gg T.exC (PySem.W.findObj_own T.hdC T.noN rfl (by rw [hl, hu])) (handed_of ru) ⟨v, H1, I1.tok _, ru, q⟩
end
end LX_limit
end L2

/-! the evaluators' rows -/
namespace L2
namespace LX_limit
open PySem PySem.Spec PyProof.Rows L2.VE
section
variable {X : Cx} {cm : L2.VE.Cm} {W : WX} {a e : Expr} {f : L2.VE.Ev → L2.VE.ER} {C fI : Addr} {nm qn : Str}
theorem vs_raise {p pos pos2 : Pos} {k : Nat} {cls : String} (hc : X.calm = true) (T : PySem.LowX_limit.LowTxt X.K X.mg C fI nm qn) (hcm : cm.m cls = .ref C) (hr : Room k X.A) (tk : Takes X W) (ha : PE X a (L2.VE.tE X.K cm W f)) (hg : Gl X nm := by rfl) (hdb : (nm == ("__debug__" : Str)) = false := by decide)
    (he : starEach (a :: []) X.env = (false, eval a X.env) :: starEach [] X.env := by rfl) (hpl : (backTo pos (starEach [] X.env)).any (·.1) = false := by rfl) :
    PS X (.Raise (some (.Call (.Name nm p) [a] [] pos)) none pos2) (L2.VE.tS X.K cm W (L2.VE.fRaise cls "limit" f)) :=
  L2.VE.PS.imp (ps_raiseLow hc T hr tk (pa_cons (L2.VE.vc_fz ha) pa_nil he) hg hdb he hpl) fun E σ H ⟨c, δ, F, I, h⟩ =>
    L2.VE.goFz I h fun x δ1 h1 v F1 H1 I1 => ⟨v, rfl, fun d hd => by
      have w := h1 σ (some d) _ _ (I1.drop.newX (o := .xd [(("limit" : Str), v)]) hd) (.inr ⟨d, _, rfl, upd_same, v, [], rfl, by
        obtain ⟨O, _, _, t, _⟩ := I1.ow
        exact L2.VE.Rep.mono (L2.VE.same_upd (I1.fh.free hd)) t, rfl⟩)
      rw [hcm] at w
      exact w⟩
theorem vc_xat (i : Nat) {x0 : Str} {px pos : Pos} {pa : Addr} {oe : Obj} {cls : Value} {d : Option Addr} {pn : List (Addr × Obj)} {cname : String} (T : PySem.LowX_limit.LowTxt X.K X.mg C fI nm qn) (hz : Zc cls d oe) (hf : ∃ vs, oe.data = .fields vs) (hcm : cm.m cname = .ref C) (hx : cm.x = some (pa, cls, d))
    (hN : (X.suite pa ((pa, oe) :: pn)).N[i]? = some x0 := by rfl) (hv : Vis (X.suite pa ((pa, oe) :: pn)).env.scope x0 := by first | exact Or.inl rfl | exact Or.inr (Or.inl rfl) | exact Or.inr (Or.inr rfl)) (hd : (x0 == ("__debug__" : Str)) = false := by decide)
    (hcd : (x0 == ("__classdict__" : Str)) = false := by decide) (hb : attributeBase (.Name x0 px) "limit" X.env (eval (.Name x0 px) X.env) = eval (.Name x0 px) X.env := by rfl) :
    PE (X.suite pa ((pa, oe) :: pn)) (.Attribute (.Name x0 px) "limit" pos) (L2.VE.tE X.K cm W (L2.VE.fXat i cname "limit")) :=
  L2.VE.PE.imp (pe_byLow T hz hf (pe_var hN hv hd hcd) hb) fun σ H Q ⟨c, δ, T', F, I, h⟩ => by
    unfold L2.VE.fXat L2.VE.xatO at h
    split at h
    · rename_i y v q
      obtain ⟨O, _, b, _⟩ := id I.ow
      obtain ⟨a', d', e1, e2, xf⟩ := b i _ q
      have e2 : cm.x = some (a', cm.m y, d') := e2
      rw [hx] at e2
      cases e2
      by_cases hy : y = cname ∧ v.1 = "limit"
      · rw [if_pos hy] at h
        obtain ⟨rfl, hk⟩ := hy
        refine ⟨_, e1, rfl, hcm, ?_⟩
        rcases xf with z | ⟨dd, gs, ed, hg, r⟩
        · cases z
        · obtain ⟨k, dv⟩ := v
          obtain ⟨w, rr, eg, r1, r2⟩ := r
          cases r2
          have hk : k = "limit" := hk
          subst hk
          subst eg
          exact ⟨dd, w, ed, I.fh _ _ hg, h w F H (I.pushD r1)⟩
      · rw [if_neg hy] at h; exact h.elim
    · exact h.elim
end
end LX_limit
end L2

namespace LW
open PySem PySem.Spec PyProof.Rows L2 L2.VE
abbrev Slot := L2.VE.Slot
def topS (i : Nat) : Stmt := PySem.Challenge.pw_backletters_k69_whole_rounds_of_strings.main.body.getD i (.Pass ⟨0, 0, 0, 0⟩)
def c_MOST_FIGURES : D := .int 400
def tb_BadWord (y : String) : Option Bool := if y = "TooMany" then some false else none
def tb_TooMany (y : String) : Option Bool := if y = "TooMany" then some true else none
def tb_TurnError (y : String) : Option Bool := if y = "TooMany" then some true else none
/-! ### power -/
def bF_power_1 : Ev → SR := (fSet 2 (fOp2 gMul (fV 2) (fV 0)))
def e_power : Ev → SR :=
  (fSeq (fSet 2 (fK (.int (1))))
  (fSeq (fFor (fRg1 (fCons (fV 1) fNil)) (gNm 3) bF_power_1)
  (fRet (fV 2))))
/-! ### count_rounds_of -/
def bF_count_rounds_of_1 : Ev → SR := (fSet 2 (fOp2 gMul (fV 2) (fV 3)))
def bF_count_rounds_of_2 : Ev → SR := (fSeq (fSet 5 (fOp2 gMul (fV 5) (fV 2)))
  (fIf (fTst (fOp2 (liftB gGe) (fV 5) (fV 4))) (fRaise "TooMany" "limit" (fK c_MOST_FIGURES)) fNext))
def e_count_rounds_of : Ev → SR :=
  (fSeq (fSet 2 (fK (.int (1))))
  (fSeq (fFor (fRg2 (fCons (fK (.int (2))) (fCons (fOp2 gAdd (fV 1) (fK (.int (1)))) fNil))) (gNm 3) bF_count_rounds_of_1)
  (fSeq (fSet 4 (fOp2 gMul (fCall 2 4 none e_power (fCons (fFr (fK (.int (10)))) (fCons (fFr (fK c_MOST_FIGURES)) fNil))) (fCall 2 4 none e_power (fCons (fFr (fV 1)) (fCons (fFr (fV 0)) fNil)))))
  (fSeq (fSet 5 (fK (.int (1))))
  (fSeq (fFor (fRg1 (fCons (fCall 2 4 none e_power (fCons (fFr (fV 1)) (fCons (fFr (fOp2 gSub (fV 0) (fK (.int (1))))) fNil))) fNil)) (gNm 6) bF_count_rounds_of_2)
  (fRet (fOp2 gFdiv (fV 5) (fCall 2 4 none e_power (fCons (fFr (fV 1)) (fCons (fFr (fV 0)) fNil))))))))))
/-! ### _law_feed -/
def e__law_feed : Ev → SR :=
  (fRet (fLst (fCons (fFz (fCallB gList (fCons (fV 0) fNil))) (fCons (fFz (fK (.int (0)))) (fCons (fFz (fK (.int (0)))) (fCons (fFz (fK (.int (1)))) fNil))))))
/-! ### _law_draw -/
def e__law_draw : Ev → SR :=
  (fSeq (fIf (fTAnd (fTst (fOp2 (liftB gEq) (fOp2 gIx (fV 0) (fK (.int (2)))) (fK (.int (0))))) (fTst (fOp2 (liftB gLt) (fOp2 gIx (fV 0) (fK (.int (1)))) (fCallB gLen (fCons (fOp2 gIx (fV 0) (fK (.int (0)))) fNil))))) (fSeq (fSet 3 (fCallB gAbs (fCons (fCallB gInt (fCons (fOp2 gIx (fOp2 gIx (fV 0) (fK (.int (0)))) (fOp2 gIx (fV 0) (fK (.int (1))))) fNil)) fNil)))
  (fSeq (fAugS 0 gAddI (fK (.int (1))) (fK (.int (1))))
  (fIf (fTst (fOp2 (liftB gGe) (fV 3) (fOp2 gPow (fK (.int (10))) (fK (.int (18)))))) (fPut 0 (fK (.int (2))) (fV 3)) (fPut 0 (fK (.int (3))) (fOp2 gMod (fCallB gInt (fCons (fOp2 gAdd (fOp2 gAdd (fOp2 gMul (fOp2 gIx (fV 0) (fK (.int (3)))) (fK (.int (48271)))) (fOp2 gMul (fV 3) (fK (.int (69621))))) (fOp2 gIx (fV 0) (fK (.int (1))))) fNil)) (fK (.int (2147483647)))))))) fNext)
  (fSeq (fIf (fTst (fOp2 (liftB gGt) (fOp2 gIx (fV 0) (fK (.int (2)))) (fK (.int (0))))) (fSeq (fSet 4 (fOp2 gMod (fCallB gInt (fCons (fOp2 gIx (fV 0) (fK (.int (2)))) fNil)) (fV 1)))
  (fSeq (fPut 0 (fK (.int (2))) (fOp2 gFdiv (fOp2 gIx (fV 0) (fK (.int (2)))) (fV 1)))
  (fRet (fV 4)))) fNext)
  (fSeq (fPut 0 (fK (.int (3))) (fOp2 gMod (fCallB gInt (fCons (fOp2 gAdd (fOp2 gMul (fOp2 gIx (fV 0) (fK (.int (3)))) (fK (.int (16807)))) (fK (.int (12345)))) fNil)) (fK (.int (2147483647)))))
  (fSeq (fSet 2 (fOp2 gMod (fCallB gInt (fCons (fOp2 gAdd (fOp2 gMul (fOp2 gIx (fV 0) (fK (.int (3)))) (fOp2 gIx (fV 0) (fK (.int (3))))) (fOp2 gIx (fV 0) (fK (.int (3))))) fNil)) (fK (.int (2147483629)))))
  (fRet (fOp2 gMod (fOp2 gFdiv (fV 2) (fK (.int (11)))) (fV 1)))))))
/-! ### _law_same -/
def bE__law_same_1 (r : Ev → SR) : Ev → ER := (fV 2)
def bP__law_same_2 (r : Ev → SR) : Ev → BR := (fTNot (fTru (fCall 2 3 none r (fCons (fFr (fOp2 gIx (fV 0) (fV 2))) (fCons (fFr (fOp2 gIx (fV 1) (fV 2))) fNil)))))
def st__law_same (r : Ev → SR) : Ev → SR :=
  (fSeq (fIf (fTru (fIsi "tuple" (fV 1))) (fRet (fAndV (fIsi "tuple" (fV 0)) (fCall 2 3 none r (fCons (fFr (fCallB gList (fCons (fV 0) fNil))) (fCons (fFr (fCallB gList (fCons (fV 1) fNil))) fNil))))) fNext)
  (fSeq (fIf (fTru (fIsi "list" (fV 1))) (fSeq (fIf (fTOr (fTNot (fTru (fIsi "list" (fV 0)))) (fTst (fOp2 (liftB gNe) (fCallB gLen (fCons (fV 0) fNil)) (fCallB gLen (fCons (fV 1) fNil))))) (fRet (fK (.bl false))) fNext)
  (fRet (fOp2 (liftB gEq) (fCallB gLen (fCons (fLc (fRg1 (fCons (fCallB gLen (fCons (fV 1) fNil)) fNil)) [2] (gNm 2) (bP__law_same_2 r) (bE__law_same_1 r)) fNil)) (fK (.int (0)))))) fNext)
  (fSeq (fIf (fTst (fOp2 (liftB gIsN) (fV 1) (fK .non))) (fRet (fOp2 (liftB gIsN) (fV 0) (fK .non))) fNext)
  (fSeq (fIf (fTru (fIsi "bool" (fV 1))) (fRet (fAndV (fIsi "bool" (fV 0)) (fOp2 (liftB gEq) (fV 0) (fV 1)))) fNext)
  (fSeq (fIf (fTru (fIsi "str" (fV 1))) (fRet (fAndV (fIsi "str" (fV 0)) (fOp2 (liftB gEq) (fV 0) (fV 1)))) fNext)
  (fRet (fAndV (fIsi "int" (fV 0)) (fAndV (fNotV (fIsi "bool" (fV 0))) (fOp2 (liftB gEq) (fV 0) (fV 1))))))))))
def e__law_same : Nat → Ev → SR
  | 0 => fun _ => .no
  | n + 1 => st__law_same (e__law_same n)
/-! ### _law_told -/
def bY__law_told_1 : Ev → SR := (fSet 3 (fCall 2 7 none e_count_rounds_of (fCons (fFr (fV 0)) (fCons (fFr (fV 1)) fNil))))
def bX__law_told_2 : Ev → SR := (fRet (fIfE (fTAnd (fTru (fIsX 2 tb_TurnError)) (fTAnd (fTNot (fTru (fIsX 2 tb_BadWord))) (fTst (fOp2 (liftB gEq) (fXat 2 "TooMany" "limit") (fK (.int (400))))))) (fK .non) (fK (.str "other"))))
def e__law_told : Ev → SR :=
  (fSeq (fTryAs 2 tb_TooMany bY__law_told_1 bX__law_told_2)
  (fRet (fV 3)))
/-! ### _law_power -/
def bF__law_power_1 : Ev → SR := (fSet 2 (fOp2 gMul (fV 2) (fV 0)))
def e__law_power : Ev → SR :=
  (fSeq (fSet 2 (fK (.int (1))))
  (fSeq (fFor (fRg1 (fCons (fV 1) fNil)) (gNm 3) bF__law_power_1)
  (fRet (fV 2))))
/-! ### _law_due -/
def bF__law_due_1 : Ev → SR := (fSet 2 (fOp2 gMul (fV 2) (fV 3)))
def bF__law_due_2 : Ev → SR := (fSeq (fSet 6 (fOp2 gMul (fV 6) (fV 2)))
  (fIf (fTst (fOp2 (liftB gGe) (fV 6) (fOp2 gMul (fV 4) (fV 5)))) (fRet (fK .non)) fNext))
def e__law_due : Ev → SR :=
  (fSeq (fSet 2 (fK (.int (1))))
  (fSeq (fFor (fRg2 (fCons (fK (.int (2))) (fCons (fOp2 gAdd (fV 1) (fK (.int (1)))) fNil))) (gNm 3) bF__law_due_1)
  (fSeq (fSet 4 (fCall 2 4 none e__law_power (fCons (fFr (fK (.int (10)))) (fCons (fFr (fK (.int (400)))) fNil))))
  (fSeq (fSet 5 (fCall 2 4 none e__law_power (fCons (fFr (fV 1)) (fCons (fFr (fV 0)) fNil))))
  (fSeq (fSet 6 (fK (.int (1))))
  (fSeq (fFor (fRg1 (fCons (fCall 2 4 none e__law_power (fCons (fFr (fV 1)) (fCons (fFr (fOp2 gSub (fV 0) (fK (.int (1))))) fNil))) fNil)) (gNm 7) bF__law_due_2)
  (fRet (fOp2 gFdiv (fV 6) (fV 5)))))))))
/-! ### _law_found -/
def bE__law_found_1 : Ev → ER := (fSl (fV 5) (fPS (fV 8)) (fPS (fOp2 gAdd (fV 8) (fV 0))))
def bE__law_found_2 : Ev → ER := (fOp2 gAdd (fV 5) (fV 9))
def bP__law_found_3 : Ev → BR := (fTst (fOp2 (liftB gNotIn) (fOp2 gAdd (fV 7) (fV 9)) (fV 6)))
def bF__law_found_4 : Ev → SR := (fSeq (fSet 6 (fLc (fRg1 (fCons (fOp2 gAdd (fOp2 gSub (fCallB gLen (fCons (fV 5) fNil)) (fV 0)) (fK (.int (1)))) fNil)) [8] (gNm 8) fYes bE__law_found_1))
  (fSeq (fSet 7 (fSl (fV 5) (fPS (fOp2 gAdd (fOp2 gSub (fCallB gLen (fCons (fV 5) fNil)) (fV 0)) (fK (.int (1))))) fPN))
  (fSet 4 (fOp2 gAdd (fV 4) (fLc (fIt (fSl (fK (.str "abcdefgh")) fPN (fPS (fV 1)))) [9] (gNm 9) bP__law_found_3 bE__law_found_2)))))
def bF__law_found_5 : Ev → SR := (fSeq (fSet 4 (fLst fNil))
  (fSeq (fFor (fIt (fV 2)) (gNm 5) bF__law_found_4)
  (fSet 2 (fV 4))))
def bE__law_found_6 : Ev → ER := (fV 5)
def bP__law_found_7 : Ev → BR := (fTst (fOp2 (liftB gEq) (fSl (fV 5) (fPS (fOp2 gAdd (fOp2 gSub (fCallB gLen (fCons (fV 5) fNil)) (fV 0)) (fK (.int (1))))) fPN) (fSl (fV 5) fPN (fPS (fOp2 gSub (fV 0) (fK (.int (1))))))))
def e__law_found : Ev → SR :=
  (fSeq (fSet 2 (fLst (fCons (fFz (fOp2 gMul (fK (.str "a")) (fV 0))) fNil)))
  (fSeq (fFor (fRg1 (fCons (fOp2 gSub (fCall 2 4 none e__law_power (fCons (fFr (fV 1)) (fCons (fFr (fV 0)) fNil))) (fK (.int (1)))) fNil)) (gNm 3) bF__law_found_5)
  (fRet (fCallB gLen (fCons (fLc (fIt (fV 2)) [5] (gNm 5) bP__law_found_7 bE__law_found_6) fNil)))))
/-! ### law -/
def bF_law_1 : Ev → SR := (fSeq (fPar 6 3 (fOp2 gAdd (fK (.int (1))) (fCall 2 5 (some 0) e__law_draw (fCons (fV 1) (fCons (fFr (fK (.int (6)))) fNil)))) (fOp2 gAdd (fK (.int (1))) (fCall 2 5 (some 0) e__law_draw (fCons (fV 1) (fCons (fFr (fK (.int (8)))) fNil)))))
  (fSeq (fIf (fTst (fOp2 (liftB gEq) (fV 2) (fK (.int (0))))) (fAsgT (gTp 2 (gTsC (gNm 6) (gTsC (gNm 3) gTs0))) (fOp2 gIx (fLst (fCons (fFz (fTup (fCons (fFz (fK (.int (4)))) (fCons (fFz (fK (.int (5)))) fNil)))) (fCons (fFz (fTup (fCons (fFz (fK (.int (3)))) (fCons (fFz (fK (.int (6)))) fNil)))) (fCons (fFz (fTup (fCons (fFz (fK (.int (3)))) (fCons (fFz (fK (.int (7)))) fNil)))) (fCons (fFz (fTup (fCons (fFz (fK (.int (5)))) (fCons (fFz (fK (.int (4)))) fNil)))) (fCons (fFz (fTup (fCons (fFz (fK (.int (3)))) (fCons (fFz (fK (.int (8)))) fNil)))) (fCons (fFz (fTup (fCons (fFz (fK (.int (6)))) (fCons (fFz (fK (.int (3)))) fNil)))) (fCons (fFz (fTup (fCons (fFz (fK (.int (3)))) (fCons (fFz (fK (.int (5)))) fNil)))) fNil)))))))) (fCall 2 5 (some 0) e__law_draw (fCons (fV 1) (fCons (fFr (fK (.int (7)))) fNil))))) fNext)
  (fIf (fTNot (fTru (fCall 2 3 none (e__law_same 8) (fCons (fFr (fCall 2 4 none e__law_told (fCons (fFr (fV 6)) (fCons (fFr (fV 3)) fNil)))) (fCons (fFr (fCall 2 8 none e__law_due (fCons (fFr (fV 6)) (fCons (fFr (fV 3)) fNil)))) fNil))))) (fRet (fK (.bl false))) fNext)))
def bF_law_2 : Ev → SR := (fSet 4 (fOp2 gMul (fV 4) (fV 5)))
def e_law : Ev → SR :=
  (fSeq (fSet 1 (fCall 1 1 none e__law_feed (fCons (fFr (fV 0)) fNil)))
  (fSeq (fFor (fRg1 (fCons (fK (.int (6))) fNil)) (gNm 2) bF_law_1)
  (fSeq (fAsgT (gTp 2 (gTsC (gNm 6) (gTsC (gNm 3) gTs0))) (fOp2 gIx (fLst (fCons (fFz (fTup (fCons (fFz (fK (.int (1)))) (fCons (fFz (fK (.int (2)))) fNil)))) (fCons (fFz (fTup (fCons (fFz (fK (.int (2)))) (fCons (fFz (fK (.int (2)))) fNil)))) (fCons (fFz (fTup (fCons (fFz (fK (.int (3)))) (fCons (fFz (fK (.int (2)))) fNil)))) (fCons (fFz (fTup (fCons (fFz (fK (.int (4)))) (fCons (fFz (fK (.int (2)))) fNil)))) (fCons (fFz (fTup (fCons (fFz (fK (.int (1)))) (fCons (fFz (fK (.int (3)))) fNil)))) (fCons (fFz (fTup (fCons (fFz (fK (.int (2)))) (fCons (fFz (fK (.int (3)))) fNil)))) (fCons (fFz (fTup (fCons (fFz (fK (.int (1)))) (fCons (fFz (fK (.int (4)))) fNil)))) (fCons (fFz (fTup (fCons (fFz (fK (.int (1)))) (fCons (fFz (fK (.int (5)))) fNil)))) fNil))))))))) (fCall 2 5 (some 0) e__law_draw (fCons (fV 1) (fCons (fFr (fK (.int (8)))) fNil)))))
  (fSeq (fIf (fTNot (fTru (fCall 2 3 none (e__law_same 8) (fCons (fFr (fCall 2 4 none e__law_told (fCons (fFr (fV 6)) (fCons (fFr (fV 3)) fNil)))) (fCons (fFr (fCall 2 10 none e__law_found (fCons (fFr (fV 6)) (fCons (fFr (fV 3)) fNil)))) fNil))))) (fRet (fK (.bl false))) fNext)
  (fSeq (fSet 3 (fOp2 gAdd (fK (.int (1))) (fCall 2 5 (some 0) e__law_draw (fCons (fV 1) (fCons (fFr (fK (.int (8)))) fNil)))))
  (fSeq (fSet 4 (fK (.int (1))))
  (fSeq (fFor (fRg2 (fCons (fK (.int (1))) (fCons (fV 3) fNil))) (gNm 5) bF_law_2)
  (fRet (fCall 2 3 none (e__law_same 8) (fCons (fFr (fLst (fCons (fFz (fCall 2 4 none e__law_told (fCons (fFr (fK (.int (1)))) (fCons (fFr (fV 3)) fNil)))) (fCons (fFz (fCall 2 4 none e__law_told (fCons (fFr (fOp2 gAdd (fK (.int (1))) (fCall 2 5 (some 0) e__law_draw (fCons (fV 1) (fCons (fFr (fK (.int (6)))) fNil))))) (fCons (fFr (fK (.int (1)))) fNil)))) fNil)))) (fCons (fFr (fLst (fCons (fFz (fV 4)) (fCons (fFz (fK (.int (1)))) fNil)))) fNil)))))))))))

structure TX (K : PySem.W.Frag) (mg : Str → Option Value) where
  cm : Cm
  a_power : Addr
  d_power : FuncData
  F_power : Fun K "power" "power" (topS 6) a_power d_power
  g_power : mg "power" = some (.ref a_power)
  k_power : PySem.W.keepIn K (.ref a_power) = true
  b_power : Binds K d_power (["base", "times"] : List Str) []
  a_count_rounds_of : Addr
  d_count_rounds_of : FuncData
  F_count_rounds_of : Fun K "count_rounds_of" "count_rounds_of" (topS 7) a_count_rounds_of d_count_rounds_of
  g_count_rounds_of : mg "count_rounds_of" = some (.ref a_count_rounds_of)
  k_count_rounds_of : PySem.W.keepIn K (.ref a_count_rounds_of) = true
  b_count_rounds_of : Binds K d_count_rounds_of (["size", "letters"] : List Str) []
  a__law_feed : Addr
  d__law_feed : FuncData
  F__law_feed : Fun K "_law_feed" "_law_feed" (topS 9) a__law_feed d__law_feed
  g__law_feed : mg "_law_feed" = some (.ref a__law_feed)
  k__law_feed : PySem.W.keepIn K (.ref a__law_feed) = true
  b__law_feed : Binds K d__law_feed (["script"] : List Str) []
  a__law_draw : Addr
  d__law_draw : FuncData
  F__law_draw : Fun K "_law_draw" "_law_draw" (topS 10) a__law_draw d__law_draw
  g__law_draw : mg "_law_draw" = some (.ref a__law_draw)
  k__law_draw : PySem.W.keepIn K (.ref a__law_draw) = true
  b__law_draw : Binds K d__law_draw (["feed", "many"] : List Str) []
  a__law_same : Addr
  d__law_same : FuncData
  F__law_same : Fun K "_law_same" "_law_same" (topS 11) a__law_same d__law_same
  g__law_same : mg "_law_same" = some (.ref a__law_same)
  k__law_same : PySem.W.keepIn K (.ref a__law_same) = true
  b__law_same : Binds K d__law_same (["told", "due"] : List Str) []
  a__law_told : Addr
  d__law_told : FuncData
  F__law_told : Fun K "_law_told" "_law_told" (topS 12) a__law_told d__law_told
  g__law_told : mg "_law_told" = some (.ref a__law_told)
  k__law_told : PySem.W.keepIn K (.ref a__law_told) = true
  b__law_told : Binds K d__law_told (["size", "letters"] : List Str) []
  a__law_power : Addr
  d__law_power : FuncData
  F__law_power : Fun K "_law_power" "_law_power" (topS 13) a__law_power d__law_power
  g__law_power : mg "_law_power" = some (.ref a__law_power)
  k__law_power : PySem.W.keepIn K (.ref a__law_power) = true
  b__law_power : Binds K d__law_power (["k", "many"] : List Str) []
  a__law_due : Addr
  d__law_due : FuncData
  F__law_due : Fun K "_law_due" "_law_due" (topS 14) a__law_due d__law_due
  g__law_due : mg "_law_due" = some (.ref a__law_due)
  k__law_due : PySem.W.keepIn K (.ref a__law_due) = true
  b__law_due : Binds K d__law_due (["size", "letters"] : List Str) []
  a__law_found : Addr
  d__law_found : FuncData
  F__law_found : Fun K "_law_found" "_law_found" (topS 15) a__law_found d__law_found
  g__law_found : mg "_law_found" = some (.ref a__law_found)
  k__law_found : PySem.W.keepIn K (.ref a__law_found) = true
  b__law_found : Binds K d__law_found (["size", "letters"] : List Str) []
  a_law : Addr
  d_law : FuncData
  F_law : Fun K "law" "law" (topS 16) a_law d_law
  g_law : mg "law" = some (.ref a_law)
  k_law : PySem.W.keepIn K (.ref a_law) = true
  b_law : Binds K d_law (["script"] : List Str) []
  a_BadWord : Addr
  g_BadWord : mg "BadWord" = some (.ref a_BadWord)
  exm_BadWord : ∀ y b, tb_BadWord y = some b → PySem.W.exmOne K (cm.m y) (.ref a_BadWord) = some b
  kit_BadWord : ∀ y b, tb_BadWord y = some b → ∃ C, cm.m y = .ref C ∧ ExcC K C ∧ PySem.W.kitOne K (.ref C) (.ref a_BadWord) = some b
  a_TooMany : Addr
  g_TooMany : mg "TooMany" = some (.ref a_TooMany)
  i_TooMany : Addr
  m_TooMany : cm.m "TooMany" = .ref a_TooMany
  X_TooMany : PySem.LowX_limit.LowTxt K mg a_TooMany i_TooMany "TooMany" "TooMany.__init__"
  exm_TooMany : ∀ y b, tb_TooMany y = some b → PySem.W.exmOne K (cm.m y) (.ref a_TooMany) = some b
  kit_TooMany : ∀ y b, tb_TooMany y = some b → ∃ C, cm.m y = .ref C ∧ ExcC K C ∧ PySem.W.kitOne K (.ref C) (.ref a_TooMany) = some b
  a_TurnError : Addr
  g_TurnError : mg "TurnError" = some (.ref a_TurnError)
  exm_TurnError : ∀ y b, tb_TurnError y = some b → PySem.W.exmOne K (cm.m y) (.ref a_TurnError) = some b
  kit_TurnError : ∀ y b, tb_TurnError y = some b → ∃ C, cm.m y = .ref C ∧ ExcC K C ∧ PySem.W.kitOne K (.ref C) (.ref a_TurnError) = some b
  z_abs : mg "abs" = none
  z_bool : mg "bool" = none
  z_int : mg "int" = none
  z_isinstance : mg "isinstance" = none
  z_len : mg "len" = none
  z_list : mg "list" = none
  z_range : mg "range" = none
  z_str : mg "str" = none
  z_tuple : mg "tuple" = none
  v_MOST_FIGURES : Value
  g_MOST_FIGURES : mg "MOST_FIGURES" = some v_MOST_FIGURES
  r_MOST_FIGURES : RelV (V.int 400) v_MOST_FIGURES
section
variable {P : Program} {w : World} {K : PySem.W.Frag} {mg : Str → Option Value} {base : Heap}
abbrev s_power : Stmt := topS 6
abbrev N_power : List Str := ["base", "times", "product", "_"]
theorem sc_power : FnScope N_power ["base", "times"] (defScope s_power) := ⟨rfl, rfl, rfl, by decide +kernel, rfl, by decide +kernel, by decide +kernel⟩
theorem ok_power (T : TX K mg) : FnOk P w K mg base (L2.CX P w) 1 T.a_power T.d_power ["base", "times"] (spV K T.cm 2 N_power e_power) := by
    refine T.F_power.okX (k := 0) sc_power (fun _ _ _ _ h => h.1) (fun cdv A outer s H vs Q E hr h => ⟨tS K T.cm (fun cls d _ H' => E cls d H') e_power, ?_, h.2⟩)
    have nd := sc_power.nd
    exact (vss_cons (vs_set (i := 2) nd rfl (by first | exact Or.inl rfl | exact Or.inr rfl) vc_int)
    (vss_cons (vs_for (vs := [3]) (passes_of rfl) rfl (vi_range1 T.z_range (va_cons (vc_var 1) va_nil)) (vg_name (i := 3) nd rfl (by first | exact Or.inl rfl | exact Or.inr rfl)) (vss_one (vs_set (i := 2) nd rfl (by first | exact Or.inl rfl | exact Or.inr rfl) (vc_op op_mul4 o_mul (vc_var 2) (vc_var 0)))))
    (vss_one (vs_ret (vc_var 2)))))
abbrev s_count_rounds_of : Stmt := topS 7
abbrev N_count_rounds_of : List Str := ["size", "letters", "product", "number", "most", "many", "_"]
theorem sc_count_rounds_of : FnScope N_count_rounds_of ["size", "letters"] (defScope s_count_rounds_of) := ⟨rfl, rfl, rfl, by decide +kernel, rfl, by decide +kernel, by decide +kernel⟩
theorem ok_count_rounds_of (T : TX K mg) : FnOk P w K mg base (L2.CX P w) 2 T.a_count_rounds_of T.d_count_rounds_of ["size", "letters"] (spV K T.cm 2 N_count_rounds_of e_count_rounds_of) := by
    refine T.F_count_rounds_of.okX (k := 1) sc_count_rounds_of (fun _ _ _ _ h => h.1) (fun cdv A outer s H vs Q E hr h => ⟨tS K T.cm (fun cls d _ H' => E cls d H') e_count_rounds_of, ?_, h.2⟩)
    have nd := sc_count_rounds_of.nd
    exact (vss_cons (vs_set (i := 2) nd rfl (by first | exact Or.inl rfl | exact Or.inr rfl) vc_int)
    (vss_cons (vs_for (vs := [3]) (passes_of rfl) rfl (vi_range2 T.z_range (va_cons vc_int (va_cons (vc_op op_add4 o_add (vc_var 1) vc_int) va_nil))) (vg_name (i := 3) nd rfl (by first | exact Or.inl rfl | exact Or.inr rfl)) (vss_one (vs_set (i := 2) nd rfl (by first | exact Or.inl rfl | exact Or.inr rfl) (vc_op op_mul4 o_mul (vc_var 2) (vc_var 3)))))
    (vss_cons (vs_set (i := 4) nd rfl (by first | exact Or.inl rfl | exact Or.inr rfl) (vc_op op_mul4 o_mul (vc_call (N := N_power) none (ok_power T) (hr.mono (by omega)) (takes_of rfl rfl rfl rfl) T.g_power T.k_power T.b_power (va_cons (vc_fr vc_int) (va_cons (vc_fr (vc_glob T.g_MOST_FIGURES T.r_MOST_FIGURES (fun _ => rfl))) va_nil))) (vc_call (N := N_power) none (ok_power T) (hr.mono (by omega)) (takes_of rfl rfl rfl rfl) T.g_power T.k_power T.b_power (va_cons (vc_fr (vc_var 1)) (va_cons (vc_fr (vc_var 0)) va_nil)))))
    (vss_cons (vs_set (i := 5) nd rfl (by first | exact Or.inl rfl | exact Or.inr rfl) vc_int)
    (vss_cons (vs_for (vs := [6]) (passes_of rfl) rfl (vi_range1 T.z_range (va_cons (vc_call (N := N_power) none (ok_power T) (hr.mono (by omega)) (takes_of rfl rfl rfl rfl) T.g_power T.k_power T.b_power (va_cons (vc_fr (vc_var 1)) (va_cons (vc_fr (vc_op op_sub o_sub (vc_var 0) vc_int)) va_nil))) va_nil)) (vg_name (i := 6) nd rfl (by first | exact Or.inl rfl | exact Or.inr rfl)) (vss_cons (vs_set (i := 5) nd rfl (by first | exact Or.inl rfl | exact Or.inr rfl) (vc_op op_mul4 o_mul (vc_var 5) (vc_var 2)))
    (vss_one (vs_if (vt_cmp op_ge4 (OpB.op2 o_ord) (by first | exact nomark _ | rfl) (vc_var 5) (vc_var 4)) (vss_one (L2.LX_limit.vs_raise (k := 0) rfl T.X_TooMany T.m_TooMany (hr.mono (by omega)) (takes_of rfl rfl rfl rfl) (vc_glob T.g_MOST_FIGURES T.r_MOST_FIGURES (fun _ => rfl)))) vss_nil))))
    (vss_one (vs_ret (vc_op op_fdiv4 o_fdiv (vc_var 5) (vc_call (N := N_power) none (ok_power T) (hr.mono (by omega)) (takes_of rfl rfl rfl rfl) T.g_power T.k_power T.b_power (va_cons (vc_fr (vc_var 1)) (va_cons (vc_fr (vc_var 0)) va_nil)))))))))))
abbrev s__law_feed : Stmt := topS 9
abbrev N__law_feed : List Str := ["script"]
theorem sc__law_feed : FnScope N__law_feed ["script"] (defScope s__law_feed) := ⟨rfl, rfl, rfl, by decide +kernel, rfl, by decide +kernel, by decide +kernel⟩
theorem ok__law_feed (T : TX K mg) : FnOk P w K mg base (L2.CX P w) 1 T.a__law_feed T.d__law_feed ["script"] (spV K T.cm 1 N__law_feed e__law_feed) := by
    refine T.F__law_feed.okX (k := 0) sc__law_feed (fun _ _ _ _ h => h.1) (fun cdv A outer s H vs Q E hr h => ⟨tS K T.cm (fun cls d _ H' => E cls d H') e__law_feed, ?_, h.2⟩)
    have nd := sc__law_feed.nd
    exact (vss_one (vs_ret (vc_lst (va_cons (vc_fz (vc_callT call_list_of o_list T.z_list rfl (va_cons (vc_var 0) va_nil))) (va_cons (vc_fz vc_int) (va_cons (vc_fz vc_int) (va_cons (vc_fz vc_int) va_nil)))))))
abbrev s__law_draw : Stmt := topS 10
abbrev N__law_draw : List Str := ["feed", "many", "mixed", "cell", "told"]
theorem sc__law_draw : FnScope N__law_draw ["feed", "many"] (defScope s__law_draw) := ⟨rfl, rfl, rfl, by decide +kernel, rfl, by decide +kernel, by decide +kernel⟩
theorem ok__law_draw (T : TX K mg) : FnOk P w K mg base (L2.CX P w) 1 T.a__law_draw T.d__law_draw ["feed", "many"] (spV K T.cm 2 N__law_draw e__law_draw) := by
    refine T.F__law_draw.okX (k := 0) sc__law_draw (fun _ _ _ _ h => h.1) (fun cdv A outer s H vs Q E hr h => ⟨tS K T.cm (fun cls d _ H' => E cls d H') e__law_draw, ?_, h.2⟩)
    have nd := sc__law_draw.nd
    have hu1 := hu_le (n := 1) hr (by decide)
    have hu64 := hu_le (n := 64) hr (by decide)
    exact (vss_cons (vs_if (PW.pt (vw_and (vt_cmp (op_eq4 hu64) (OpB.op2 o_eq) (by first | exact nomark _ | rfl) (vc_ix (vc_var 0) vc_int) vc_int) (vw_and1 (vt_cmp op_lt4 (OpB.op2 o_ord) (by first | exact nomark _ | rfl) (vc_ix (vc_var 0) vc_int) (vc_callB cr_len4 o_len T.z_len rfl (va_cons (vc_ix (vc_var 0) vc_int) va_nil)))))) (vss_cons (vs_set (i := 3) nd rfl (by first | exact Or.inl rfl | exact Or.inr rfl) (vc_callB call_abs o_abs T.z_abs rfl (va_cons (vc_callT call_int1 o_int T.z_int rfl (va_cons (vc_ix (vc_ix (vc_var 0) vc_int) (vc_ix (vc_var 0) vc_int)) va_nil)) va_nil)))
    (vss_cons (vs_augS (i := 0) iop_add4 o_addI hu1 rfl vc_int vc_int)
    (vss_one (vs_if (vt_cmp op_ge4 (OpB.op2 o_ord) (by first | exact nomark _ | rfl) (vc_var 3) (vc_op op_pow o_pow vc_int vc_int)) (vss_one (vs_put (i := 0) hu1 rfl vc_int (vc_var 3))) (vss_one (vs_put (i := 0) hu1 rfl vc_int (vc_op op_mod4 o_mod (vc_callT call_int1 o_int T.z_int rfl (va_cons (vc_op op_add4 o_add (vc_op op_add4 o_add (vc_op op_mul4 o_mul (vc_ix (vc_var 0) vc_int) vc_int) (vc_op op_mul4 o_mul (vc_var 3) vc_int)) (vc_ix (vc_var 0) vc_int)) va_nil)) vc_int))))))) vss_nil)
    (vss_cons (vs_if (vt_cmp op_gt4 (OpB.op2 o_ord) (by first | exact nomark _ | rfl) (vc_ix (vc_var 0) vc_int) vc_int) (vss_cons (vs_set (i := 4) nd rfl (by first | exact Or.inl rfl | exact Or.inr rfl) (vc_op op_mod4 o_mod (vc_callT call_int1 o_int T.z_int rfl (va_cons (vc_ix (vc_var 0) vc_int) va_nil)) (vc_var 1)))
    (vss_cons (vs_put (i := 0) hu1 rfl vc_int (vc_op op_fdiv4 o_fdiv (vc_ix (vc_var 0) vc_int) (vc_var 1)))
    (vss_one (vs_ret (vc_var 4))))) vss_nil)
    (vss_cons (vs_put (i := 0) hu1 rfl vc_int (vc_op op_mod4 o_mod (vc_callT call_int1 o_int T.z_int rfl (va_cons (vc_op op_add4 o_add (vc_op op_mul4 o_mul (vc_ix (vc_var 0) vc_int) vc_int) vc_int) va_nil)) vc_int))
    (vss_cons (vs_set (i := 2) nd rfl (by first | exact Or.inl rfl | exact Or.inr rfl) (vc_op op_mod4 o_mod (vc_callT call_int1 o_int T.z_int rfl (va_cons (vc_op op_add4 o_add (vc_op op_mul4 o_mul (vc_ix (vc_var 0) vc_int) (vc_ix (vc_var 0) vc_int)) (vc_ix (vc_var 0) vc_int)) va_nil)) vc_int))
    (vss_one (vs_ret (vc_op op_mod4 o_mod (vc_op op_fdiv4 o_fdiv (vc_var 2) vc_int) (vc_var 1))))))))
abbrev s__law_same : Stmt := topS 11
abbrev N__law_same : List Str := ["told", "due", "k"]
theorem sc__law_same : FnScope N__law_same ["told", "due"] (defScope s__law_same) := ⟨rfl, rfl, rfl, by decide +kernel, rfl, by decide +kernel, by decide +kernel⟩
theorem ok__law_same (T : TX K mg) : ∀ n : Nat, FnOk P w K mg base (L2.CX P w) (1 + n) T.a__law_same T.d__law_same ["told", "due"] (spV K T.cm 2 N__law_same (e__law_same n))
  | 0 => fn_no rfl
  | n + 1 => by
    have ih := ok__law_same T n
    refine T.F__law_same.okX (k := 1 + n) sc__law_same (fun _ _ _ _ h => h.1) (fun cdv A outer s H vs Q E hr h => ⟨tS K T.cm (fun cls d _ H' => E cls d H') (st__law_same (e__law_same n)), ?_, h.2⟩)
    have nd := sc__law_same.nd
    have hu64 := hu_le (n := 64) hr (by decide)
    exact (vss_cons (vs_if (vt_truth (vc_isi tt_tuple T.z_isinstance T.z_tuple rfl (vc_var 1))) (vss_one (vs_ret (vc_and (vc_isi tt_tuple T.z_isinstance T.z_tuple rfl (vc_var 0)) (vc_one (vc_call (N := N__law_same) none ih (hr.mono (by omega)) (takes_of rfl rfl rfl rfl) T.g__law_same T.k__law_same T.b__law_same (va_cons (vc_fr (vc_callT call_list_of o_list T.z_list rfl (va_cons (vc_var 0) va_nil))) (va_cons (vc_fr (vc_callT call_list_of o_list T.z_list rfl (va_cons (vc_var 1) va_nil))) va_nil))))))) vss_nil)
    (vss_cons (vs_if (vt_truth (vc_isi tt_list T.z_isinstance T.z_list rfl (vc_var 1))) (vss_cons (vs_if (PW.pt (vw_or (vt_not (vt_truth (vc_isi tt_list T.z_isinstance T.z_list rfl (vc_var 0)))) (vw_or1 (vt_cmp (op_ne4 hu64) (OpB.op2 o_ne) (by first | exact nomark _ | rfl) (vc_callB cr_len4 o_len T.z_len rfl (va_cons (vc_var 0) va_nil)) (vc_callB cr_len4 o_len T.z_len rfl (va_cons (vc_var 1) va_nil)))))) (vss_one (vs_ret vc_bl)) vss_nil)
    (vss_one (vs_ret (vc_cmp (op_eq4 hu64) (OpB.op2 o_eq) (by first | exact nomark _ | rfl) (vc_callB cr_len4 o_len T.z_len rfl (va_cons (vc_lc [("k", 2)] rfl nd (vi_range1 T.z_range (va_cons (vc_callB cr_len4 o_len T.z_len rfl (va_cons (vc_var 1) va_nil)) va_nil)) (blkOk_by (own := [("k", 2)]) (N := N__law_same) (sc := defScope s__law_same) (by decide +kernel)) (fun _ _ _ _ _ => (vg_name (i := 2) nd rfl (by first | exact Or.inl rfl | exact Or.inr rfl))) (fun _ _ _ _ _ => (vts_one (vt_not (vt_truth (vc_call (N := N__law_same) none ih (hr.mono (by omega)) takes0 T.g__law_same T.k__law_same T.b__law_same (va_cons (vc_fr (vc_ix (vc_var 0) (vc_var 2))) (va_cons (vc_fr (vc_ix (vc_var 1) (vc_var 2))) va_nil))))))) (fun _ _ _ _ _ => (vc_var 2))) va_nil)) vc_int)))) vss_nil)
    (vss_cons (vs_if (vt_cmp op_isN (OpB.op2 o_isN) (by first | exact nomark _ | rfl) (vc_var 1) vc_non) (vss_one (vs_ret (vc_cmp op_isN (OpB.op2 o_isN) (by first | exact nomark _ | rfl) (vc_var 0) vc_non))) vss_nil)
    (vss_cons (vs_if (vt_truth (vc_isi tt_bool T.z_isinstance T.z_bool rfl (vc_var 1))) (vss_one (vs_ret (vc_and (vc_isi tt_bool T.z_isinstance T.z_bool rfl (vc_var 0)) (vc_one (vc_cmp (op_eq4 hu64) (OpB.op2 o_eq) (by first | exact nomark _ | rfl) (vc_var 0) (vc_var 1)))))) vss_nil)
    (vss_cons (vs_if (vt_truth (vc_isi tt_str T.z_isinstance T.z_str rfl (vc_var 1))) (vss_one (vs_ret (vc_and (vc_isi tt_str T.z_isinstance T.z_str rfl (vc_var 0)) (vc_one (vc_cmp (op_eq4 hu64) (OpB.op2 o_eq) (by first | exact nomark _ | rfl) (vc_var 0) (vc_var 1)))))) vss_nil)
    (vss_one (vs_ret (vc_and (vc_isi tt_int T.z_isinstance T.z_int rfl (vc_var 0)) (vc_and (vc_not (vc_isi tt_bool T.z_isinstance T.z_bool rfl (vc_var 0))) (vc_one (vc_cmp (op_eq4 hu64) (OpB.op2 o_eq) (by first | exact nomark _ | rfl) (vc_var 0) (vc_var 1))))))))))))
abbrev s__law_told : Stmt := topS 12
abbrev N__law_told : List Str := ["size", "letters", "e", "told"]
theorem sc__law_told : FnScope N__law_told ["size", "letters"] (defScope s__law_told) := ⟨rfl, rfl, rfl, by decide +kernel, rfl, by decide +kernel, by decide +kernel⟩
theorem ok__law_told (T : TX K mg) : FnOk P w K mg base (L2.CX P w) 3 T.a__law_told T.d__law_told ["size", "letters"] (spV K T.cm 2 N__law_told e__law_told) := by
    refine T.F__law_told.okX (k := 2) sc__law_told (fun _ _ _ _ h => h.1) (fun cdv A outer s H vs Q E hr h => ⟨tS K T.cm (fun cls d _ H' => E cls d H') e__law_told, ?_, h.2⟩)
    have nd := sc__law_told.nd
    have hu64 := hu_le (n := 64) hr (by decide)
    exact (vss_cons (vs_tryAs (i := 2) (cv := .ref T.a_TooMany) rfl rfl nd rfl rfl ⟨rfl, by decide, Or.inl T.g_TooMany⟩ (takes_of rfl rfl rfl rfl) T.exm_TooMany (fun W1 pn1 xe1 tk1 po1 => (vss_one (vs_set (i := 3) nd rfl (by first | exact Or.inl rfl | exact Or.inr rfl) (vc_call (N := N_count_rounds_of) none (ok_count_rounds_of T) (hr.mono (by omega)) tk1 T.g_count_rounds_of T.k_count_rounds_of T.b_count_rounds_of (va_cons (vc_fr (vc_var 0)) (va_cons (vc_fr (vc_var 1)) va_nil)))))) (fun pa1 oe1 cls1 d1 qn1 hz1 hf1 => (vss_one (vs_ret (vc_ifExp (PW.pt (vw_and (vt_truth (vc_isX 2 hz1 hf1 rfl T.kit_TurnError T.z_isinstance T.g_TurnError)) (vw_and (vt_not (vt_truth (vc_isX 2 hz1 hf1 rfl T.kit_BadWord T.z_isinstance T.g_BadWord))) (vw_and1 (vt_cmp (op_eq4 hu64) (OpB.op2 o_eq) (by first | exact nomark _ | rfl) (L2.LX_limit.vc_xat 2 T.X_TooMany hz1 hf1 T.m_TooMany rfl) vc_int))))) vc_non vc_str)))))
    (vss_one (vs_ret (vc_var 3))))
abbrev s__law_power : Stmt := topS 13
abbrev N__law_power : List Str := ["k", "many", "found", "step"]
theorem sc__law_power : FnScope N__law_power ["k", "many"] (defScope s__law_power) := ⟨rfl, rfl, rfl, by decide +kernel, rfl, by decide +kernel, by decide +kernel⟩
theorem ok__law_power (T : TX K mg) : FnOk P w K mg base (L2.CX P w) 1 T.a__law_power T.d__law_power ["k", "many"] (spV K T.cm 2 N__law_power e__law_power) := by
    refine T.F__law_power.okX (k := 0) sc__law_power (fun _ _ _ _ h => h.1) (fun cdv A outer s H vs Q E hr h => ⟨tS K T.cm (fun cls d _ H' => E cls d H') e__law_power, ?_, h.2⟩)
    have nd := sc__law_power.nd
    exact (vss_cons (vs_set (i := 2) nd rfl (by first | exact Or.inl rfl | exact Or.inr rfl) vc_int)
    (vss_cons (vs_for (vs := [3]) (passes_of rfl) rfl (vi_range1 T.z_range (va_cons (vc_var 1) va_nil)) (vg_name (i := 3) nd rfl (by first | exact Or.inl rfl | exact Or.inr rfl)) (vss_one (vs_set (i := 2) nd rfl (by first | exact Or.inl rfl | exact Or.inr rfl) (vc_op op_mul4 o_mul (vc_var 2) (vc_var 0)))))
    (vss_one (vs_ret (vc_var 2)))))
abbrev s__law_due : Stmt := topS 14
abbrev N__law_due : List Str := ["size", "letters", "base", "number", "bar", "strings", "found", "step"]
theorem sc__law_due : FnScope N__law_due ["size", "letters"] (defScope s__law_due) := ⟨rfl, rfl, rfl, by decide +kernel, rfl, by decide +kernel, by decide +kernel⟩
theorem ok__law_due (T : TX K mg) : FnOk P w K mg base (L2.CX P w) 2 T.a__law_due T.d__law_due ["size", "letters"] (spV K T.cm 2 N__law_due e__law_due) := by
    refine T.F__law_due.okX (k := 1) sc__law_due (fun _ _ _ _ h => h.1) (fun cdv A outer s H vs Q E hr h => ⟨tS K T.cm (fun cls d _ H' => E cls d H') e__law_due, ?_, h.2⟩)
    have nd := sc__law_due.nd
    exact (vss_cons (vs_set (i := 2) nd rfl (by first | exact Or.inl rfl | exact Or.inr rfl) vc_int)
    (vss_cons (vs_for (vs := [3]) (passes_of rfl) rfl (vi_range2 T.z_range (va_cons vc_int (va_cons (vc_op op_add4 o_add (vc_var 1) vc_int) va_nil))) (vg_name (i := 3) nd rfl (by first | exact Or.inl rfl | exact Or.inr rfl)) (vss_one (vs_set (i := 2) nd rfl (by first | exact Or.inl rfl | exact Or.inr rfl) (vc_op op_mul4 o_mul (vc_var 2) (vc_var 3)))))
    (vss_cons (vs_set (i := 4) nd rfl (by first | exact Or.inl rfl | exact Or.inr rfl) (vc_call (N := N__law_power) none (ok__law_power T) (hr.mono (by omega)) (takes_of rfl rfl rfl rfl) T.g__law_power T.k__law_power T.b__law_power (va_cons (vc_fr vc_int) (va_cons (vc_fr vc_int) va_nil))))
    (vss_cons (vs_set (i := 5) nd rfl (by first | exact Or.inl rfl | exact Or.inr rfl) (vc_call (N := N__law_power) none (ok__law_power T) (hr.mono (by omega)) (takes_of rfl rfl rfl rfl) T.g__law_power T.k__law_power T.b__law_power (va_cons (vc_fr (vc_var 1)) (va_cons (vc_fr (vc_var 0)) va_nil))))
    (vss_cons (vs_set (i := 6) nd rfl (by first | exact Or.inl rfl | exact Or.inr rfl) vc_int)
    (vss_cons (vs_for (vs := [7]) (passes_of rfl) rfl (vi_range1 T.z_range (va_cons (vc_call (N := N__law_power) none (ok__law_power T) (hr.mono (by omega)) (takes_of rfl rfl rfl rfl) T.g__law_power T.k__law_power T.b__law_power (va_cons (vc_fr (vc_var 1)) (va_cons (vc_fr (vc_op op_sub o_sub (vc_var 0) vc_int)) va_nil))) va_nil)) (vg_name (i := 7) nd rfl (by first | exact Or.inl rfl | exact Or.inr rfl)) (vss_cons (vs_set (i := 6) nd rfl (by first | exact Or.inl rfl | exact Or.inr rfl) (vc_op op_mul4 o_mul (vc_var 6) (vc_var 2)))
    (vss_one (vs_if (vt_cmp op_ge4 (OpB.op2 o_ord) (by first | exact nomark _ | rfl) (vc_var 6) (vc_op op_mul4 o_mul (vc_var 4) (vc_var 5))) (vss_one (vs_ret vc_non)) vss_nil))))
    (vss_one (vs_ret (vc_op op_fdiv4 o_fdiv (vc_var 6) (vc_var 5))))))))))
abbrev s__law_found : Stmt := topS 15
abbrev N__law_found : List Str := ["size", "letters", "rows", "step", "longer", "row", "parts", "end", "at", "letter"]
theorem sc__law_found : FnScope N__law_found ["size", "letters"] (defScope s__law_found) := ⟨rfl, rfl, rfl, by decide +kernel, rfl, by decide +kernel, by decide +kernel⟩
theorem ok__law_found (T : TX K mg) : FnOk P w K mg base (L2.CX P w) 2 T.a__law_found T.d__law_found ["size", "letters"] (spV K T.cm 2 N__law_found e__law_found) := by
    refine T.F__law_found.okX (k := 1) sc__law_found (fun _ _ _ _ h => h.1) (fun cdv A outer s H vs Q E hr h => ⟨tS K T.cm (fun cls d _ H' => E cls d H') e__law_found, ?_, h.2⟩)
    have nd := sc__law_found.nd
    have hu64 := hu_le (n := 64) hr (by decide)
    have hu65 := hu_le (n := 65) hr (by decide)
    exact (vss_cons (vs_set (i := 2) nd rfl (by first | exact Or.inl rfl | exact Or.inr rfl) (vc_lst (va_cons (vc_fz (vc_op op_mul4 o_mul vc_str (vc_var 0))) va_nil)))
    (vss_cons (vs_for (vs := [3]) (passes_of rfl) rfl (vi_range1 T.z_range (va_cons (vc_op op_sub o_sub (vc_call (N := N__law_power) none (ok__law_power T) (hr.mono (by omega)) (takes_of rfl rfl rfl rfl) T.g__law_power T.k__law_power T.b__law_power (va_cons (vc_fr (vc_var 1)) (va_cons (vc_fr (vc_var 0)) va_nil))) vc_int) va_nil)) (vg_name (i := 3) nd rfl (by first | exact Or.inl rfl | exact Or.inr rfl)) (vss_cons (vs_set (i := 4) nd rfl (by first | exact Or.inl rfl | exact Or.inr rfl) (vc_lst va_nil))
    (vss_cons (vs_for (vs := [5]) (passes_of rfl) rfl (vi_seq (vc_var 2)) (vg_name (i := 5) nd rfl (by first | exact Or.inl rfl | exact Or.inr rfl)) (vss_cons (vs_set (i := 6) nd rfl (by first | exact Or.inl rfl | exact Or.inr rfl) (vc_lc [("at", 8)] rfl nd (vi_range1 T.z_range (va_cons (vc_op op_add4 o_add (vc_op op_sub o_sub (vc_callB cr_len4 o_len T.z_len rfl (va_cons (vc_var 5) va_nil)) (vc_var 0)) vc_int) va_nil)) (blkOk_by (own := [("at", 8)]) (N := N__law_found) (sc := defScope s__law_found) (by decide +kernel)) (fun _ _ _ _ _ => (vg_name (i := 8) nd rfl (by first | exact Or.inl rfl | exact Or.inr rfl))) (fun _ _ _ _ _ => vts_nil) (fun _ _ _ _ _ => (vc_slice (vc_var 5) (vo_some (vc_var 8)) (vo_some (vc_op op_add4 o_add (vc_var 8) (vc_var 0)))))))
    (vss_cons (vs_set (i := 7) nd rfl (by first | exact Or.inl rfl | exact Or.inr rfl) (vc_slice (vc_var 5) (vo_some (vc_op op_add4 o_add (vc_op op_sub o_sub (vc_callB cr_len4 o_len T.z_len rfl (va_cons (vc_var 5) va_nil)) (vc_var 0)) vc_int)) vo_none))
    (vss_one (vs_set (i := 4) nd rfl (by first | exact Or.inl rfl | exact Or.inr rfl) (vc_op op_add4 o_add (vc_var 4) (vc_lc [("letter", 9)] rfl nd (vi_seq (vc_slice vc_str vo_none (vo_some (vc_var 1)))) (blkOk_by (own := [("letter", 9)]) (N := N__law_found) (sc := defScope s__law_found) (by decide +kernel)) (fun _ _ _ _ _ => (vg_name (i := 9) nd rfl (by first | exact Or.inl rfl | exact Or.inr rfl))) (fun _ _ _ _ _ => (vts_one (vt_cmp (op_notIn4 hu65) (OpB.op2 o_notIn) (by first | exact nomark _ | rfl) (vc_op op_add4 o_add (vc_var 7) (vc_var 9)) (vc_var 6)))) (fun _ _ _ _ _ => (vc_op op_add4 o_add (vc_var 5) (vc_var 9))))))))))
    (vss_one (vs_set (i := 2) nd rfl (by first | exact Or.inl rfl | exact Or.inr rfl) (vc_var 4))))))
    (vss_one (vs_ret (vc_callB cr_len4 o_len T.z_len rfl (va_cons (vc_lc [("row", 5)] rfl nd (vi_seq (vc_var 2)) (blkOk_by (own := [("row", 5)]) (N := N__law_found) (sc := defScope s__law_found) (by decide +kernel)) (fun _ _ _ _ _ => (vg_name (i := 5) nd rfl (by first | exact Or.inl rfl | exact Or.inr rfl))) (fun _ _ _ _ _ => (vts_one (vt_cmp (op_eq4 hu64) (OpB.op2 o_eq) (by first | exact nomark _ | rfl) (vc_slice (vc_var 5) (vo_some (vc_op op_add4 o_add (vc_op op_sub o_sub (vc_callB cr_len4 o_len T.z_len rfl (va_cons (vc_var 5) va_nil)) (vc_var 0)) vc_int)) vo_none) (vc_slice (vc_var 5) vo_none (vo_some (vc_op op_sub o_sub (vc_var 0) vc_int)))))) (fun _ _ _ _ _ => (vc_var 5))) va_nil))))))
abbrev s_law : Stmt := topS 16
abbrev N_law : List Str := ["script", "feed", "step", "letters", "below", "number", "size"]
theorem sc_law : FnScope N_law ["script"] (defScope s_law) := ⟨rfl, rfl, rfl, by decide +kernel, rfl, by decide +kernel, by decide +kernel⟩
theorem ok_law (T : TX K mg) : FnOk P w K mg base (L2.CX P w) 10 T.a_law T.d_law ["script"] (spV K T.cm 1 N_law e_law) := by
    refine T.F_law.okX (k := 9) sc_law (fun _ _ _ _ h => h.1) (fun cdv A outer s H vs Q E hr h => ⟨tS K T.cm (fun cls d _ H' => E cls d H') e_law, ?_, h.2⟩)
    have nd := sc_law.nd
    have hu64 := hu_le (n := 64) hr (by decide)
    exact (vss_cons (vs_set (i := 1) nd rfl (by first | exact Or.inl rfl | exact Or.inr rfl) (vc_call (N := N__law_feed) none (ok__law_feed T) (hr.mono (by omega)) (takes_of rfl rfl rfl rfl) T.g__law_feed T.k__law_feed T.b__law_feed (va_cons (vc_fr (vc_var 0)) va_nil)))
    (vss_cons (vs_for (vs := [2]) (passes_of rfl) rfl (vi_range1 T.z_range (va_cons vc_int va_nil)) (vg_name (i := 2) nd rfl (by first | exact Or.inl rfl | exact Or.inr rfl)) (vss_cons (vs_par (i := 6) (j := 3) rfl nd rfl rfl (by decide) rfl rfl (vc_op op_add4 o_add vc_int (vc_call (N := N__law_draw) (some 0) (ok__law_draw T) (hr.mono (by omega)) (takes_of rfl rfl rfl rfl) T.g__law_draw T.k__law_draw T.b__law_draw (va_cons (vc_var 1) (va_cons (vc_fr vc_int) va_nil)))) (vc_op op_add4 o_add vc_int (vc_call (N := N__law_draw) (some 0) (ok__law_draw T) (hr.mono (by omega)) (takes_of rfl rfl rfl rfl) T.g__law_draw T.k__law_draw T.b__law_draw (va_cons (vc_var 1) (va_cons (vc_fr vc_int) va_nil)))))
    (vss_cons (vs_if (vt_cmp (op_eq4 hu64) (OpB.op2 o_eq) (by first | exact nomark _ | rfl) (vc_var 2) vc_int) (vss_one (vs_asgT (vs := [6, 3]) (vc_ix (vc_lst (va_cons (vc_fz (vc_tup (va_cons (vc_fz vc_int) (va_cons (vc_fz vc_int) va_nil)))) (va_cons (vc_fz (vc_tup (va_cons (vc_fz vc_int) (va_cons (vc_fz vc_int) va_nil)))) (va_cons (vc_fz (vc_tup (va_cons (vc_fz vc_int) (va_cons (vc_fz vc_int) va_nil)))) (va_cons (vc_fz (vc_tup (va_cons (vc_fz vc_int) (va_cons (vc_fz vc_int) va_nil)))) (va_cons (vc_fz (vc_tup (va_cons (vc_fz vc_int) (va_cons (vc_fz vc_int) va_nil)))) (va_cons (vc_fz (vc_tup (va_cons (vc_fz vc_int) (va_cons (vc_fz vc_int) va_nil)))) (va_cons (vc_fz (vc_tup (va_cons (vc_fz vc_int) (va_cons (vc_fz vc_int) va_nil)))) va_nil)))))))) (vc_call (N := N__law_draw) (some 0) (ok__law_draw T) (hr.mono (by omega)) (takes_of rfl rfl rfl rfl) T.g__law_draw T.k__law_draw T.b__law_draw (va_cons (vc_var 1) (va_cons (vc_fr vc_int) va_nil)))) (vg_tup rfl (vgs_cons (vg_name (i := 6) nd rfl (by first | exact Or.inl rfl | exact Or.inr rfl)) (vgs_cons (vg_name (i := 3) nd rfl (by first | exact Or.inl rfl | exact Or.inr rfl)) vgs_nil))))) vss_nil)
    (vss_one (vs_if (vt_not (vt_truth (vc_call (N := N__law_same) none (ok__law_same T 8) (hr.mono (by omega)) (takes_of rfl rfl rfl rfl) T.g__law_same T.k__law_same T.b__law_same (va_cons (vc_fr (vc_call (N := N__law_told) none (ok__law_told T) (hr.mono (by omega)) (takes_of rfl rfl rfl rfl) T.g__law_told T.k__law_told T.b__law_told (va_cons (vc_fr (vc_var 6)) (va_cons (vc_fr (vc_var 3)) va_nil)))) (va_cons (vc_fr (vc_call (N := N__law_due) none (ok__law_due T) (hr.mono (by omega)) (takes_of rfl rfl rfl rfl) T.g__law_due T.k__law_due T.b__law_due (va_cons (vc_fr (vc_var 6)) (va_cons (vc_fr (vc_var 3)) va_nil)))) va_nil))))) (vss_one (vs_ret vc_bl)) vss_nil)))))
    (vss_cons (vs_asgT (vs := [6, 3]) (vc_ix (vc_lst (va_cons (vc_fz (vc_tup (va_cons (vc_fz vc_int) (va_cons (vc_fz vc_int) va_nil)))) (va_cons (vc_fz (vc_tup (va_cons (vc_fz vc_int) (va_cons (vc_fz vc_int) va_nil)))) (va_cons (vc_fz (vc_tup (va_cons (vc_fz vc_int) (va_cons (vc_fz vc_int) va_nil)))) (va_cons (vc_fz (vc_tup (va_cons (vc_fz vc_int) (va_cons (vc_fz vc_int) va_nil)))) (va_cons (vc_fz (vc_tup (va_cons (vc_fz vc_int) (va_cons (vc_fz vc_int) va_nil)))) (va_cons (vc_fz (vc_tup (va_cons (vc_fz vc_int) (va_cons (vc_fz vc_int) va_nil)))) (va_cons (vc_fz (vc_tup (va_cons (vc_fz vc_int) (va_cons (vc_fz vc_int) va_nil)))) (va_cons (vc_fz (vc_tup (va_cons (vc_fz vc_int) (va_cons (vc_fz vc_int) va_nil)))) va_nil))))))))) (vc_call (N := N__law_draw) (some 0) (ok__law_draw T) (hr.mono (by omega)) (takes_of rfl rfl rfl rfl) T.g__law_draw T.k__law_draw T.b__law_draw (va_cons (vc_var 1) (va_cons (vc_fr vc_int) va_nil)))) (vg_tup rfl (vgs_cons (vg_name (i := 6) nd rfl (by first | exact Or.inl rfl | exact Or.inr rfl)) (vgs_cons (vg_name (i := 3) nd rfl (by first | exact Or.inl rfl | exact Or.inr rfl)) vgs_nil))))
    (vss_cons (vs_if (vt_not (vt_truth (vc_call (N := N__law_same) none (ok__law_same T 8) (hr.mono (by omega)) (takes_of rfl rfl rfl rfl) T.g__law_same T.k__law_same T.b__law_same (va_cons (vc_fr (vc_call (N := N__law_told) none (ok__law_told T) (hr.mono (by omega)) (takes_of rfl rfl rfl rfl) T.g__law_told T.k__law_told T.b__law_told (va_cons (vc_fr (vc_var 6)) (va_cons (vc_fr (vc_var 3)) va_nil)))) (va_cons (vc_fr (vc_call (N := N__law_found) none (ok__law_found T) (hr.mono (by omega)) (takes_of rfl rfl rfl rfl) T.g__law_found T.k__law_found T.b__law_found (va_cons (vc_fr (vc_var 6)) (va_cons (vc_fr (vc_var 3)) va_nil)))) va_nil))))) (vss_one (vs_ret vc_bl)) vss_nil)
    (vss_cons (vs_set (i := 3) nd rfl (by first | exact Or.inl rfl | exact Or.inr rfl) (vc_op op_add4 o_add vc_int (vc_call (N := N__law_draw) (some 0) (ok__law_draw T) (hr.mono (by omega)) (takes_of rfl rfl rfl rfl) T.g__law_draw T.k__law_draw T.b__law_draw (va_cons (vc_var 1) (va_cons (vc_fr vc_int) va_nil)))))
    (vss_cons (vs_set (i := 4) nd rfl (by first | exact Or.inl rfl | exact Or.inr rfl) vc_int)
    (vss_cons (vs_for (vs := [5]) (passes_of rfl) rfl (vi_range2 T.z_range (va_cons vc_int (va_cons (vc_var 3) va_nil))) (vg_name (i := 5) nd rfl (by first | exact Or.inl rfl | exact Or.inr rfl)) (vss_one (vs_set (i := 4) nd rfl (by first | exact Or.inl rfl | exact Or.inr rfl) (vc_op op_mul4 o_mul (vc_var 4) (vc_var 5)))))
    (vss_one (vs_ret (vc_call (N := N__law_same) none (ok__law_same T 8) (hr.mono (by omega)) (takes_of rfl rfl rfl rfl) T.g__law_same T.k__law_same T.b__law_same (va_cons (vc_fr (vc_lst (va_cons (vc_fz (vc_call (N := N__law_told) none (ok__law_told T) (hr.mono (by omega)) (takes_of rfl rfl rfl rfl) T.g__law_told T.k__law_told T.b__law_told (va_cons (vc_fr vc_int) (va_cons (vc_fr (vc_var 3)) va_nil)))) (va_cons (vc_fz (vc_call (N := N__law_told) none (ok__law_told T) (hr.mono (by omega)) (takes_of rfl rfl rfl rfl) T.g__law_told T.k__law_told T.b__law_told (va_cons (vc_fr (vc_op op_add4 o_add vc_int (vc_call (N := N__law_draw) (some 0) (ok__law_draw T) (hr.mono (by omega)) (takes_of rfl rfl rfl rfl) T.g__law_draw T.k__law_draw T.b__law_draw (va_cons (vc_var 1) (va_cons (vc_fr vc_int) va_nil))))) (va_cons (vc_fr vc_int) va_nil)))) va_nil)))) (va_cons (vc_fr (vc_lst (va_cons (vc_fz (vc_var 4)) (va_cons (vc_fz vc_int) va_nil)))) va_nil))))))))))))
end
end LW

namespace LW
open PySem PySem.Spec PyProof.Rows L2 L2.VE
/-! ### drawing -/
def fdD (cs : List Int) (at_ : Nat) (big seed : Int) : D := .lst [.lst (cs.map .int), .int at_, .int big, .int seed]
def FdOk (F : D) : Prop := ∃ cs at_ big seed, F = fdD cs at_ big seed ∧ 0 ≤ big ∧ 0 ≤ seed ∧ seed < 2147483647
theorem get_ints {cs : List Int} {i : Nat} (h : i < cs.length) : (cs.map D.int)[i]? = some (.int cs[i]) := by
  rw [List.getElem?_map, List.getElem?_eq_getElem h]; rfl
theorem at_ints {cs : List Int} {i : Nat} (h : i < cs.length) : atI (cs.map D.int) (i : Int) = some (.int cs[i]) := atI_nat (get_ints h)
theorem draw_b (F : D) (hF : FdOk F) (m : Int) (hm : 0 < m) (hl : m.natAbs.log2 < 9000) : ∃ r F', FdOk F' ∧ 0 ≤ r ∧ r < m ∧ ∃ δ', e__law_draw [.io F, .d (.int m), .un, .un, .un] = .rt (.d (.int r)) δ' ∧ δ'[0]? = some (.io F') := by
  obtain ⟨cs, at_, big, seed, rfl, hb, hs, hs2⟩ := hF
  have i0 : ixN 4 0 = some 0 := rfl
  have i1 : ixN 4 1 = some 1 := rfl
  have i2 : ixN 4 2 = some 2 := rfl
  have i3 : ixN 4 3 = some 3 := rfl
  have p18 : gPow (.int 10) (.int 18) = some (.d (.int 1000000000000000000)) := by rw [gPow_p ⟨by decide, by decide, by decide⟩]; rfl
  -- the second half, where nothing great is left
  have small : ∀ (s0 : Int) (at' : Nat), 0 ≤ s0 → s0 < 2147483647 → ∃ r s2, 0 ≤ s2 ∧ s2 < 2147483647 ∧ 0 ≤ r ∧ r < m ∧ r = ((s2 * s2 + s2) % 2147483629) / 11 % m ∧ s2 = (s0 * 16807 + 12345) % 2147483647 ∧ gMul (.int s2) (.int s2) = some (.d (.int (s2 * s2))) := fun s0 at' h1 h2 => by
    refine ⟨_, (s0 * 16807 + 12345) % 2147483647, Int.emod_nonneg _ (by decide), Int.emod_lt_of_pos _ (by decide), Int.emod_nonneg _ (by omega), Int.emod_lt_of_pos _ hm, rfl, rfl, gMul_l ⟨?_, ?_⟩⟩
    · have := Int.emod_nonneg (s0 * 16807 + 12345) (show (2147483647 : Int) ≠ 0 by decide); omega
    · have := Int.emod_lt_of_pos (s0 * 16807 + 12345) (show (0 : Int) < 2147483647 by decide); omega
  have m1 : ∀ s : Int, gMul (.int s) (.int 48271) = some (.d (.int (s * 48271))) := fun s => gMul_r ⟨by decide, by decide⟩
  have m2 : ∀ s : Int, gMul (.int s) (.int 69621) = some (.d (.int (s * 69621))) := fun s => gMul_r ⟨by decide, by decide⟩
  have m3 : ∀ s : Int, gMul (.int s) (.int 16807) = some (.d (.int (s * 16807))) := fun s => gMul_r ⟨by decide, by decide⟩
  have q1 : ∀ s : Int, gMod (.int s) (.int 2147483647) = some (.d (.int (s % 2147483647))) := fun s => gMod_p (by decide)
  have q2 : ∀ s : Int, gMod (.int s) (.int 2147483629) = some (.d (.int (s % 2147483629))) := fun s => gMod_p (by decide)
  have q3 : ∀ s : Int, gMod (.int s) (.int m) = some (.d (.int (s % m))) := fun s => gMod_p hm
  have d1 : ∀ s : Int, gFdiv (.int s) (.int 11) = some (.d (.int (s / 11))) := fun s => gFdiv_p (by decide) (by decide)
  have d2 : ∀ s : Int, gFdiv (.int s) (.int m) = some (.d (.int (s / m))) := fun s => gFdiv_p hm hl
  have z0 : ((0 : Int) == 0) = true := rfl
  have g0 : decide ((0 : Int) < 0) = false := rfl
  by_cases h1 : big = 0
  · subst h1
    by_cases h2 : at_ < cs.length
    · have h2' : (at_ : Int) < (cs.length : Int) := by omega
      by_cases h3 : (1000000000000000000 : Int) ≤ (if cs[at_] < 0 then -cs[at_] else cs[at_])
      · generalize hc : (if cs[at_] < 0 then -cs[at_] else cs[at_]) = c at h3
        have h4 : (0 : Int) < c := by omega
        refine' ⟨c % m, fdD cs (at_ + 1) (c / m) seed, ⟨cs, at_ + 1, c / m, seed, rfl, Int.ediv_nonneg (by omega) (by omega), hs, hs2⟩, Int.emod_nonneg _ (by omega), Int.emod_lt_of_pos _ hm, _, ?e, ?g⟩
        case e =>
          simp only [L2.VE.kAsgT, L2.VE.c_asg, L2.VE.asgO.eq_1, L2.VE.asgO.eq_2, L2.VE.c_tsC, L2.VE.tsO.eq_1, L2.VE.tsO.eq_2, L2.VE.c_ts0, L2.VE.gTp.eq_1, eq_self, L2.VE.kPar, L2.VE.parF1, L2.VE.parF2, L2.VE.parF3, L2.VE.c_par1, L2.VE.c_par2, L2.VE.kTry, L2.VE.tryK.eq_1, L2.VE.tryK.eq_2, L2.VE.tryK.eq_3, L2.VE.tryK.eq_4, L2.VE.tryK.eq_5, L2.VE.tryK.eq_6, L2.VE.tryX.eq_1, L2.VE.tryX.eq_2, L2.VE.tryX.eq_3, L2.VE.c_unX, L2.VE.aftR.eq_1, L2.VE.aftN.eq_1, L2.VE.aftB.eq_1, L2.VE.aftC.eq_1, L2.VE.c_aftR, L2.VE.c_aftN, L2.VE.c_aftB, L2.VE.c_aftC, L2.VE.c_nox0, L2.VE.c_nox1, L2.VE.isXc.eq_1, L2.VE.isXc.eq_2, L2.VE.kRaise, L2.VE.raiseE, L2.VE.fXat, L2.VE.xatO, L2.VE.fIsX, Bool.and_true, Bool.and_false, Bool.true_and, Bool.false_and, Bool.not_true, Bool.not_false, L2.VE.kV, L2.VE.k2, L2.VE.kOp2, L2.VE.k1, L2.VE.kOp1, L2.VE.kLb, L2.VE.kTru, L2.VE.kTNot, L2.VE.kTAnd, L2.VE.kTOr, L2.VE.kNotV, L2.VE.notF, L2.VE.kAndV, L2.VE.kOrV, L2.VE.andF, L2.VE.orF, L2.VE.kIfE, L2.VE.kSl, L2.VE.slK0, L2.VE.kPS, L2.VE.kCons, L2.VE.consK, L2.VE.kL, L2.VE.kDs, L2.VE.kSet, L2.VE.setF, L2.VE.kSeq, L2.VE.kDrop, L2.VE.kRet, L2.VE.kIf, L2.VE.kM, L2.VE.kMut, L2.VE.kMv, L2.VE.kMet, L2.VE.metF, L2.VE.kPutE, L2.VE.kPut, L2.VE.kAugE, L2.VE.augF1, L2.VE.kAugS, L2.VE.kFor, L2.VE.kLc, L2.VE.kItS, L2.VE.kItL, L2.VE.kItF, L2.VE.fRetN, L2.VE.fNext, L2.VE.fBreak, L2.VE.fCont, L2.VE.fIt, L2.VE.fRg1, L2.VE.fRg2, L2.VE.fK, L2.VE.fTst, L2.VE.fTru, L2.VE.fNil, L2.VE.fCallB, L2.VE.fPN, L2.VE.fFz, L2.VE.fFr, L2.VE.fLst, L2.VE.fTup, L2.VE.fIsi, L2.VE.fLr1, L2.VE.fYes, L2.VE.gNm, L2.VE.chkT, L2.VE.fCall, L2.VE.evDs.eq_1, L2.VE.c_optE1, L2.VE.c_lbo, L2.VE.c_optB, L2.VE.c_truO, L2.VE.c_unE1, L2.VE.c_unE2, L2.VE.c_unE3, L2.VE.c_fz1, L2.VE.c_fz2, L2.VE.c_fz3, L2.VE.c_fr1, L2.VE.c_fr2, L2.VE.c_fr3, L2.VE.c_set1, L2.VE.c_set2, L2.VE.c_tst, L2.VE.c_readS1, L2.VE.c_readS2, L2.VE.c_readS3, L2.VE.c_readS4, L2.VE.c_readS5, L2.VE.c_evD1, L2.VE.c_evD2, L2.VE.c_evD3, L2.VE.c_owD, L2.VE.c_chgS, L2.VE.c_mkLst, L2.VE.c_mkTup, L2.VE.c_allD0, L2.VE.c_allD1, L2.VE.c_rg1, L2.VE.c_rg2, L2.VE.c_lr1, L2.VE.c_lcE, L2.VE.c_lcU, L2.VE.c_isi, L2.VE.c_finT, L2.VE.c_unlkD, L2.VE.c_unlk, L2.VE.wipeD, L2.VE.restD, L2.VE.gLen, L2.VE.lenD, L2.VE.gInt, L2.VE.gAbs, L2.VE.gIx, L2.VE.gAdd, L2.VE.gSub, L2.VE.gNeg, L2.VE.gAddI, L2.VE.gSubI, L2.VE.gApp, L2.VE.gSl, L2.VE.gSet, L2.VE.gGet, L2.VE.gIsN, L2.VE.gNotN, L2.VE.isNonD, L2.VE.seqD, L2.VE.gList, L2.VE.lsD, List.getElem?_cons_zero, List.getElem?_cons_succ, List.set_cons_zero, List.set_cons_succ, List.length_cons, List.length_nil, Nat.zero_add, Nat.reduceAdd, L2.VE.op2l.eq_1, L2.VE.op2l.eq_2, L2.VE.op2l.eq_3, L2.VE.op2k.eq_1, L2.VE.op2k.eq_2, L2.VE.op2k.eq_3, L2.VE.fin2o.eq_1, L2.VE.fin2o.eq_2, L2.VE.fin1o.eq_1, L2.VE.fin1o.eq_2, L2.VE.notB.eq_1, L2.VE.notB.eq_2, L2.VE.notB.eq_3, L2.VE.andB.eq_1, L2.VE.andB.eq_2, L2.VE.andB.eq_3, L2.VE.andB.eq_4, L2.VE.orB.eq_1, L2.VE.orB.eq_2, L2.VE.orB.eq_3, L2.VE.orB.eq_4, L2.VE.notE.eq_1, L2.VE.notE.eq_2, L2.VE.andE.eq_1, L2.VE.andE.eq_2, L2.VE.andE.eq_3, L2.VE.orE.eq_1, L2.VE.orE.eq_2, L2.VE.orE.eq_3, L2.VE.ifE.eq_1, L2.VE.ifE.eq_2, L2.VE.ifE.eq_3, L2.VE.ifE.eq_4, L2.VE.slK2.eq_1, L2.VE.slK2.eq_2, L2.VE.slK2.eq_3, L2.VE.slK1.eq_1, L2.VE.slK1.eq_2, L2.VE.slK1.eq_3, L2.VE.psK.eq_1, L2.VE.psK.eq_2, L2.VE.psK.eq_3, L2.VE.consA.eq_1, L2.VE.consA.eq_2, L2.VE.consA.eq_3, L2.VE.finLo.eq_1, L2.VE.finLo.eq_2, L2.VE.evDo.eq_1, L2.VE.evDo.eq_2, L2.VE.setK.eq_1, L2.VE.setK.eq_2, L2.VE.setK.eq_3, L2.VE.seqK.eq_1, L2.VE.seqK.eq_2, L2.VE.seqK.eq_3, L2.VE.seqK.eq_4, L2.VE.seqK.eq_5, L2.VE.seqK.eq_6, L2.VE.dropK.eq_1, L2.VE.dropK.eq_2, L2.VE.dropK.eq_3, L2.VE.retK.eq_1, L2.VE.retK.eq_2, L2.VE.retK.eq_3, L2.VE.ifK.eq_1, L2.VE.ifK.eq_2, L2.VE.ifK.eq_3, L2.VE.ifK.eq_4, L2.VE.mutK.eq_1, L2.VE.mutK.eq_2, L2.VE.mutS.eq_1, L2.VE.mutS.eq_2, L2.VE.metO.eq_1, L2.VE.metO.eq_2, L2.VE.metK.eq_1, L2.VE.metK.eq_2, L2.VE.putO.eq_1, L2.VE.putO.eq_2, L2.VE.putK3.eq_1, L2.VE.putK3.eq_2, L2.VE.putK2.eq_1, L2.VE.putK2.eq_2, L2.VE.putK1.eq_1, L2.VE.putK1.eq_2, L2.VE.putK1.eq_3, L2.VE.augK.eq_1, L2.VE.augK.eq_2, L2.VE.augF3.eq_1, L2.VE.augF3.eq_2, L2.VE.augF2.eq_1, L2.VE.augF2.eq_2, L2.VE.augF0.eq_1, L2.VE.augF0.eq_2, L2.VE.forK.eq_1, L2.VE.forK.eq_2, L2.VE.forK.eq_3, L2.VE.forK.eq_4, L2.VE.forK2.eq_1, L2.VE.forK2.eq_2, L2.VE.forK2.eq_3, L2.VE.forK2.eq_4, L2.VE.lcK.eq_1, L2.VE.lcK.eq_2, L2.VE.lcK.eq_3, L2.VE.lcK.eq_4, L2.VE.lcK2.eq_1, L2.VE.lcK2.eq_2, L2.VE.lcK2.eq_3, L2.VE.lcK2.eq_4, L2.VE.itO.eq_1, L2.VE.itO.eq_2, L2.VE.itO.eq_3, L2.VE.itO.eq_4, L2.VE.itO.eq_5, L2.VE.fzO.eq_1, L2.VE.fzO.eq_2, L2.VE.fzO.eq_3, L2.VE.owO.eq_1, L2.VE.owO.eq_2, L2.VE.owO.eq_3, L2.VE.chgO.eq_1, L2.VE.chgO.eq_2, L2.VE.chgO.eq_3, L2.VE.lstO.eq_1, L2.VE.lstO.eq_2, L2.VE.tupO.eq_1, L2.VE.tupO.eq_2, L2.VE.allO.eq_1, L2.VE.allO.eq_2, L2.VE.lcUo.eq_1, L2.VE.lcUo.eq_2, L2.VE.isiO.eq_1, L2.VE.isiO.eq_2, L2.VE.finTo.eq_1, L2.VE.finTo.eq_2, L2.VE.unlkO.eq_1, L2.VE.unlkO.eq_2, L2.VE.unlkN.eq_1, L2.VE.unlkN.eq_2, L2.VE.ER.bind.eq_1, L2.VE.ER.bind.eq_2, L2.VE.ER.bind.eq_3, L2.VE.ER.bindB.eq_1, L2.VE.ER.bindB.eq_2, L2.VE.ER.bindB.eq_3, L2.VE.ER.bindA.eq_1, L2.VE.ER.bindA.eq_2, L2.VE.ER.bindA.eq_3, L2.VE.ER.bindS.eq_1, L2.VE.ER.bindS.eq_2, L2.VE.ER.bindS.eq_3, L2.VE.BR.bind.eq_1, L2.VE.BR.bind.eq_2, L2.VE.BR.bind.eq_3, L2.VE.BR.bindE.eq_1, L2.VE.BR.bindE.eq_2, L2.VE.BR.bindE.eq_3, L2.VE.BR.bindS.eq_1, L2.VE.BR.bindS.eq_2, L2.VE.BR.bindS.eq_3, L2.VE.AR.bind.eq_1, L2.VE.AR.bind.eq_2, L2.VE.AR.bind.eq_3, L2.VE.AR.bindE.eq_1, L2.VE.AR.bindE.eq_2, L2.VE.AR.bindE.eq_3, L2.VE.AR.bindS.eq_1, L2.VE.AR.bindS.eq_2, L2.VE.AR.bindS.eq_3, L2.VE.ER.bindI.eq_1, L2.VE.ER.bindI.eq_2, L2.VE.ER.bindI.eq_3, L2.VE.AR.bindI.eq_1, L2.VE.AR.bindI.eq_2, L2.VE.AR.bindI.eq_3, L2.VE.slotD.eq_1, L2.VE.slotD.eq_2, L2.VE.slotD.eq_3, L2.VE.slotD.eq_4, L2.VE.slotD.eq_5, L2.VE.slotD.eq_6, reduceIte, e__law_draw, fdD, atI, i0, i1, i2, i3, Option.bind_some, gEq_i, gLt_i, gGe_i, gGt_i, ix_nat h2, List.length_map, get_ints h2, h2', decide_true, z0, p18, hc, h3, h4, q3, d2]
          rfl
        case g => rfl
      · generalize hc : (if cs[at_] < 0 then -cs[at_] else cs[at_]) = c at h3
        obtain ⟨r, s2, e1, e2, e3, e4, e5, e6, e7⟩ := small ((seed * 48271 + c * 69621 + ((at_ : Int) + 1)) % 2147483647) (at_ + 1) (Int.emod_nonneg _ (by decide)) (Int.emod_lt_of_pos _ (by decide))
        refine' ⟨r, fdD cs (at_ + 1) 0 s2, ⟨cs, at_ + 1, 0, s2, rfl, by omega, e1, e2⟩, e3, e4, _, ?e, ?g⟩
        case e =>
          simp only [L2.VE.kAsgT, L2.VE.c_asg, L2.VE.asgO.eq_1, L2.VE.asgO.eq_2, L2.VE.c_tsC, L2.VE.tsO.eq_1, L2.VE.tsO.eq_2, L2.VE.c_ts0, L2.VE.gTp.eq_1, eq_self, L2.VE.kPar, L2.VE.parF1, L2.VE.parF2, L2.VE.parF3, L2.VE.c_par1, L2.VE.c_par2, L2.VE.kTry, L2.VE.tryK.eq_1, L2.VE.tryK.eq_2, L2.VE.tryK.eq_3, L2.VE.tryK.eq_4, L2.VE.tryK.eq_5, L2.VE.tryK.eq_6, L2.VE.tryX.eq_1, L2.VE.tryX.eq_2, L2.VE.tryX.eq_3, L2.VE.c_unX, L2.VE.aftR.eq_1, L2.VE.aftN.eq_1, L2.VE.aftB.eq_1, L2.VE.aftC.eq_1, L2.VE.c_aftR, L2.VE.c_aftN, L2.VE.c_aftB, L2.VE.c_aftC, L2.VE.c_nox0, L2.VE.c_nox1, L2.VE.isXc.eq_1, L2.VE.isXc.eq_2, L2.VE.kRaise, L2.VE.raiseE, L2.VE.fXat, L2.VE.xatO, L2.VE.fIsX, Bool.and_true, Bool.and_false, Bool.true_and, Bool.false_and, Bool.not_true, Bool.not_false, L2.VE.kV, L2.VE.k2, L2.VE.kOp2, L2.VE.k1, L2.VE.kOp1, L2.VE.kLb, L2.VE.kTru, L2.VE.kTNot, L2.VE.kTAnd, L2.VE.kTOr, L2.VE.kNotV, L2.VE.notF, L2.VE.kAndV, L2.VE.kOrV, L2.VE.andF, L2.VE.orF, L2.VE.kIfE, L2.VE.kSl, L2.VE.slK0, L2.VE.kPS, L2.VE.kCons, L2.VE.consK, L2.VE.kL, L2.VE.kDs, L2.VE.kSet, L2.VE.setF, L2.VE.kSeq, L2.VE.kDrop, L2.VE.kRet, L2.VE.kIf, L2.VE.kM, L2.VE.kMut, L2.VE.kMv, L2.VE.kMet, L2.VE.metF, L2.VE.kPutE, L2.VE.kPut, L2.VE.kAugE, L2.VE.augF1, L2.VE.kAugS, L2.VE.kFor, L2.VE.kLc, L2.VE.kItS, L2.VE.kItL, L2.VE.kItF, L2.VE.fRetN, L2.VE.fNext, L2.VE.fBreak, L2.VE.fCont, L2.VE.fIt, L2.VE.fRg1, L2.VE.fRg2, L2.VE.fK, L2.VE.fTst, L2.VE.fTru, L2.VE.fNil, L2.VE.fCallB, L2.VE.fPN, L2.VE.fFz, L2.VE.fFr, L2.VE.fLst, L2.VE.fTup, L2.VE.fIsi, L2.VE.fLr1, L2.VE.fYes, L2.VE.gNm, L2.VE.chkT, L2.VE.fCall, L2.VE.evDs.eq_1, L2.VE.c_optE1, L2.VE.c_lbo, L2.VE.c_optB, L2.VE.c_truO, L2.VE.c_unE1, L2.VE.c_unE2, L2.VE.c_unE3, L2.VE.c_fz1, L2.VE.c_fz2, L2.VE.c_fz3, L2.VE.c_fr1, L2.VE.c_fr2, L2.VE.c_fr3, L2.VE.c_set1, L2.VE.c_set2, L2.VE.c_tst, L2.VE.c_readS1, L2.VE.c_readS2, L2.VE.c_readS3, L2.VE.c_readS4, L2.VE.c_readS5, L2.VE.c_evD1, L2.VE.c_evD2, L2.VE.c_evD3, L2.VE.c_owD, L2.VE.c_chgS, L2.VE.c_mkLst, L2.VE.c_mkTup, L2.VE.c_allD0, L2.VE.c_allD1, L2.VE.c_rg1, L2.VE.c_rg2, L2.VE.c_lr1, L2.VE.c_lcE, L2.VE.c_lcU, L2.VE.c_isi, L2.VE.c_finT, L2.VE.c_unlkD, L2.VE.c_unlk, L2.VE.wipeD, L2.VE.restD, L2.VE.gLen, L2.VE.lenD, L2.VE.gInt, L2.VE.gAbs, L2.VE.gIx, L2.VE.gAdd, L2.VE.gSub, L2.VE.gNeg, L2.VE.gAddI, L2.VE.gSubI, L2.VE.gApp, L2.VE.gSl, L2.VE.gSet, L2.VE.gGet, L2.VE.gIsN, L2.VE.gNotN, L2.VE.isNonD, L2.VE.seqD, L2.VE.gList, L2.VE.lsD, List.getElem?_cons_zero, List.getElem?_cons_succ, List.set_cons_zero, List.set_cons_succ, List.length_cons, List.length_nil, Nat.zero_add, Nat.reduceAdd, L2.VE.op2l.eq_1, L2.VE.op2l.eq_2, L2.VE.op2l.eq_3, L2.VE.op2k.eq_1, L2.VE.op2k.eq_2, L2.VE.op2k.eq_3, L2.VE.fin2o.eq_1, L2.VE.fin2o.eq_2, L2.VE.fin1o.eq_1, L2.VE.fin1o.eq_2, L2.VE.notB.eq_1, L2.VE.notB.eq_2, L2.VE.notB.eq_3, L2.VE.andB.eq_1, L2.VE.andB.eq_2, L2.VE.andB.eq_3, L2.VE.andB.eq_4, L2.VE.orB.eq_1, L2.VE.orB.eq_2, L2.VE.orB.eq_3, L2.VE.orB.eq_4, L2.VE.notE.eq_1, L2.VE.notE.eq_2, L2.VE.andE.eq_1, L2.VE.andE.eq_2, L2.VE.andE.eq_3, L2.VE.orE.eq_1, L2.VE.orE.eq_2, L2.VE.orE.eq_3, L2.VE.ifE.eq_1, L2.VE.ifE.eq_2, L2.VE.ifE.eq_3, L2.VE.ifE.eq_4, L2.VE.slK2.eq_1, L2.VE.slK2.eq_2, L2.VE.slK2.eq_3, L2.VE.slK1.eq_1, L2.VE.slK1.eq_2, L2.VE.slK1.eq_3, L2.VE.psK.eq_1, L2.VE.psK.eq_2, L2.VE.psK.eq_3, L2.VE.consA.eq_1, L2.VE.consA.eq_2, L2.VE.consA.eq_3, L2.VE.finLo.eq_1, L2.VE.finLo.eq_2, L2.VE.evDo.eq_1, L2.VE.evDo.eq_2, L2.VE.setK.eq_1, L2.VE.setK.eq_2, L2.VE.setK.eq_3, L2.VE.seqK.eq_1, L2.VE.seqK.eq_2, L2.VE.seqK.eq_3, L2.VE.seqK.eq_4, L2.VE.seqK.eq_5, L2.VE.seqK.eq_6, L2.VE.dropK.eq_1, L2.VE.dropK.eq_2, L2.VE.dropK.eq_3, L2.VE.retK.eq_1, L2.VE.retK.eq_2, L2.VE.retK.eq_3, L2.VE.ifK.eq_1, L2.VE.ifK.eq_2, L2.VE.ifK.eq_3, L2.VE.ifK.eq_4, L2.VE.mutK.eq_1, L2.VE.mutK.eq_2, L2.VE.mutS.eq_1, L2.VE.mutS.eq_2, L2.VE.metO.eq_1, L2.VE.metO.eq_2, L2.VE.metK.eq_1, L2.VE.metK.eq_2, L2.VE.putO.eq_1, L2.VE.putO.eq_2, L2.VE.putK3.eq_1, L2.VE.putK3.eq_2, L2.VE.putK2.eq_1, L2.VE.putK2.eq_2, L2.VE.putK1.eq_1, L2.VE.putK1.eq_2, L2.VE.putK1.eq_3, L2.VE.augK.eq_1, L2.VE.augK.eq_2, L2.VE.augF3.eq_1, L2.VE.augF3.eq_2, L2.VE.augF2.eq_1, L2.VE.augF2.eq_2, L2.VE.augF0.eq_1, L2.VE.augF0.eq_2, L2.VE.forK.eq_1, L2.VE.forK.eq_2, L2.VE.forK.eq_3, L2.VE.forK.eq_4, L2.VE.forK2.eq_1, L2.VE.forK2.eq_2, L2.VE.forK2.eq_3, L2.VE.forK2.eq_4, L2.VE.lcK.eq_1, L2.VE.lcK.eq_2, L2.VE.lcK.eq_3, L2.VE.lcK.eq_4, L2.VE.lcK2.eq_1, L2.VE.lcK2.eq_2, L2.VE.lcK2.eq_3, L2.VE.lcK2.eq_4, L2.VE.itO.eq_1, L2.VE.itO.eq_2, L2.VE.itO.eq_3, L2.VE.itO.eq_4, L2.VE.itO.eq_5, L2.VE.fzO.eq_1, L2.VE.fzO.eq_2, L2.VE.fzO.eq_3, L2.VE.owO.eq_1, L2.VE.owO.eq_2, L2.VE.owO.eq_3, L2.VE.chgO.eq_1, L2.VE.chgO.eq_2, L2.VE.chgO.eq_3, L2.VE.lstO.eq_1, L2.VE.lstO.eq_2, L2.VE.tupO.eq_1, L2.VE.tupO.eq_2, L2.VE.allO.eq_1, L2.VE.allO.eq_2, L2.VE.lcUo.eq_1, L2.VE.lcUo.eq_2, L2.VE.isiO.eq_1, L2.VE.isiO.eq_2, L2.VE.finTo.eq_1, L2.VE.finTo.eq_2, L2.VE.unlkO.eq_1, L2.VE.unlkO.eq_2, L2.VE.unlkN.eq_1, L2.VE.unlkN.eq_2, L2.VE.ER.bind.eq_1, L2.VE.ER.bind.eq_2, L2.VE.ER.bind.eq_3, L2.VE.ER.bindB.eq_1, L2.VE.ER.bindB.eq_2, L2.VE.ER.bindB.eq_3, L2.VE.ER.bindA.eq_1, L2.VE.ER.bindA.eq_2, L2.VE.ER.bindA.eq_3, L2.VE.ER.bindS.eq_1, L2.VE.ER.bindS.eq_2, L2.VE.ER.bindS.eq_3, L2.VE.BR.bind.eq_1, L2.VE.BR.bind.eq_2, L2.VE.BR.bind.eq_3, L2.VE.BR.bindE.eq_1, L2.VE.BR.bindE.eq_2, L2.VE.BR.bindE.eq_3, L2.VE.BR.bindS.eq_1, L2.VE.BR.bindS.eq_2, L2.VE.BR.bindS.eq_3, L2.VE.AR.bind.eq_1, L2.VE.AR.bind.eq_2, L2.VE.AR.bind.eq_3, L2.VE.AR.bindE.eq_1, L2.VE.AR.bindE.eq_2, L2.VE.AR.bindE.eq_3, L2.VE.AR.bindS.eq_1, L2.VE.AR.bindS.eq_2, L2.VE.AR.bindS.eq_3, L2.VE.ER.bindI.eq_1, L2.VE.ER.bindI.eq_2, L2.VE.ER.bindI.eq_3, L2.VE.AR.bindI.eq_1, L2.VE.AR.bindI.eq_2, L2.VE.AR.bindI.eq_3, L2.VE.slotD.eq_1, L2.VE.slotD.eq_2, L2.VE.slotD.eq_3, L2.VE.slotD.eq_4, L2.VE.slotD.eq_5, L2.VE.slotD.eq_6, reduceIte, e__law_draw, fdD, atI, i0, i1, i2, i3, Option.bind_some, gEq_i, gLt_i, gGe_i, gGt_i, ix_nat h2, List.length_map, get_ints h2, h2', decide_true, z0, p18, hc, h3, decide_false, m1, m2, m3, q1, q2, q3, d1, g0, ← e6, e7, ← e5]
          rfl
        case g => rfl
    · have h2' : ¬ (at_ : Int) < (cs.length : Int) := by omega
      obtain ⟨r, s2, e1, e2, e3, e4, e5, e6, e7⟩ := small seed at_ hs hs2
      refine' ⟨r, fdD cs at_ 0 s2, ⟨cs, at_, 0, s2, rfl, by omega, e1, e2⟩, e3, e4, _, ?e, ?g⟩
      case e =>
        simp only [L2.VE.kAsgT, L2.VE.c_asg, L2.VE.asgO.eq_1, L2.VE.asgO.eq_2, L2.VE.c_tsC, L2.VE.tsO.eq_1, L2.VE.tsO.eq_2, L2.VE.c_ts0, L2.VE.gTp.eq_1, eq_self, L2.VE.kPar, L2.VE.parF1, L2.VE.parF2, L2.VE.parF3, L2.VE.c_par1, L2.VE.c_par2, L2.VE.kTry, L2.VE.tryK.eq_1, L2.VE.tryK.eq_2, L2.VE.tryK.eq_3, L2.VE.tryK.eq_4, L2.VE.tryK.eq_5, L2.VE.tryK.eq_6, L2.VE.tryX.eq_1, L2.VE.tryX.eq_2, L2.VE.tryX.eq_3, L2.VE.c_unX, L2.VE.aftR.eq_1, L2.VE.aftN.eq_1, L2.VE.aftB.eq_1, L2.VE.aftC.eq_1, L2.VE.c_aftR, L2.VE.c_aftN, L2.VE.c_aftB, L2.VE.c_aftC, L2.VE.c_nox0, L2.VE.c_nox1, L2.VE.isXc.eq_1, L2.VE.isXc.eq_2, L2.VE.kRaise, L2.VE.raiseE, L2.VE.fXat, L2.VE.xatO, L2.VE.fIsX, Bool.and_true, Bool.and_false, Bool.true_and, Bool.false_and, Bool.not_true, Bool.not_false, L2.VE.kV, L2.VE.k2, L2.VE.kOp2, L2.VE.k1, L2.VE.kOp1, L2.VE.kLb, L2.VE.kTru, L2.VE.kTNot, L2.VE.kTAnd, L2.VE.kTOr, L2.VE.kNotV, L2.VE.notF, L2.VE.kAndV, L2.VE.kOrV, L2.VE.andF, L2.VE.orF, L2.VE.kIfE, L2.VE.kSl, L2.VE.slK0, L2.VE.kPS, L2.VE.kCons, L2.VE.consK, L2.VE.kL, L2.VE.kDs, L2.VE.kSet, L2.VE.setF, L2.VE.kSeq, L2.VE.kDrop, L2.VE.kRet, L2.VE.kIf, L2.VE.kM, L2.VE.kMut, L2.VE.kMv, L2.VE.kMet, L2.VE.metF, L2.VE.kPutE, L2.VE.kPut, L2.VE.kAugE, L2.VE.augF1, L2.VE.kAugS, L2.VE.kFor, L2.VE.kLc, L2.VE.kItS, L2.VE.kItL, L2.VE.kItF, L2.VE.fRetN, L2.VE.fNext, L2.VE.fBreak, L2.VE.fCont, L2.VE.fIt, L2.VE.fRg1, L2.VE.fRg2, L2.VE.fK, L2.VE.fTst, L2.VE.fTru, L2.VE.fNil, L2.VE.fCallB, L2.VE.fPN, L2.VE.fFz, L2.VE.fFr, L2.VE.fLst, L2.VE.fTup, L2.VE.fIsi, L2.VE.fLr1, L2.VE.fYes, L2.VE.gNm, L2.VE.chkT, L2.VE.fCall, L2.VE.evDs.eq_1, L2.VE.c_optE1, L2.VE.c_lbo, L2.VE.c_optB, L2.VE.c_truO, L2.VE.c_unE1, L2.VE.c_unE2, L2.VE.c_unE3, L2.VE.c_fz1, L2.VE.c_fz2, L2.VE.c_fz3, L2.VE.c_fr1, L2.VE.c_fr2, L2.VE.c_fr3, L2.VE.c_set1, L2.VE.c_set2, L2.VE.c_tst, L2.VE.c_readS1, L2.VE.c_readS2, L2.VE.c_readS3, L2.VE.c_readS4, L2.VE.c_readS5, L2.VE.c_evD1, L2.VE.c_evD2, L2.VE.c_evD3, L2.VE.c_owD, L2.VE.c_chgS, L2.VE.c_mkLst, L2.VE.c_mkTup, L2.VE.c_allD0, L2.VE.c_allD1, L2.VE.c_rg1, L2.VE.c_rg2, L2.VE.c_lr1, L2.VE.c_lcE, L2.VE.c_lcU, L2.VE.c_isi, L2.VE.c_finT, L2.VE.c_unlkD, L2.VE.c_unlk, L2.VE.wipeD, L2.VE.restD, L2.VE.gLen, L2.VE.lenD, L2.VE.gInt, L2.VE.gAbs, L2.VE.gIx, L2.VE.gAdd, L2.VE.gSub, L2.VE.gNeg, L2.VE.gAddI, L2.VE.gSubI, L2.VE.gApp, L2.VE.gSl, L2.VE.gSet, L2.VE.gGet, L2.VE.gIsN, L2.VE.gNotN, L2.VE.isNonD, L2.VE.seqD, L2.VE.gList, L2.VE.lsD, List.getElem?_cons_zero, List.getElem?_cons_succ, List.set_cons_zero, List.set_cons_succ, List.length_cons, List.length_nil, Nat.zero_add, Nat.reduceAdd, L2.VE.op2l.eq_1, L2.VE.op2l.eq_2, L2.VE.op2l.eq_3, L2.VE.op2k.eq_1, L2.VE.op2k.eq_2, L2.VE.op2k.eq_3, L2.VE.fin2o.eq_1, L2.VE.fin2o.eq_2, L2.VE.fin1o.eq_1, L2.VE.fin1o.eq_2, L2.VE.notB.eq_1, L2.VE.notB.eq_2, L2.VE.notB.eq_3, L2.VE.andB.eq_1, L2.VE.andB.eq_2, L2.VE.andB.eq_3, L2.VE.andB.eq_4, L2.VE.orB.eq_1, L2.VE.orB.eq_2, L2.VE.orB.eq_3, L2.VE.orB.eq_4, L2.VE.notE.eq_1, L2.VE.notE.eq_2, L2.VE.andE.eq_1, L2.VE.andE.eq_2, L2.VE.andE.eq_3, L2.VE.orE.eq_1, L2.VE.orE.eq_2, L2.VE.orE.eq_3, L2.VE.ifE.eq_1, L2.VE.ifE.eq_2, L2.VE.ifE.eq_3, L2.VE.ifE.eq_4, L2.VE.slK2.eq_1, L2.VE.slK2.eq_2, L2.VE.slK2.eq_3, L2.VE.slK1.eq_1, L2.VE.slK1.eq_2, L2.VE.slK1.eq_3, L2.VE.psK.eq_1, L2.VE.psK.eq_2, L2.VE.psK.eq_3, L2.VE.consA.eq_1, L2.VE.consA.eq_2, L2.VE.consA.eq_3, L2.VE.finLo.eq_1, L2.VE.finLo.eq_2, L2.VE.evDo.eq_1, L2.VE.evDo.eq_2, L2.VE.setK.eq_1, L2.VE.setK.eq_2, L2.VE.setK.eq_3, L2.VE.seqK.eq_1, L2.VE.seqK.eq_2, L2.VE.seqK.eq_3, L2.VE.seqK.eq_4, L2.VE.seqK.eq_5, L2.VE.seqK.eq_6, L2.VE.dropK.eq_1, L2.VE.dropK.eq_2, L2.VE.dropK.eq_3, L2.VE.retK.eq_1, L2.VE.retK.eq_2, L2.VE.retK.eq_3, L2.VE.ifK.eq_1, L2.VE.ifK.eq_2, L2.VE.ifK.eq_3, L2.VE.ifK.eq_4, L2.VE.mutK.eq_1, L2.VE.mutK.eq_2, L2.VE.mutS.eq_1, L2.VE.mutS.eq_2, L2.VE.metO.eq_1, L2.VE.metO.eq_2, L2.VE.metK.eq_1, L2.VE.metK.eq_2, L2.VE.putO.eq_1, L2.VE.putO.eq_2, L2.VE.putK3.eq_1, L2.VE.putK3.eq_2, L2.VE.putK2.eq_1, L2.VE.putK2.eq_2, L2.VE.putK1.eq_1, L2.VE.putK1.eq_2, L2.VE.putK1.eq_3, L2.VE.augK.eq_1, L2.VE.augK.eq_2, L2.VE.augF3.eq_1, L2.VE.augF3.eq_2, L2.VE.augF2.eq_1, L2.VE.augF2.eq_2, L2.VE.augF0.eq_1, L2.VE.augF0.eq_2, L2.VE.forK.eq_1, L2.VE.forK.eq_2, L2.VE.forK.eq_3, L2.VE.forK.eq_4, L2.VE.forK2.eq_1, L2.VE.forK2.eq_2, L2.VE.forK2.eq_3, L2.VE.forK2.eq_4, L2.VE.lcK.eq_1, L2.VE.lcK.eq_2, L2.VE.lcK.eq_3, L2.VE.lcK.eq_4, L2.VE.lcK2.eq_1, L2.VE.lcK2.eq_2, L2.VE.lcK2.eq_3, L2.VE.lcK2.eq_4, L2.VE.itO.eq_1, L2.VE.itO.eq_2, L2.VE.itO.eq_3, L2.VE.itO.eq_4, L2.VE.itO.eq_5, L2.VE.fzO.eq_1, L2.VE.fzO.eq_2, L2.VE.fzO.eq_3, L2.VE.owO.eq_1, L2.VE.owO.eq_2, L2.VE.owO.eq_3, L2.VE.chgO.eq_1, L2.VE.chgO.eq_2, L2.VE.chgO.eq_3, L2.VE.lstO.eq_1, L2.VE.lstO.eq_2, L2.VE.tupO.eq_1, L2.VE.tupO.eq_2, L2.VE.allO.eq_1, L2.VE.allO.eq_2, L2.VE.lcUo.eq_1, L2.VE.lcUo.eq_2, L2.VE.isiO.eq_1, L2.VE.isiO.eq_2, L2.VE.finTo.eq_1, L2.VE.finTo.eq_2, L2.VE.unlkO.eq_1, L2.VE.unlkO.eq_2, L2.VE.unlkN.eq_1, L2.VE.unlkN.eq_2, L2.VE.ER.bind.eq_1, L2.VE.ER.bind.eq_2, L2.VE.ER.bind.eq_3, L2.VE.ER.bindB.eq_1, L2.VE.ER.bindB.eq_2, L2.VE.ER.bindB.eq_3, L2.VE.ER.bindA.eq_1, L2.VE.ER.bindA.eq_2, L2.VE.ER.bindA.eq_3, L2.VE.ER.bindS.eq_1, L2.VE.ER.bindS.eq_2, L2.VE.ER.bindS.eq_3, L2.VE.BR.bind.eq_1, L2.VE.BR.bind.eq_2, L2.VE.BR.bind.eq_3, L2.VE.BR.bindE.eq_1, L2.VE.BR.bindE.eq_2, L2.VE.BR.bindE.eq_3, L2.VE.BR.bindS.eq_1, L2.VE.BR.bindS.eq_2, L2.VE.BR.bindS.eq_3, L2.VE.AR.bind.eq_1, L2.VE.AR.bind.eq_2, L2.VE.AR.bind.eq_3, L2.VE.AR.bindE.eq_1, L2.VE.AR.bindE.eq_2, L2.VE.AR.bindE.eq_3, L2.VE.AR.bindS.eq_1, L2.VE.AR.bindS.eq_2, L2.VE.AR.bindS.eq_3, L2.VE.ER.bindI.eq_1, L2.VE.ER.bindI.eq_2, L2.VE.ER.bindI.eq_3, L2.VE.AR.bindI.eq_1, L2.VE.AR.bindI.eq_2, L2.VE.AR.bindI.eq_3, L2.VE.slotD.eq_1, L2.VE.slotD.eq_2, L2.VE.slotD.eq_3, L2.VE.slotD.eq_4, L2.VE.slotD.eq_5, L2.VE.slotD.eq_6, reduceIte, e__law_draw, fdD, atI, i0, i1, i2, i3, Option.bind_some, gEq_i, gLt_i, gGe_i, gGt_i, List.length_map, h2', decide_true, z0, decide_false, m1, m2, m3, q1, q2, q3, d1, g0, ← e6, e7, ← e5]
        rfl
      case g => rfl
  · have h1' : (big == 0) = false := by simpa using h1
    have h4 : (0 : Int) < big := by omega
    refine' ⟨big % m, fdD cs at_ (big / m) seed, ⟨cs, at_, big / m, seed, rfl, Int.ediv_nonneg (by omega) (by omega), hs, hs2⟩, Int.emod_nonneg _ (by omega), Int.emod_lt_of_pos _ hm, _, ?e, ?g⟩
    case e =>
      simp only [L2.VE.kAsgT, L2.VE.c_asg, L2.VE.asgO.eq_1, L2.VE.asgO.eq_2, L2.VE.c_tsC, L2.VE.tsO.eq_1, L2.VE.tsO.eq_2, L2.VE.c_ts0, L2.VE.gTp.eq_1, eq_self, L2.VE.kPar, L2.VE.parF1, L2.VE.parF2, L2.VE.parF3, L2.VE.c_par1, L2.VE.c_par2, L2.VE.kTry, L2.VE.tryK.eq_1, L2.VE.tryK.eq_2, L2.VE.tryK.eq_3, L2.VE.tryK.eq_4, L2.VE.tryK.eq_5, L2.VE.tryK.eq_6, L2.VE.tryX.eq_1, L2.VE.tryX.eq_2, L2.VE.tryX.eq_3, L2.VE.c_unX, L2.VE.aftR.eq_1, L2.VE.aftN.eq_1, L2.VE.aftB.eq_1, L2.VE.aftC.eq_1, L2.VE.c_aftR, L2.VE.c_aftN, L2.VE.c_aftB, L2.VE.c_aftC, L2.VE.c_nox0, L2.VE.c_nox1, L2.VE.isXc.eq_1, L2.VE.isXc.eq_2, L2.VE.kRaise, L2.VE.raiseE, L2.VE.fXat, L2.VE.xatO, L2.VE.fIsX, Bool.and_true, Bool.and_false, Bool.true_and, Bool.false_and, Bool.not_true, Bool.not_false, L2.VE.kV, L2.VE.k2, L2.VE.kOp2, L2.VE.k1, L2.VE.kOp1, L2.VE.kLb, L2.VE.kTru, L2.VE.kTNot, L2.VE.kTAnd, L2.VE.kTOr, L2.VE.kNotV, L2.VE.notF, L2.VE.kAndV, L2.VE.kOrV, L2.VE.andF, L2.VE.orF, L2.VE.kIfE, L2.VE.kSl, L2.VE.slK0, L2.VE.kPS, L2.VE.kCons, L2.VE.consK, L2.VE.kL, L2.VE.kDs, L2.VE.kSet, L2.VE.setF, L2.VE.kSeq, L2.VE.kDrop, L2.VE.kRet, L2.VE.kIf, L2.VE.kM, L2.VE.kMut, L2.VE.kMv, L2.VE.kMet, L2.VE.metF, L2.VE.kPutE, L2.VE.kPut, L2.VE.kAugE, L2.VE.augF1, L2.VE.kAugS, L2.VE.kFor, L2.VE.kLc, L2.VE.kItS, L2.VE.kItL, L2.VE.kItF, L2.VE.fRetN, L2.VE.fNext, L2.VE.fBreak, L2.VE.fCont, L2.VE.fIt, L2.VE.fRg1, L2.VE.fRg2, L2.VE.fK, L2.VE.fTst, L2.VE.fTru, L2.VE.fNil, L2.VE.fCallB, L2.VE.fPN, L2.VE.fFz, L2.VE.fFr, L2.VE.fLst, L2.VE.fTup, L2.VE.fIsi, L2.VE.fLr1, L2.VE.fYes, L2.VE.gNm, L2.VE.chkT, L2.VE.fCall, L2.VE.evDs.eq_1, L2.VE.c_optE1, L2.VE.c_lbo, L2.VE.c_optB, L2.VE.c_truO, L2.VE.c_unE1, L2.VE.c_unE2, L2.VE.c_unE3, L2.VE.c_fz1, L2.VE.c_fz2, L2.VE.c_fz3, L2.VE.c_fr1, L2.VE.c_fr2, L2.VE.c_fr3, L2.VE.c_set1, L2.VE.c_set2, L2.VE.c_tst, L2.VE.c_readS1, L2.VE.c_readS2, L2.VE.c_readS3, L2.VE.c_readS4, L2.VE.c_readS5, L2.VE.c_evD1, L2.VE.c_evD2, L2.VE.c_evD3, L2.VE.c_owD, L2.VE.c_chgS, L2.VE.c_mkLst, L2.VE.c_mkTup, L2.VE.c_allD0, L2.VE.c_allD1, L2.VE.c_rg1, L2.VE.c_rg2, L2.VE.c_lr1, L2.VE.c_lcE, L2.VE.c_lcU, L2.VE.c_isi, L2.VE.c_finT, L2.VE.c_unlkD, L2.VE.c_unlk, L2.VE.wipeD, L2.VE.restD, L2.VE.gLen, L2.VE.lenD, L2.VE.gInt, L2.VE.gAbs, L2.VE.gIx, L2.VE.gAdd, L2.VE.gSub, L2.VE.gNeg, L2.VE.gAddI, L2.VE.gSubI, L2.VE.gApp, L2.VE.gSl, L2.VE.gSet, L2.VE.gGet, L2.VE.gIsN, L2.VE.gNotN, L2.VE.isNonD, L2.VE.seqD, L2.VE.gList, L2.VE.lsD, List.getElem?_cons_zero, List.getElem?_cons_succ, List.set_cons_zero, List.set_cons_succ, List.length_cons, List.length_nil, Nat.zero_add, Nat.reduceAdd, L2.VE.op2l.eq_1, L2.VE.op2l.eq_2, L2.VE.op2l.eq_3, L2.VE.op2k.eq_1, L2.VE.op2k.eq_2, L2.VE.op2k.eq_3, L2.VE.fin2o.eq_1, L2.VE.fin2o.eq_2, L2.VE.fin1o.eq_1, L2.VE.fin1o.eq_2, L2.VE.notB.eq_1, L2.VE.notB.eq_2, L2.VE.notB.eq_3, L2.VE.andB.eq_1, L2.VE.andB.eq_2, L2.VE.andB.eq_3, L2.VE.andB.eq_4, L2.VE.orB.eq_1, L2.VE.orB.eq_2, L2.VE.orB.eq_3, L2.VE.orB.eq_4, L2.VE.notE.eq_1, L2.VE.notE.eq_2, L2.VE.andE.eq_1, L2.VE.andE.eq_2, L2.VE.andE.eq_3, L2.VE.orE.eq_1, L2.VE.orE.eq_2, L2.VE.orE.eq_3, L2.VE.ifE.eq_1, L2.VE.ifE.eq_2, L2.VE.ifE.eq_3, L2.VE.ifE.eq_4, L2.VE.slK2.eq_1, L2.VE.slK2.eq_2, L2.VE.slK2.eq_3, L2.VE.slK1.eq_1, L2.VE.slK1.eq_2, L2.VE.slK1.eq_3, L2.VE.psK.eq_1, L2.VE.psK.eq_2, L2.VE.psK.eq_3, L2.VE.consA.eq_1, L2.VE.consA.eq_2, L2.VE.consA.eq_3, L2.VE.finLo.eq_1, L2.VE.finLo.eq_2, L2.VE.evDo.eq_1, L2.VE.evDo.eq_2, L2.VE.setK.eq_1, L2.VE.setK.eq_2, L2.VE.setK.eq_3, L2.VE.seqK.eq_1, L2.VE.seqK.eq_2, L2.VE.seqK.eq_3, L2.VE.seqK.eq_4, L2.VE.seqK.eq_5, L2.VE.seqK.eq_6, L2.VE.dropK.eq_1, L2.VE.dropK.eq_2, L2.VE.dropK.eq_3, L2.VE.retK.eq_1, L2.VE.retK.eq_2, L2.VE.retK.eq_3, L2.VE.ifK.eq_1, L2.VE.ifK.eq_2, L2.VE.ifK.eq_3, L2.VE.ifK.eq_4, L2.VE.mutK.eq_1, L2.VE.mutK.eq_2, L2.VE.mutS.eq_1, L2.VE.mutS.eq_2, L2.VE.metO.eq_1, L2.VE.metO.eq_2, L2.VE.metK.eq_1, L2.VE.metK.eq_2, L2.VE.putO.eq_1, L2.VE.putO.eq_2, L2.VE.putK3.eq_1, L2.VE.putK3.eq_2, L2.VE.putK2.eq_1, L2.VE.putK2.eq_2, L2.VE.putK1.eq_1, L2.VE.putK1.eq_2, L2.VE.putK1.eq_3, L2.VE.augK.eq_1, L2.VE.augK.eq_2, L2.VE.augF3.eq_1, L2.VE.augF3.eq_2, L2.VE.augF2.eq_1, L2.VE.augF2.eq_2, L2.VE.augF0.eq_1, L2.VE.augF0.eq_2, L2.VE.forK.eq_1, L2.VE.forK.eq_2, L2.VE.forK.eq_3, L2.VE.forK.eq_4, L2.VE.forK2.eq_1, L2.VE.forK2.eq_2, L2.VE.forK2.eq_3, L2.VE.forK2.eq_4, L2.VE.lcK.eq_1, L2.VE.lcK.eq_2, L2.VE.lcK.eq_3, L2.VE.lcK.eq_4, L2.VE.lcK2.eq_1, L2.VE.lcK2.eq_2, L2.VE.lcK2.eq_3, L2.VE.lcK2.eq_4, L2.VE.itO.eq_1, L2.VE.itO.eq_2, L2.VE.itO.eq_3, L2.VE.itO.eq_4, L2.VE.itO.eq_5, L2.VE.fzO.eq_1, L2.VE.fzO.eq_2, L2.VE.fzO.eq_3, L2.VE.owO.eq_1, L2.VE.owO.eq_2, L2.VE.owO.eq_3, L2.VE.chgO.eq_1, L2.VE.chgO.eq_2, L2.VE.chgO.eq_3, L2.VE.lstO.eq_1, L2.VE.lstO.eq_2, L2.VE.tupO.eq_1, L2.VE.tupO.eq_2, L2.VE.allO.eq_1, L2.VE.allO.eq_2, L2.VE.lcUo.eq_1, L2.VE.lcUo.eq_2, L2.VE.isiO.eq_1, L2.VE.isiO.eq_2, L2.VE.finTo.eq_1, L2.VE.finTo.eq_2, L2.VE.unlkO.eq_1, L2.VE.unlkO.eq_2, L2.VE.unlkN.eq_1, L2.VE.unlkN.eq_2, L2.VE.ER.bind.eq_1, L2.VE.ER.bind.eq_2, L2.VE.ER.bind.eq_3, L2.VE.ER.bindB.eq_1, L2.VE.ER.bindB.eq_2, L2.VE.ER.bindB.eq_3, L2.VE.ER.bindA.eq_1, L2.VE.ER.bindA.eq_2, L2.VE.ER.bindA.eq_3, L2.VE.ER.bindS.eq_1, L2.VE.ER.bindS.eq_2, L2.VE.ER.bindS.eq_3, L2.VE.BR.bind.eq_1, L2.VE.BR.bind.eq_2, L2.VE.BR.bind.eq_3, L2.VE.BR.bindE.eq_1, L2.VE.BR.bindE.eq_2, L2.VE.BR.bindE.eq_3, L2.VE.BR.bindS.eq_1, L2.VE.BR.bindS.eq_2, L2.VE.BR.bindS.eq_3, L2.VE.AR.bind.eq_1, L2.VE.AR.bind.eq_2, L2.VE.AR.bind.eq_3, L2.VE.AR.bindE.eq_1, L2.VE.AR.bindE.eq_2, L2.VE.AR.bindE.eq_3, L2.VE.AR.bindS.eq_1, L2.VE.AR.bindS.eq_2, L2.VE.AR.bindS.eq_3, L2.VE.ER.bindI.eq_1, L2.VE.ER.bindI.eq_2, L2.VE.ER.bindI.eq_3, L2.VE.AR.bindI.eq_1, L2.VE.AR.bindI.eq_2, L2.VE.AR.bindI.eq_3, L2.VE.slotD.eq_1, L2.VE.slotD.eq_2, L2.VE.slotD.eq_3, L2.VE.slotD.eq_4, L2.VE.slotD.eq_5, L2.VE.slotD.eq_6, reduceIte, e__law_draw, fdD, atI, i0, i1, i2, i3, Option.bind_some, gEq_i, gLt_i, gGe_i, gGt_i, List.length_map, decide_true, h1', h4, q3, d2]
      rfl
    case g => rfl
theorem draw {F : D} (hF : FdOk F) {m : Int} (hm : 0 < m) (hl : m < 1000000000000) : ∃ r F', FdOk F' ∧ 0 ≤ r ∧ r < m ∧ (∀ s0 rest, finC 2 5 (some 0) e__law_draw [.sl 1, .d (.int m)] (s0 :: .ow F :: rest) = .ok (.d (.int r)) (s0 :: .ow F' :: rest)) ∧ (∀ rest, finC 2 5 (some 0) e__law_draw [.sl 0, .d (.int m)] (.io F :: rest) = .ok (.d (.int r)) (.io F' :: rest)) := by
  obtain ⟨r, F', h1, h2, h3, δ', h4, h5⟩ := draw_b F hF m hm (by
    have e : m = ((m.natAbs : Nat) : Int) := by omega
    have hlt : m.natAbs < 2 ^ 9000 := Nat.lt_of_lt_of_le (by omega : m.natAbs < 2 ^ 40) (Nat.pow_le_pow_right (by decide) (by decide))
    exact (Nat.log2_lt (by omega)).mpr hlt)
  have key : ∀ (i : Nat) (δ : Ev), owD i δ = some F → finC 2 5 (some 0) e__law_draw [.sl i, .d (.int m)] δ = .ok (.d (.int r)) (chgS i F' δ) := fun i δ ho => by
    simp only [finC, tIo, List.getElem?_cons_zero, ho, List.length_cons, List.length_nil, runC, argsS, argS, argIo, argRo, padS]
    show endC (some 0) (some i) δ (e__law_draw [.io F, .d (.int m), .un, .un, .un]) = _
    rw [h4]
    simp only [endC, postC, h5, retC]
  exact ⟨r, F', h1, h2, h3, fun s0 rest => key 1 _ rfl, fun rest => key 0 _ rfl⟩
end LW

namespace LW
open PySem PySem.Spec PyProof.Rows L2 L2.VE
/-! ### the same -/
def okS : Nat → D → Bool
  | 0, _ => false
  | n + 1, x => match x with
    | .non => true | .bl _ => true | .int _ => true | .str _ => true
    | .lst xs => decide (xs.length < 16777216) && xs.all (okS n)
    | _ => false
def IsA (x : D) (s : L2.VE.Slot) : Prop := s = .d x ∨ s = .ro x
theorem same_c {n : Nat} {x : D} (ih : ∀ s1 s2, IsA x s1 → IsA x s2 → ∃ δ', e__law_same n [s1, s2, .un] = .rt (.d (.bl true)) δ') {e1 e2 : EV} {δ : Ev} {s1 s2 : L2.VE.Slot} (h1 : argRo none δ e1 = some s1) (h2 : argRo none δ e2 = some s2) (i1 : IsA x s1) (i2 : IsA x s2) :
    finC 2 3 none (e__law_same n) [e1, e2] δ = .ok (.d (.bl true)) δ := by
  obtain ⟨δ', h⟩ := ih s1 s2 i1 i2
  refine call0 (ss := [s1, s2]) ?_ rfl h rfl
  simp only [argsS, argS, h1, h2]
  rfl
theorem same_b (n : Nat) : ∀ (x : D), okS n x = true → ∀ s1 s2, IsA x s1 → IsA x s2 → ∃ δ', e__law_same n [s1, s2, .un] = .rt (.d (.bl true)) δ' := by
  induction n with
  | zero => intro x h; simp [okS] at h
  | succ n same_b =>
    intro x h s1 s2 i1 i2
    have t1 : isiB "int" "tuple" = false := by decide
    have t2 : isiB "int" "list" = false := by decide
    have t3 : isiB "int" "bool" = false := by decide
    have t4 : isiB "int" "str" = false := by decide
    have t5 : isiB "int" "int" = true := by decide
    have l1 : isiB "list" "tuple" = false := by decide
    have l2 : isiB "list" "list" = true := by decide
    have b1 : isiB "bool" "tuple" = false := by decide
    have b2 : isiB "bool" "list" = false := by decide
    have b3 : isiB "bool" "bool" = true := by decide
    have n1 : isiB "NoneType" "tuple" = false := by decide
    have n2 : isiB "NoneType" "list" = false := by decide
    have u1 : isiB "str" "tuple" = false := by decide
    have u2 : isiB "str" "list" = false := by decide
    have u3 : isiB "str" "bool" = false := by decide
    have u4 : isiB "str" "str" = true := by decide
    cases x with
    | non =>
      rcases i1 with rfl | rfl <;> rcases i2 with rfl | rfl <;>
      · simp only [L2.VE.kAsgT, L2.VE.c_asg, L2.VE.asgO.eq_1, L2.VE.asgO.eq_2, L2.VE.c_tsC, L2.VE.tsO.eq_1, L2.VE.tsO.eq_2, L2.VE.c_ts0, L2.VE.gTp.eq_1, eq_self, L2.VE.kPar, L2.VE.parF1, L2.VE.parF2, L2.VE.parF3, L2.VE.c_par1, L2.VE.c_par2, L2.VE.kTry, L2.VE.tryK.eq_1, L2.VE.tryK.eq_2, L2.VE.tryK.eq_3, L2.VE.tryK.eq_4, L2.VE.tryK.eq_5, L2.VE.tryK.eq_6, L2.VE.tryX.eq_1, L2.VE.tryX.eq_2, L2.VE.tryX.eq_3, L2.VE.c_unX, L2.VE.aftR.eq_1, L2.VE.aftN.eq_1, L2.VE.aftB.eq_1, L2.VE.aftC.eq_1, L2.VE.c_aftR, L2.VE.c_aftN, L2.VE.c_aftB, L2.VE.c_aftC, L2.VE.c_nox0, L2.VE.c_nox1, L2.VE.isXc.eq_1, L2.VE.isXc.eq_2, L2.VE.kRaise, L2.VE.raiseE, L2.VE.fXat, L2.VE.xatO, L2.VE.fIsX, Bool.and_true, Bool.and_false, Bool.true_and, Bool.false_and, Bool.not_true, Bool.not_false, L2.VE.kV, L2.VE.k2, L2.VE.kOp2, L2.VE.k1, L2.VE.kOp1, L2.VE.kLb, L2.VE.kTru, L2.VE.kTNot, L2.VE.kTAnd, L2.VE.kTOr, L2.VE.kNotV, L2.VE.notF, L2.VE.kAndV, L2.VE.kOrV, L2.VE.andF, L2.VE.orF, L2.VE.kIfE, L2.VE.kSl, L2.VE.slK0, L2.VE.kPS, L2.VE.kCons, L2.VE.consK, L2.VE.kL, L2.VE.kDs, L2.VE.kSet, L2.VE.setF, L2.VE.kSeq, L2.VE.kDrop, L2.VE.kRet, L2.VE.kIf, L2.VE.kM, L2.VE.kMut, L2.VE.kMv, L2.VE.kMet, L2.VE.metF, L2.VE.kPutE, L2.VE.kPut, L2.VE.kAugE, L2.VE.augF1, L2.VE.kAugS, L2.VE.kFor, L2.VE.kLc, L2.VE.kItS, L2.VE.kItL, L2.VE.kItF, L2.VE.fRetN, L2.VE.fNext, L2.VE.fBreak, L2.VE.fCont, L2.VE.fIt, L2.VE.fRg1, L2.VE.fRg2, L2.VE.fK, L2.VE.fTst, L2.VE.fTru, L2.VE.fNil, L2.VE.fCallB, L2.VE.fPN, L2.VE.fFz, L2.VE.fFr, L2.VE.fLst, L2.VE.fTup, L2.VE.fIsi, L2.VE.fLr1, L2.VE.fYes, L2.VE.gNm, L2.VE.chkT, L2.VE.fCall, L2.VE.evDs.eq_1, L2.VE.c_optE1, L2.VE.c_lbo, L2.VE.c_optB, L2.VE.c_truO, L2.VE.c_unE1, L2.VE.c_unE2, L2.VE.c_unE3, L2.VE.c_fz1, L2.VE.c_fz2, L2.VE.c_fz3, L2.VE.c_fr1, L2.VE.c_fr2, L2.VE.c_fr3, L2.VE.c_set1, L2.VE.c_set2, L2.VE.c_tst, L2.VE.c_readS1, L2.VE.c_readS2, L2.VE.c_readS3, L2.VE.c_readS4, L2.VE.c_readS5, L2.VE.c_evD1, L2.VE.c_evD2, L2.VE.c_evD3, L2.VE.c_owD, L2.VE.c_chgS, L2.VE.c_mkLst, L2.VE.c_mkTup, L2.VE.c_allD0, L2.VE.c_allD1, L2.VE.c_rg1, L2.VE.c_rg2, L2.VE.c_lr1, L2.VE.c_lcE, L2.VE.c_lcU, L2.VE.c_isi, L2.VE.c_finT, L2.VE.c_unlkD, L2.VE.c_unlk, L2.VE.wipeD, L2.VE.restD, L2.VE.gLen, L2.VE.lenD, L2.VE.gInt, L2.VE.gAbs, L2.VE.gIx, L2.VE.gAdd, L2.VE.gSub, L2.VE.gNeg, L2.VE.gAddI, L2.VE.gSubI, L2.VE.gApp, L2.VE.gSl, L2.VE.gSet, L2.VE.gGet, L2.VE.gIsN, L2.VE.gNotN, L2.VE.isNonD, L2.VE.seqD, L2.VE.gList, L2.VE.lsD, List.getElem?_cons_zero, List.getElem?_cons_succ, List.set_cons_zero, List.set_cons_succ, List.length_cons, List.length_nil, Nat.zero_add, Nat.reduceAdd, L2.VE.op2l.eq_1, L2.VE.op2l.eq_2, L2.VE.op2l.eq_3, L2.VE.op2k.eq_1, L2.VE.op2k.eq_2, L2.VE.op2k.eq_3, L2.VE.fin2o.eq_1, L2.VE.fin2o.eq_2, L2.VE.fin1o.eq_1, L2.VE.fin1o.eq_2, L2.VE.notB.eq_1, L2.VE.notB.eq_2, L2.VE.notB.eq_3, L2.VE.andB.eq_1, L2.VE.andB.eq_2, L2.VE.andB.eq_3, L2.VE.andB.eq_4, L2.VE.orB.eq_1, L2.VE.orB.eq_2, L2.VE.orB.eq_3, L2.VE.orB.eq_4, L2.VE.notE.eq_1, L2.VE.notE.eq_2, L2.VE.andE.eq_1, L2.VE.andE.eq_2, L2.VE.andE.eq_3, L2.VE.orE.eq_1, L2.VE.orE.eq_2, L2.VE.orE.eq_3, L2.VE.ifE.eq_1, L2.VE.ifE.eq_2, L2.VE.ifE.eq_3, L2.VE.ifE.eq_4, L2.VE.slK2.eq_1, L2.VE.slK2.eq_2, L2.VE.slK2.eq_3, L2.VE.slK1.eq_1, L2.VE.slK1.eq_2, L2.VE.slK1.eq_3, L2.VE.psK.eq_1, L2.VE.psK.eq_2, L2.VE.psK.eq_3, L2.VE.consA.eq_1, L2.VE.consA.eq_2, L2.VE.consA.eq_3, L2.VE.finLo.eq_1, L2.VE.finLo.eq_2, L2.VE.evDo.eq_1, L2.VE.evDo.eq_2, L2.VE.setK.eq_1, L2.VE.setK.eq_2, L2.VE.setK.eq_3, L2.VE.seqK.eq_1, L2.VE.seqK.eq_2, L2.VE.seqK.eq_3, L2.VE.seqK.eq_4, L2.VE.seqK.eq_5, L2.VE.seqK.eq_6, L2.VE.dropK.eq_1, L2.VE.dropK.eq_2, L2.VE.dropK.eq_3, L2.VE.retK.eq_1, L2.VE.retK.eq_2, L2.VE.retK.eq_3, L2.VE.ifK.eq_1, L2.VE.ifK.eq_2, L2.VE.ifK.eq_3, L2.VE.ifK.eq_4, L2.VE.mutK.eq_1, L2.VE.mutK.eq_2, L2.VE.mutS.eq_1, L2.VE.mutS.eq_2, L2.VE.metO.eq_1, L2.VE.metO.eq_2, L2.VE.metK.eq_1, L2.VE.metK.eq_2, L2.VE.putO.eq_1, L2.VE.putO.eq_2, L2.VE.putK3.eq_1, L2.VE.putK3.eq_2, L2.VE.putK2.eq_1, L2.VE.putK2.eq_2, L2.VE.putK1.eq_1, L2.VE.putK1.eq_2, L2.VE.putK1.eq_3, L2.VE.augK.eq_1, L2.VE.augK.eq_2, L2.VE.augF3.eq_1, L2.VE.augF3.eq_2, L2.VE.augF2.eq_1, L2.VE.augF2.eq_2, L2.VE.augF0.eq_1, L2.VE.augF0.eq_2, L2.VE.forK.eq_1, L2.VE.forK.eq_2, L2.VE.forK.eq_3, L2.VE.forK.eq_4, L2.VE.forK2.eq_1, L2.VE.forK2.eq_2, L2.VE.forK2.eq_3, L2.VE.forK2.eq_4, L2.VE.lcK.eq_1, L2.VE.lcK.eq_2, L2.VE.lcK.eq_3, L2.VE.lcK.eq_4, L2.VE.lcK2.eq_1, L2.VE.lcK2.eq_2, L2.VE.lcK2.eq_3, L2.VE.lcK2.eq_4, L2.VE.itO.eq_1, L2.VE.itO.eq_2, L2.VE.itO.eq_3, L2.VE.itO.eq_4, L2.VE.itO.eq_5, L2.VE.fzO.eq_1, L2.VE.fzO.eq_2, L2.VE.fzO.eq_3, L2.VE.owO.eq_1, L2.VE.owO.eq_2, L2.VE.owO.eq_3, L2.VE.chgO.eq_1, L2.VE.chgO.eq_2, L2.VE.chgO.eq_3, L2.VE.lstO.eq_1, L2.VE.lstO.eq_2, L2.VE.tupO.eq_1, L2.VE.tupO.eq_2, L2.VE.allO.eq_1, L2.VE.allO.eq_2, L2.VE.lcUo.eq_1, L2.VE.lcUo.eq_2, L2.VE.isiO.eq_1, L2.VE.isiO.eq_2, L2.VE.finTo.eq_1, L2.VE.finTo.eq_2, L2.VE.unlkO.eq_1, L2.VE.unlkO.eq_2, L2.VE.unlkN.eq_1, L2.VE.unlkN.eq_2, L2.VE.ER.bind.eq_1, L2.VE.ER.bind.eq_2, L2.VE.ER.bind.eq_3, L2.VE.ER.bindB.eq_1, L2.VE.ER.bindB.eq_2, L2.VE.ER.bindB.eq_3, L2.VE.ER.bindA.eq_1, L2.VE.ER.bindA.eq_2, L2.VE.ER.bindA.eq_3, L2.VE.ER.bindS.eq_1, L2.VE.ER.bindS.eq_2, L2.VE.ER.bindS.eq_3, L2.VE.BR.bind.eq_1, L2.VE.BR.bind.eq_2, L2.VE.BR.bind.eq_3, L2.VE.BR.bindE.eq_1, L2.VE.BR.bindE.eq_2, L2.VE.BR.bindE.eq_3, L2.VE.BR.bindS.eq_1, L2.VE.BR.bindS.eq_2, L2.VE.BR.bindS.eq_3, L2.VE.AR.bind.eq_1, L2.VE.AR.bind.eq_2, L2.VE.AR.bind.eq_3, L2.VE.AR.bindE.eq_1, L2.VE.AR.bindE.eq_2, L2.VE.AR.bindE.eq_3, L2.VE.AR.bindS.eq_1, L2.VE.AR.bindS.eq_2, L2.VE.AR.bindS.eq_3, L2.VE.ER.bindI.eq_1, L2.VE.ER.bindI.eq_2, L2.VE.ER.bindI.eq_3, L2.VE.AR.bindI.eq_1, L2.VE.AR.bindI.eq_2, L2.VE.AR.bindI.eq_3, L2.VE.slotD.eq_1, L2.VE.slotD.eq_2, L2.VE.slotD.eq_3, L2.VE.slotD.eq_4, L2.VE.slotD.eq_5, L2.VE.slotD.eq_6, reduceIte, e__law_same, st__law_same, tyN, n1, n2, truD, decide_true]
        exact ⟨_, rfl⟩
    | bl b =>
      have e1 : gEq (.bl b) (.bl b) = some true := by cases b <;> rfl
      rcases i1 with rfl | rfl <;> rcases i2 with rfl | rfl <;>
      · simp only [L2.VE.kAsgT, L2.VE.c_asg, L2.VE.asgO.eq_1, L2.VE.asgO.eq_2, L2.VE.c_tsC, L2.VE.tsO.eq_1, L2.VE.tsO.eq_2, L2.VE.c_ts0, L2.VE.gTp.eq_1, eq_self, L2.VE.kPar, L2.VE.parF1, L2.VE.parF2, L2.VE.parF3, L2.VE.c_par1, L2.VE.c_par2, L2.VE.kTry, L2.VE.tryK.eq_1, L2.VE.tryK.eq_2, L2.VE.tryK.eq_3, L2.VE.tryK.eq_4, L2.VE.tryK.eq_5, L2.VE.tryK.eq_6, L2.VE.tryX.eq_1, L2.VE.tryX.eq_2, L2.VE.tryX.eq_3, L2.VE.c_unX, L2.VE.aftR.eq_1, L2.VE.aftN.eq_1, L2.VE.aftB.eq_1, L2.VE.aftC.eq_1, L2.VE.c_aftR, L2.VE.c_aftN, L2.VE.c_aftB, L2.VE.c_aftC, L2.VE.c_nox0, L2.VE.c_nox1, L2.VE.isXc.eq_1, L2.VE.isXc.eq_2, L2.VE.kRaise, L2.VE.raiseE, L2.VE.fXat, L2.VE.xatO, L2.VE.fIsX, Bool.and_true, Bool.and_false, Bool.true_and, Bool.false_and, Bool.not_true, Bool.not_false, L2.VE.kV, L2.VE.k2, L2.VE.kOp2, L2.VE.k1, L2.VE.kOp1, L2.VE.kLb, L2.VE.kTru, L2.VE.kTNot, L2.VE.kTAnd, L2.VE.kTOr, L2.VE.kNotV, L2.VE.notF, L2.VE.kAndV, L2.VE.kOrV, L2.VE.andF, L2.VE.orF, L2.VE.kIfE, L2.VE.kSl, L2.VE.slK0, L2.VE.kPS, L2.VE.kCons, L2.VE.consK, L2.VE.kL, L2.VE.kDs, L2.VE.kSet, L2.VE.setF, L2.VE.kSeq, L2.VE.kDrop, L2.VE.kRet, L2.VE.kIf, L2.VE.kM, L2.VE.kMut, L2.VE.kMv, L2.VE.kMet, L2.VE.metF, L2.VE.kPutE, L2.VE.kPut, L2.VE.kAugE, L2.VE.augF1, L2.VE.kAugS, L2.VE.kFor, L2.VE.kLc, L2.VE.kItS, L2.VE.kItL, L2.VE.kItF, L2.VE.fRetN, L2.VE.fNext, L2.VE.fBreak, L2.VE.fCont, L2.VE.fIt, L2.VE.fRg1, L2.VE.fRg2, L2.VE.fK, L2.VE.fTst, L2.VE.fTru, L2.VE.fNil, L2.VE.fCallB, L2.VE.fPN, L2.VE.fFz, L2.VE.fFr, L2.VE.fLst, L2.VE.fTup, L2.VE.fIsi, L2.VE.fLr1, L2.VE.fYes, L2.VE.gNm, L2.VE.chkT, L2.VE.fCall, L2.VE.evDs.eq_1, L2.VE.c_optE1, L2.VE.c_lbo, L2.VE.c_optB, L2.VE.c_truO, L2.VE.c_unE1, L2.VE.c_unE2, L2.VE.c_unE3, L2.VE.c_fz1, L2.VE.c_fz2, L2.VE.c_fz3, L2.VE.c_fr1, L2.VE.c_fr2, L2.VE.c_fr3, L2.VE.c_set1, L2.VE.c_set2, L2.VE.c_tst, L2.VE.c_readS1, L2.VE.c_readS2, L2.VE.c_readS3, L2.VE.c_readS4, L2.VE.c_readS5, L2.VE.c_evD1, L2.VE.c_evD2, L2.VE.c_evD3, L2.VE.c_owD, L2.VE.c_chgS, L2.VE.c_mkLst, L2.VE.c_mkTup, L2.VE.c_allD0, L2.VE.c_allD1, L2.VE.c_rg1, L2.VE.c_rg2, L2.VE.c_lr1, L2.VE.c_lcE, L2.VE.c_lcU, L2.VE.c_isi, L2.VE.c_finT, L2.VE.c_unlkD, L2.VE.c_unlk, L2.VE.wipeD, L2.VE.restD, L2.VE.gLen, L2.VE.lenD, L2.VE.gInt, L2.VE.gAbs, L2.VE.gIx, L2.VE.gAdd, L2.VE.gSub, L2.VE.gNeg, L2.VE.gAddI, L2.VE.gSubI, L2.VE.gApp, L2.VE.gSl, L2.VE.gSet, L2.VE.gGet, L2.VE.gIsN, L2.VE.gNotN, L2.VE.isNonD, L2.VE.seqD, L2.VE.gList, L2.VE.lsD, List.getElem?_cons_zero, List.getElem?_cons_succ, List.set_cons_zero, List.set_cons_succ, List.length_cons, List.length_nil, Nat.zero_add, Nat.reduceAdd, L2.VE.op2l.eq_1, L2.VE.op2l.eq_2, L2.VE.op2l.eq_3, L2.VE.op2k.eq_1, L2.VE.op2k.eq_2, L2.VE.op2k.eq_3, L2.VE.fin2o.eq_1, L2.VE.fin2o.eq_2, L2.VE.fin1o.eq_1, L2.VE.fin1o.eq_2, L2.VE.notB.eq_1, L2.VE.notB.eq_2, L2.VE.notB.eq_3, L2.VE.andB.eq_1, L2.VE.andB.eq_2, L2.VE.andB.eq_3, L2.VE.andB.eq_4, L2.VE.orB.eq_1, L2.VE.orB.eq_2, L2.VE.orB.eq_3, L2.VE.orB.eq_4, L2.VE.notE.eq_1, L2.VE.notE.eq_2, L2.VE.andE.eq_1, L2.VE.andE.eq_2, L2.VE.andE.eq_3, L2.VE.orE.eq_1, L2.VE.orE.eq_2, L2.VE.orE.eq_3, L2.VE.ifE.eq_1, L2.VE.ifE.eq_2, L2.VE.ifE.eq_3, L2.VE.ifE.eq_4, L2.VE.slK2.eq_1, L2.VE.slK2.eq_2, L2.VE.slK2.eq_3, L2.VE.slK1.eq_1, L2.VE.slK1.eq_2, L2.VE.slK1.eq_3, L2.VE.psK.eq_1, L2.VE.psK.eq_2, L2.VE.psK.eq_3, L2.VE.consA.eq_1, L2.VE.consA.eq_2, L2.VE.consA.eq_3, L2.VE.finLo.eq_1, L2.VE.finLo.eq_2, L2.VE.evDo.eq_1, L2.VE.evDo.eq_2, L2.VE.setK.eq_1, L2.VE.setK.eq_2, L2.VE.setK.eq_3, L2.VE.seqK.eq_1, L2.VE.seqK.eq_2, L2.VE.seqK.eq_3, L2.VE.seqK.eq_4, L2.VE.seqK.eq_5, L2.VE.seqK.eq_6, L2.VE.dropK.eq_1, L2.VE.dropK.eq_2, L2.VE.dropK.eq_3, L2.VE.retK.eq_1, L2.VE.retK.eq_2, L2.VE.retK.eq_3, L2.VE.ifK.eq_1, L2.VE.ifK.eq_2, L2.VE.ifK.eq_3, L2.VE.ifK.eq_4, L2.VE.mutK.eq_1, L2.VE.mutK.eq_2, L2.VE.mutS.eq_1, L2.VE.mutS.eq_2, L2.VE.metO.eq_1, L2.VE.metO.eq_2, L2.VE.metK.eq_1, L2.VE.metK.eq_2, L2.VE.putO.eq_1, L2.VE.putO.eq_2, L2.VE.putK3.eq_1, L2.VE.putK3.eq_2, L2.VE.putK2.eq_1, L2.VE.putK2.eq_2, L2.VE.putK1.eq_1, L2.VE.putK1.eq_2, L2.VE.putK1.eq_3, L2.VE.augK.eq_1, L2.VE.augK.eq_2, L2.VE.augF3.eq_1, L2.VE.augF3.eq_2, L2.VE.augF2.eq_1, L2.VE.augF2.eq_2, L2.VE.augF0.eq_1, L2.VE.augF0.eq_2, L2.VE.forK.eq_1, L2.VE.forK.eq_2, L2.VE.forK.eq_3, L2.VE.forK.eq_4, L2.VE.forK2.eq_1, L2.VE.forK2.eq_2, L2.VE.forK2.eq_3, L2.VE.forK2.eq_4, L2.VE.lcK.eq_1, L2.VE.lcK.eq_2, L2.VE.lcK.eq_3, L2.VE.lcK.eq_4, L2.VE.lcK2.eq_1, L2.VE.lcK2.eq_2, L2.VE.lcK2.eq_3, L2.VE.lcK2.eq_4, L2.VE.itO.eq_1, L2.VE.itO.eq_2, L2.VE.itO.eq_3, L2.VE.itO.eq_4, L2.VE.itO.eq_5, L2.VE.fzO.eq_1, L2.VE.fzO.eq_2, L2.VE.fzO.eq_3, L2.VE.owO.eq_1, L2.VE.owO.eq_2, L2.VE.owO.eq_3, L2.VE.chgO.eq_1, L2.VE.chgO.eq_2, L2.VE.chgO.eq_3, L2.VE.lstO.eq_1, L2.VE.lstO.eq_2, L2.VE.tupO.eq_1, L2.VE.tupO.eq_2, L2.VE.allO.eq_1, L2.VE.allO.eq_2, L2.VE.lcUo.eq_1, L2.VE.lcUo.eq_2, L2.VE.isiO.eq_1, L2.VE.isiO.eq_2, L2.VE.finTo.eq_1, L2.VE.finTo.eq_2, L2.VE.unlkO.eq_1, L2.VE.unlkO.eq_2, L2.VE.unlkN.eq_1, L2.VE.unlkN.eq_2, L2.VE.ER.bind.eq_1, L2.VE.ER.bind.eq_2, L2.VE.ER.bind.eq_3, L2.VE.ER.bindB.eq_1, L2.VE.ER.bindB.eq_2, L2.VE.ER.bindB.eq_3, L2.VE.ER.bindA.eq_1, L2.VE.ER.bindA.eq_2, L2.VE.ER.bindA.eq_3, L2.VE.ER.bindS.eq_1, L2.VE.ER.bindS.eq_2, L2.VE.ER.bindS.eq_3, L2.VE.BR.bind.eq_1, L2.VE.BR.bind.eq_2, L2.VE.BR.bind.eq_3, L2.VE.BR.bindE.eq_1, L2.VE.BR.bindE.eq_2, L2.VE.BR.bindE.eq_3, L2.VE.BR.bindS.eq_1, L2.VE.BR.bindS.eq_2, L2.VE.BR.bindS.eq_3, L2.VE.AR.bind.eq_1, L2.VE.AR.bind.eq_2, L2.VE.AR.bind.eq_3, L2.VE.AR.bindE.eq_1, L2.VE.AR.bindE.eq_2, L2.VE.AR.bindE.eq_3, L2.VE.AR.bindS.eq_1, L2.VE.AR.bindS.eq_2, L2.VE.AR.bindS.eq_3, L2.VE.ER.bindI.eq_1, L2.VE.ER.bindI.eq_2, L2.VE.ER.bindI.eq_3, L2.VE.AR.bindI.eq_1, L2.VE.AR.bindI.eq_2, L2.VE.AR.bindI.eq_3, L2.VE.slotD.eq_1, L2.VE.slotD.eq_2, L2.VE.slotD.eq_3, L2.VE.slotD.eq_4, L2.VE.slotD.eq_5, L2.VE.slotD.eq_6, reduceIte, e__law_same, st__law_same, tyN, b1, b2, b3, truD, decide_false, e1]
        exact ⟨_, rfl⟩
    | int b =>
      have e1 : gEq (.int b) (.int b) = some true := by rw [gEq_i]; simp
      rcases i1 with rfl | rfl <;> rcases i2 with rfl | rfl <;>
      · simp only [L2.VE.kAsgT, L2.VE.c_asg, L2.VE.asgO.eq_1, L2.VE.asgO.eq_2, L2.VE.c_tsC, L2.VE.tsO.eq_1, L2.VE.tsO.eq_2, L2.VE.c_ts0, L2.VE.gTp.eq_1, eq_self, L2.VE.kPar, L2.VE.parF1, L2.VE.parF2, L2.VE.parF3, L2.VE.c_par1, L2.VE.c_par2, L2.VE.kTry, L2.VE.tryK.eq_1, L2.VE.tryK.eq_2, L2.VE.tryK.eq_3, L2.VE.tryK.eq_4, L2.VE.tryK.eq_5, L2.VE.tryK.eq_6, L2.VE.tryX.eq_1, L2.VE.tryX.eq_2, L2.VE.tryX.eq_3, L2.VE.c_unX, L2.VE.aftR.eq_1, L2.VE.aftN.eq_1, L2.VE.aftB.eq_1, L2.VE.aftC.eq_1, L2.VE.c_aftR, L2.VE.c_aftN, L2.VE.c_aftB, L2.VE.c_aftC, L2.VE.c_nox0, L2.VE.c_nox1, L2.VE.isXc.eq_1, L2.VE.isXc.eq_2, L2.VE.kRaise, L2.VE.raiseE, L2.VE.fXat, L2.VE.xatO, L2.VE.fIsX, Bool.and_true, Bool.and_false, Bool.true_and, Bool.false_and, Bool.not_true, Bool.not_false, L2.VE.kV, L2.VE.k2, L2.VE.kOp2, L2.VE.k1, L2.VE.kOp1, L2.VE.kLb, L2.VE.kTru, L2.VE.kTNot, L2.VE.kTAnd, L2.VE.kTOr, L2.VE.kNotV, L2.VE.notF, L2.VE.kAndV, L2.VE.kOrV, L2.VE.andF, L2.VE.orF, L2.VE.kIfE, L2.VE.kSl, L2.VE.slK0, L2.VE.kPS, L2.VE.kCons, L2.VE.consK, L2.VE.kL, L2.VE.kDs, L2.VE.kSet, L2.VE.setF, L2.VE.kSeq, L2.VE.kDrop, L2.VE.kRet, L2.VE.kIf, L2.VE.kM, L2.VE.kMut, L2.VE.kMv, L2.VE.kMet, L2.VE.metF, L2.VE.kPutE, L2.VE.kPut, L2.VE.kAugE, L2.VE.augF1, L2.VE.kAugS, L2.VE.kFor, L2.VE.kLc, L2.VE.kItS, L2.VE.kItL, L2.VE.kItF, L2.VE.fRetN, L2.VE.fNext, L2.VE.fBreak, L2.VE.fCont, L2.VE.fIt, L2.VE.fRg1, L2.VE.fRg2, L2.VE.fK, L2.VE.fTst, L2.VE.fTru, L2.VE.fNil, L2.VE.fCallB, L2.VE.fPN, L2.VE.fFz, L2.VE.fFr, L2.VE.fLst, L2.VE.fTup, L2.VE.fIsi, L2.VE.fLr1, L2.VE.fYes, L2.VE.gNm, L2.VE.chkT, L2.VE.fCall, L2.VE.evDs.eq_1, L2.VE.c_optE1, L2.VE.c_lbo, L2.VE.c_optB, L2.VE.c_truO, L2.VE.c_unE1, L2.VE.c_unE2, L2.VE.c_unE3, L2.VE.c_fz1, L2.VE.c_fz2, L2.VE.c_fz3, L2.VE.c_fr1, L2.VE.c_fr2, L2.VE.c_fr3, L2.VE.c_set1, L2.VE.c_set2, L2.VE.c_tst, L2.VE.c_readS1, L2.VE.c_readS2, L2.VE.c_readS3, L2.VE.c_readS4, L2.VE.c_readS5, L2.VE.c_evD1, L2.VE.c_evD2, L2.VE.c_evD3, L2.VE.c_owD, L2.VE.c_chgS, L2.VE.c_mkLst, L2.VE.c_mkTup, L2.VE.c_allD0, L2.VE.c_allD1, L2.VE.c_rg1, L2.VE.c_rg2, L2.VE.c_lr1, L2.VE.c_lcE, L2.VE.c_lcU, L2.VE.c_isi, L2.VE.c_finT, L2.VE.c_unlkD, L2.VE.c_unlk, L2.VE.wipeD, L2.VE.restD, L2.VE.gLen, L2.VE.lenD, L2.VE.gInt, L2.VE.gAbs, L2.VE.gIx, L2.VE.gAdd, L2.VE.gSub, L2.VE.gNeg, L2.VE.gAddI, L2.VE.gSubI, L2.VE.gApp, L2.VE.gSl, L2.VE.gSet, L2.VE.gGet, L2.VE.gIsN, L2.VE.gNotN, L2.VE.isNonD, L2.VE.seqD, L2.VE.gList, L2.VE.lsD, List.getElem?_cons_zero, List.getElem?_cons_succ, List.set_cons_zero, List.set_cons_succ, List.length_cons, List.length_nil, Nat.zero_add, Nat.reduceAdd, L2.VE.op2l.eq_1, L2.VE.op2l.eq_2, L2.VE.op2l.eq_3, L2.VE.op2k.eq_1, L2.VE.op2k.eq_2, L2.VE.op2k.eq_3, L2.VE.fin2o.eq_1, L2.VE.fin2o.eq_2, L2.VE.fin1o.eq_1, L2.VE.fin1o.eq_2, L2.VE.notB.eq_1, L2.VE.notB.eq_2, L2.VE.notB.eq_3, L2.VE.andB.eq_1, L2.VE.andB.eq_2, L2.VE.andB.eq_3, L2.VE.andB.eq_4, L2.VE.orB.eq_1, L2.VE.orB.eq_2, L2.VE.orB.eq_3, L2.VE.orB.eq_4, L2.VE.notE.eq_1, L2.VE.notE.eq_2, L2.VE.andE.eq_1, L2.VE.andE.eq_2, L2.VE.andE.eq_3, L2.VE.orE.eq_1, L2.VE.orE.eq_2, L2.VE.orE.eq_3, L2.VE.ifE.eq_1, L2.VE.ifE.eq_2, L2.VE.ifE.eq_3, L2.VE.ifE.eq_4, L2.VE.slK2.eq_1, L2.VE.slK2.eq_2, L2.VE.slK2.eq_3, L2.VE.slK1.eq_1, L2.VE.slK1.eq_2, L2.VE.slK1.eq_3, L2.VE.psK.eq_1, L2.VE.psK.eq_2, L2.VE.psK.eq_3, L2.VE.consA.eq_1, L2.VE.consA.eq_2, L2.VE.consA.eq_3, L2.VE.finLo.eq_1, L2.VE.finLo.eq_2, L2.VE.evDo.eq_1, L2.VE.evDo.eq_2, L2.VE.setK.eq_1, L2.VE.setK.eq_2, L2.VE.setK.eq_3, L2.VE.seqK.eq_1, L2.VE.seqK.eq_2, L2.VE.seqK.eq_3, L2.VE.seqK.eq_4, L2.VE.seqK.eq_5, L2.VE.seqK.eq_6, L2.VE.dropK.eq_1, L2.VE.dropK.eq_2, L2.VE.dropK.eq_3, L2.VE.retK.eq_1, L2.VE.retK.eq_2, L2.VE.retK.eq_3, L2.VE.ifK.eq_1, L2.VE.ifK.eq_2, L2.VE.ifK.eq_3, L2.VE.ifK.eq_4, L2.VE.mutK.eq_1, L2.VE.mutK.eq_2, L2.VE.mutS.eq_1, L2.VE.mutS.eq_2, L2.VE.metO.eq_1, L2.VE.metO.eq_2, L2.VE.metK.eq_1, L2.VE.metK.eq_2, L2.VE.putO.eq_1, L2.VE.putO.eq_2, L2.VE.putK3.eq_1, L2.VE.putK3.eq_2, L2.VE.putK2.eq_1, L2.VE.putK2.eq_2, L2.VE.putK1.eq_1, L2.VE.putK1.eq_2, L2.VE.putK1.eq_3, L2.VE.augK.eq_1, L2.VE.augK.eq_2, L2.VE.augF3.eq_1, L2.VE.augF3.eq_2, L2.VE.augF2.eq_1, L2.VE.augF2.eq_2, L2.VE.augF0.eq_1, L2.VE.augF0.eq_2, L2.VE.forK.eq_1, L2.VE.forK.eq_2, L2.VE.forK.eq_3, L2.VE.forK.eq_4, L2.VE.forK2.eq_1, L2.VE.forK2.eq_2, L2.VE.forK2.eq_3, L2.VE.forK2.eq_4, L2.VE.lcK.eq_1, L2.VE.lcK.eq_2, L2.VE.lcK.eq_3, L2.VE.lcK.eq_4, L2.VE.lcK2.eq_1, L2.VE.lcK2.eq_2, L2.VE.lcK2.eq_3, L2.VE.lcK2.eq_4, L2.VE.itO.eq_1, L2.VE.itO.eq_2, L2.VE.itO.eq_3, L2.VE.itO.eq_4, L2.VE.itO.eq_5, L2.VE.fzO.eq_1, L2.VE.fzO.eq_2, L2.VE.fzO.eq_3, L2.VE.owO.eq_1, L2.VE.owO.eq_2, L2.VE.owO.eq_3, L2.VE.chgO.eq_1, L2.VE.chgO.eq_2, L2.VE.chgO.eq_3, L2.VE.lstO.eq_1, L2.VE.lstO.eq_2, L2.VE.tupO.eq_1, L2.VE.tupO.eq_2, L2.VE.allO.eq_1, L2.VE.allO.eq_2, L2.VE.lcUo.eq_1, L2.VE.lcUo.eq_2, L2.VE.isiO.eq_1, L2.VE.isiO.eq_2, L2.VE.finTo.eq_1, L2.VE.finTo.eq_2, L2.VE.unlkO.eq_1, L2.VE.unlkO.eq_2, L2.VE.unlkN.eq_1, L2.VE.unlkN.eq_2, L2.VE.ER.bind.eq_1, L2.VE.ER.bind.eq_2, L2.VE.ER.bind.eq_3, L2.VE.ER.bindB.eq_1, L2.VE.ER.bindB.eq_2, L2.VE.ER.bindB.eq_3, L2.VE.ER.bindA.eq_1, L2.VE.ER.bindA.eq_2, L2.VE.ER.bindA.eq_3, L2.VE.ER.bindS.eq_1, L2.VE.ER.bindS.eq_2, L2.VE.ER.bindS.eq_3, L2.VE.BR.bind.eq_1, L2.VE.BR.bind.eq_2, L2.VE.BR.bind.eq_3, L2.VE.BR.bindE.eq_1, L2.VE.BR.bindE.eq_2, L2.VE.BR.bindE.eq_3, L2.VE.BR.bindS.eq_1, L2.VE.BR.bindS.eq_2, L2.VE.BR.bindS.eq_3, L2.VE.AR.bind.eq_1, L2.VE.AR.bind.eq_2, L2.VE.AR.bind.eq_3, L2.VE.AR.bindE.eq_1, L2.VE.AR.bindE.eq_2, L2.VE.AR.bindE.eq_3, L2.VE.AR.bindS.eq_1, L2.VE.AR.bindS.eq_2, L2.VE.AR.bindS.eq_3, L2.VE.ER.bindI.eq_1, L2.VE.ER.bindI.eq_2, L2.VE.ER.bindI.eq_3, L2.VE.AR.bindI.eq_1, L2.VE.AR.bindI.eq_2, L2.VE.AR.bindI.eq_3, L2.VE.slotD.eq_1, L2.VE.slotD.eq_2, L2.VE.slotD.eq_3, L2.VE.slotD.eq_4, L2.VE.slotD.eq_5, L2.VE.slotD.eq_6, reduceIte, e__law_same, st__law_same, tyN, t1, t2, t3, t4, t5, truD, decide_false, e1, Bool.not_false]
        exact ⟨_, rfl⟩
    | str b =>
      have e1 : gEq (.str b) (.str b) = some true := by show some (b == b) = _; simp
      rcases i1 with rfl | rfl <;> rcases i2 with rfl | rfl <;>
      · simp only [L2.VE.kAsgT, L2.VE.c_asg, L2.VE.asgO.eq_1, L2.VE.asgO.eq_2, L2.VE.c_tsC, L2.VE.tsO.eq_1, L2.VE.tsO.eq_2, L2.VE.c_ts0, L2.VE.gTp.eq_1, eq_self, L2.VE.kPar, L2.VE.parF1, L2.VE.parF2, L2.VE.parF3, L2.VE.c_par1, L2.VE.c_par2, L2.VE.kTry, L2.VE.tryK.eq_1, L2.VE.tryK.eq_2, L2.VE.tryK.eq_3, L2.VE.tryK.eq_4, L2.VE.tryK.eq_5, L2.VE.tryK.eq_6, L2.VE.tryX.eq_1, L2.VE.tryX.eq_2, L2.VE.tryX.eq_3, L2.VE.c_unX, L2.VE.aftR.eq_1, L2.VE.aftN.eq_1, L2.VE.aftB.eq_1, L2.VE.aftC.eq_1, L2.VE.c_aftR, L2.VE.c_aftN, L2.VE.c_aftB, L2.VE.c_aftC, L2.VE.c_nox0, L2.VE.c_nox1, L2.VE.isXc.eq_1, L2.VE.isXc.eq_2, L2.VE.kRaise, L2.VE.raiseE, L2.VE.fXat, L2.VE.xatO, L2.VE.fIsX, Bool.and_true, Bool.and_false, Bool.true_and, Bool.false_and, Bool.not_true, Bool.not_false, L2.VE.kV, L2.VE.k2, L2.VE.kOp2, L2.VE.k1, L2.VE.kOp1, L2.VE.kLb, L2.VE.kTru, L2.VE.kTNot, L2.VE.kTAnd, L2.VE.kTOr, L2.VE.kNotV, L2.VE.notF, L2.VE.kAndV, L2.VE.kOrV, L2.VE.andF, L2.VE.orF, L2.VE.kIfE, L2.VE.kSl, L2.VE.slK0, L2.VE.kPS, L2.VE.kCons, L2.VE.consK, L2.VE.kL, L2.VE.kDs, L2.VE.kSet, L2.VE.setF, L2.VE.kSeq, L2.VE.kDrop, L2.VE.kRet, L2.VE.kIf, L2.VE.kM, L2.VE.kMut, L2.VE.kMv, L2.VE.kMet, L2.VE.metF, L2.VE.kPutE, L2.VE.kPut, L2.VE.kAugE, L2.VE.augF1, L2.VE.kAugS, L2.VE.kFor, L2.VE.kLc, L2.VE.kItS, L2.VE.kItL, L2.VE.kItF, L2.VE.fRetN, L2.VE.fNext, L2.VE.fBreak, L2.VE.fCont, L2.VE.fIt, L2.VE.fRg1, L2.VE.fRg2, L2.VE.fK, L2.VE.fTst, L2.VE.fTru, L2.VE.fNil, L2.VE.fCallB, L2.VE.fPN, L2.VE.fFz, L2.VE.fFr, L2.VE.fLst, L2.VE.fTup, L2.VE.fIsi, L2.VE.fLr1, L2.VE.fYes, L2.VE.gNm, L2.VE.chkT, L2.VE.fCall, L2.VE.evDs.eq_1, L2.VE.c_optE1, L2.VE.c_lbo, L2.VE.c_optB, L2.VE.c_truO, L2.VE.c_unE1, L2.VE.c_unE2, L2.VE.c_unE3, L2.VE.c_fz1, L2.VE.c_fz2, L2.VE.c_fz3, L2.VE.c_fr1, L2.VE.c_fr2, L2.VE.c_fr3, L2.VE.c_set1, L2.VE.c_set2, L2.VE.c_tst, L2.VE.c_readS1, L2.VE.c_readS2, L2.VE.c_readS3, L2.VE.c_readS4, L2.VE.c_readS5, L2.VE.c_evD1, L2.VE.c_evD2, L2.VE.c_evD3, L2.VE.c_owD, L2.VE.c_chgS, L2.VE.c_mkLst, L2.VE.c_mkTup, L2.VE.c_allD0, L2.VE.c_allD1, L2.VE.c_rg1, L2.VE.c_rg2, L2.VE.c_lr1, L2.VE.c_lcE, L2.VE.c_lcU, L2.VE.c_isi, L2.VE.c_finT, L2.VE.c_unlkD, L2.VE.c_unlk, L2.VE.wipeD, L2.VE.restD, L2.VE.gLen, L2.VE.lenD, L2.VE.gInt, L2.VE.gAbs, L2.VE.gIx, L2.VE.gAdd, L2.VE.gSub, L2.VE.gNeg, L2.VE.gAddI, L2.VE.gSubI, L2.VE.gApp, L2.VE.gSl, L2.VE.gSet, L2.VE.gGet, L2.VE.gIsN, L2.VE.gNotN, L2.VE.isNonD, L2.VE.seqD, L2.VE.gList, L2.VE.lsD, List.getElem?_cons_zero, List.getElem?_cons_succ, List.set_cons_zero, List.set_cons_succ, List.length_cons, List.length_nil, Nat.zero_add, Nat.reduceAdd, L2.VE.op2l.eq_1, L2.VE.op2l.eq_2, L2.VE.op2l.eq_3, L2.VE.op2k.eq_1, L2.VE.op2k.eq_2, L2.VE.op2k.eq_3, L2.VE.fin2o.eq_1, L2.VE.fin2o.eq_2, L2.VE.fin1o.eq_1, L2.VE.fin1o.eq_2, L2.VE.notB.eq_1, L2.VE.notB.eq_2, L2.VE.notB.eq_3, L2.VE.andB.eq_1, L2.VE.andB.eq_2, L2.VE.andB.eq_3, L2.VE.andB.eq_4, L2.VE.orB.eq_1, L2.VE.orB.eq_2, L2.VE.orB.eq_3, L2.VE.orB.eq_4, L2.VE.notE.eq_1, L2.VE.notE.eq_2, L2.VE.andE.eq_1, L2.VE.andE.eq_2, L2.VE.andE.eq_3, L2.VE.orE.eq_1, L2.VE.orE.eq_2, L2.VE.orE.eq_3, L2.VE.ifE.eq_1, L2.VE.ifE.eq_2, L2.VE.ifE.eq_3, L2.VE.ifE.eq_4, L2.VE.slK2.eq_1, L2.VE.slK2.eq_2, L2.VE.slK2.eq_3, L2.VE.slK1.eq_1, L2.VE.slK1.eq_2, L2.VE.slK1.eq_3, L2.VE.psK.eq_1, L2.VE.psK.eq_2, L2.VE.psK.eq_3, L2.VE.consA.eq_1, L2.VE.consA.eq_2, L2.VE.consA.eq_3, L2.VE.finLo.eq_1, L2.VE.finLo.eq_2, L2.VE.evDo.eq_1, L2.VE.evDo.eq_2, L2.VE.setK.eq_1, L2.VE.setK.eq_2, L2.VE.setK.eq_3, L2.VE.seqK.eq_1, L2.VE.seqK.eq_2, L2.VE.seqK.eq_3, L2.VE.seqK.eq_4, L2.VE.seqK.eq_5, L2.VE.seqK.eq_6, L2.VE.dropK.eq_1, L2.VE.dropK.eq_2, L2.VE.dropK.eq_3, L2.VE.retK.eq_1, L2.VE.retK.eq_2, L2.VE.retK.eq_3, L2.VE.ifK.eq_1, L2.VE.ifK.eq_2, L2.VE.ifK.eq_3, L2.VE.ifK.eq_4, L2.VE.mutK.eq_1, L2.VE.mutK.eq_2, L2.VE.mutS.eq_1, L2.VE.mutS.eq_2, L2.VE.metO.eq_1, L2.VE.metO.eq_2, L2.VE.metK.eq_1, L2.VE.metK.eq_2, L2.VE.putO.eq_1, L2.VE.putO.eq_2, L2.VE.putK3.eq_1, L2.VE.putK3.eq_2, L2.VE.putK2.eq_1, L2.VE.putK2.eq_2, L2.VE.putK1.eq_1, L2.VE.putK1.eq_2, L2.VE.putK1.eq_3, L2.VE.augK.eq_1, L2.VE.augK.eq_2, L2.VE.augF3.eq_1, L2.VE.augF3.eq_2, L2.VE.augF2.eq_1, L2.VE.augF2.eq_2, L2.VE.augF0.eq_1, L2.VE.augF0.eq_2, L2.VE.forK.eq_1, L2.VE.forK.eq_2, L2.VE.forK.eq_3, L2.VE.forK.eq_4, L2.VE.forK2.eq_1, L2.VE.forK2.eq_2, L2.VE.forK2.eq_3, L2.VE.forK2.eq_4, L2.VE.lcK.eq_1, L2.VE.lcK.eq_2, L2.VE.lcK.eq_3, L2.VE.lcK.eq_4, L2.VE.lcK2.eq_1, L2.VE.lcK2.eq_2, L2.VE.lcK2.eq_3, L2.VE.lcK2.eq_4, L2.VE.itO.eq_1, L2.VE.itO.eq_2, L2.VE.itO.eq_3, L2.VE.itO.eq_4, L2.VE.itO.eq_5, L2.VE.fzO.eq_1, L2.VE.fzO.eq_2, L2.VE.fzO.eq_3, L2.VE.owO.eq_1, L2.VE.owO.eq_2, L2.VE.owO.eq_3, L2.VE.chgO.eq_1, L2.VE.chgO.eq_2, L2.VE.chgO.eq_3, L2.VE.lstO.eq_1, L2.VE.lstO.eq_2, L2.VE.tupO.eq_1, L2.VE.tupO.eq_2, L2.VE.allO.eq_1, L2.VE.allO.eq_2, L2.VE.lcUo.eq_1, L2.VE.lcUo.eq_2, L2.VE.isiO.eq_1, L2.VE.isiO.eq_2, L2.VE.finTo.eq_1, L2.VE.finTo.eq_2, L2.VE.unlkO.eq_1, L2.VE.unlkO.eq_2, L2.VE.unlkN.eq_1, L2.VE.unlkN.eq_2, L2.VE.ER.bind.eq_1, L2.VE.ER.bind.eq_2, L2.VE.ER.bind.eq_3, L2.VE.ER.bindB.eq_1, L2.VE.ER.bindB.eq_2, L2.VE.ER.bindB.eq_3, L2.VE.ER.bindA.eq_1, L2.VE.ER.bindA.eq_2, L2.VE.ER.bindA.eq_3, L2.VE.ER.bindS.eq_1, L2.VE.ER.bindS.eq_2, L2.VE.ER.bindS.eq_3, L2.VE.BR.bind.eq_1, L2.VE.BR.bind.eq_2, L2.VE.BR.bind.eq_3, L2.VE.BR.bindE.eq_1, L2.VE.BR.bindE.eq_2, L2.VE.BR.bindE.eq_3, L2.VE.BR.bindS.eq_1, L2.VE.BR.bindS.eq_2, L2.VE.BR.bindS.eq_3, L2.VE.AR.bind.eq_1, L2.VE.AR.bind.eq_2, L2.VE.AR.bind.eq_3, L2.VE.AR.bindE.eq_1, L2.VE.AR.bindE.eq_2, L2.VE.AR.bindE.eq_3, L2.VE.AR.bindS.eq_1, L2.VE.AR.bindS.eq_2, L2.VE.AR.bindS.eq_3, L2.VE.ER.bindI.eq_1, L2.VE.ER.bindI.eq_2, L2.VE.ER.bindI.eq_3, L2.VE.AR.bindI.eq_1, L2.VE.AR.bindI.eq_2, L2.VE.AR.bindI.eq_3, L2.VE.slotD.eq_1, L2.VE.slotD.eq_2, L2.VE.slotD.eq_3, L2.VE.slotD.eq_4, L2.VE.slotD.eq_5, L2.VE.slotD.eq_6, reduceIte, e__law_same, st__law_same, tyN, u1, u2, u3, u4, truD, decide_false, e1]
        exact ⟨_, rfl⟩
    | lst xs =>
      simp only [okS, Bool.and_eq_true, decide_eq_true_eq] at h
      obtain ⟨h0, h1⟩ := h
      have hr : (-(2 ^ 62 : Int) ≤ (xs.length : Int) ∧ (xs.length : Int) < 2 ^ 62) := by omega
      have e1 : ((xs.length : Int) == (xs.length : Int)) = true := by simp
      have key : ∀ s1 s2, IsA (.lst xs) s1 → IsA (.lst xs) s2 → fLcGo chkT [2] (gNm 2) (bP__law_same_2 (e__law_same n)) (bE__law_same_1 (e__law_same n)) (rangeD 0 xs.length) [] [s1, s2, .un] = .ok [] [s1, s2, .un] := fun s1 s2 i1 i2 => by
        refine lcGo_none rfl fun y hy => ?_
        obtain ⟨i, hi, rfl⟩ := rangeD_mem hy
        rw [Int.zero_add]
        have ok1 : okS n xs[i] = true := List.all_eq_true.mp h1 _ (List.getElem_mem hi)
        have q : finC 2 3 none (e__law_same n) [.d xs[i], .d xs[i]] [s1, s2, .d (.int (i : Nat))] = .ok (.d (.bl true)) [s1, s2, .d (.int (i : Nat))] := same_c (same_b xs[i] ok1) rfl rfl (.inl rfl) (.inl rfl)
        rcases i1 with rfl | rfl <;> rcases i2 with rfl | rfl <;>
        · refine ⟨_, [_, _, .d (.int (i : Nat))], rfl, ?_, rfl⟩
          simp only [L2.VE.kAsgT, L2.VE.c_asg, L2.VE.asgO.eq_1, L2.VE.asgO.eq_2, L2.VE.c_tsC, L2.VE.tsO.eq_1, L2.VE.tsO.eq_2, L2.VE.c_ts0, L2.VE.gTp.eq_1, eq_self, L2.VE.kPar, L2.VE.parF1, L2.VE.parF2, L2.VE.parF3, L2.VE.c_par1, L2.VE.c_par2, L2.VE.kTry, L2.VE.tryK.eq_1, L2.VE.tryK.eq_2, L2.VE.tryK.eq_3, L2.VE.tryK.eq_4, L2.VE.tryK.eq_5, L2.VE.tryK.eq_6, L2.VE.tryX.eq_1, L2.VE.tryX.eq_2, L2.VE.tryX.eq_3, L2.VE.c_unX, L2.VE.aftR.eq_1, L2.VE.aftN.eq_1, L2.VE.aftB.eq_1, L2.VE.aftC.eq_1, L2.VE.c_aftR, L2.VE.c_aftN, L2.VE.c_aftB, L2.VE.c_aftC, L2.VE.c_nox0, L2.VE.c_nox1, L2.VE.isXc.eq_1, L2.VE.isXc.eq_2, L2.VE.kRaise, L2.VE.raiseE, L2.VE.fXat, L2.VE.xatO, L2.VE.fIsX, Bool.and_true, Bool.and_false, Bool.true_and, Bool.false_and, Bool.not_true, Bool.not_false, L2.VE.kV, L2.VE.k2, L2.VE.kOp2, L2.VE.k1, L2.VE.kOp1, L2.VE.kLb, L2.VE.kTru, L2.VE.kTNot, L2.VE.kTAnd, L2.VE.kTOr, L2.VE.kNotV, L2.VE.notF, L2.VE.kAndV, L2.VE.kOrV, L2.VE.andF, L2.VE.orF, L2.VE.kIfE, L2.VE.kSl, L2.VE.slK0, L2.VE.kPS, L2.VE.kCons, L2.VE.consK, L2.VE.kL, L2.VE.kDs, L2.VE.kSet, L2.VE.setF, L2.VE.kSeq, L2.VE.kDrop, L2.VE.kRet, L2.VE.kIf, L2.VE.kM, L2.VE.kMut, L2.VE.kMv, L2.VE.kMet, L2.VE.metF, L2.VE.kPutE, L2.VE.kPut, L2.VE.kAugE, L2.VE.augF1, L2.VE.kAugS, L2.VE.kFor, L2.VE.kLc, L2.VE.kItS, L2.VE.kItL, L2.VE.kItF, L2.VE.fRetN, L2.VE.fNext, L2.VE.fBreak, L2.VE.fCont, L2.VE.fIt, L2.VE.fRg1, L2.VE.fRg2, L2.VE.fK, L2.VE.fTst, L2.VE.fTru, L2.VE.fNil, L2.VE.fCallB, L2.VE.fPN, L2.VE.fFz, L2.VE.fFr, L2.VE.fLst, L2.VE.fTup, L2.VE.fIsi, L2.VE.fLr1, L2.VE.fYes, L2.VE.gNm, L2.VE.chkT, L2.VE.fCall, L2.VE.evDs.eq_1, L2.VE.c_optE1, L2.VE.c_lbo, L2.VE.c_optB, L2.VE.c_truO, L2.VE.c_unE1, L2.VE.c_unE2, L2.VE.c_unE3, L2.VE.c_fz1, L2.VE.c_fz2, L2.VE.c_fz3, L2.VE.c_fr1, L2.VE.c_fr2, L2.VE.c_fr3, L2.VE.c_set1, L2.VE.c_set2, L2.VE.c_tst, L2.VE.c_readS1, L2.VE.c_readS2, L2.VE.c_readS3, L2.VE.c_readS4, L2.VE.c_readS5, L2.VE.c_evD1, L2.VE.c_evD2, L2.VE.c_evD3, L2.VE.c_owD, L2.VE.c_chgS, L2.VE.c_mkLst, L2.VE.c_mkTup, L2.VE.c_allD0, L2.VE.c_allD1, L2.VE.c_rg1, L2.VE.c_rg2, L2.VE.c_lr1, L2.VE.c_lcE, L2.VE.c_lcU, L2.VE.c_isi, L2.VE.c_finT, L2.VE.c_unlkD, L2.VE.c_unlk, L2.VE.wipeD, L2.VE.restD, L2.VE.gLen, L2.VE.lenD, L2.VE.gInt, L2.VE.gAbs, L2.VE.gIx, L2.VE.gAdd, L2.VE.gSub, L2.VE.gNeg, L2.VE.gAddI, L2.VE.gSubI, L2.VE.gApp, L2.VE.gSl, L2.VE.gSet, L2.VE.gGet, L2.VE.gIsN, L2.VE.gNotN, L2.VE.isNonD, L2.VE.seqD, L2.VE.gList, L2.VE.lsD, List.getElem?_cons_zero, List.getElem?_cons_succ, List.set_cons_zero, List.set_cons_succ, List.length_cons, List.length_nil, Nat.zero_add, Nat.reduceAdd, L2.VE.op2l.eq_1, L2.VE.op2l.eq_2, L2.VE.op2l.eq_3, L2.VE.op2k.eq_1, L2.VE.op2k.eq_2, L2.VE.op2k.eq_3, L2.VE.fin2o.eq_1, L2.VE.fin2o.eq_2, L2.VE.fin1o.eq_1, L2.VE.fin1o.eq_2, L2.VE.notB.eq_1, L2.VE.notB.eq_2, L2.VE.notB.eq_3, L2.VE.andB.eq_1, L2.VE.andB.eq_2, L2.VE.andB.eq_3, L2.VE.andB.eq_4, L2.VE.orB.eq_1, L2.VE.orB.eq_2, L2.VE.orB.eq_3, L2.VE.orB.eq_4, L2.VE.notE.eq_1, L2.VE.notE.eq_2, L2.VE.andE.eq_1, L2.VE.andE.eq_2, L2.VE.andE.eq_3, L2.VE.orE.eq_1, L2.VE.orE.eq_2, L2.VE.orE.eq_3, L2.VE.ifE.eq_1, L2.VE.ifE.eq_2, L2.VE.ifE.eq_3, L2.VE.ifE.eq_4, L2.VE.slK2.eq_1, L2.VE.slK2.eq_2, L2.VE.slK2.eq_3, L2.VE.slK1.eq_1, L2.VE.slK1.eq_2, L2.VE.slK1.eq_3, L2.VE.psK.eq_1, L2.VE.psK.eq_2, L2.VE.psK.eq_3, L2.VE.consA.eq_1, L2.VE.consA.eq_2, L2.VE.consA.eq_3, L2.VE.finLo.eq_1, L2.VE.finLo.eq_2, L2.VE.evDo.eq_1, L2.VE.evDo.eq_2, L2.VE.setK.eq_1, L2.VE.setK.eq_2, L2.VE.setK.eq_3, L2.VE.seqK.eq_1, L2.VE.seqK.eq_2, L2.VE.seqK.eq_3, L2.VE.seqK.eq_4, L2.VE.seqK.eq_5, L2.VE.seqK.eq_6, L2.VE.dropK.eq_1, L2.VE.dropK.eq_2, L2.VE.dropK.eq_3, L2.VE.retK.eq_1, L2.VE.retK.eq_2, L2.VE.retK.eq_3, L2.VE.ifK.eq_1, L2.VE.ifK.eq_2, L2.VE.ifK.eq_3, L2.VE.ifK.eq_4, L2.VE.mutK.eq_1, L2.VE.mutK.eq_2, L2.VE.mutS.eq_1, L2.VE.mutS.eq_2, L2.VE.metO.eq_1, L2.VE.metO.eq_2, L2.VE.metK.eq_1, L2.VE.metK.eq_2, L2.VE.putO.eq_1, L2.VE.putO.eq_2, L2.VE.putK3.eq_1, L2.VE.putK3.eq_2, L2.VE.putK2.eq_1, L2.VE.putK2.eq_2, L2.VE.putK1.eq_1, L2.VE.putK1.eq_2, L2.VE.putK1.eq_3, L2.VE.augK.eq_1, L2.VE.augK.eq_2, L2.VE.augF3.eq_1, L2.VE.augF3.eq_2, L2.VE.augF2.eq_1, L2.VE.augF2.eq_2, L2.VE.augF0.eq_1, L2.VE.augF0.eq_2, L2.VE.forK.eq_1, L2.VE.forK.eq_2, L2.VE.forK.eq_3, L2.VE.forK.eq_4, L2.VE.forK2.eq_1, L2.VE.forK2.eq_2, L2.VE.forK2.eq_3, L2.VE.forK2.eq_4, L2.VE.lcK.eq_1, L2.VE.lcK.eq_2, L2.VE.lcK.eq_3, L2.VE.lcK.eq_4, L2.VE.lcK2.eq_1, L2.VE.lcK2.eq_2, L2.VE.lcK2.eq_3, L2.VE.lcK2.eq_4, L2.VE.itO.eq_1, L2.VE.itO.eq_2, L2.VE.itO.eq_3, L2.VE.itO.eq_4, L2.VE.itO.eq_5, L2.VE.fzO.eq_1, L2.VE.fzO.eq_2, L2.VE.fzO.eq_3, L2.VE.owO.eq_1, L2.VE.owO.eq_2, L2.VE.owO.eq_3, L2.VE.chgO.eq_1, L2.VE.chgO.eq_2, L2.VE.chgO.eq_3, L2.VE.lstO.eq_1, L2.VE.lstO.eq_2, L2.VE.tupO.eq_1, L2.VE.tupO.eq_2, L2.VE.allO.eq_1, L2.VE.allO.eq_2, L2.VE.lcUo.eq_1, L2.VE.lcUo.eq_2, L2.VE.isiO.eq_1, L2.VE.isiO.eq_2, L2.VE.finTo.eq_1, L2.VE.finTo.eq_2, L2.VE.unlkO.eq_1, L2.VE.unlkO.eq_2, L2.VE.unlkN.eq_1, L2.VE.unlkN.eq_2, L2.VE.ER.bind.eq_1, L2.VE.ER.bind.eq_2, L2.VE.ER.bind.eq_3, L2.VE.ER.bindB.eq_1, L2.VE.ER.bindB.eq_2, L2.VE.ER.bindB.eq_3, L2.VE.ER.bindA.eq_1, L2.VE.ER.bindA.eq_2, L2.VE.ER.bindA.eq_3, L2.VE.ER.bindS.eq_1, L2.VE.ER.bindS.eq_2, L2.VE.ER.bindS.eq_3, L2.VE.BR.bind.eq_1, L2.VE.BR.bind.eq_2, L2.VE.BR.bind.eq_3, L2.VE.BR.bindE.eq_1, L2.VE.BR.bindE.eq_2, L2.VE.BR.bindE.eq_3, L2.VE.BR.bindS.eq_1, L2.VE.BR.bindS.eq_2, L2.VE.BR.bindS.eq_3, L2.VE.AR.bind.eq_1, L2.VE.AR.bind.eq_2, L2.VE.AR.bind.eq_3, L2.VE.AR.bindE.eq_1, L2.VE.AR.bindE.eq_2, L2.VE.AR.bindE.eq_3, L2.VE.AR.bindS.eq_1, L2.VE.AR.bindS.eq_2, L2.VE.AR.bindS.eq_3, L2.VE.ER.bindI.eq_1, L2.VE.ER.bindI.eq_2, L2.VE.ER.bindI.eq_3, L2.VE.AR.bindI.eq_1, L2.VE.AR.bindI.eq_2, L2.VE.AR.bindI.eq_3, L2.VE.slotD.eq_1, L2.VE.slotD.eq_2, L2.VE.slotD.eq_3, L2.VE.slotD.eq_4, L2.VE.slotD.eq_5, L2.VE.slotD.eq_6, reduceIte, bP__law_same_2, atI_nat (List.getElem?_eq_getElem hi), q, truD, Bool.not_true]
      rcases i1 with rfl | rfl <;> rcases i2 with rfl | rfl
      · simp only [L2.VE.kAsgT, L2.VE.c_asg, L2.VE.asgO.eq_1, L2.VE.asgO.eq_2, L2.VE.c_tsC, L2.VE.tsO.eq_1, L2.VE.tsO.eq_2, L2.VE.c_ts0, L2.VE.gTp.eq_1, eq_self, L2.VE.kPar, L2.VE.parF1, L2.VE.parF2, L2.VE.parF3, L2.VE.c_par1, L2.VE.c_par2, L2.VE.kTry, L2.VE.tryK.eq_1, L2.VE.tryK.eq_2, L2.VE.tryK.eq_3, L2.VE.tryK.eq_4, L2.VE.tryK.eq_5, L2.VE.tryK.eq_6, L2.VE.tryX.eq_1, L2.VE.tryX.eq_2, L2.VE.tryX.eq_3, L2.VE.c_unX, L2.VE.aftR.eq_1, L2.VE.aftN.eq_1, L2.VE.aftB.eq_1, L2.VE.aftC.eq_1, L2.VE.c_aftR, L2.VE.c_aftN, L2.VE.c_aftB, L2.VE.c_aftC, L2.VE.c_nox0, L2.VE.c_nox1, L2.VE.isXc.eq_1, L2.VE.isXc.eq_2, L2.VE.kRaise, L2.VE.raiseE, L2.VE.fXat, L2.VE.xatO, L2.VE.fIsX, Bool.and_true, Bool.and_false, Bool.true_and, Bool.false_and, Bool.not_true, Bool.not_false, L2.VE.kV, L2.VE.k2, L2.VE.kOp2, L2.VE.k1, L2.VE.kOp1, L2.VE.kLb, L2.VE.kTru, L2.VE.kTNot, L2.VE.kTAnd, L2.VE.kTOr, L2.VE.kNotV, L2.VE.notF, L2.VE.kAndV, L2.VE.kOrV, L2.VE.andF, L2.VE.orF, L2.VE.kIfE, L2.VE.kSl, L2.VE.slK0, L2.VE.kPS, L2.VE.kCons, L2.VE.consK, L2.VE.kL, L2.VE.kDs, L2.VE.kSet, L2.VE.setF, L2.VE.kSeq, L2.VE.kDrop, L2.VE.kRet, L2.VE.kIf, L2.VE.kM, L2.VE.kMut, L2.VE.kMv, L2.VE.kMet, L2.VE.metF, L2.VE.kPutE, L2.VE.kPut, L2.VE.kAugE, L2.VE.augF1, L2.VE.kAugS, L2.VE.kFor, L2.VE.kLc, L2.VE.kItS, L2.VE.kItL, L2.VE.kItF, L2.VE.fRetN, L2.VE.fNext, L2.VE.fBreak, L2.VE.fCont, L2.VE.fIt, L2.VE.fRg1, L2.VE.fRg2, L2.VE.fK, L2.VE.fTst, L2.VE.fTru, L2.VE.fNil, L2.VE.fCallB, L2.VE.fPN, L2.VE.fFz, L2.VE.fFr, L2.VE.fLst, L2.VE.fTup, L2.VE.fIsi, L2.VE.fLr1, L2.VE.fYes, L2.VE.gNm, L2.VE.chkT, L2.VE.fCall, L2.VE.evDs.eq_1, L2.VE.c_optE1, L2.VE.c_lbo, L2.VE.c_optB, L2.VE.c_truO, L2.VE.c_unE1, L2.VE.c_unE2, L2.VE.c_unE3, L2.VE.c_fz1, L2.VE.c_fz2, L2.VE.c_fz3, L2.VE.c_fr1, L2.VE.c_fr2, L2.VE.c_fr3, L2.VE.c_set1, L2.VE.c_set2, L2.VE.c_tst, L2.VE.c_readS1, L2.VE.c_readS2, L2.VE.c_readS3, L2.VE.c_readS4, L2.VE.c_readS5, L2.VE.c_evD1, L2.VE.c_evD2, L2.VE.c_evD3, L2.VE.c_owD, L2.VE.c_chgS, L2.VE.c_mkLst, L2.VE.c_mkTup, L2.VE.c_allD0, L2.VE.c_allD1, L2.VE.c_rg1, L2.VE.c_rg2, L2.VE.c_lr1, L2.VE.c_lcE, L2.VE.c_lcU, L2.VE.c_isi, L2.VE.c_finT, L2.VE.c_unlkD, L2.VE.c_unlk, L2.VE.wipeD, L2.VE.restD, L2.VE.gLen, L2.VE.lenD, L2.VE.gInt, L2.VE.gAbs, L2.VE.gIx, L2.VE.gAdd, L2.VE.gSub, L2.VE.gNeg, L2.VE.gAddI, L2.VE.gSubI, L2.VE.gApp, L2.VE.gSl, L2.VE.gSet, L2.VE.gGet, L2.VE.gIsN, L2.VE.gNotN, L2.VE.isNonD, L2.VE.seqD, L2.VE.gList, L2.VE.lsD, List.getElem?_cons_zero, List.getElem?_cons_succ, List.set_cons_zero, List.set_cons_succ, List.length_cons, List.length_nil, Nat.zero_add, Nat.reduceAdd, L2.VE.op2l.eq_1, L2.VE.op2l.eq_2, L2.VE.op2l.eq_3, L2.VE.op2k.eq_1, L2.VE.op2k.eq_2, L2.VE.op2k.eq_3, L2.VE.fin2o.eq_1, L2.VE.fin2o.eq_2, L2.VE.fin1o.eq_1, L2.VE.fin1o.eq_2, L2.VE.notB.eq_1, L2.VE.notB.eq_2, L2.VE.notB.eq_3, L2.VE.andB.eq_1, L2.VE.andB.eq_2, L2.VE.andB.eq_3, L2.VE.andB.eq_4, L2.VE.orB.eq_1, L2.VE.orB.eq_2, L2.VE.orB.eq_3, L2.VE.orB.eq_4, L2.VE.notE.eq_1, L2.VE.notE.eq_2, L2.VE.andE.eq_1, L2.VE.andE.eq_2, L2.VE.andE.eq_3, L2.VE.orE.eq_1, L2.VE.orE.eq_2, L2.VE.orE.eq_3, L2.VE.ifE.eq_1, L2.VE.ifE.eq_2, L2.VE.ifE.eq_3, L2.VE.ifE.eq_4, L2.VE.slK2.eq_1, L2.VE.slK2.eq_2, L2.VE.slK2.eq_3, L2.VE.slK1.eq_1, L2.VE.slK1.eq_2, L2.VE.slK1.eq_3, L2.VE.psK.eq_1, L2.VE.psK.eq_2, L2.VE.psK.eq_3, L2.VE.consA.eq_1, L2.VE.consA.eq_2, L2.VE.consA.eq_3, L2.VE.finLo.eq_1, L2.VE.finLo.eq_2, L2.VE.evDo.eq_1, L2.VE.evDo.eq_2, L2.VE.setK.eq_1, L2.VE.setK.eq_2, L2.VE.setK.eq_3, L2.VE.seqK.eq_1, L2.VE.seqK.eq_2, L2.VE.seqK.eq_3, L2.VE.seqK.eq_4, L2.VE.seqK.eq_5, L2.VE.seqK.eq_6, L2.VE.dropK.eq_1, L2.VE.dropK.eq_2, L2.VE.dropK.eq_3, L2.VE.retK.eq_1, L2.VE.retK.eq_2, L2.VE.retK.eq_3, L2.VE.ifK.eq_1, L2.VE.ifK.eq_2, L2.VE.ifK.eq_3, L2.VE.ifK.eq_4, L2.VE.mutK.eq_1, L2.VE.mutK.eq_2, L2.VE.mutS.eq_1, L2.VE.mutS.eq_2, L2.VE.metO.eq_1, L2.VE.metO.eq_2, L2.VE.metK.eq_1, L2.VE.metK.eq_2, L2.VE.putO.eq_1, L2.VE.putO.eq_2, L2.VE.putK3.eq_1, L2.VE.putK3.eq_2, L2.VE.putK2.eq_1, L2.VE.putK2.eq_2, L2.VE.putK1.eq_1, L2.VE.putK1.eq_2, L2.VE.putK1.eq_3, L2.VE.augK.eq_1, L2.VE.augK.eq_2, L2.VE.augF3.eq_1, L2.VE.augF3.eq_2, L2.VE.augF2.eq_1, L2.VE.augF2.eq_2, L2.VE.augF0.eq_1, L2.VE.augF0.eq_2, L2.VE.forK.eq_1, L2.VE.forK.eq_2, L2.VE.forK.eq_3, L2.VE.forK.eq_4, L2.VE.forK2.eq_1, L2.VE.forK2.eq_2, L2.VE.forK2.eq_3, L2.VE.forK2.eq_4, L2.VE.lcK.eq_1, L2.VE.lcK.eq_2, L2.VE.lcK.eq_3, L2.VE.lcK.eq_4, L2.VE.lcK2.eq_1, L2.VE.lcK2.eq_2, L2.VE.lcK2.eq_3, L2.VE.lcK2.eq_4, L2.VE.itO.eq_1, L2.VE.itO.eq_2, L2.VE.itO.eq_3, L2.VE.itO.eq_4, L2.VE.itO.eq_5, L2.VE.fzO.eq_1, L2.VE.fzO.eq_2, L2.VE.fzO.eq_3, L2.VE.owO.eq_1, L2.VE.owO.eq_2, L2.VE.owO.eq_3, L2.VE.chgO.eq_1, L2.VE.chgO.eq_2, L2.VE.chgO.eq_3, L2.VE.lstO.eq_1, L2.VE.lstO.eq_2, L2.VE.tupO.eq_1, L2.VE.tupO.eq_2, L2.VE.allO.eq_1, L2.VE.allO.eq_2, L2.VE.lcUo.eq_1, L2.VE.lcUo.eq_2, L2.VE.isiO.eq_1, L2.VE.isiO.eq_2, L2.VE.finTo.eq_1, L2.VE.finTo.eq_2, L2.VE.unlkO.eq_1, L2.VE.unlkO.eq_2, L2.VE.unlkN.eq_1, L2.VE.unlkN.eq_2, L2.VE.ER.bind.eq_1, L2.VE.ER.bind.eq_2, L2.VE.ER.bind.eq_3, L2.VE.ER.bindB.eq_1, L2.VE.ER.bindB.eq_2, L2.VE.ER.bindB.eq_3, L2.VE.ER.bindA.eq_1, L2.VE.ER.bindA.eq_2, L2.VE.ER.bindA.eq_3, L2.VE.ER.bindS.eq_1, L2.VE.ER.bindS.eq_2, L2.VE.ER.bindS.eq_3, L2.VE.BR.bind.eq_1, L2.VE.BR.bind.eq_2, L2.VE.BR.bind.eq_3, L2.VE.BR.bindE.eq_1, L2.VE.BR.bindE.eq_2, L2.VE.BR.bindE.eq_3, L2.VE.BR.bindS.eq_1, L2.VE.BR.bindS.eq_2, L2.VE.BR.bindS.eq_3, L2.VE.AR.bind.eq_1, L2.VE.AR.bind.eq_2, L2.VE.AR.bind.eq_3, L2.VE.AR.bindE.eq_1, L2.VE.AR.bindE.eq_2, L2.VE.AR.bindE.eq_3, L2.VE.AR.bindS.eq_1, L2.VE.AR.bindS.eq_2, L2.VE.AR.bindS.eq_3, L2.VE.ER.bindI.eq_1, L2.VE.ER.bindI.eq_2, L2.VE.ER.bindI.eq_3, L2.VE.AR.bindI.eq_1, L2.VE.AR.bindI.eq_2, L2.VE.AR.bindI.eq_3, L2.VE.slotD.eq_1, L2.VE.slotD.eq_2, L2.VE.slotD.eq_3, L2.VE.slotD.eq_4, L2.VE.slotD.eq_5, L2.VE.slotD.eq_6, reduceIte, e__law_same, st__law_same, tyN, l1, l2, truD, gNe_i, e1, Bool.not_true, Bool.not_false, if_pos hr, Int.toNat_natCast, key _ _ (.inl rfl) (.inl rfl), gEq_i]
        exact ⟨_, rfl⟩
      · simp only [L2.VE.kAsgT, L2.VE.c_asg, L2.VE.asgO.eq_1, L2.VE.asgO.eq_2, L2.VE.c_tsC, L2.VE.tsO.eq_1, L2.VE.tsO.eq_2, L2.VE.c_ts0, L2.VE.gTp.eq_1, eq_self, L2.VE.kPar, L2.VE.parF1, L2.VE.parF2, L2.VE.parF3, L2.VE.c_par1, L2.VE.c_par2, L2.VE.kTry, L2.VE.tryK.eq_1, L2.VE.tryK.eq_2, L2.VE.tryK.eq_3, L2.VE.tryK.eq_4, L2.VE.tryK.eq_5, L2.VE.tryK.eq_6, L2.VE.tryX.eq_1, L2.VE.tryX.eq_2, L2.VE.tryX.eq_3, L2.VE.c_unX, L2.VE.aftR.eq_1, L2.VE.aftN.eq_1, L2.VE.aftB.eq_1, L2.VE.aftC.eq_1, L2.VE.c_aftR, L2.VE.c_aftN, L2.VE.c_aftB, L2.VE.c_aftC, L2.VE.c_nox0, L2.VE.c_nox1, L2.VE.isXc.eq_1, L2.VE.isXc.eq_2, L2.VE.kRaise, L2.VE.raiseE, L2.VE.fXat, L2.VE.xatO, L2.VE.fIsX, Bool.and_true, Bool.and_false, Bool.true_and, Bool.false_and, Bool.not_true, Bool.not_false, L2.VE.kV, L2.VE.k2, L2.VE.kOp2, L2.VE.k1, L2.VE.kOp1, L2.VE.kLb, L2.VE.kTru, L2.VE.kTNot, L2.VE.kTAnd, L2.VE.kTOr, L2.VE.kNotV, L2.VE.notF, L2.VE.kAndV, L2.VE.kOrV, L2.VE.andF, L2.VE.orF, L2.VE.kIfE, L2.VE.kSl, L2.VE.slK0, L2.VE.kPS, L2.VE.kCons, L2.VE.consK, L2.VE.kL, L2.VE.kDs, L2.VE.kSet, L2.VE.setF, L2.VE.kSeq, L2.VE.kDrop, L2.VE.kRet, L2.VE.kIf, L2.VE.kM, L2.VE.kMut, L2.VE.kMv, L2.VE.kMet, L2.VE.metF, L2.VE.kPutE, L2.VE.kPut, L2.VE.kAugE, L2.VE.augF1, L2.VE.kAugS, L2.VE.kFor, L2.VE.kLc, L2.VE.kItS, L2.VE.kItL, L2.VE.kItF, L2.VE.fRetN, L2.VE.fNext, L2.VE.fBreak, L2.VE.fCont, L2.VE.fIt, L2.VE.fRg1, L2.VE.fRg2, L2.VE.fK, L2.VE.fTst, L2.VE.fTru, L2.VE.fNil, L2.VE.fCallB, L2.VE.fPN, L2.VE.fFz, L2.VE.fFr, L2.VE.fLst, L2.VE.fTup, L2.VE.fIsi, L2.VE.fLr1, L2.VE.fYes, L2.VE.gNm, L2.VE.chkT, L2.VE.fCall, L2.VE.evDs.eq_1, L2.VE.c_optE1, L2.VE.c_lbo, L2.VE.c_optB, L2.VE.c_truO, L2.VE.c_unE1, L2.VE.c_unE2, L2.VE.c_unE3, L2.VE.c_fz1, L2.VE.c_fz2, L2.VE.c_fz3, L2.VE.c_fr1, L2.VE.c_fr2, L2.VE.c_fr3, L2.VE.c_set1, L2.VE.c_set2, L2.VE.c_tst, L2.VE.c_readS1, L2.VE.c_readS2, L2.VE.c_readS3, L2.VE.c_readS4, L2.VE.c_readS5, L2.VE.c_evD1, L2.VE.c_evD2, L2.VE.c_evD3, L2.VE.c_owD, L2.VE.c_chgS, L2.VE.c_mkLst, L2.VE.c_mkTup, L2.VE.c_allD0, L2.VE.c_allD1, L2.VE.c_rg1, L2.VE.c_rg2, L2.VE.c_lr1, L2.VE.c_lcE, L2.VE.c_lcU, L2.VE.c_isi, L2.VE.c_finT, L2.VE.c_unlkD, L2.VE.c_unlk, L2.VE.wipeD, L2.VE.restD, L2.VE.gLen, L2.VE.lenD, L2.VE.gInt, L2.VE.gAbs, L2.VE.gIx, L2.VE.gAdd, L2.VE.gSub, L2.VE.gNeg, L2.VE.gAddI, L2.VE.gSubI, L2.VE.gApp, L2.VE.gSl, L2.VE.gSet, L2.VE.gGet, L2.VE.gIsN, L2.VE.gNotN, L2.VE.isNonD, L2.VE.seqD, L2.VE.gList, L2.VE.lsD, List.getElem?_cons_zero, List.getElem?_cons_succ, List.set_cons_zero, List.set_cons_succ, List.length_cons, List.length_nil, Nat.zero_add, Nat.reduceAdd, L2.VE.op2l.eq_1, L2.VE.op2l.eq_2, L2.VE.op2l.eq_3, L2.VE.op2k.eq_1, L2.VE.op2k.eq_2, L2.VE.op2k.eq_3, L2.VE.fin2o.eq_1, L2.VE.fin2o.eq_2, L2.VE.fin1o.eq_1, L2.VE.fin1o.eq_2, L2.VE.notB.eq_1, L2.VE.notB.eq_2, L2.VE.notB.eq_3, L2.VE.andB.eq_1, L2.VE.andB.eq_2, L2.VE.andB.eq_3, L2.VE.andB.eq_4, L2.VE.orB.eq_1, L2.VE.orB.eq_2, L2.VE.orB.eq_3, L2.VE.orB.eq_4, L2.VE.notE.eq_1, L2.VE.notE.eq_2, L2.VE.andE.eq_1, L2.VE.andE.eq_2, L2.VE.andE.eq_3, L2.VE.orE.eq_1, L2.VE.orE.eq_2, L2.VE.orE.eq_3, L2.VE.ifE.eq_1, L2.VE.ifE.eq_2, L2.VE.ifE.eq_3, L2.VE.ifE.eq_4, L2.VE.slK2.eq_1, L2.VE.slK2.eq_2, L2.VE.slK2.eq_3, L2.VE.slK1.eq_1, L2.VE.slK1.eq_2, L2.VE.slK1.eq_3, L2.VE.psK.eq_1, L2.VE.psK.eq_2, L2.VE.psK.eq_3, L2.VE.consA.eq_1, L2.VE.consA.eq_2, L2.VE.consA.eq_3, L2.VE.finLo.eq_1, L2.VE.finLo.eq_2, L2.VE.evDo.eq_1, L2.VE.evDo.eq_2, L2.VE.setK.eq_1, L2.VE.setK.eq_2, L2.VE.setK.eq_3, L2.VE.seqK.eq_1, L2.VE.seqK.eq_2, L2.VE.seqK.eq_3, L2.VE.seqK.eq_4, L2.VE.seqK.eq_5, L2.VE.seqK.eq_6, L2.VE.dropK.eq_1, L2.VE.dropK.eq_2, L2.VE.dropK.eq_3, L2.VE.retK.eq_1, L2.VE.retK.eq_2, L2.VE.retK.eq_3, L2.VE.ifK.eq_1, L2.VE.ifK.eq_2, L2.VE.ifK.eq_3, L2.VE.ifK.eq_4, L2.VE.mutK.eq_1, L2.VE.mutK.eq_2, L2.VE.mutS.eq_1, L2.VE.mutS.eq_2, L2.VE.metO.eq_1, L2.VE.metO.eq_2, L2.VE.metK.eq_1, L2.VE.metK.eq_2, L2.VE.putO.eq_1, L2.VE.putO.eq_2, L2.VE.putK3.eq_1, L2.VE.putK3.eq_2, L2.VE.putK2.eq_1, L2.VE.putK2.eq_2, L2.VE.putK1.eq_1, L2.VE.putK1.eq_2, L2.VE.putK1.eq_3, L2.VE.augK.eq_1, L2.VE.augK.eq_2, L2.VE.augF3.eq_1, L2.VE.augF3.eq_2, L2.VE.augF2.eq_1, L2.VE.augF2.eq_2, L2.VE.augF0.eq_1, L2.VE.augF0.eq_2, L2.VE.forK.eq_1, L2.VE.forK.eq_2, L2.VE.forK.eq_3, L2.VE.forK.eq_4, L2.VE.forK2.eq_1, L2.VE.forK2.eq_2, L2.VE.forK2.eq_3, L2.VE.forK2.eq_4, L2.VE.lcK.eq_1, L2.VE.lcK.eq_2, L2.VE.lcK.eq_3, L2.VE.lcK.eq_4, L2.VE.lcK2.eq_1, L2.VE.lcK2.eq_2, L2.VE.lcK2.eq_3, L2.VE.lcK2.eq_4, L2.VE.itO.eq_1, L2.VE.itO.eq_2, L2.VE.itO.eq_3, L2.VE.itO.eq_4, L2.VE.itO.eq_5, L2.VE.fzO.eq_1, L2.VE.fzO.eq_2, L2.VE.fzO.eq_3, L2.VE.owO.eq_1, L2.VE.owO.eq_2, L2.VE.owO.eq_3, L2.VE.chgO.eq_1, L2.VE.chgO.eq_2, L2.VE.chgO.eq_3, L2.VE.lstO.eq_1, L2.VE.lstO.eq_2, L2.VE.tupO.eq_1, L2.VE.tupO.eq_2, L2.VE.allO.eq_1, L2.VE.allO.eq_2, L2.VE.lcUo.eq_1, L2.VE.lcUo.eq_2, L2.VE.isiO.eq_1, L2.VE.isiO.eq_2, L2.VE.finTo.eq_1, L2.VE.finTo.eq_2, L2.VE.unlkO.eq_1, L2.VE.unlkO.eq_2, L2.VE.unlkN.eq_1, L2.VE.unlkN.eq_2, L2.VE.ER.bind.eq_1, L2.VE.ER.bind.eq_2, L2.VE.ER.bind.eq_3, L2.VE.ER.bindB.eq_1, L2.VE.ER.bindB.eq_2, L2.VE.ER.bindB.eq_3, L2.VE.ER.bindA.eq_1, L2.VE.ER.bindA.eq_2, L2.VE.ER.bindA.eq_3, L2.VE.ER.bindS.eq_1, L2.VE.ER.bindS.eq_2, L2.VE.ER.bindS.eq_3, L2.VE.BR.bind.eq_1, L2.VE.BR.bind.eq_2, L2.VE.BR.bind.eq_3, L2.VE.BR.bindE.eq_1, L2.VE.BR.bindE.eq_2, L2.VE.BR.bindE.eq_3, L2.VE.BR.bindS.eq_1, L2.VE.BR.bindS.eq_2, L2.VE.BR.bindS.eq_3, L2.VE.AR.bind.eq_1, L2.VE.AR.bind.eq_2, L2.VE.AR.bind.eq_3, L2.VE.AR.bindE.eq_1, L2.VE.AR.bindE.eq_2, L2.VE.AR.bindE.eq_3, L2.VE.AR.bindS.eq_1, L2.VE.AR.bindS.eq_2, L2.VE.AR.bindS.eq_3, L2.VE.ER.bindI.eq_1, L2.VE.ER.bindI.eq_2, L2.VE.ER.bindI.eq_3, L2.VE.AR.bindI.eq_1, L2.VE.AR.bindI.eq_2, L2.VE.AR.bindI.eq_3, L2.VE.slotD.eq_1, L2.VE.slotD.eq_2, L2.VE.slotD.eq_3, L2.VE.slotD.eq_4, L2.VE.slotD.eq_5, L2.VE.slotD.eq_6, reduceIte, e__law_same, st__law_same, tyN, l1, l2, truD, gNe_i, e1, Bool.not_true, Bool.not_false, if_pos hr, Int.toNat_natCast, key _ _ (.inl rfl) (.inr rfl), gEq_i]
        exact ⟨_, rfl⟩
      · simp only [L2.VE.kAsgT, L2.VE.c_asg, L2.VE.asgO.eq_1, L2.VE.asgO.eq_2, L2.VE.c_tsC, L2.VE.tsO.eq_1, L2.VE.tsO.eq_2, L2.VE.c_ts0, L2.VE.gTp.eq_1, eq_self, L2.VE.kPar, L2.VE.parF1, L2.VE.parF2, L2.VE.parF3, L2.VE.c_par1, L2.VE.c_par2, L2.VE.kTry, L2.VE.tryK.eq_1, L2.VE.tryK.eq_2, L2.VE.tryK.eq_3, L2.VE.tryK.eq_4, L2.VE.tryK.eq_5, L2.VE.tryK.eq_6, L2.VE.tryX.eq_1, L2.VE.tryX.eq_2, L2.VE.tryX.eq_3, L2.VE.c_unX, L2.VE.aftR.eq_1, L2.VE.aftN.eq_1, L2.VE.aftB.eq_1, L2.VE.aftC.eq_1, L2.VE.c_aftR, L2.VE.c_aftN, L2.VE.c_aftB, L2.VE.c_aftC, L2.VE.c_nox0, L2.VE.c_nox1, L2.VE.isXc.eq_1, L2.VE.isXc.eq_2, L2.VE.kRaise, L2.VE.raiseE, L2.VE.fXat, L2.VE.xatO, L2.VE.fIsX, Bool.and_true, Bool.and_false, Bool.true_and, Bool.false_and, Bool.not_true, Bool.not_false, L2.VE.kV, L2.VE.k2, L2.VE.kOp2, L2.VE.k1, L2.VE.kOp1, L2.VE.kLb, L2.VE.kTru, L2.VE.kTNot, L2.VE.kTAnd, L2.VE.kTOr, L2.VE.kNotV, L2.VE.notF, L2.VE.kAndV, L2.VE.kOrV, L2.VE.andF, L2.VE.orF, L2.VE.kIfE, L2.VE.kSl, L2.VE.slK0, L2.VE.kPS, L2.VE.kCons, L2.VE.consK, L2.VE.kL, L2.VE.kDs, L2.VE.kSet, L2.VE.setF, L2.VE.kSeq, L2.VE.kDrop, L2.VE.kRet, L2.VE.kIf, L2.VE.kM, L2.VE.kMut, L2.VE.kMv, L2.VE.kMet, L2.VE.metF, L2.VE.kPutE, L2.VE.kPut, L2.VE.kAugE, L2.VE.augF1, L2.VE.kAugS, L2.VE.kFor, L2.VE.kLc, L2.VE.kItS, L2.VE.kItL, L2.VE.kItF, L2.VE.fRetN, L2.VE.fNext, L2.VE.fBreak, L2.VE.fCont, L2.VE.fIt, L2.VE.fRg1, L2.VE.fRg2, L2.VE.fK, L2.VE.fTst, L2.VE.fTru, L2.VE.fNil, L2.VE.fCallB, L2.VE.fPN, L2.VE.fFz, L2.VE.fFr, L2.VE.fLst, L2.VE.fTup, L2.VE.fIsi, L2.VE.fLr1, L2.VE.fYes, L2.VE.gNm, L2.VE.chkT, L2.VE.fCall, L2.VE.evDs.eq_1, L2.VE.c_optE1, L2.VE.c_lbo, L2.VE.c_optB, L2.VE.c_truO, L2.VE.c_unE1, L2.VE.c_unE2, L2.VE.c_unE3, L2.VE.c_fz1, L2.VE.c_fz2, L2.VE.c_fz3, L2.VE.c_fr1, L2.VE.c_fr2, L2.VE.c_fr3, L2.VE.c_set1, L2.VE.c_set2, L2.VE.c_tst, L2.VE.c_readS1, L2.VE.c_readS2, L2.VE.c_readS3, L2.VE.c_readS4, L2.VE.c_readS5, L2.VE.c_evD1, L2.VE.c_evD2, L2.VE.c_evD3, L2.VE.c_owD, L2.VE.c_chgS, L2.VE.c_mkLst, L2.VE.c_mkTup, L2.VE.c_allD0, L2.VE.c_allD1, L2.VE.c_rg1, L2.VE.c_rg2, L2.VE.c_lr1, L2.VE.c_lcE, L2.VE.c_lcU, L2.VE.c_isi, L2.VE.c_finT, L2.VE.c_unlkD, L2.VE.c_unlk, L2.VE.wipeD, L2.VE.restD, L2.VE.gLen, L2.VE.lenD, L2.VE.gInt, L2.VE.gAbs, L2.VE.gIx, L2.VE.gAdd, L2.VE.gSub, L2.VE.gNeg, L2.VE.gAddI, L2.VE.gSubI, L2.VE.gApp, L2.VE.gSl, L2.VE.gSet, L2.VE.gGet, L2.VE.gIsN, L2.VE.gNotN, L2.VE.isNonD, L2.VE.seqD, L2.VE.gList, L2.VE.lsD, List.getElem?_cons_zero, List.getElem?_cons_succ, List.set_cons_zero, List.set_cons_succ, List.length_cons, List.length_nil, Nat.zero_add, Nat.reduceAdd, L2.VE.op2l.eq_1, L2.VE.op2l.eq_2, L2.VE.op2l.eq_3, L2.VE.op2k.eq_1, L2.VE.op2k.eq_2, L2.VE.op2k.eq_3, L2.VE.fin2o.eq_1, L2.VE.fin2o.eq_2, L2.VE.fin1o.eq_1, L2.VE.fin1o.eq_2, L2.VE.notB.eq_1, L2.VE.notB.eq_2, L2.VE.notB.eq_3, L2.VE.andB.eq_1, L2.VE.andB.eq_2, L2.VE.andB.eq_3, L2.VE.andB.eq_4, L2.VE.orB.eq_1, L2.VE.orB.eq_2, L2.VE.orB.eq_3, L2.VE.orB.eq_4, L2.VE.notE.eq_1, L2.VE.notE.eq_2, L2.VE.andE.eq_1, L2.VE.andE.eq_2, L2.VE.andE.eq_3, L2.VE.orE.eq_1, L2.VE.orE.eq_2, L2.VE.orE.eq_3, L2.VE.ifE.eq_1, L2.VE.ifE.eq_2, L2.VE.ifE.eq_3, L2.VE.ifE.eq_4, L2.VE.slK2.eq_1, L2.VE.slK2.eq_2, L2.VE.slK2.eq_3, L2.VE.slK1.eq_1, L2.VE.slK1.eq_2, L2.VE.slK1.eq_3, L2.VE.psK.eq_1, L2.VE.psK.eq_2, L2.VE.psK.eq_3, L2.VE.consA.eq_1, L2.VE.consA.eq_2, L2.VE.consA.eq_3, L2.VE.finLo.eq_1, L2.VE.finLo.eq_2, L2.VE.evDo.eq_1, L2.VE.evDo.eq_2, L2.VE.setK.eq_1, L2.VE.setK.eq_2, L2.VE.setK.eq_3, L2.VE.seqK.eq_1, L2.VE.seqK.eq_2, L2.VE.seqK.eq_3, L2.VE.seqK.eq_4, L2.VE.seqK.eq_5, L2.VE.seqK.eq_6, L2.VE.dropK.eq_1, L2.VE.dropK.eq_2, L2.VE.dropK.eq_3, L2.VE.retK.eq_1, L2.VE.retK.eq_2, L2.VE.retK.eq_3, L2.VE.ifK.eq_1, L2.VE.ifK.eq_2, L2.VE.ifK.eq_3, L2.VE.ifK.eq_4, L2.VE.mutK.eq_1, L2.VE.mutK.eq_2, L2.VE.mutS.eq_1, L2.VE.mutS.eq_2, L2.VE.metO.eq_1, L2.VE.metO.eq_2, L2.VE.metK.eq_1, L2.VE.metK.eq_2, L2.VE.putO.eq_1, L2.VE.putO.eq_2, L2.VE.putK3.eq_1, L2.VE.putK3.eq_2, L2.VE.putK2.eq_1, L2.VE.putK2.eq_2, L2.VE.putK1.eq_1, L2.VE.putK1.eq_2, L2.VE.putK1.eq_3, L2.VE.augK.eq_1, L2.VE.augK.eq_2, L2.VE.augF3.eq_1, L2.VE.augF3.eq_2, L2.VE.augF2.eq_1, L2.VE.augF2.eq_2, L2.VE.augF0.eq_1, L2.VE.augF0.eq_2, L2.VE.forK.eq_1, L2.VE.forK.eq_2, L2.VE.forK.eq_3, L2.VE.forK.eq_4, L2.VE.forK2.eq_1, L2.VE.forK2.eq_2, L2.VE.forK2.eq_3, L2.VE.forK2.eq_4, L2.VE.lcK.eq_1, L2.VE.lcK.eq_2, L2.VE.lcK.eq_3, L2.VE.lcK.eq_4, L2.VE.lcK2.eq_1, L2.VE.lcK2.eq_2, L2.VE.lcK2.eq_3, L2.VE.lcK2.eq_4, L2.VE.itO.eq_1, L2.VE.itO.eq_2, L2.VE.itO.eq_3, L2.VE.itO.eq_4, L2.VE.itO.eq_5, L2.VE.fzO.eq_1, L2.VE.fzO.eq_2, L2.VE.fzO.eq_3, L2.VE.owO.eq_1, L2.VE.owO.eq_2, L2.VE.owO.eq_3, L2.VE.chgO.eq_1, L2.VE.chgO.eq_2, L2.VE.chgO.eq_3, L2.VE.lstO.eq_1, L2.VE.lstO.eq_2, L2.VE.tupO.eq_1, L2.VE.tupO.eq_2, L2.VE.allO.eq_1, L2.VE.allO.eq_2, L2.VE.lcUo.eq_1, L2.VE.lcUo.eq_2, L2.VE.isiO.eq_1, L2.VE.isiO.eq_2, L2.VE.finTo.eq_1, L2.VE.finTo.eq_2, L2.VE.unlkO.eq_1, L2.VE.unlkO.eq_2, L2.VE.unlkN.eq_1, L2.VE.unlkN.eq_2, L2.VE.ER.bind.eq_1, L2.VE.ER.bind.eq_2, L2.VE.ER.bind.eq_3, L2.VE.ER.bindB.eq_1, L2.VE.ER.bindB.eq_2, L2.VE.ER.bindB.eq_3, L2.VE.ER.bindA.eq_1, L2.VE.ER.bindA.eq_2, L2.VE.ER.bindA.eq_3, L2.VE.ER.bindS.eq_1, L2.VE.ER.bindS.eq_2, L2.VE.ER.bindS.eq_3, L2.VE.BR.bind.eq_1, L2.VE.BR.bind.eq_2, L2.VE.BR.bind.eq_3, L2.VE.BR.bindE.eq_1, L2.VE.BR.bindE.eq_2, L2.VE.BR.bindE.eq_3, L2.VE.BR.bindS.eq_1, L2.VE.BR.bindS.eq_2, L2.VE.BR.bindS.eq_3, L2.VE.AR.bind.eq_1, L2.VE.AR.bind.eq_2, L2.VE.AR.bind.eq_3, L2.VE.AR.bindE.eq_1, L2.VE.AR.bindE.eq_2, L2.VE.AR.bindE.eq_3, L2.VE.AR.bindS.eq_1, L2.VE.AR.bindS.eq_2, L2.VE.AR.bindS.eq_3, L2.VE.ER.bindI.eq_1, L2.VE.ER.bindI.eq_2, L2.VE.ER.bindI.eq_3, L2.VE.AR.bindI.eq_1, L2.VE.AR.bindI.eq_2, L2.VE.AR.bindI.eq_3, L2.VE.slotD.eq_1, L2.VE.slotD.eq_2, L2.VE.slotD.eq_3, L2.VE.slotD.eq_4, L2.VE.slotD.eq_5, L2.VE.slotD.eq_6, reduceIte, e__law_same, st__law_same, tyN, l1, l2, truD, gNe_i, e1, Bool.not_true, Bool.not_false, if_pos hr, Int.toNat_natCast, key _ _ (.inr rfl) (.inl rfl), gEq_i]
        exact ⟨_, rfl⟩
      · simp only [L2.VE.kAsgT, L2.VE.c_asg, L2.VE.asgO.eq_1, L2.VE.asgO.eq_2, L2.VE.c_tsC, L2.VE.tsO.eq_1, L2.VE.tsO.eq_2, L2.VE.c_ts0, L2.VE.gTp.eq_1, eq_self, L2.VE.kPar, L2.VE.parF1, L2.VE.parF2, L2.VE.parF3, L2.VE.c_par1, L2.VE.c_par2, L2.VE.kTry, L2.VE.tryK.eq_1, L2.VE.tryK.eq_2, L2.VE.tryK.eq_3, L2.VE.tryK.eq_4, L2.VE.tryK.eq_5, L2.VE.tryK.eq_6, L2.VE.tryX.eq_1, L2.VE.tryX.eq_2, L2.VE.tryX.eq_3, L2.VE.c_unX, L2.VE.aftR.eq_1, L2.VE.aftN.eq_1, L2.VE.aftB.eq_1, L2.VE.aftC.eq_1, L2.VE.c_aftR, L2.VE.c_aftN, L2.VE.c_aftB, L2.VE.c_aftC, L2.VE.c_nox0, L2.VE.c_nox1, L2.VE.isXc.eq_1, L2.VE.isXc.eq_2, L2.VE.kRaise, L2.VE.raiseE, L2.VE.fXat, L2.VE.xatO, L2.VE.fIsX, Bool.and_true, Bool.and_false, Bool.true_and, Bool.false_and, Bool.not_true, Bool.not_false, L2.VE.kV, L2.VE.k2, L2.VE.kOp2, L2.VE.k1, L2.VE.kOp1, L2.VE.kLb, L2.VE.kTru, L2.VE.kTNot, L2.VE.kTAnd, L2.VE.kTOr, L2.VE.kNotV, L2.VE.notF, L2.VE.kAndV, L2.VE.kOrV, L2.VE.andF, L2.VE.orF, L2.VE.kIfE, L2.VE.kSl, L2.VE.slK0, L2.VE.kPS, L2.VE.kCons, L2.VE.consK, L2.VE.kL, L2.VE.kDs, L2.VE.kSet, L2.VE.setF, L2.VE.kSeq, L2.VE.kDrop, L2.VE.kRet, L2.VE.kIf, L2.VE.kM, L2.VE.kMut, L2.VE.kMv, L2.VE.kMet, L2.VE.metF, L2.VE.kPutE, L2.VE.kPut, L2.VE.kAugE, L2.VE.augF1, L2.VE.kAugS, L2.VE.kFor, L2.VE.kLc, L2.VE.kItS, L2.VE.kItL, L2.VE.kItF, L2.VE.fRetN, L2.VE.fNext, L2.VE.fBreak, L2.VE.fCont, L2.VE.fIt, L2.VE.fRg1, L2.VE.fRg2, L2.VE.fK, L2.VE.fTst, L2.VE.fTru, L2.VE.fNil, L2.VE.fCallB, L2.VE.fPN, L2.VE.fFz, L2.VE.fFr, L2.VE.fLst, L2.VE.fTup, L2.VE.fIsi, L2.VE.fLr1, L2.VE.fYes, L2.VE.gNm, L2.VE.chkT, L2.VE.fCall, L2.VE.evDs.eq_1, L2.VE.c_optE1, L2.VE.c_lbo, L2.VE.c_optB, L2.VE.c_truO, L2.VE.c_unE1, L2.VE.c_unE2, L2.VE.c_unE3, L2.VE.c_fz1, L2.VE.c_fz2, L2.VE.c_fz3, L2.VE.c_fr1, L2.VE.c_fr2, L2.VE.c_fr3, L2.VE.c_set1, L2.VE.c_set2, L2.VE.c_tst, L2.VE.c_readS1, L2.VE.c_readS2, L2.VE.c_readS3, L2.VE.c_readS4, L2.VE.c_readS5, L2.VE.c_evD1, L2.VE.c_evD2, L2.VE.c_evD3, L2.VE.c_owD, L2.VE.c_chgS, L2.VE.c_mkLst, L2.VE.c_mkTup, L2.VE.c_allD0, L2.VE.c_allD1, L2.VE.c_rg1, L2.VE.c_rg2, L2.VE.c_lr1, L2.VE.c_lcE, L2.VE.c_lcU, L2.VE.c_isi, L2.VE.c_finT, L2.VE.c_unlkD, L2.VE.c_unlk, L2.VE.wipeD, L2.VE.restD, L2.VE.gLen, L2.VE.lenD, L2.VE.gInt, L2.VE.gAbs, L2.VE.gIx, L2.VE.gAdd, L2.VE.gSub, L2.VE.gNeg, L2.VE.gAddI, L2.VE.gSubI, L2.VE.gApp, L2.VE.gSl, L2.VE.gSet, L2.VE.gGet, L2.VE.gIsN, L2.VE.gNotN, L2.VE.isNonD, L2.VE.seqD, L2.VE.gList, L2.VE.lsD, List.getElem?_cons_zero, List.getElem?_cons_succ, List.set_cons_zero, List.set_cons_succ, List.length_cons, List.length_nil, Nat.zero_add, Nat.reduceAdd, L2.VE.op2l.eq_1, L2.VE.op2l.eq_2, L2.VE.op2l.eq_3, L2.VE.op2k.eq_1, L2.VE.op2k.eq_2, L2.VE.op2k.eq_3, L2.VE.fin2o.eq_1, L2.VE.fin2o.eq_2, L2.VE.fin1o.eq_1, L2.VE.fin1o.eq_2, L2.VE.notB.eq_1, L2.VE.notB.eq_2, L2.VE.notB.eq_3, L2.VE.andB.eq_1, L2.VE.andB.eq_2, L2.VE.andB.eq_3, L2.VE.andB.eq_4, L2.VE.orB.eq_1, L2.VE.orB.eq_2, L2.VE.orB.eq_3, L2.VE.orB.eq_4, L2.VE.notE.eq_1, L2.VE.notE.eq_2, L2.VE.andE.eq_1, L2.VE.andE.eq_2, L2.VE.andE.eq_3, L2.VE.orE.eq_1, L2.VE.orE.eq_2, L2.VE.orE.eq_3, L2.VE.ifE.eq_1, L2.VE.ifE.eq_2, L2.VE.ifE.eq_3, L2.VE.ifE.eq_4, L2.VE.slK2.eq_1, L2.VE.slK2.eq_2, L2.VE.slK2.eq_3, L2.VE.slK1.eq_1, L2.VE.slK1.eq_2, L2.VE.slK1.eq_3, L2.VE.psK.eq_1, L2.VE.psK.eq_2, L2.VE.psK.eq_3, L2.VE.consA.eq_1, L2.VE.consA.eq_2, L2.VE.consA.eq_3, L2.VE.finLo.eq_1, L2.VE.finLo.eq_2, L2.VE.evDo.eq_1, L2.VE.evDo.eq_2, L2.VE.setK.eq_1, L2.VE.setK.eq_2, L2.VE.setK.eq_3, L2.VE.seqK.eq_1, L2.VE.seqK.eq_2, L2.VE.seqK.eq_3, L2.VE.seqK.eq_4, L2.VE.seqK.eq_5, L2.VE.seqK.eq_6, L2.VE.dropK.eq_1, L2.VE.dropK.eq_2, L2.VE.dropK.eq_3, L2.VE.retK.eq_1, L2.VE.retK.eq_2, L2.VE.retK.eq_3, L2.VE.ifK.eq_1, L2.VE.ifK.eq_2, L2.VE.ifK.eq_3, L2.VE.ifK.eq_4, L2.VE.mutK.eq_1, L2.VE.mutK.eq_2, L2.VE.mutS.eq_1, L2.VE.mutS.eq_2, L2.VE.metO.eq_1, L2.VE.metO.eq_2, L2.VE.metK.eq_1, L2.VE.metK.eq_2, L2.VE.putO.eq_1, L2.VE.putO.eq_2, L2.VE.putK3.eq_1, L2.VE.putK3.eq_2, L2.VE.putK2.eq_1, L2.VE.putK2.eq_2, L2.VE.putK1.eq_1, L2.VE.putK1.eq_2, L2.VE.putK1.eq_3, L2.VE.augK.eq_1, L2.VE.augK.eq_2, L2.VE.augF3.eq_1, L2.VE.augF3.eq_2, L2.VE.augF2.eq_1, L2.VE.augF2.eq_2, L2.VE.augF0.eq_1, L2.VE.augF0.eq_2, L2.VE.forK.eq_1, L2.VE.forK.eq_2, L2.VE.forK.eq_3, L2.VE.forK.eq_4, L2.VE.forK2.eq_1, L2.VE.forK2.eq_2, L2.VE.forK2.eq_3, L2.VE.forK2.eq_4, L2.VE.lcK.eq_1, L2.VE.lcK.eq_2, L2.VE.lcK.eq_3, L2.VE.lcK.eq_4, L2.VE.lcK2.eq_1, L2.VE.lcK2.eq_2, L2.VE.lcK2.eq_3, L2.VE.lcK2.eq_4, L2.VE.itO.eq_1, L2.VE.itO.eq_2, L2.VE.itO.eq_3, L2.VE.itO.eq_4, L2.VE.itO.eq_5, L2.VE.fzO.eq_1, L2.VE.fzO.eq_2, L2.VE.fzO.eq_3, L2.VE.owO.eq_1, L2.VE.owO.eq_2, L2.VE.owO.eq_3, L2.VE.chgO.eq_1, L2.VE.chgO.eq_2, L2.VE.chgO.eq_3, L2.VE.lstO.eq_1, L2.VE.lstO.eq_2, L2.VE.tupO.eq_1, L2.VE.tupO.eq_2, L2.VE.allO.eq_1, L2.VE.allO.eq_2, L2.VE.lcUo.eq_1, L2.VE.lcUo.eq_2, L2.VE.isiO.eq_1, L2.VE.isiO.eq_2, L2.VE.finTo.eq_1, L2.VE.finTo.eq_2, L2.VE.unlkO.eq_1, L2.VE.unlkO.eq_2, L2.VE.unlkN.eq_1, L2.VE.unlkN.eq_2, L2.VE.ER.bind.eq_1, L2.VE.ER.bind.eq_2, L2.VE.ER.bind.eq_3, L2.VE.ER.bindB.eq_1, L2.VE.ER.bindB.eq_2, L2.VE.ER.bindB.eq_3, L2.VE.ER.bindA.eq_1, L2.VE.ER.bindA.eq_2, L2.VE.ER.bindA.eq_3, L2.VE.ER.bindS.eq_1, L2.VE.ER.bindS.eq_2, L2.VE.ER.bindS.eq_3, L2.VE.BR.bind.eq_1, L2.VE.BR.bind.eq_2, L2.VE.BR.bind.eq_3, L2.VE.BR.bindE.eq_1, L2.VE.BR.bindE.eq_2, L2.VE.BR.bindE.eq_3, L2.VE.BR.bindS.eq_1, L2.VE.BR.bindS.eq_2, L2.VE.BR.bindS.eq_3, L2.VE.AR.bind.eq_1, L2.VE.AR.bind.eq_2, L2.VE.AR.bind.eq_3, L2.VE.AR.bindE.eq_1, L2.VE.AR.bindE.eq_2, L2.VE.AR.bindE.eq_3, L2.VE.AR.bindS.eq_1, L2.VE.AR.bindS.eq_2, L2.VE.AR.bindS.eq_3, L2.VE.ER.bindI.eq_1, L2.VE.ER.bindI.eq_2, L2.VE.ER.bindI.eq_3, L2.VE.AR.bindI.eq_1, L2.VE.AR.bindI.eq_2, L2.VE.AR.bindI.eq_3, L2.VE.slotD.eq_1, L2.VE.slotD.eq_2, L2.VE.slotD.eq_3, L2.VE.slotD.eq_4, L2.VE.slotD.eq_5, L2.VE.slotD.eq_6, reduceIte, e__law_same, st__law_same, tyN, l1, l2, truD, gNe_i, e1, Bool.not_true, Bool.not_false, if_pos hr, Int.toNat_natCast, key _ _ (.inr rfl) (.inr rfl), gEq_i]
        exact ⟨_, rfl⟩
    | _ => simp [okS] at h
/-- the same by views -/
theorem same {x : D} (h : okS 8 x = true) {e1 e2 : EV} {δ : Ev} {s1 s2 : L2.VE.Slot} (h1 : argRo none δ e1 = some s1) (h2 : argRo none δ e2 = some s2) (i1 : IsA x s1) (i2 : IsA x s2) : finC 2 3 none (e__law_same 8) [e1, e2] δ = .ok (.d (.bl true)) δ :=
  same_c (same_b 8 x h) h1 h2 i1 i2
end LW

namespace LW
open PySem PySem.Spec PyProof.Rows L2 L2.VE
/-! ### looked at by the kernel -/
def valR : SR → Option (Option Int)
  | .rt e δ => match retC e δ with
    | some (.d (.int i)) => some (some i)
    | some (.d .non) => some none
    | _ => none
  | _ => none
def oD : Option Int → D
  | some i => .int i
  | none => .non
theorem of_valR {n : Nat} {g : Ev → SR} {a b : Int} {δ : Ev} {v : Option Int} (h : valR (g (padS n [.d (.int a), .d (.int b)])) = some v) : finC 2 n none g [.d (.int a), .d (.int b)] δ = .ok (.d (oD v)) δ := by
  cases q : g (padS n [.d (.int a), .d (.int b)]) with
  | rt e δ' =>
    rw [q] at h
    unfold valR at h
    simp only at h
    refine call0 rfl rfl q ?_
    split at h <;> first | (rename_i h2; rw [h2]; cases h; rfl) | cases h
  | _ => rw [q] at h; cases h
def told (s l : Int) : Option (Option Int) := valR (e__law_told (padS 4 [.d (.int s), .d (.int l)]))
def due (s l : Int) : Option (Option Int) := valR (e__law_due (padS 8 [.d (.int s), .d (.int l)]))
def found (s l : Int) : Option (Option Int) := valR (e__law_found (padS 10 [.d (.int s), .d (.int l)]))
def chk2 (a b : Option (Option Int)) : Bool := match a, b with
  | some x, some y => x == y
  | _, _ => false
theorem chk2_ok {a b : Option (Option Int)} (h : chk2 a b = true) : ∃ v, a = some v ∧ b = some v := by
  unfold chk2 at h
  split at h
  · rename_i x y; exact ⟨x, rfl, by rw [eq_of_beq h]⟩
  · cases h
theorem all_due : (List.range 6).all (fun s => (List.range 8).all fun l => chk2 (told (1 + s) (1 + l)) (due (1 + s) (1 + l))) = true := by decide +kernel
theorem all_found : [(1, 2), (2, 2), (3, 2), (4, 2), (1, 3), (2, 3), (1, 4), (1, 5)].all (fun p : Int × Int => chk2 (told p.1 p.2) (found p.1 p.2)) = true := by decide +kernel
def facI : Nat → Int
  | 0 => 1
  | n + 1 => facI n * (1 + n)
theorem all_one : (List.range 8).all (fun l => chk2 (told 1 (1 + l)) (some (some (facI l)))) = true := by decide +kernel
theorem one_all : (List.range 6).all (fun s => chk2 (told (1 + s) 1) (some (some 1))) = true := by decide +kernel
end LW

namespace LW
open PySem PySem.Spec PyProof.Rows L2 L2.VE
theorem told_due {a b : Int} (h1 : 1 ≤ a) (h2 : a ≤ 6) (h3 : 1 ≤ b) (h4 : b ≤ 8) : ∃ v, (∀ δ, finC 2 4 none e__law_told [.d (.int a), .d (.int b)] δ = .ok (.d (oD v)) δ) ∧ ∀ δ, finC 2 8 none e__law_due [.d (.int a), .d (.int b)] δ = .ok (.d (oD v)) δ := by
  have z := List.all_eq_true.mp (List.all_eq_true.mp all_due (a - 1).toNat (List.mem_range.mpr (by omega))) (b - 1).toNat (List.mem_range.mpr (by omega))
  rw [show (1 : Int) + ((a - 1).toNat : Int) = a by omega, show (1 : Int) + ((b - 1).toNat : Int) = b by omega] at z
  obtain ⟨v, h5, h6⟩ := chk2_ok z
  exact ⟨v, fun δ => of_valR h5, fun δ => of_valR h6⟩
theorem told_found {a b : Int} (h : (a, b) ∈ [((1 : Int), (2 : Int)), (2, 2), (3, 2), (4, 2), (1, 3), (2, 3), (1, 4), (1, 5)]) : ∃ v, (∀ δ, finC 2 4 none e__law_told [.d (.int a), .d (.int b)] δ = .ok (.d (oD v)) δ) ∧ ∀ δ, finC 2 10 none e__law_found [.d (.int a), .d (.int b)] δ = .ok (.d (oD v)) δ := by
  obtain ⟨v, h5, h6⟩ := chk2_ok (List.all_eq_true.mp all_found _ h)
  exact ⟨v, fun δ => of_valR h5, fun δ => of_valR h6⟩
theorem told_one {l : Nat} (h : l < 8) (δ : Ev) : finC 2 4 none e__law_told [.d (.int 1), .d (.int (1 + l))] δ = .ok (.d (.int (facI l))) δ := by
  obtain ⟨v, h5, h6⟩ := chk2_ok (List.all_eq_true.mp all_one l (List.mem_range.mpr h))
  cases h6
  exact of_valR h5
theorem one_told {s : Nat} (h : s < 6) (δ : Ev) : finC 2 4 none e__law_told [.d (.int (1 + s)), .d (.int 1)] δ = .ok (.d (.int 1)) δ := by
  obtain ⟨v, h5, h6⟩ := chk2_ok (List.all_eq_true.mp one_all s (List.mem_range.mpr h))
  cases h6
  exact of_valR h5
theorem same_x {x : D} (h : okS 8 x = true) (δ : Ev) : finC 2 3 none (e__law_same 8) [.d x, .d x] δ = .ok (.d (.bl true)) δ := same h rfl rfl (.inl rfl) (.inl rfl)
theorem ok_oD (v : Option Int) : okS 8 (oD v) = true := by cases v <;> rfl
theorem law_feed_c {ns : List Int} {δ : Ev} : finC 1 1 none e__law_feed [.d (.sl (ns.map .int))] δ = .ok (.fr (fdD ns 0 0 1)) δ := by
  refine call0 (ss := [.d (.sl (ns.map .int))]) (δ' := [.d (.sl (ns.map .int))]) (e := .fr (fdD ns 0 0 1)) rfl rfl ?_ rfl
  show e__law_feed [.d (.sl (ns.map .int))] = _
  have e4 : (4 : Nat) ≤ szl := by decide
  simp only [L2.VE.kAsgT, L2.VE.c_asg, L2.VE.asgO.eq_1, L2.VE.asgO.eq_2, L2.VE.c_tsC, L2.VE.tsO.eq_1, L2.VE.tsO.eq_2, L2.VE.c_ts0, L2.VE.gTp.eq_1, eq_self, L2.VE.kPar, L2.VE.parF1, L2.VE.parF2, L2.VE.parF3, L2.VE.c_par1, L2.VE.c_par2, L2.VE.kTry, L2.VE.tryK.eq_1, L2.VE.tryK.eq_2, L2.VE.tryK.eq_3, L2.VE.tryK.eq_4, L2.VE.tryK.eq_5, L2.VE.tryK.eq_6, L2.VE.tryX.eq_1, L2.VE.tryX.eq_2, L2.VE.tryX.eq_3, L2.VE.c_unX, L2.VE.aftR.eq_1, L2.VE.aftN.eq_1, L2.VE.aftB.eq_1, L2.VE.aftC.eq_1, L2.VE.c_aftR, L2.VE.c_aftN, L2.VE.c_aftB, L2.VE.c_aftC, L2.VE.c_nox0, L2.VE.c_nox1, L2.VE.isXc.eq_1, L2.VE.isXc.eq_2, L2.VE.kRaise, L2.VE.raiseE, L2.VE.fXat, L2.VE.xatO, L2.VE.fIsX, Bool.and_true, Bool.and_false, Bool.true_and, Bool.false_and, Bool.not_true, Bool.not_false, L2.VE.kV, L2.VE.k2, L2.VE.kOp2, L2.VE.k1, L2.VE.kOp1, L2.VE.kLb, L2.VE.kTru, L2.VE.kTNot, L2.VE.kTAnd, L2.VE.kTOr, L2.VE.kNotV, L2.VE.notF, L2.VE.kAndV, L2.VE.kOrV, L2.VE.andF, L2.VE.orF, L2.VE.kIfE, L2.VE.kSl, L2.VE.slK0, L2.VE.kPS, L2.VE.kCons, L2.VE.consK, L2.VE.kL, L2.VE.kDs, L2.VE.kSet, L2.VE.setF, L2.VE.kSeq, L2.VE.kDrop, L2.VE.kRet, L2.VE.kIf, L2.VE.kM, L2.VE.kMut, L2.VE.kMv, L2.VE.kMet, L2.VE.metF, L2.VE.kPutE, L2.VE.kPut, L2.VE.kAugE, L2.VE.augF1, L2.VE.kAugS, L2.VE.kFor, L2.VE.kLc, L2.VE.kItS, L2.VE.kItL, L2.VE.kItF, L2.VE.fRetN, L2.VE.fNext, L2.VE.fBreak, L2.VE.fCont, L2.VE.fIt, L2.VE.fRg1, L2.VE.fRg2, L2.VE.fK, L2.VE.fTst, L2.VE.fTru, L2.VE.fNil, L2.VE.fCallB, L2.VE.fPN, L2.VE.fFz, L2.VE.fFr, L2.VE.fLst, L2.VE.fTup, L2.VE.fIsi, L2.VE.fLr1, L2.VE.fYes, L2.VE.gNm, L2.VE.chkT, L2.VE.fCall, L2.VE.evDs.eq_1, L2.VE.c_optE1, L2.VE.c_lbo, L2.VE.c_optB, L2.VE.c_truO, L2.VE.c_unE1, L2.VE.c_unE2, L2.VE.c_unE3, L2.VE.c_fz1, L2.VE.c_fz2, L2.VE.c_fz3, L2.VE.c_fr1, L2.VE.c_fr2, L2.VE.c_fr3, L2.VE.c_set1, L2.VE.c_set2, L2.VE.c_tst, L2.VE.c_readS1, L2.VE.c_readS2, L2.VE.c_readS3, L2.VE.c_readS4, L2.VE.c_readS5, L2.VE.c_evD1, L2.VE.c_evD2, L2.VE.c_evD3, L2.VE.c_owD, L2.VE.c_chgS, L2.VE.c_mkLst, L2.VE.c_mkTup, L2.VE.c_allD0, L2.VE.c_allD1, L2.VE.c_rg1, L2.VE.c_rg2, L2.VE.c_lr1, L2.VE.c_lcE, L2.VE.c_lcU, L2.VE.c_isi, L2.VE.c_finT, L2.VE.c_unlkD, L2.VE.c_unlk, L2.VE.wipeD, L2.VE.restD, L2.VE.gLen, L2.VE.lenD, L2.VE.gInt, L2.VE.gAbs, L2.VE.gIx, L2.VE.gAdd, L2.VE.gSub, L2.VE.gNeg, L2.VE.gAddI, L2.VE.gSubI, L2.VE.gApp, L2.VE.gSl, L2.VE.gSet, L2.VE.gGet, L2.VE.gIsN, L2.VE.gNotN, L2.VE.isNonD, L2.VE.seqD, L2.VE.gList, L2.VE.lsD, List.getElem?_cons_zero, List.getElem?_cons_succ, List.set_cons_zero, List.set_cons_succ, List.length_cons, List.length_nil, Nat.zero_add, Nat.reduceAdd, L2.VE.op2l.eq_1, L2.VE.op2l.eq_2, L2.VE.op2l.eq_3, L2.VE.op2k.eq_1, L2.VE.op2k.eq_2, L2.VE.op2k.eq_3, L2.VE.fin2o.eq_1, L2.VE.fin2o.eq_2, L2.VE.fin1o.eq_1, L2.VE.fin1o.eq_2, L2.VE.notB.eq_1, L2.VE.notB.eq_2, L2.VE.notB.eq_3, L2.VE.andB.eq_1, L2.VE.andB.eq_2, L2.VE.andB.eq_3, L2.VE.andB.eq_4, L2.VE.orB.eq_1, L2.VE.orB.eq_2, L2.VE.orB.eq_3, L2.VE.orB.eq_4, L2.VE.notE.eq_1, L2.VE.notE.eq_2, L2.VE.andE.eq_1, L2.VE.andE.eq_2, L2.VE.andE.eq_3, L2.VE.orE.eq_1, L2.VE.orE.eq_2, L2.VE.orE.eq_3, L2.VE.ifE.eq_1, L2.VE.ifE.eq_2, L2.VE.ifE.eq_3, L2.VE.ifE.eq_4, L2.VE.slK2.eq_1, L2.VE.slK2.eq_2, L2.VE.slK2.eq_3, L2.VE.slK1.eq_1, L2.VE.slK1.eq_2, L2.VE.slK1.eq_3, L2.VE.psK.eq_1, L2.VE.psK.eq_2, L2.VE.psK.eq_3, L2.VE.consA.eq_1, L2.VE.consA.eq_2, L2.VE.consA.eq_3, L2.VE.finLo.eq_1, L2.VE.finLo.eq_2, L2.VE.evDo.eq_1, L2.VE.evDo.eq_2, L2.VE.setK.eq_1, L2.VE.setK.eq_2, L2.VE.setK.eq_3, L2.VE.seqK.eq_1, L2.VE.seqK.eq_2, L2.VE.seqK.eq_3, L2.VE.seqK.eq_4, L2.VE.seqK.eq_5, L2.VE.seqK.eq_6, L2.VE.dropK.eq_1, L2.VE.dropK.eq_2, L2.VE.dropK.eq_3, L2.VE.retK.eq_1, L2.VE.retK.eq_2, L2.VE.retK.eq_3, L2.VE.ifK.eq_1, L2.VE.ifK.eq_2, L2.VE.ifK.eq_3, L2.VE.ifK.eq_4, L2.VE.mutK.eq_1, L2.VE.mutK.eq_2, L2.VE.mutS.eq_1, L2.VE.mutS.eq_2, L2.VE.metO.eq_1, L2.VE.metO.eq_2, L2.VE.metK.eq_1, L2.VE.metK.eq_2, L2.VE.putO.eq_1, L2.VE.putO.eq_2, L2.VE.putK3.eq_1, L2.VE.putK3.eq_2, L2.VE.putK2.eq_1, L2.VE.putK2.eq_2, L2.VE.putK1.eq_1, L2.VE.putK1.eq_2, L2.VE.putK1.eq_3, L2.VE.augK.eq_1, L2.VE.augK.eq_2, L2.VE.augF3.eq_1, L2.VE.augF3.eq_2, L2.VE.augF2.eq_1, L2.VE.augF2.eq_2, L2.VE.augF0.eq_1, L2.VE.augF0.eq_2, L2.VE.forK.eq_1, L2.VE.forK.eq_2, L2.VE.forK.eq_3, L2.VE.forK.eq_4, L2.VE.forK2.eq_1, L2.VE.forK2.eq_2, L2.VE.forK2.eq_3, L2.VE.forK2.eq_4, L2.VE.lcK.eq_1, L2.VE.lcK.eq_2, L2.VE.lcK.eq_3, L2.VE.lcK.eq_4, L2.VE.lcK2.eq_1, L2.VE.lcK2.eq_2, L2.VE.lcK2.eq_3, L2.VE.lcK2.eq_4, L2.VE.itO.eq_1, L2.VE.itO.eq_2, L2.VE.itO.eq_3, L2.VE.itO.eq_4, L2.VE.itO.eq_5, L2.VE.fzO.eq_1, L2.VE.fzO.eq_2, L2.VE.fzO.eq_3, L2.VE.owO.eq_1, L2.VE.owO.eq_2, L2.VE.owO.eq_3, L2.VE.chgO.eq_1, L2.VE.chgO.eq_2, L2.VE.chgO.eq_3, L2.VE.lstO.eq_1, L2.VE.lstO.eq_2, L2.VE.tupO.eq_1, L2.VE.tupO.eq_2, L2.VE.allO.eq_1, L2.VE.allO.eq_2, L2.VE.lcUo.eq_1, L2.VE.lcUo.eq_2, L2.VE.isiO.eq_1, L2.VE.isiO.eq_2, L2.VE.finTo.eq_1, L2.VE.finTo.eq_2, L2.VE.unlkO.eq_1, L2.VE.unlkO.eq_2, L2.VE.unlkN.eq_1, L2.VE.unlkN.eq_2, L2.VE.ER.bind.eq_1, L2.VE.ER.bind.eq_2, L2.VE.ER.bind.eq_3, L2.VE.ER.bindB.eq_1, L2.VE.ER.bindB.eq_2, L2.VE.ER.bindB.eq_3, L2.VE.ER.bindA.eq_1, L2.VE.ER.bindA.eq_2, L2.VE.ER.bindA.eq_3, L2.VE.ER.bindS.eq_1, L2.VE.ER.bindS.eq_2, L2.VE.ER.bindS.eq_3, L2.VE.BR.bind.eq_1, L2.VE.BR.bind.eq_2, L2.VE.BR.bind.eq_3, L2.VE.BR.bindE.eq_1, L2.VE.BR.bindE.eq_2, L2.VE.BR.bindE.eq_3, L2.VE.BR.bindS.eq_1, L2.VE.BR.bindS.eq_2, L2.VE.BR.bindS.eq_3, L2.VE.AR.bind.eq_1, L2.VE.AR.bind.eq_2, L2.VE.AR.bind.eq_3, L2.VE.AR.bindE.eq_1, L2.VE.AR.bindE.eq_2, L2.VE.AR.bindE.eq_3, L2.VE.AR.bindS.eq_1, L2.VE.AR.bindS.eq_2, L2.VE.AR.bindS.eq_3, L2.VE.ER.bindI.eq_1, L2.VE.ER.bindI.eq_2, L2.VE.ER.bindI.eq_3, L2.VE.AR.bindI.eq_1, L2.VE.AR.bindI.eq_2, L2.VE.AR.bindI.eq_3, L2.VE.slotD.eq_1, L2.VE.slotD.eq_2, L2.VE.slotD.eq_3, L2.VE.slotD.eq_4, L2.VE.slotD.eq_5, L2.VE.slotD.eq_6, reduceIte, e__law_feed, e4]
  rfl
theorem fac_loop {S F s2 s6 : L2.VE.Slot} {l : Nat} (h : l < 8) : ∃ s5, fForGo chkT (gNm 5) bF_law_2 (rangeD 1 (1 + (l : Int) - 1).toNat) [S, F, s2, .d (.int (1 + (l : Int))), .d (.int (1)), .un, s6] = .nx [S, F, s2, .d (.int (1 + (l : Int))), .d (.int (facI l)), s5, s6] := by
  have : l = 0 ∨ l = 1 ∨ l = 2 ∨ l = 3 ∨ l = 4 ∨ l = 5 ∨ l = 6 ∨ l = 7 := by omega
  rcases this with rfl | rfl | rfl | rfl | rfl | rfl | rfl | rfl <;> exact ⟨_, rfl⟩
theorem law_true (ns : List Int) (hl : ns.length ≤ 63) : ∃ δ', e_law (padS 7 [.d (.sl (ns.map .int))]) = .rt (.d (.bl true)) δ' := by
  have f0 : FdOk (fdD ns 0 0 1) := ⟨ns, 0, 0, 1, rfl, by decide, by decide, by decide⟩
  obtain ⟨δ1, h1, F1, s2, s3, s6, ok1, rfl⟩ := forGo_P (chk := chkT) (tg := gNm 2) (body := bF_law_1) (ds := rangeD 0 6)
    (P := fun t δ => ∃ F s2 s3 s6, FdOk F ∧ δ = [.d ((.sl (ns.map .int))), .ow (F), s2, s3, .un, .un, s6]) (fun _ _ _ => rfl) (by
      rintro t δ x hx ⟨F, s2, s3, s6, okF, rfl⟩
      obtain ⟨i, hi, rfl⟩ := rangeD_mem (List.mem_of_getElem? hx)
      obtain ⟨r1, F1, ok1, a1, b1, d1⟩ := draw okF (m := 6) (by decide) (by decide)
      obtain ⟨r2, F2, ok2, a2, b2, d2⟩ := draw ok1 (m := 8) (by decide) (by decide)
      by_cases hz : (0 : Int) + (i : Int) = 0
      · obtain ⟨r3, F3, ok3, a3, b3, d3⟩ := draw ok2 (m := 7) (by decide) (by decide)
        obtain ⟨a, b, hab, p1, p2, p3, p4⟩ : ∃ a b, atI [D.tup [D.int 4, D.int 5], D.tup [D.int 3, D.int 6], D.tup [D.int 3, D.int 7], D.tup [D.int 5, D.int 4], D.tup [D.int 3, D.int 8], D.tup [D.int 6, D.int 3], D.tup [D.int 3, D.int 5]] r3 = some (.tup [.int a, .int b]) ∧ 1 ≤ a ∧ a ≤ 6 ∧ 1 ≤ b ∧ b ≤ 8 := by
          have : r3 = 0 ∨ r3 = 1 ∨ r3 = 2 ∨ r3 = 3 ∨ r3 = 4 ∨ r3 = 5 ∨ r3 = 6 := by omega
          rcases this with rfl | rfl | rfl | rfl | rfl | rfl | rfl <;> exact ⟨_, _, rfl, by decide, by decide, by decide, by decide⟩
        obtain ⟨v, t1, t2⟩ := told_due p1 p2 p3 p4
        refine ⟨_, [.d ((.sl (ns.map .int))), .ow (F3), .d ((.int (0 + (i : Int)))), .d (.int (b)), .un, .un, .d (.int (a))], rfl, ?_, F3, _, _, _, ok3, rfl⟩
        simp (disch := omega) only [L2.VE.kAsgT, L2.VE.c_asg, L2.VE.asgO.eq_1, L2.VE.asgO.eq_2, L2.VE.c_tsC, L2.VE.tsO.eq_1, L2.VE.tsO.eq_2, L2.VE.c_ts0, L2.VE.gTp.eq_1, eq_self, L2.VE.kPar, L2.VE.parF1, L2.VE.parF2, L2.VE.parF3, L2.VE.c_par1, L2.VE.c_par2, L2.VE.kTry, L2.VE.tryK.eq_1, L2.VE.tryK.eq_2, L2.VE.tryK.eq_3, L2.VE.tryK.eq_4, L2.VE.tryK.eq_5, L2.VE.tryK.eq_6, L2.VE.tryX.eq_1, L2.VE.tryX.eq_2, L2.VE.tryX.eq_3, L2.VE.c_unX, L2.VE.aftR.eq_1, L2.VE.aftN.eq_1, L2.VE.aftB.eq_1, L2.VE.aftC.eq_1, L2.VE.c_aftR, L2.VE.c_aftN, L2.VE.c_aftB, L2.VE.c_aftC, L2.VE.c_nox0, L2.VE.c_nox1, L2.VE.isXc.eq_1, L2.VE.isXc.eq_2, L2.VE.kRaise, L2.VE.raiseE, L2.VE.fXat, L2.VE.xatO, L2.VE.fIsX, Bool.and_true, Bool.and_false, Bool.true_and, Bool.false_and, Bool.not_true, Bool.not_false, L2.VE.kV, L2.VE.k2, L2.VE.kOp2, L2.VE.k1, L2.VE.kOp1, L2.VE.kLb, L2.VE.kTru, L2.VE.kTNot, L2.VE.kTAnd, L2.VE.kTOr, L2.VE.kNotV, L2.VE.notF, L2.VE.kAndV, L2.VE.kOrV, L2.VE.andF, L2.VE.orF, L2.VE.kIfE, L2.VE.kSl, L2.VE.slK0, L2.VE.kPS, L2.VE.kCons, L2.VE.consK, L2.VE.kL, L2.VE.kDs, L2.VE.kSet, L2.VE.setF, L2.VE.kSeq, L2.VE.kDrop, L2.VE.kRet, L2.VE.kIf, L2.VE.kM, L2.VE.kMut, L2.VE.kMv, L2.VE.kMet, L2.VE.metF, L2.VE.kPutE, L2.VE.kPut, L2.VE.kAugE, L2.VE.augF1, L2.VE.kAugS, L2.VE.kFor, L2.VE.kLc, L2.VE.kItS, L2.VE.kItL, L2.VE.kItF, L2.VE.fRetN, L2.VE.fNext, L2.VE.fBreak, L2.VE.fCont, L2.VE.fIt, L2.VE.fRg1, L2.VE.fRg2, L2.VE.fK, L2.VE.fTst, L2.VE.fTru, L2.VE.fNil, L2.VE.fCallB, L2.VE.fPN, L2.VE.fFz, L2.VE.fFr, L2.VE.fLst, L2.VE.fTup, L2.VE.fIsi, L2.VE.fLr1, L2.VE.fYes, L2.VE.gNm, L2.VE.chkT, L2.VE.fCall, L2.VE.evDs.eq_1, L2.VE.c_optE1, L2.VE.c_lbo, L2.VE.c_optB, L2.VE.c_truO, L2.VE.c_unE1, L2.VE.c_unE2, L2.VE.c_unE3, L2.VE.c_fz1, L2.VE.c_fz2, L2.VE.c_fz3, L2.VE.c_fr1, L2.VE.c_fr2, L2.VE.c_fr3, L2.VE.c_set1, L2.VE.c_set2, L2.VE.c_tst, L2.VE.c_readS1, L2.VE.c_readS2, L2.VE.c_readS3, L2.VE.c_readS4, L2.VE.c_readS5, L2.VE.c_evD1, L2.VE.c_evD2, L2.VE.c_evD3, L2.VE.c_owD, L2.VE.c_chgS, L2.VE.c_mkLst, L2.VE.c_mkTup, L2.VE.c_allD0, L2.VE.c_allD1, L2.VE.c_rg1, L2.VE.c_rg2, L2.VE.c_lr1, L2.VE.c_lcE, L2.VE.c_lcU, L2.VE.c_isi, L2.VE.c_finT, L2.VE.c_unlkD, L2.VE.c_unlk, L2.VE.wipeD, L2.VE.restD, L2.VE.gLen, L2.VE.lenD, L2.VE.gInt, L2.VE.gAbs, L2.VE.gIx, L2.VE.gAdd, L2.VE.gSub, L2.VE.gNeg, L2.VE.gAddI, L2.VE.gSubI, L2.VE.gApp, L2.VE.gSl, L2.VE.gSet, L2.VE.gGet, L2.VE.gIsN, L2.VE.gNotN, L2.VE.isNonD, L2.VE.seqD, L2.VE.gList, L2.VE.lsD, List.getElem?_cons_zero, List.getElem?_cons_succ, List.set_cons_zero, List.set_cons_succ, List.length_cons, List.length_nil, Nat.zero_add, Nat.reduceAdd, L2.VE.op2l.eq_1, L2.VE.op2l.eq_2, L2.VE.op2l.eq_3, L2.VE.op2k.eq_1, L2.VE.op2k.eq_2, L2.VE.op2k.eq_3, L2.VE.fin2o.eq_1, L2.VE.fin2o.eq_2, L2.VE.fin1o.eq_1, L2.VE.fin1o.eq_2, L2.VE.notB.eq_1, L2.VE.notB.eq_2, L2.VE.notB.eq_3, L2.VE.andB.eq_1, L2.VE.andB.eq_2, L2.VE.andB.eq_3, L2.VE.andB.eq_4, L2.VE.orB.eq_1, L2.VE.orB.eq_2, L2.VE.orB.eq_3, L2.VE.orB.eq_4, L2.VE.notE.eq_1, L2.VE.notE.eq_2, L2.VE.andE.eq_1, L2.VE.andE.eq_2, L2.VE.andE.eq_3, L2.VE.orE.eq_1, L2.VE.orE.eq_2, L2.VE.orE.eq_3, L2.VE.ifE.eq_1, L2.VE.ifE.eq_2, L2.VE.ifE.eq_3, L2.VE.ifE.eq_4, L2.VE.slK2.eq_1, L2.VE.slK2.eq_2, L2.VE.slK2.eq_3, L2.VE.slK1.eq_1, L2.VE.slK1.eq_2, L2.VE.slK1.eq_3, L2.VE.psK.eq_1, L2.VE.psK.eq_2, L2.VE.psK.eq_3, L2.VE.consA.eq_1, L2.VE.consA.eq_2, L2.VE.consA.eq_3, L2.VE.finLo.eq_1, L2.VE.finLo.eq_2, L2.VE.evDo.eq_1, L2.VE.evDo.eq_2, L2.VE.setK.eq_1, L2.VE.setK.eq_2, L2.VE.setK.eq_3, L2.VE.seqK.eq_1, L2.VE.seqK.eq_2, L2.VE.seqK.eq_3, L2.VE.seqK.eq_4, L2.VE.seqK.eq_5, L2.VE.seqK.eq_6, L2.VE.dropK.eq_1, L2.VE.dropK.eq_2, L2.VE.dropK.eq_3, L2.VE.retK.eq_1, L2.VE.retK.eq_2, L2.VE.retK.eq_3, L2.VE.ifK.eq_1, L2.VE.ifK.eq_2, L2.VE.ifK.eq_3, L2.VE.ifK.eq_4, L2.VE.mutK.eq_1, L2.VE.mutK.eq_2, L2.VE.mutS.eq_1, L2.VE.mutS.eq_2, L2.VE.metO.eq_1, L2.VE.metO.eq_2, L2.VE.metK.eq_1, L2.VE.metK.eq_2, L2.VE.putO.eq_1, L2.VE.putO.eq_2, L2.VE.putK3.eq_1, L2.VE.putK3.eq_2, L2.VE.putK2.eq_1, L2.VE.putK2.eq_2, L2.VE.putK1.eq_1, L2.VE.putK1.eq_2, L2.VE.putK1.eq_3, L2.VE.augK.eq_1, L2.VE.augK.eq_2, L2.VE.augF3.eq_1, L2.VE.augF3.eq_2, L2.VE.augF2.eq_1, L2.VE.augF2.eq_2, L2.VE.augF0.eq_1, L2.VE.augF0.eq_2, L2.VE.forK.eq_1, L2.VE.forK.eq_2, L2.VE.forK.eq_3, L2.VE.forK.eq_4, L2.VE.forK2.eq_1, L2.VE.forK2.eq_2, L2.VE.forK2.eq_3, L2.VE.forK2.eq_4, L2.VE.lcK.eq_1, L2.VE.lcK.eq_2, L2.VE.lcK.eq_3, L2.VE.lcK.eq_4, L2.VE.lcK2.eq_1, L2.VE.lcK2.eq_2, L2.VE.lcK2.eq_3, L2.VE.lcK2.eq_4, L2.VE.itO.eq_1, L2.VE.itO.eq_2, L2.VE.itO.eq_3, L2.VE.itO.eq_4, L2.VE.itO.eq_5, L2.VE.fzO.eq_1, L2.VE.fzO.eq_2, L2.VE.fzO.eq_3, L2.VE.owO.eq_1, L2.VE.owO.eq_2, L2.VE.owO.eq_3, L2.VE.chgO.eq_1, L2.VE.chgO.eq_2, L2.VE.chgO.eq_3, L2.VE.lstO.eq_1, L2.VE.lstO.eq_2, L2.VE.tupO.eq_1, L2.VE.tupO.eq_2, L2.VE.allO.eq_1, L2.VE.allO.eq_2, L2.VE.lcUo.eq_1, L2.VE.lcUo.eq_2, L2.VE.isiO.eq_1, L2.VE.isiO.eq_2, L2.VE.finTo.eq_1, L2.VE.finTo.eq_2, L2.VE.unlkO.eq_1, L2.VE.unlkO.eq_2, L2.VE.unlkN.eq_1, L2.VE.unlkN.eq_2, L2.VE.ER.bind.eq_1, L2.VE.ER.bind.eq_2, L2.VE.ER.bind.eq_3, L2.VE.ER.bindB.eq_1, L2.VE.ER.bindB.eq_2, L2.VE.ER.bindB.eq_3, L2.VE.ER.bindA.eq_1, L2.VE.ER.bindA.eq_2, L2.VE.ER.bindA.eq_3, L2.VE.ER.bindS.eq_1, L2.VE.ER.bindS.eq_2, L2.VE.ER.bindS.eq_3, L2.VE.BR.bind.eq_1, L2.VE.BR.bind.eq_2, L2.VE.BR.bind.eq_3, L2.VE.BR.bindE.eq_1, L2.VE.BR.bindE.eq_2, L2.VE.BR.bindE.eq_3, L2.VE.BR.bindS.eq_1, L2.VE.BR.bindS.eq_2, L2.VE.BR.bindS.eq_3, L2.VE.AR.bind.eq_1, L2.VE.AR.bind.eq_2, L2.VE.AR.bind.eq_3, L2.VE.AR.bindE.eq_1, L2.VE.AR.bindE.eq_2, L2.VE.AR.bindE.eq_3, L2.VE.AR.bindS.eq_1, L2.VE.AR.bindS.eq_2, L2.VE.AR.bindS.eq_3, L2.VE.ER.bindI.eq_1, L2.VE.ER.bindI.eq_2, L2.VE.ER.bindI.eq_3, L2.VE.AR.bindI.eq_1, L2.VE.AR.bindI.eq_2, L2.VE.AR.bindI.eq_3, L2.VE.slotD.eq_1, L2.VE.slotD.eq_2, L2.VE.slotD.eq_3, L2.VE.slotD.eq_4, L2.VE.slotD.eq_5, L2.VE.slotD.eq_6, reduceIte, L2.VE.c_rg1', L2.VE.c_rg2', L2.VE.c_lr1', L2.VE.gMul_r, L2.VE.gMul_l, L2.VE.gMod_p, L2.VE.gEq_i, L2.VE.gNe_i, L2.VE.gLt_i, L2.VE.gLe_i, L2.VE.gGt_i, L2.VE.gGe_i, L2.VE.beq_i, L2.VE.beq_n, decide_eq_true, decide_eq_false, if_pos, if_neg, L2.VE.szl, decide_true, decide_false, if_true, if_false, List.length_map, List.length_append, L2.VE.truD.eq_1, L2.VE.truD.eq_2, L2.VE.truD.eq_3, and_self, and_true, true_and, bF_law_1, d1, d2, d3, hz, hab, t1, t2, same_x (ok_oD v)]
      · obtain ⟨v, t1, t2⟩ := told_due (a := 1 + r1) (b := 1 + r2) (by omega) (by omega) (by omega) (by omega)
        refine ⟨_, [.d ((.sl (ns.map .int))), .ow (F2), .d ((.int (0 + (i : Int)))), .d (.int (1 + r2)), .un, .un, .d (.int (1 + r1))], rfl, ?_, F2, _, _, _, ok2, rfl⟩
        simp (disch := omega) only [L2.VE.kAsgT, L2.VE.c_asg, L2.VE.asgO.eq_1, L2.VE.asgO.eq_2, L2.VE.c_tsC, L2.VE.tsO.eq_1, L2.VE.tsO.eq_2, L2.VE.c_ts0, L2.VE.gTp.eq_1, eq_self, L2.VE.kPar, L2.VE.parF1, L2.VE.parF2, L2.VE.parF3, L2.VE.c_par1, L2.VE.c_par2, L2.VE.kTry, L2.VE.tryK.eq_1, L2.VE.tryK.eq_2, L2.VE.tryK.eq_3, L2.VE.tryK.eq_4, L2.VE.tryK.eq_5, L2.VE.tryK.eq_6, L2.VE.tryX.eq_1, L2.VE.tryX.eq_2, L2.VE.tryX.eq_3, L2.VE.c_unX, L2.VE.aftR.eq_1, L2.VE.aftN.eq_1, L2.VE.aftB.eq_1, L2.VE.aftC.eq_1, L2.VE.c_aftR, L2.VE.c_aftN, L2.VE.c_aftB, L2.VE.c_aftC, L2.VE.c_nox0, L2.VE.c_nox1, L2.VE.isXc.eq_1, L2.VE.isXc.eq_2, L2.VE.kRaise, L2.VE.raiseE, L2.VE.fXat, L2.VE.xatO, L2.VE.fIsX, Bool.and_true, Bool.and_false, Bool.true_and, Bool.false_and, Bool.not_true, Bool.not_false, L2.VE.kV, L2.VE.k2, L2.VE.kOp2, L2.VE.k1, L2.VE.kOp1, L2.VE.kLb, L2.VE.kTru, L2.VE.kTNot, L2.VE.kTAnd, L2.VE.kTOr, L2.VE.kNotV, L2.VE.notF, L2.VE.kAndV, L2.VE.kOrV, L2.VE.andF, L2.VE.orF, L2.VE.kIfE, L2.VE.kSl, L2.VE.slK0, L2.VE.kPS, L2.VE.kCons, L2.VE.consK, L2.VE.kL, L2.VE.kDs, L2.VE.kSet, L2.VE.setF, L2.VE.kSeq, L2.VE.kDrop, L2.VE.kRet, L2.VE.kIf, L2.VE.kM, L2.VE.kMut, L2.VE.kMv, L2.VE.kMet, L2.VE.metF, L2.VE.kPutE, L2.VE.kPut, L2.VE.kAugE, L2.VE.augF1, L2.VE.kAugS, L2.VE.kFor, L2.VE.kLc, L2.VE.kItS, L2.VE.kItL, L2.VE.kItF, L2.VE.fRetN, L2.VE.fNext, L2.VE.fBreak, L2.VE.fCont, L2.VE.fIt, L2.VE.fRg1, L2.VE.fRg2, L2.VE.fK, L2.VE.fTst, L2.VE.fTru, L2.VE.fNil, L2.VE.fCallB, L2.VE.fPN, L2.VE.fFz, L2.VE.fFr, L2.VE.fLst, L2.VE.fTup, L2.VE.fIsi, L2.VE.fLr1, L2.VE.fYes, L2.VE.gNm, L2.VE.chkT, L2.VE.fCall, L2.VE.evDs.eq_1, L2.VE.c_optE1, L2.VE.c_lbo, L2.VE.c_optB, L2.VE.c_truO, L2.VE.c_unE1, L2.VE.c_unE2, L2.VE.c_unE3, L2.VE.c_fz1, L2.VE.c_fz2, L2.VE.c_fz3, L2.VE.c_fr1, L2.VE.c_fr2, L2.VE.c_fr3, L2.VE.c_set1, L2.VE.c_set2, L2.VE.c_tst, L2.VE.c_readS1, L2.VE.c_readS2, L2.VE.c_readS3, L2.VE.c_readS4, L2.VE.c_readS5, L2.VE.c_evD1, L2.VE.c_evD2, L2.VE.c_evD3, L2.VE.c_owD, L2.VE.c_chgS, L2.VE.c_mkLst, L2.VE.c_mkTup, L2.VE.c_allD0, L2.VE.c_allD1, L2.VE.c_rg1, L2.VE.c_rg2, L2.VE.c_lr1, L2.VE.c_lcE, L2.VE.c_lcU, L2.VE.c_isi, L2.VE.c_finT, L2.VE.c_unlkD, L2.VE.c_unlk, L2.VE.wipeD, L2.VE.restD, L2.VE.gLen, L2.VE.lenD, L2.VE.gInt, L2.VE.gAbs, L2.VE.gIx, L2.VE.gAdd, L2.VE.gSub, L2.VE.gNeg, L2.VE.gAddI, L2.VE.gSubI, L2.VE.gApp, L2.VE.gSl, L2.VE.gSet, L2.VE.gGet, L2.VE.gIsN, L2.VE.gNotN, L2.VE.isNonD, L2.VE.seqD, L2.VE.gList, L2.VE.lsD, List.getElem?_cons_zero, List.getElem?_cons_succ, List.set_cons_zero, List.set_cons_succ, List.length_cons, List.length_nil, Nat.zero_add, Nat.reduceAdd, L2.VE.op2l.eq_1, L2.VE.op2l.eq_2, L2.VE.op2l.eq_3, L2.VE.op2k.eq_1, L2.VE.op2k.eq_2, L2.VE.op2k.eq_3, L2.VE.fin2o.eq_1, L2.VE.fin2o.eq_2, L2.VE.fin1o.eq_1, L2.VE.fin1o.eq_2, L2.VE.notB.eq_1, L2.VE.notB.eq_2, L2.VE.notB.eq_3, L2.VE.andB.eq_1, L2.VE.andB.eq_2, L2.VE.andB.eq_3, L2.VE.andB.eq_4, L2.VE.orB.eq_1, L2.VE.orB.eq_2, L2.VE.orB.eq_3, L2.VE.orB.eq_4, L2.VE.notE.eq_1, L2.VE.notE.eq_2, L2.VE.andE.eq_1, L2.VE.andE.eq_2, L2.VE.andE.eq_3, L2.VE.orE.eq_1, L2.VE.orE.eq_2, L2.VE.orE.eq_3, L2.VE.ifE.eq_1, L2.VE.ifE.eq_2, L2.VE.ifE.eq_3, L2.VE.ifE.eq_4, L2.VE.slK2.eq_1, L2.VE.slK2.eq_2, L2.VE.slK2.eq_3, L2.VE.slK1.eq_1, L2.VE.slK1.eq_2, L2.VE.slK1.eq_3, L2.VE.psK.eq_1, L2.VE.psK.eq_2, L2.VE.psK.eq_3, L2.VE.consA.eq_1, L2.VE.consA.eq_2, L2.VE.consA.eq_3, L2.VE.finLo.eq_1, L2.VE.finLo.eq_2, L2.VE.evDo.eq_1, L2.VE.evDo.eq_2, L2.VE.setK.eq_1, L2.VE.setK.eq_2, L2.VE.setK.eq_3, L2.VE.seqK.eq_1, L2.VE.seqK.eq_2, L2.VE.seqK.eq_3, L2.VE.seqK.eq_4, L2.VE.seqK.eq_5, L2.VE.seqK.eq_6, L2.VE.dropK.eq_1, L2.VE.dropK.eq_2, L2.VE.dropK.eq_3, L2.VE.retK.eq_1, L2.VE.retK.eq_2, L2.VE.retK.eq_3, L2.VE.ifK.eq_1, L2.VE.ifK.eq_2, L2.VE.ifK.eq_3, L2.VE.ifK.eq_4, L2.VE.mutK.eq_1, L2.VE.mutK.eq_2, L2.VE.mutS.eq_1, L2.VE.mutS.eq_2, L2.VE.metO.eq_1, L2.VE.metO.eq_2, L2.VE.metK.eq_1, L2.VE.metK.eq_2, L2.VE.putO.eq_1, L2.VE.putO.eq_2, L2.VE.putK3.eq_1, L2.VE.putK3.eq_2, L2.VE.putK2.eq_1, L2.VE.putK2.eq_2, L2.VE.putK1.eq_1, L2.VE.putK1.eq_2, L2.VE.putK1.eq_3, L2.VE.augK.eq_1, L2.VE.augK.eq_2, L2.VE.augF3.eq_1, L2.VE.augF3.eq_2, L2.VE.augF2.eq_1, L2.VE.augF2.eq_2, L2.VE.augF0.eq_1, L2.VE.augF0.eq_2, L2.VE.forK.eq_1, L2.VE.forK.eq_2, L2.VE.forK.eq_3, L2.VE.forK.eq_4, L2.VE.forK2.eq_1, L2.VE.forK2.eq_2, L2.VE.forK2.eq_3, L2.VE.forK2.eq_4, L2.VE.lcK.eq_1, L2.VE.lcK.eq_2, L2.VE.lcK.eq_3, L2.VE.lcK.eq_4, L2.VE.lcK2.eq_1, L2.VE.lcK2.eq_2, L2.VE.lcK2.eq_3, L2.VE.lcK2.eq_4, L2.VE.itO.eq_1, L2.VE.itO.eq_2, L2.VE.itO.eq_3, L2.VE.itO.eq_4, L2.VE.itO.eq_5, L2.VE.fzO.eq_1, L2.VE.fzO.eq_2, L2.VE.fzO.eq_3, L2.VE.owO.eq_1, L2.VE.owO.eq_2, L2.VE.owO.eq_3, L2.VE.chgO.eq_1, L2.VE.chgO.eq_2, L2.VE.chgO.eq_3, L2.VE.lstO.eq_1, L2.VE.lstO.eq_2, L2.VE.tupO.eq_1, L2.VE.tupO.eq_2, L2.VE.allO.eq_1, L2.VE.allO.eq_2, L2.VE.lcUo.eq_1, L2.VE.lcUo.eq_2, L2.VE.isiO.eq_1, L2.VE.isiO.eq_2, L2.VE.finTo.eq_1, L2.VE.finTo.eq_2, L2.VE.unlkO.eq_1, L2.VE.unlkO.eq_2, L2.VE.unlkN.eq_1, L2.VE.unlkN.eq_2, L2.VE.ER.bind.eq_1, L2.VE.ER.bind.eq_2, L2.VE.ER.bind.eq_3, L2.VE.ER.bindB.eq_1, L2.VE.ER.bindB.eq_2, L2.VE.ER.bindB.eq_3, L2.VE.ER.bindA.eq_1, L2.VE.ER.bindA.eq_2, L2.VE.ER.bindA.eq_3, L2.VE.ER.bindS.eq_1, L2.VE.ER.bindS.eq_2, L2.VE.ER.bindS.eq_3, L2.VE.BR.bind.eq_1, L2.VE.BR.bind.eq_2, L2.VE.BR.bind.eq_3, L2.VE.BR.bindE.eq_1, L2.VE.BR.bindE.eq_2, L2.VE.BR.bindE.eq_3, L2.VE.BR.bindS.eq_1, L2.VE.BR.bindS.eq_2, L2.VE.BR.bindS.eq_3, L2.VE.AR.bind.eq_1, L2.VE.AR.bind.eq_2, L2.VE.AR.bind.eq_3, L2.VE.AR.bindE.eq_1, L2.VE.AR.bindE.eq_2, L2.VE.AR.bindE.eq_3, L2.VE.AR.bindS.eq_1, L2.VE.AR.bindS.eq_2, L2.VE.AR.bindS.eq_3, L2.VE.ER.bindI.eq_1, L2.VE.ER.bindI.eq_2, L2.VE.ER.bindI.eq_3, L2.VE.AR.bindI.eq_1, L2.VE.AR.bindI.eq_2, L2.VE.AR.bindI.eq_3, L2.VE.slotD.eq_1, L2.VE.slotD.eq_2, L2.VE.slotD.eq_3, L2.VE.slotD.eq_4, L2.VE.slotD.eq_5, L2.VE.slotD.eq_6, reduceIte, L2.VE.c_rg1', L2.VE.c_rg2', L2.VE.c_lr1', L2.VE.gMul_r, L2.VE.gMul_l, L2.VE.gMod_p, L2.VE.gEq_i, L2.VE.gNe_i, L2.VE.gLt_i, L2.VE.gLe_i, L2.VE.gGt_i, L2.VE.gGe_i, L2.VE.beq_i, L2.VE.beq_n, decide_eq_true, decide_eq_false, if_pos, if_neg, L2.VE.szl, decide_true, decide_false, if_true, if_false, List.length_map, List.length_append, L2.VE.truD.eq_1, L2.VE.truD.eq_2, L2.VE.truD.eq_3, and_self, and_true, true_and, bF_law_1, d1, d2, hz, t1, t2, same_x (ok_oD v)])
    (δ := [.d ((.sl (ns.map .int))), .ow ((fdD ns 0 0 1)), .un, .un, .un, .un, .un]) ⟨_, _, _, _, f0, rfl⟩
  obtain ⟨r1, F2, ok2, a1, b1, d1⟩ := draw ok1 (m := 8) (by decide) (by decide)
  obtain ⟨a, b, hab, hm⟩ : ∃ a b, atI [D.tup [D.int 1, D.int 2], D.tup [D.int 2, D.int 2], D.tup [D.int 3, D.int 2], D.tup [D.int 4, D.int 2], D.tup [D.int 1, D.int 3], D.tup [D.int 2, D.int 3], D.tup [D.int 1, D.int 4], D.tup [D.int 1, D.int 5]] r1 = some (.tup [.int a, .int b]) ∧ (a, b) ∈ [((1 : Int), (2 : Int)), (2, 2), (3, 2), (4, 2), (1, 3), (2, 3), (1, 4), (1, 5)] := by
    have : r1 = 0 ∨ r1 = 1 ∨ r1 = 2 ∨ r1 = 3 ∨ r1 = 4 ∨ r1 = 5 ∨ r1 = 6 ∨ r1 = 7 := by omega
    rcases this with rfl | rfl | rfl | rfl | rfl | rfl | rfl | rfl <;> exact ⟨_, _, rfl, by decide⟩
  obtain ⟨v, t1, t2⟩ := told_found hm
  obtain ⟨r3, F3, ok3, a3, b3, d3⟩ := draw ok2 (m := 8) (by decide) (by decide)
  obtain ⟨l, rfl⟩ : ∃ l : Nat, r3 = (l : Int) := ⟨r3.toNat, by omega⟩
  obtain ⟨r4, F4, ok4, a4, b4, d4⟩ := draw ok3 (m := 6) (by decide) (by decide)
  obtain ⟨s, rfl⟩ : ∃ l : Nat, r4 = (l : Int) := ⟨r4.toNat, by omega⟩
  obtain ⟨s5, h5⟩ := fac_loop (l := l) (by omega) (S := .d (.sl (ns.map .int))) (F := .ow F3) (s2 := s2) (s6 := .d (.int a))
  have tl := told_one (l := l) (by omega)
  have ts := one_told (s := s) (by omega)
  show ∃ δ', e_law [.d ((.sl (ns.map .int))), .un, .un, .un, .un, .un, .un] = _
  apply Exists.intro
  simp (disch := omega) only [L2.VE.kAsgT, L2.VE.c_asg, L2.VE.asgO.eq_1, L2.VE.asgO.eq_2, L2.VE.c_tsC, L2.VE.tsO.eq_1, L2.VE.tsO.eq_2, L2.VE.c_ts0, L2.VE.gTp.eq_1, eq_self, L2.VE.kPar, L2.VE.parF1, L2.VE.parF2, L2.VE.parF3, L2.VE.c_par1, L2.VE.c_par2, L2.VE.kTry, L2.VE.tryK.eq_1, L2.VE.tryK.eq_2, L2.VE.tryK.eq_3, L2.VE.tryK.eq_4, L2.VE.tryK.eq_5, L2.VE.tryK.eq_6, L2.VE.tryX.eq_1, L2.VE.tryX.eq_2, L2.VE.tryX.eq_3, L2.VE.c_unX, L2.VE.aftR.eq_1, L2.VE.aftN.eq_1, L2.VE.aftB.eq_1, L2.VE.aftC.eq_1, L2.VE.c_aftR, L2.VE.c_aftN, L2.VE.c_aftB, L2.VE.c_aftC, L2.VE.c_nox0, L2.VE.c_nox1, L2.VE.isXc.eq_1, L2.VE.isXc.eq_2, L2.VE.kRaise, L2.VE.raiseE, L2.VE.fXat, L2.VE.xatO, L2.VE.fIsX, Bool.and_true, Bool.and_false, Bool.true_and, Bool.false_and, Bool.not_true, Bool.not_false, L2.VE.kV, L2.VE.k2, L2.VE.kOp2, L2.VE.k1, L2.VE.kOp1, L2.VE.kLb, L2.VE.kTru, L2.VE.kTNot, L2.VE.kTAnd, L2.VE.kTOr, L2.VE.kNotV, L2.VE.notF, L2.VE.kAndV, L2.VE.kOrV, L2.VE.andF, L2.VE.orF, L2.VE.kIfE, L2.VE.kSl, L2.VE.slK0, L2.VE.kPS, L2.VE.kCons, L2.VE.consK, L2.VE.kL, L2.VE.kDs, L2.VE.kSet, L2.VE.setF, L2.VE.kSeq, L2.VE.kDrop, L2.VE.kRet, L2.VE.kIf, L2.VE.kM, L2.VE.kMut, L2.VE.kMv, L2.VE.kMet, L2.VE.metF, L2.VE.kPutE, L2.VE.kPut, L2.VE.kAugE, L2.VE.augF1, L2.VE.kAugS, L2.VE.kFor, L2.VE.kLc, L2.VE.kItS, L2.VE.kItL, L2.VE.kItF, L2.VE.fRetN, L2.VE.fNext, L2.VE.fBreak, L2.VE.fCont, L2.VE.fIt, L2.VE.fRg1, L2.VE.fRg2, L2.VE.fK, L2.VE.fTst, L2.VE.fTru, L2.VE.fNil, L2.VE.fCallB, L2.VE.fPN, L2.VE.fFz, L2.VE.fFr, L2.VE.fLst, L2.VE.fTup, L2.VE.fIsi, L2.VE.fLr1, L2.VE.fYes, L2.VE.gNm, L2.VE.chkT, L2.VE.fCall, L2.VE.evDs.eq_1, L2.VE.c_optE1, L2.VE.c_lbo, L2.VE.c_optB, L2.VE.c_truO, L2.VE.c_unE1, L2.VE.c_unE2, L2.VE.c_unE3, L2.VE.c_fz1, L2.VE.c_fz2, L2.VE.c_fz3, L2.VE.c_fr1, L2.VE.c_fr2, L2.VE.c_fr3, L2.VE.c_set1, L2.VE.c_set2, L2.VE.c_tst, L2.VE.c_readS1, L2.VE.c_readS2, L2.VE.c_readS3, L2.VE.c_readS4, L2.VE.c_readS5, L2.VE.c_evD1, L2.VE.c_evD2, L2.VE.c_evD3, L2.VE.c_owD, L2.VE.c_chgS, L2.VE.c_mkLst, L2.VE.c_mkTup, L2.VE.c_allD0, L2.VE.c_allD1, L2.VE.c_rg1, L2.VE.c_rg2, L2.VE.c_lr1, L2.VE.c_lcE, L2.VE.c_lcU, L2.VE.c_isi, L2.VE.c_finT, L2.VE.c_unlkD, L2.VE.c_unlk, L2.VE.wipeD, L2.VE.restD, L2.VE.gLen, L2.VE.lenD, L2.VE.gInt, L2.VE.gAbs, L2.VE.gIx, L2.VE.gAdd, L2.VE.gSub, L2.VE.gNeg, L2.VE.gAddI, L2.VE.gSubI, L2.VE.gApp, L2.VE.gSl, L2.VE.gSet, L2.VE.gGet, L2.VE.gIsN, L2.VE.gNotN, L2.VE.isNonD, L2.VE.seqD, L2.VE.gList, L2.VE.lsD, List.getElem?_cons_zero, List.getElem?_cons_succ, List.set_cons_zero, List.set_cons_succ, List.length_cons, List.length_nil, Nat.zero_add, Nat.reduceAdd, L2.VE.op2l.eq_1, L2.VE.op2l.eq_2, L2.VE.op2l.eq_3, L2.VE.op2k.eq_1, L2.VE.op2k.eq_2, L2.VE.op2k.eq_3, L2.VE.fin2o.eq_1, L2.VE.fin2o.eq_2, L2.VE.fin1o.eq_1, L2.VE.fin1o.eq_2, L2.VE.notB.eq_1, L2.VE.notB.eq_2, L2.VE.notB.eq_3, L2.VE.andB.eq_1, L2.VE.andB.eq_2, L2.VE.andB.eq_3, L2.VE.andB.eq_4, L2.VE.orB.eq_1, L2.VE.orB.eq_2, L2.VE.orB.eq_3, L2.VE.orB.eq_4, L2.VE.notE.eq_1, L2.VE.notE.eq_2, L2.VE.andE.eq_1, L2.VE.andE.eq_2, L2.VE.andE.eq_3, L2.VE.orE.eq_1, L2.VE.orE.eq_2, L2.VE.orE.eq_3, L2.VE.ifE.eq_1, L2.VE.ifE.eq_2, L2.VE.ifE.eq_3, L2.VE.ifE.eq_4, L2.VE.slK2.eq_1, L2.VE.slK2.eq_2, L2.VE.slK2.eq_3, L2.VE.slK1.eq_1, L2.VE.slK1.eq_2, L2.VE.slK1.eq_3, L2.VE.psK.eq_1, L2.VE.psK.eq_2, L2.VE.psK.eq_3, L2.VE.consA.eq_1, L2.VE.consA.eq_2, L2.VE.consA.eq_3, L2.VE.finLo.eq_1, L2.VE.finLo.eq_2, L2.VE.evDo.eq_1, L2.VE.evDo.eq_2, L2.VE.setK.eq_1, L2.VE.setK.eq_2, L2.VE.setK.eq_3, L2.VE.seqK.eq_1, L2.VE.seqK.eq_2, L2.VE.seqK.eq_3, L2.VE.seqK.eq_4, L2.VE.seqK.eq_5, L2.VE.seqK.eq_6, L2.VE.dropK.eq_1, L2.VE.dropK.eq_2, L2.VE.dropK.eq_3, L2.VE.retK.eq_1, L2.VE.retK.eq_2, L2.VE.retK.eq_3, L2.VE.ifK.eq_1, L2.VE.ifK.eq_2, L2.VE.ifK.eq_3, L2.VE.ifK.eq_4, L2.VE.mutK.eq_1, L2.VE.mutK.eq_2, L2.VE.mutS.eq_1, L2.VE.mutS.eq_2, L2.VE.metO.eq_1, L2.VE.metO.eq_2, L2.VE.metK.eq_1, L2.VE.metK.eq_2, L2.VE.putO.eq_1, L2.VE.putO.eq_2, L2.VE.putK3.eq_1, L2.VE.putK3.eq_2, L2.VE.putK2.eq_1, L2.VE.putK2.eq_2, L2.VE.putK1.eq_1, L2.VE.putK1.eq_2, L2.VE.putK1.eq_3, L2.VE.augK.eq_1, L2.VE.augK.eq_2, L2.VE.augF3.eq_1, L2.VE.augF3.eq_2, L2.VE.augF2.eq_1, L2.VE.augF2.eq_2, L2.VE.augF0.eq_1, L2.VE.augF0.eq_2, L2.VE.forK.eq_1, L2.VE.forK.eq_2, L2.VE.forK.eq_3, L2.VE.forK.eq_4, L2.VE.forK2.eq_1, L2.VE.forK2.eq_2, L2.VE.forK2.eq_3, L2.VE.forK2.eq_4, L2.VE.lcK.eq_1, L2.VE.lcK.eq_2, L2.VE.lcK.eq_3, L2.VE.lcK.eq_4, L2.VE.lcK2.eq_1, L2.VE.lcK2.eq_2, L2.VE.lcK2.eq_3, L2.VE.lcK2.eq_4, L2.VE.itO.eq_1, L2.VE.itO.eq_2, L2.VE.itO.eq_3, L2.VE.itO.eq_4, L2.VE.itO.eq_5, L2.VE.fzO.eq_1, L2.VE.fzO.eq_2, L2.VE.fzO.eq_3, L2.VE.owO.eq_1, L2.VE.owO.eq_2, L2.VE.owO.eq_3, L2.VE.chgO.eq_1, L2.VE.chgO.eq_2, L2.VE.chgO.eq_3, L2.VE.lstO.eq_1, L2.VE.lstO.eq_2, L2.VE.tupO.eq_1, L2.VE.tupO.eq_2, L2.VE.allO.eq_1, L2.VE.allO.eq_2, L2.VE.lcUo.eq_1, L2.VE.lcUo.eq_2, L2.VE.isiO.eq_1, L2.VE.isiO.eq_2, L2.VE.finTo.eq_1, L2.VE.finTo.eq_2, L2.VE.unlkO.eq_1, L2.VE.unlkO.eq_2, L2.VE.unlkN.eq_1, L2.VE.unlkN.eq_2, L2.VE.ER.bind.eq_1, L2.VE.ER.bind.eq_2, L2.VE.ER.bind.eq_3, L2.VE.ER.bindB.eq_1, L2.VE.ER.bindB.eq_2, L2.VE.ER.bindB.eq_3, L2.VE.ER.bindA.eq_1, L2.VE.ER.bindA.eq_2, L2.VE.ER.bindA.eq_3, L2.VE.ER.bindS.eq_1, L2.VE.ER.bindS.eq_2, L2.VE.ER.bindS.eq_3, L2.VE.BR.bind.eq_1, L2.VE.BR.bind.eq_2, L2.VE.BR.bind.eq_3, L2.VE.BR.bindE.eq_1, L2.VE.BR.bindE.eq_2, L2.VE.BR.bindE.eq_3, L2.VE.BR.bindS.eq_1, L2.VE.BR.bindS.eq_2, L2.VE.BR.bindS.eq_3, L2.VE.AR.bind.eq_1, L2.VE.AR.bind.eq_2, L2.VE.AR.bind.eq_3, L2.VE.AR.bindE.eq_1, L2.VE.AR.bindE.eq_2, L2.VE.AR.bindE.eq_3, L2.VE.AR.bindS.eq_1, L2.VE.AR.bindS.eq_2, L2.VE.AR.bindS.eq_3, L2.VE.ER.bindI.eq_1, L2.VE.ER.bindI.eq_2, L2.VE.ER.bindI.eq_3, L2.VE.AR.bindI.eq_1, L2.VE.AR.bindI.eq_2, L2.VE.AR.bindI.eq_3, L2.VE.slotD.eq_1, L2.VE.slotD.eq_2, L2.VE.slotD.eq_3, L2.VE.slotD.eq_4, L2.VE.slotD.eq_5, L2.VE.slotD.eq_6, reduceIte, L2.VE.c_rg1', L2.VE.c_rg2', L2.VE.c_lr1', L2.VE.gMul_r, L2.VE.gMul_l, L2.VE.gMod_p, L2.VE.gEq_i, L2.VE.gNe_i, L2.VE.gLt_i, L2.VE.gLe_i, L2.VE.gGt_i, L2.VE.gGe_i, L2.VE.beq_i, L2.VE.beq_n, decide_eq_true, decide_eq_false, if_pos, if_neg, L2.VE.szl, decide_true, decide_false, if_true, if_false, List.length_map, List.length_append, L2.VE.truD.eq_1, L2.VE.truD.eq_2, L2.VE.truD.eq_3, and_self, and_true, true_and, e_law, law_feed_c, show (6 : Int).toNat = 6 from rfl, h1, d1, hab, t1, t2, same_x (ok_oD v), d3, h5, tl, d4, ts, same_x (x := .lst [.int (facI l), .int 1]) rfl]
  rfl
end LW

namespace LW
open PySem PySem.Spec PyProof.Rows L2 L2.VE
theorem all_mk {l : PySem.W.OpenLaw} {w : World} {K : PySem.W.Frag} {h : Heap} {mg : Str → Option Value} {fa : Addr} (X : K.In h) (G : h.Ns mainGlobals mg) (hfa : mg "law" = some (.ref fa))
    {f0 : Addr} {od0 an0 : Option Addr} {sl0 : Array (Option Value)} {oc0 kV0 dc0 pm0 cd0 ct0 : Value}
    {f1 : Addr} {od1 an1 : Option Addr} {sl1 : Array (Option Value)} {oc1 kV1 dc1 pm1 cd1 ct1 : Value}
    {f2 : Addr} {od2 an2 : Option Addr} {sl2 : Array (Option Value)} {oc2 kV2 dc2 pm2 cd2 ct2 : Value}
    {f3 : Addr} {od3 an3 : Option Addr} {sl3 : Array (Option Value)} {oc3 kV3 dc3 pm3 cd3 ct3 : Value}
    {f4 : Addr} {od4 an4 : Option Addr} {sl4 : Array (Option Value)} {oc4 kV4 dc4 pm4 cd4 ct4 : Value}
    {f5 : Addr} {od5 an5 : Option Addr} {sl5 : Array (Option Value)} {oc5 kV5 dc5 pm5 cd5 ct5 : Value}
    {f6 : Addr} {od6 an6 : Option Addr} {sl6 : Array (Option Value)} {oc6 kV6 dc6 pm6 cd6 ct6 : Value}
    {f7 : Addr} {od7 an7 : Option Addr} {sl7 : Array (Option Value)} {oc7 kV7 dc7 pm7 cd7 ct7 : Value}
    {f8 : Addr} {od8 an8 : Option Addr} {sl8 : Array (Option Value)} {oc8 kV8 dc8 pm8 cd8 ct8 : Value}
    {f9 : Addr} {od9 an9 : Option Addr} {sl9 : Array (Option Value)} {oc9 kV9 dc9 pm9 cd9 ct9 : Value}
    {C_BadWord : Addr}
    {C_TooMany : Addr}
    {B_TooMany_TurnError : Addr}
    {nm_TooMany q_TooMany : Str} {N_TooMany : Addr} {bs_TooMany : List Value} {sn_TooMany : List Str} {sub_TooMany : List Value} {ab_TooMany : Bool} {col_TooMany : Option Bool} {dd_TooMany : Option Addr} {m0_TooMany m1_TooMany m2_TooMany m3_TooMany m5_TooMany : Option Value}
    {I_TooMany : Addr} {od_TooMany an_TooMany : Option Addr} {sl_TooMany : Array (Option Value)} {oc_TooMany dc_TooMany pm_TooMany cd_TooMany ct_TooMany : Value}
    {C_TurnError : Addr}
    (a0 : PySem.W.nsIn K mainGlobals "power" = some (some (.ref f0))) (l0 : K.lookup f0 = some ⟨oc0, od0, .func (PySem.W.fnOf "power" "power" (defArgs s_power) (defBody s_power) (defScope s_power) .none kV0 dc0 pm0 an0 cd0 ct0), sl0⟩) (c0 : PySem.W.codeIn K cd0 "power" = true) (k0 : PySem.W.keepIn K (.ref f0) = true)
    (a1 : PySem.W.nsIn K mainGlobals "count_rounds_of" = some (some (.ref f1))) (l1 : K.lookup f1 = some ⟨oc1, od1, .func (PySem.W.fnOf "count_rounds_of" "count_rounds_of" (defArgs s_count_rounds_of) (defBody s_count_rounds_of) (defScope s_count_rounds_of) .none kV1 dc1 pm1 an1 cd1 ct1), sl1⟩) (c1 : PySem.W.codeIn K cd1 "count_rounds_of" = true) (k1 : PySem.W.keepIn K (.ref f1) = true)
    (a2 : PySem.W.nsIn K mainGlobals "_law_feed" = some (some (.ref f2))) (l2 : K.lookup f2 = some ⟨oc2, od2, .func (PySem.W.fnOf "_law_feed" "_law_feed" (defArgs s__law_feed) (defBody s__law_feed) (defScope s__law_feed) .none kV2 dc2 pm2 an2 cd2 ct2), sl2⟩) (c2 : PySem.W.codeIn K cd2 "_law_feed" = true) (k2 : PySem.W.keepIn K (.ref f2) = true)
    (a3 : PySem.W.nsIn K mainGlobals "_law_draw" = some (some (.ref f3))) (l3 : K.lookup f3 = some ⟨oc3, od3, .func (PySem.W.fnOf "_law_draw" "_law_draw" (defArgs s__law_draw) (defBody s__law_draw) (defScope s__law_draw) .none kV3 dc3 pm3 an3 cd3 ct3), sl3⟩) (c3 : PySem.W.codeIn K cd3 "_law_draw" = true) (k3 : PySem.W.keepIn K (.ref f3) = true)
    (a4 : PySem.W.nsIn K mainGlobals "_law_same" = some (some (.ref f4))) (l4 : K.lookup f4 = some ⟨oc4, od4, .func (PySem.W.fnOf "_law_same" "_law_same" (defArgs s__law_same) (defBody s__law_same) (defScope s__law_same) .none kV4 dc4 pm4 an4 cd4 ct4), sl4⟩) (c4 : PySem.W.codeIn K cd4 "_law_same" = true) (k4 : PySem.W.keepIn K (.ref f4) = true)
    (a5 : PySem.W.nsIn K mainGlobals "_law_told" = some (some (.ref f5))) (l5 : K.lookup f5 = some ⟨oc5, od5, .func (PySem.W.fnOf "_law_told" "_law_told" (defArgs s__law_told) (defBody s__law_told) (defScope s__law_told) .none kV5 dc5 pm5 an5 cd5 ct5), sl5⟩) (c5 : PySem.W.codeIn K cd5 "_law_told" = true) (k5 : PySem.W.keepIn K (.ref f5) = true)
    (a6 : PySem.W.nsIn K mainGlobals "_law_power" = some (some (.ref f6))) (l6 : K.lookup f6 = some ⟨oc6, od6, .func (PySem.W.fnOf "_law_power" "_law_power" (defArgs s__law_power) (defBody s__law_power) (defScope s__law_power) .none kV6 dc6 pm6 an6 cd6 ct6), sl6⟩) (c6 : PySem.W.codeIn K cd6 "_law_power" = true) (k6 : PySem.W.keepIn K (.ref f6) = true)
    (a7 : PySem.W.nsIn K mainGlobals "_law_due" = some (some (.ref f7))) (l7 : K.lookup f7 = some ⟨oc7, od7, .func (PySem.W.fnOf "_law_due" "_law_due" (defArgs s__law_due) (defBody s__law_due) (defScope s__law_due) .none kV7 dc7 pm7 an7 cd7 ct7), sl7⟩) (c7 : PySem.W.codeIn K cd7 "_law_due" = true) (k7 : PySem.W.keepIn K (.ref f7) = true)
    (a8 : PySem.W.nsIn K mainGlobals "_law_found" = some (some (.ref f8))) (l8 : K.lookup f8 = some ⟨oc8, od8, .func (PySem.W.fnOf "_law_found" "_law_found" (defArgs s__law_found) (defBody s__law_found) (defScope s__law_found) .none kV8 dc8 pm8 an8 cd8 ct8), sl8⟩) (c8 : PySem.W.codeIn K cd8 "_law_found" = true) (k8 : PySem.W.keepIn K (.ref f8) = true)
    (a9 : PySem.W.nsIn K mainGlobals "law" = some (some (.ref f9))) (l9 : K.lookup f9 = some ⟨oc9, od9, .func (PySem.W.fnOf "law" "law" (defArgs s_law) (defBody s_law) (defScope s_law) .none kV9 dc9 pm9 an9 cd9 ct9), sl9⟩) (c9 : PySem.W.codeIn K cd9 "law" = true) (k9 : PySem.W.keepIn K (.ref f9) = true)
    (a_BadWord : PySem.W.nsIn K mainGlobals "BadWord" = some (some (.ref C_BadWord)))
    (e_BadWord : PySem.W.subIn K (.ref C_BadWord) (.type "BaseException") = some true) (t_BadWord : PySem.W.typeIn K (.ref C_BadWord) = some (.type "type")) (h_BadWord : PySem.W.hasDictIn K C_BadWord = true)
    (a_TooMany : PySem.W.nsIn K mainGlobals "TooMany" = some (some (.ref C_TooMany)))
    (e_TooMany : PySem.W.subIn K (.ref C_TooMany) (.type "BaseException") = some true) (t_TooMany : PySem.W.typeIn K (.ref C_TooMany) = some (.type "type")) (h_TooMany : PySem.W.hasDictIn K C_TooMany = true)
    (x_TooMany : K.lookup C_TooMany = some (excClassObj nm_TooMany q_TooMany C_TooMany N_TooMany bs_TooMany [.ref B_TooMany_TurnError, .type "ValueError", .type "Exception", .type "BaseException", .type "object"] true sn_TooMany sub_TooMany ab_TooMany col_TooMany dd_TooMany m0_TooMany m1_TooMany m2_TooMany m3_TooMany m5_TooMany "ValueError.__new__"))
    (sa_TooMany : PySem.W.findIn K (.ref C_TooMany) "__setattr__" = some (some (.builtin "object.__setattr__"))) (ga_TooMany : PySem.W.findIn K (.ref C_TooMany) "__getattribute__" = some (some (.builtin "BaseException.__getattribute__"))) (gg_TooMany : PySem.W.findIn K (.ref C_TooMany) "__getattr__" = some none) (nf_TooMany : PySem.W.findIn K (.ref C_TooMany) "limit" = some none)
    (ii_TooMany : PySem.W.findIn K (.ref C_TooMany) "__init__" = some (some (.ref I_TooMany))) (ti_TooMany : PySem.W.typeIn K (.ref I_TooMany) = some (.type "function"))
    (li_TooMany : K.lookup I_TooMany = some ⟨oc_TooMany, od_TooMany, .func (PySem.W.fnOf "__init__" "TooMany.__init__" (PySem.LowX_limit.iA ⟨10, 17, 10, 21⟩ ⟨10, 23, 10, 28⟩) (PySem.LowX_limit.iB ⟨11, 8, 11, 12⟩ ⟨11, 8, 11, 18⟩ ⟨11, 21, 11, 26⟩ ⟨11, 8, 11, 26⟩) PySem.LowX_limit.iS .none .none dc_TooMany pm_TooMany an_TooMany cd_TooMany ct_TooMany), sl_TooMany⟩) (ci_TooMany : PySem.W.codeIn K cd_TooMany "TooMany.__init__" = true)
    (kk_TooMany : PySem.W.keepIn K (.ref C_TooMany) = true) (ic_TooMany : PySem.W.isClsIn K C_TooMany = true) (ha_TooMany : PySem.W.findIn K (.ref C_TooMany) "__class__" = some (some (.builtin "object.__class__"))) (mo_TooMany : PySem.W.mroIn K C_TooMany (.type "object") = some true)
    (a_TurnError : PySem.W.nsIn K mainGlobals "TurnError" = some (some (.ref C_TurnError)))
    (e_TurnError : PySem.W.subIn K (.ref C_TurnError) (.type "BaseException") = some true) (t_TurnError : PySem.W.typeIn K (.ref C_TurnError) = some (.type "type")) (h_TurnError : PySem.W.hasDictIn K C_TurnError = true)
    (sf_BadWord : PySem.W.subIn K (.ref C_BadWord) (.ref C_BadWord) = some true)
    (sf_TooMany : PySem.W.subIn K (.ref C_TooMany) (.ref C_TooMany) = some true)
    (sf_TurnError : PySem.W.subIn K (.ref C_TurnError) (.ref C_TurnError) = some true)
    (gs : PySem.W.specialIn K (.builtin "object.__class__") "__get__" = some (some (.builtin "getset_descriptor.__get__"))) (gt : PySem.W.takesIn K (.builtin "object.__class__") = some true)
    (s_TooMany_BadWord : PySem.W.subIn K (.ref C_TooMany) (.ref C_BadWord) = some false) 
    (s_TooMany_TooMany : PySem.W.subIn K (.ref C_TooMany) (.ref C_TooMany) = some true) 
    (s_TooMany_TurnError : PySem.W.subIn K (.ref C_TooMany) (.ref C_TurnError) = some true) 
    (z_abs : PySem.W.nsIn K mainGlobals "abs" = some none)
    (z_bool : PySem.W.nsIn K mainGlobals "bool" = some none)
    (z_int : PySem.W.nsIn K mainGlobals "int" = some none)
    (z_isinstance : PySem.W.nsIn K mainGlobals "isinstance" = some none)
    (z_len : PySem.W.nsIn K mainGlobals "len" = some none)
    (z_list : PySem.W.nsIn K mainGlobals "list" = some none)
    (z_range : PySem.W.nsIn K mainGlobals "range" = some none)
    (z_str : PySem.W.nsIn K mainGlobals "str" = some none)
    (z_tuple : PySem.W.nsIn K mainGlobals "tuple" = some none)
    (q_MOST_FIGURES : ∃ v, mg "MOST_FIGURES" = some v ∧ RelV (.int 400) v)
    : ∃ (cm : Cm) (fd : FuncData), (∀ (s : Shared) (v : Value), BindsTo s fd ⟨[v], []⟩ [("script", v)]) ∧ ∀ base : Heap, K.In base → base.Ns mainGlobals mg → FnOk l.prog w K mg base (L2.CX l.prog w) 10 fa fd ["script"] (spV K cm 1 N_law e_law) := by
  have e := hfa.symm.trans (PySem.W.mg_of X G a9)
  cases e
  have F0 := fun_mk (st := s_power) l0 c0 k0
  have b0 := F0.binds (ps := ["base", "times"]) fun _ _ _ _ _ _ us hl => match us, hl with | [_, _], _ => rfl
  have F1 := fun_mk (st := s_count_rounds_of) l1 c1 k1
  have b1 := F1.binds (ps := ["size", "letters"]) fun _ _ _ _ _ _ us hl => match us, hl with | [_, _], _ => rfl
  have F2 := fun_mk (st := s__law_feed) l2 c2 k2
  have b2 := F2.binds (ps := ["script"]) fun _ _ _ _ _ _ us hl => match us, hl with | [_], _ => rfl
  have F3 := fun_mk (st := s__law_draw) l3 c3 k3
  have b3 := F3.binds (ps := ["feed", "many"]) fun _ _ _ _ _ _ us hl => match us, hl with | [_, _], _ => rfl
  have F4 := fun_mk (st := s__law_same) l4 c4 k4
  have b4 := F4.binds (ps := ["told", "due"]) fun _ _ _ _ _ _ us hl => match us, hl with | [_, _], _ => rfl
  have F5 := fun_mk (st := s__law_told) l5 c5 k5
  have b5 := F5.binds (ps := ["size", "letters"]) fun _ _ _ _ _ _ us hl => match us, hl with | [_, _], _ => rfl
  have F6 := fun_mk (st := s__law_power) l6 c6 k6
  have b6 := F6.binds (ps := ["k", "many"]) fun _ _ _ _ _ _ us hl => match us, hl with | [_, _], _ => rfl
  have F7 := fun_mk (st := s__law_due) l7 c7 k7
  have b7 := F7.binds (ps := ["size", "letters"]) fun _ _ _ _ _ _ us hl => match us, hl with | [_, _], _ => rfl
  have F8 := fun_mk (st := s__law_found) l8 c8 k8
  have b8 := F8.binds (ps := ["size", "letters"]) fun _ _ _ _ _ _ us hl => match us, hl with | [_, _], _ => rfl
  have F9 := fun_mk (st := s_law) l9 c9 k9
  have b9 := F9.binds (ps := ["script"]) fun _ _ _ _ _ _ us hl => match us, hl with | [_], _ => rfl
  have k_TooMany_BadWord : PySem.W.kitOne K (.ref C_TooMany) (.ref C_BadWord) = some false := L2.VE.kit_ref h_BadWord t_BadWord s_TooMany_BadWord sf_BadWord
  have k_TooMany_TooMany : PySem.W.kitOne K (.ref C_TooMany) (.ref C_TooMany) = some true := L2.VE.kit_self
  have k_TooMany_TurnError : PySem.W.kitOne K (.ref C_TooMany) (.ref C_TurnError) = some true := L2.VE.kit_ref h_TurnError t_TurnError s_TooMany_TurnError sf_TurnError
  let cmv : String → Value := fun y => if y = "TooMany" then .ref C_TooMany else .none
  have mm_TooMany : cmv "TooMany" = .ref C_TooMany := rfl
  have ex_TooMany : ExcC K C_TooMany := ⟨ga_TooMany, gg_TooMany, e_TooMany, h_TooMany, ha_TooMany, gs, gt, mo_TooMany⟩
  have exm_BadWord : ∀ y b, tb_BadWord y = some b → PySem.W.exmOne K (cmv y) (.ref C_BadWord) = some b := by
    intro y b h
    by_cases q_TooMany : y = "TooMany"
    · subst q_TooMany
      have w : tb_BadWord "TooMany" = some false := rfl
      rw [w] at h
      cases h
      exact PySem.W.exm_ref e_BadWord h_BadWord t_BadWord s_TooMany_BadWord
    · exfalso
      unfold tb_BadWord at h
      simp [q_TooMany] at h
  have kit_BadWord : ∀ y b, tb_BadWord y = some b → ∃ C, cmv y = .ref C ∧ ExcC K C ∧ PySem.W.kitOne K (.ref C) (.ref C_BadWord) = some b := by
    intro y b h
    by_cases q_TooMany : y = "TooMany"
    · subst q_TooMany
      have w : tb_BadWord "TooMany" = some false := rfl
      rw [w] at h
      cases h
      exact ⟨C_TooMany, rfl, ex_TooMany, k_TooMany_BadWord⟩
    · exfalso
      unfold tb_BadWord at h
      simp [q_TooMany] at h
  have exm_TooMany : ∀ y b, tb_TooMany y = some b → PySem.W.exmOne K (cmv y) (.ref C_TooMany) = some b := by
    intro y b h
    by_cases q_TooMany : y = "TooMany"
    · subst q_TooMany
      have w : tb_TooMany "TooMany" = some true := rfl
      rw [w] at h
      cases h
      exact PySem.W.exm_ref e_TooMany h_TooMany t_TooMany s_TooMany_TooMany
    · exfalso
      unfold tb_TooMany at h
      simp [q_TooMany] at h
  have kit_TooMany : ∀ y b, tb_TooMany y = some b → ∃ C, cmv y = .ref C ∧ ExcC K C ∧ PySem.W.kitOne K (.ref C) (.ref C_TooMany) = some b := by
    intro y b h
    by_cases q_TooMany : y = "TooMany"
    · subst q_TooMany
      have w : tb_TooMany "TooMany" = some true := rfl
      rw [w] at h
      cases h
      exact ⟨C_TooMany, rfl, ex_TooMany, k_TooMany_TooMany⟩
    · exfalso
      unfold tb_TooMany at h
      simp [q_TooMany] at h
  have exm_TurnError : ∀ y b, tb_TurnError y = some b → PySem.W.exmOne K (cmv y) (.ref C_TurnError) = some b := by
    intro y b h
    by_cases q_TooMany : y = "TooMany"
    · subst q_TooMany
      have w : tb_TurnError "TooMany" = some true := rfl
      rw [w] at h
      cases h
      exact PySem.W.exm_ref e_TurnError h_TurnError t_TurnError s_TooMany_TurnError
    · exfalso
      unfold tb_TurnError at h
      simp [q_TooMany] at h
  have kit_TurnError : ∀ y b, tb_TurnError y = some b → ∃ C, cmv y = .ref C ∧ ExcC K C ∧ PySem.W.kitOne K (.ref C) (.ref C_TurnError) = some b := by
    intro y b h
    by_cases q_TooMany : y = "TooMany"
    · subst q_TooMany
      have w : tb_TurnError "TooMany" = some true := rfl
      rw [w] at h
      cases h
      exact ⟨C_TooMany, rfl, ex_TooMany, k_TooMany_TurnError⟩
    · exfalso
      unfold tb_TurnError at h
      simp [q_TooMany] at h
  obtain ⟨v_MOST_FIGURES, g_MOST_FIGURES, r_MOST_FIGURES⟩ := q_MOST_FIGURES
  let T : TX K mg := { cm := ⟨fun y => if y = "TooMany" then .ref C_TooMany else .none, none⟩, a_TooMany := C_TooMany, g_TooMany := PySem.W.mg_of X G a_TooMany, i_TooMany := I_TooMany, m_TooMany := mm_TooMany, X_TooMany := { gC := PySem.W.mg_of X G a_TooMany, cls := ⟨nm_TooMany, q_TooMany, N_TooMany, bs_TooMany, _, sn_TooMany, sub_TooMany, ab_TooMany, col_TooMany, dd_TooMany, m0_TooMany, m1_TooMany, m2_TooMany, m3_TooMany, m5_TooMany, x_TooMany, by first | rfl | decide +kernel⟩, sa := sa_TooMany, ga := ga_TooMany, gg := gg_TooMany, noN := nf_TooMany, iC := ii_TooMany, tC := ti_TooMany, kC := kk_TooMany, exC := e_TooMany, tyC := t_TooMany, hdC := h_TooMany, te := PySem.W.exm_ref e_TooMany h_TooMany t_TooMany (by first | assumption | exact sf_TooMany), fn := ⟨_, _, _, _, _, _, _, _, _, _, _, _, _, _, li_TooMany, ci_TooMany⟩ }, a_BadWord := C_BadWord, g_BadWord := PySem.W.mg_of X G a_BadWord, a_TurnError := C_TurnError, g_TurnError := PySem.W.mg_of X G a_TurnError, exm_BadWord := exm_BadWord, kit_BadWord := kit_BadWord, exm_TooMany := exm_TooMany, kit_TooMany := kit_TooMany, exm_TurnError := exm_TurnError, kit_TurnError := kit_TurnError, a_power := _, d_power := _, F_power := F0, g_power := PySem.W.mg_of X G a0, k_power := k0, b_power := b0, a_count_rounds_of := _, d_count_rounds_of := _, F_count_rounds_of := F1, g_count_rounds_of := PySem.W.mg_of X G a1, k_count_rounds_of := k1, b_count_rounds_of := b1, a__law_feed := _, d__law_feed := _, F__law_feed := F2, g__law_feed := PySem.W.mg_of X G a2, k__law_feed := k2, b__law_feed := b2, a__law_draw := _, d__law_draw := _, F__law_draw := F3, g__law_draw := PySem.W.mg_of X G a3, k__law_draw := k3, b__law_draw := b3, a__law_same := _, d__law_same := _, F__law_same := F4, g__law_same := PySem.W.mg_of X G a4, k__law_same := k4, b__law_same := b4, a__law_told := _, d__law_told := _, F__law_told := F5, g__law_told := PySem.W.mg_of X G a5, k__law_told := k5, b__law_told := b5, a__law_power := _, d__law_power := _, F__law_power := F6, g__law_power := PySem.W.mg_of X G a6, k__law_power := k6, b__law_power := b6, a__law_due := _, d__law_due := _, F__law_due := F7, g__law_due := PySem.W.mg_of X G a7, k__law_due := k7, b__law_due := b7, a__law_found := _, d__law_found := _, F__law_found := F8, g__law_found := PySem.W.mg_of X G a8, k__law_found := k8, b__law_found := b8, a_law := _, d_law := _, F_law := F9, g_law := PySem.W.mg_of X G a9, k_law := k9, b_law := b9, z_abs := PySem.W.mg_none_of X G z_abs, z_bool := PySem.W.mg_none_of X G z_bool, z_int := PySem.W.mg_none_of X G z_int, z_isinstance := PySem.W.mg_none_of X G z_isinstance, z_len := PySem.W.mg_none_of X G z_len, z_list := PySem.W.mg_none_of X G z_list, z_range := PySem.W.mg_none_of X G z_range, z_str := PySem.W.mg_none_of X G z_str, z_tuple := PySem.W.mg_none_of X G z_tuple, v_MOST_FIGURES := v_MOST_FIGURES, g_MOST_FIGURES := g_MOST_FIGURES, r_MOST_FIGURES := r_MOST_FIGURES }
  exact ⟨_, _, fun s v => .of_eq rfl, fun base _ _ => ok_law T⟩
end LW
open PySem PySem.W PyProof.Rows
set_option maxHeartbeats 0 in
theorem PySem.Challenge.cw_backletters_k69_whole_rounds_of_strings_holds : PySem.Challenge.rw_backletters_k69_whole_rounds_of_strings.Holds := by
  w_on; o_law; k_head; (case hw => w_witness2)
  k_fill
  refine L2.VE.walk_ve (l := PySem.Challenge.rw_backletters_k69_whole_rounds_of_strings) (n := 63) (k := 10) (x := "script") (N := LW.N_law) (g := LW.e_law) rfl (by decide) rfl ⟨rfl, by decide, by decide⟩ (fun w h Y => PySem.W.kIn_of Y) ?F LW.law_true
  case F =>
    intro w mg fa h KX G xp hmg
    refine' LW.all_mk KX G hmg ?a0 ?l0 ?c0 ?k0 ?a1 ?l1 ?c1 ?k1 ?a2 ?l2 ?c2 ?k2 ?a3 ?l3 ?c3 ?k3 ?a4 ?l4 ?c4 ?k4 ?a5 ?l5 ?c5 ?k5 ?a6 ?l6 ?c6 ?k6 ?a7 ?l7 ?c7 ?k7 ?a8 ?l8 ?c8 ?k8 ?a9 ?l9 ?c9 ?k9 ?a_BadWord ?e_BadWord ?t_BadWord ?h_BadWord ?a_TooMany ?e_TooMany ?t_TooMany ?h_TooMany ?x_TooMany ?sa_TooMany ?ga_TooMany ?gg_TooMany ?nf_TooMany ?ii_TooMany ?ti_TooMany ?li_TooMany ?ci_TooMany ?kk_TooMany ?ic_TooMany ?ha_TooMany ?mo_TooMany ?a_TurnError ?e_TurnError ?t_TurnError ?h_TurnError ?sf_BadWord ?sf_TooMany ?sf_TurnError ?gs ?gt ?s_TooMany_BadWord ?s_TooMany_TooMany ?s_TooMany_TurnError ?z_abs ?z_bool ?z_int ?z_isinstance ?z_len ?z_list ?z_range ?z_str ?z_tuple (by first | exact L2.VE.ns_int KX G (by k_is) | exact L2.VE.loose_int (xp.2.val (_, _) (by repeat (first | exact List.Mem.head _ | apply List.Mem.tail))))
    (case a0 => k_is); (case l0 => k_is); (case c0 => k_is); (case k0 => k_is); (case a1 => k_is); (case l1 => k_is); (case c1 => k_is); (case k1 => k_is); (case a2 => k_is); (case l2 => k_is); (case c2 => k_is); (case k2 => k_is); (case a3 => k_is); (case l3 => k_is); (case c3 => k_is); (case k3 => k_is); (case a4 => k_is); (case l4 => k_is); (case c4 => k_is); (case k4 => k_is); (case a5 => k_is); (case l5 => k_is); (case c5 => k_is); (case k5 => k_is); (case a6 => k_is); (case l6 => k_is); (case c6 => k_is); (case k6 => k_is); (case a7 => k_is); (case l7 => k_is); (case c7 => k_is); (case k7 => k_is); (case a8 => k_is); (case l8 => k_is); (case c8 => k_is); (case k8 => k_is); (case a9 => k_is); (case l9 => k_is); (case c9 => k_is); (case k9 => k_is); (case a_BadWord => k_is); (case e_BadWord => k_is); (case t_BadWord => k_is); (case h_BadWord => k_is); (case a_TooMany => k_is); (case e_TooMany => k_is); (case t_TooMany => k_is); (case h_TooMany => k_is); (case x_TooMany => k_is); (case sa_TooMany => k_is); (case ga_TooMany => k_is); (case gg_TooMany => k_is); (case nf_TooMany => k_is); (case ii_TooMany => k_is); (case ti_TooMany => k_is); (case li_TooMany => k_is); (case ci_TooMany => k_is); (case kk_TooMany => k_is); (case ic_TooMany => k_is); (case ha_TooMany => k_is); (case mo_TooMany => k_is); (case a_TurnError => k_is); (case e_TurnError => k_is); (case t_TurnError => k_is); (case h_TurnError => k_is); (case sf_BadWord => k_is); (case sf_TooMany => k_is); (case sf_TurnError => k_is); (case gs => k_is); (case gt => k_is); (case s_TooMany_BadWord => k_is); (case s_TooMany_TooMany => k_is); (case s_TooMany_TurnError => k_is); (case z_abs => k_is); (case z_bool => k_is); (case z_int => k_is); (case z_isinstance => k_is); (case z_len => k_is); (case z_list => k_is); (case z_range => k_is); (case z_str => k_is); (case z_tuple => k_is)
