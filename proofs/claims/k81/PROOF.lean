import PyProof.Rows.All
import Wide.All
import OpenK.AllK
import Wide.FinOn
import HandS.ForMost
import HandS.Exc
import HandS.TryOnly
import HandS.ExcOwn
import HandS.WordsExc
import HandS.Zip
import HandS.TupAny
import HandS.IsInst
import HandS.TupMul
import HandS.RaiseMore
import HandS.More
import PySem.Challenge.RW_stackwarden_k81_a_units_book
set_option Elab.async false
set_option linter.all false
set_option maxRecDepth 100000
namespace CS
open PySem L2

/-! ### a clean heap language: values as trees, what may change by number -/
inductive Vl where
  | non | bl (b : Bool) | int (i : Int) | str (s : Str) | tup (xs : List Vl) | lst (xs : List Vl) | rol (xs : List Vl) | ref (n : Nat)
  deriving Inhabited
inductive Ob where
  | lst (xs : List Vl) | dic (kvs : List (Key × Vl)) | ins (c : Nat) (fs : List (Str × Vl)) | dead
  deriving Inhabited
abbrev Gh := List Ob
structure Xn where
  c : Nat
  fs : List (Str × Vl)
inductive Res (α : Type) where
  | ok (a : α) (g : Gh) | exc (e : Xn) (g : Gh) | stuck
abbrev Env := List (Option Vl)
inductive SR where
  | nx (ρ : Env) (g : Gh) | rt (v : Vl) (g : Gh) | bk (ρ : Env) (g : Gh) | ct (ρ : Env) (g : Gh) | exc (e : Xn) (ρ : Env) (g : Gh) | stuck
abbrev ME := Env → Gh → Res Vl
abbrev MT := Env → Gh → Res Bool
abbrev MA := Env → Gh → Res (List Vl)
abbrev MS := Env → Gh → SR
def Res.bind {α β : Type} (r : Res α) (f : α → Gh → Res β) : Res β :=
  match r with
  | .ok a g => f a g
  | .exc e g => .exc e g
  | .stuck => .stuck

/-- what is fixed: the written part, the classes' addresses -/
structure Cy where
  K : PySem.W.Frag
  cad : Nat → Addr

def SqLK (K : PySem.W.Frag) (a : Addr) (xs : List V) : Prop :=
  ∃ (o : Obj) (its : Array Value) (n : Nat), K.lookup a = some o ∧ o.cls = .type "list" ∧ o.dict = none ∧ o.data = .seq its n ∧ its.size ≤ sizeLine ∧ Vals xs its.toList
/-- a list that is only read: locked, or of the written part -/
def SqR (K : PySem.W.Frag) (H : Hp) (a : Addr) (xs : List V) : Prop := (∃ o, H a = some (.frz o (.lst xs))) ∨ SqLK K a xs

mutual
inductive VR (K : PySem.W.Frag) (H : Hp) (L : Addr → Prop) (β : List Addr) : Vl → V → Prop
  | non : VR K H L β .non .non
  | bl (b : Bool) : VR K H L β (.bl b) (.bl b)
  | int (i : Int) : VR K H L β (.int i) (.int i)
  | str (s : Str) : VR K H L β (.str s) (.str s)
  | tup {a : Addr} {vs : List V} {xs : List Vl} (h : SqT K H a vs) (hs : VRs K H L β xs vs) : VR K H L β (.tup xs) (.ref a)
  | lst {a : Addr} {vs : List V} {xs : List Vl} (h : H a = some (.lst vs)) (hl : ¬ L a) (hs : VRs K H L β xs vs) : VR K H L β (.lst xs) (.ref a)
  | rol {a : Addr} {vs : List V} {xs : List Vl} (h : SqR K H a vs) (hs : VRs K H L β xs vs) : VR K H L β (.rol xs) (.ref a)
  | ref {n : Nat} {a : Addr} (h : β[n]? = some a) : VR K H L β (.ref n) (.ref a)
inductive VRs (K : PySem.W.Frag) (H : Hp) (L : Addr → Prop) (β : List Addr) : List Vl → List V → Prop
  | nil : VRs K H L β [] []
  | cons {x : Vl} {v : V} {xs : List Vl} {vs : List V} (h : VR K H L β x v) (hs : VRs K H L β xs vs) : VRs K H L β (x :: xs) (v :: vs)
end

/-- what later states keep -/
structure Le (H : Hp) (L : Addr → Prop) (β : List Addr) (H' : Hp) (L' : Addr → Prop) (β' : List Addr) : Prop where
  pre : ∀ (n : Nat) (a : Addr), β[n]? = some a → β'[n]? = some a
  tup : ∀ a vs, Rd H a (.tup vs) → Rd H' a (.tup vs)
  lst : ∀ a vs, H a = some (.lst vs) → ¬ L a → H' a = some (.lst vs) ∧ ¬ L' a
  frz : ∀ a o u, H a = some (.frz o u) → H' a = some (.frz o u)

section
variable {K : PySem.W.Frag} {H H' H'' : Hp} {L L' L'' : Addr → Prop} {β β' β'' : List Addr}
theorem Le.refl : Le H L β H L β := ⟨fun _ _ h => h, fun _ _ h => h, fun _ _ h n => ⟨h, n⟩, fun _ _ _ h => h⟩
theorem Le.trans (x : Le H L β H' L' β') (y : Le H' L' β' H'' L'' β'') : Le H L β H'' L'' β'' :=
  ⟨fun n a h => y.pre n a (x.pre n a h), fun a vs h => y.tup a vs (x.tup a vs h), fun a vs h n => by
    obtain ⟨h1, n1⟩ := x.lst a vs h n
    exact y.lst a vs h1 n1, fun a o u h => y.frz a o u (x.frz a o u h)⟩
theorem Le.sqr (x : Le H L β H' L' β') {a : Addr} {vs : List V} (h : SqR K H a vs) : SqR K H' a vs := by
  rcases h with ⟨o, h⟩ | h
  · exact .inl ⟨o, x.frz _ _ _ h⟩
  · exact .inr h
theorem Le.sqt (x : Le H L β H' L' β') {a : Addr} {vs : List V} (h : SqT K H a vs) : SqT K H' a vs := by
  rcases h with h | h
  · exact .inl (x.tup _ _ h)
  · exact .inr h
mutual
theorem VR.mono (l : Le H L β H' L' β') : ∀ (x : Vl) (v : V), VR K H L β x v → VR K H' L' β' x v
  | .non, _, h => by cases h; exact .non
  | .bl _, _, h => by cases h; exact .bl _
  | .int _, _, h => by cases h; exact .int _
  | .str _, _, h => by cases h; exact .str _
  | .tup xs, _, h => by
    cases h with
    | tup h hs => exact .tup (l.sqt h) (VRs.mono l xs _ hs)
  | .lst xs, _, h => by
    cases h with
    | lst h hl hs =>
      obtain ⟨h1, n1⟩ := l.lst _ _ h hl
      exact .lst h1 n1 (VRs.mono l xs _ hs)
  | .rol xs, _, h => by
    cases h with
    | rol h hs => exact .rol (l.sqr h) (VRs.mono l xs _ hs)
  | .ref _, _, h => by
    cases h with
    | ref h => exact .ref (l.pre _ _ h)
theorem VRs.mono (l : Le H L β H' L' β') : ∀ (xs : List Vl) (vs : List V), VRs K H L β xs vs → VRs K H' L' β' xs vs
  | [], _, h => by cases h; exact .nil
  | x :: xs, _, h => by
    cases h with
    | cons h hs => exact .cons (VR.mono l x _ h) (VRs.mono l xs _ hs)
end
theorem VR.up {x : Vl} {v : V} (h : VR K H L β x v) (l : Le H L β H' L' β') : VR K H' L' β' x v := VR.mono l x v h
theorem VRs.up {x : List Vl} {v : List V} (h : VRs K H L β x v) (l : Le H L β H' L' β') : VRs K H' L' β' x v := VRs.mono l x v h
theorem VRs.length : ∀ {xs : List Vl} {vs : List V}, VRs K H L β xs vs → xs.length = vs.length
  | _, _, .nil => rfl
  | _, _, .cons _ hs => by simp [VRs.length hs]
theorem VRs.get : ∀ {xs : List Vl} {vs : List V} {i : Nat} {x : Vl}, VRs K H L β xs vs → xs[i]? = some x → ∃ v, vs[i]? = some v ∧ VR K H L β x v
  | _, _, _, _, .nil, e => by simp at e
  | _, _, 0, _, .cons r _, e => by simp at e; subst e; exact ⟨_, rfl, r⟩
  | _, _, i + 1, x, .cons _ t, e => by
    obtain ⟨u, h1, h2⟩ := VRs.get (i := i) (x := x) t (by simpa using e)
    exact ⟨u, by simpa using h1, h2⟩
theorem VRs.get' : ∀ {xs : List Vl} {vs : List V} {i : Nat} {v : V}, VRs K H L β xs vs → vs[i]? = some v → ∃ x, xs[i]? = some x ∧ VR K H L β x v
  | _, _, _, _, .nil, e => by simp at e
  | _, _, 0, _, .cons r _, e => by simp at e; subst e; exact ⟨_, rfl, r⟩
  | _, _, i + 1, x, .cons _ t, e => by
    obtain ⟨u, h1, h2⟩ := VRs.get' (i := i) (v := x) t (by simpa using e)
    exact ⟨u, by simpa using h1, h2⟩
theorem VRs.append : ∀ {xs ys : List Vl} {vs ws : List V}, VRs K H L β xs vs → VRs K H L β ys ws → VRs K H L β (xs ++ ys) (vs ++ ws)
  | _, _, _, _, .nil, s => s
  | _, _, _, _, .cons r t, s => .cons r (VRs.append t s)
theorem VRs.take : ∀ {xs : List Vl} {vs : List V} (n : Nat), VRs K H L β xs vs → VRs K H L β (xs.take n) (vs.take n)
  | _, _, 0, _ => .nil
  | _, _, _ + 1, .nil => .nil
  | _, _, n + 1, .cons r t => .cons r (VRs.take n t)
theorem VRs.drop : ∀ {xs : List Vl} {vs : List V} (n : Nat), VRs K H L β xs vs → VRs K H L β (xs.drop n) (vs.drop n)
  | _, _, 0, r => r
  | _, _, _ + 1, .nil => .nil
  | _, _, n + 1, .cons _ t => VRs.drop n t
theorem VRs.set {x : Vl} {v : V} (r : VR K H L β x v) : ∀ {xs : List Vl} {vs : List V} (i : Nat), VRs K H L β xs vs → VRs K H L β (xs.set i x) (vs.set i v)
  | _, _, _, .nil => .nil
  | _, _, 0, .cons _ t => .cons r t
  | _, _, i + 1, .cons q t => .cons q (VRs.set r i t)
theorem VRs.ints : ∀ (ns : List Int), VRs K H L β (ns.map Vl.int) (ns.map V.int)
  | [] => .nil
  | n :: ns => .cons (.int n) (VRs.ints ns)
theorem VR.seq {xs : List Vl} {v : V} (h : VR K H L β (.lst xs) v) : ∃ a vs, v = .ref a ∧ H a = some (.lst vs) ∧ VRs K H L β xs vs := by
  cases h with
  | lst h hl hs => exact ⟨_, _, rfl, h, hs⟩
theorem VR.rseq {xs : List Vl} {v : V} (h : VR K H L β (.rol xs) v) : ∃ a vs, v = .ref a ∧ SqL K H a vs ∧ VRs K H L β xs vs := by
  cases h with
  | rol h hs =>
    refine ⟨_, _, rfl, ?_, hs⟩
    rcases h with ⟨o, h⟩ | h
    · exact .inl (.inr ⟨o, h⟩)
    · exact .inr h
theorem VR.tseq {xs : List Vl} {v : V} (h : VR K H L β (.tup xs) v) : ∃ a vs, v = .ref a ∧ SqT K H a vs ∧ VRs K H L β xs vs := by
  cases h with
  | tup h hs => exact ⟨_, _, rfl, h, hs⟩
end

/-! ### the state -/
structure Bs where
  U : Addr → Prop
  H0 : Hp
def Lv (B : Bs) (β : List Addr) (g : Gh) (a : Addr) : Prop := B.U a ∨ ∃ (n : Nat) (o : Ob), β[n]? = some a ∧ g[n]? = some o ∧ o ≠ Ob.dead
/-- pairs of a dict, fields by name -/
def KVR (K : PySem.W.Frag) (H : Hp) (L : Addr → Prop) (β : List Addr) {κ : Type} : List (κ × Vl) → List (κ × V) → Prop
  | [], [] => True
  | (k, x) :: r, (k', v) :: r' => k = k' ∧ VR K H L β x v ∧ KVR K H L β r r'
  | _, _ => False
theorem KVR.up {K : PySem.W.Frag} {H H' : Hp} {L L' : Addr → Prop} {β β' : List Addr} {κ : Type} (l : Le H L β H' L' β') : ∀ {r : List (κ × Vl)} {r' : List (κ × V)}, KVR K H L β r r' → KVR K H' L' β' r r'
  | [], [], _ => trivial
  | (k, x) :: r, (k', v) :: r', h => ⟨h.1, h.2.1.up l, KVR.up l h.2.2⟩
  | [], _ :: _, h => h.elim
  | _ :: _, [], h => h.elim
def OR (Y : Cy) (H : Hp) (L : Addr → Prop) (β : List Addr) (a : Addr) : Ob → Prop
  | .lst xs => ∃ vs, H a = some (.lst vs) ∧ VRs Y.K H L β xs vs
  | .dic kvs => ∃ ws, H a = some (.dK ws) ∧ KVR Y.K H L β kvs ws
  | .ins c fs => ∃ dx ws, H a = some (.ins (Y.cad c) dx ws) ∧ KVR Y.K H L β fs ws
  | .dead => True
structure Sim (Y : Cy) (B : Bs) (β : List Addr) (g : Gh) (H : Hp) : Prop where
  len : β.length = g.length
  inj : ∀ (i j : Nat) (a : Addr), β[i]? = some a → β[j]? = some a → i = j
  obj : ∀ (n : Nat) (a : Addr) (o : Ob), β[n]? = some a → g[n]? = some o → OR Y H (Lv B β g) β a o
  fr : ∀ (n : Nat) (a : Addr), β[n]? = some a → B.H0 a = none
  keep : ∀ a o, B.H0 a = some o → H a = some o
  usub : ∀ a, B.U a → ∃ o, B.H0 a = some o
  trk : ∀ (n : Nat) (a : Addr), β[n]? = some a → ∃ o, H a = some o

abbrev LeS (B : Bs) (β : List Addr) (g : Gh) (H : Hp) (β' : List Addr) (g' : Gh) (H' : Hp) : Prop := Le H (Lv B β g) β H' (Lv B β' g') β'

section
variable {Y : Cy} {B : Bs} {β : List Addr} {g : Gh} {H : Hp}
theorem OR.some {L : Addr → Prop} {a : Addr} {o : Ob} (h : OR Y H L β a o) (d : o ≠ .dead) : ∃ u, H a = some u ∧ Mut (Option.some u) := by
  cases o with
  | lst xs => obtain ⟨vs, e, _⟩ := h; exact ⟨_, e, trivial⟩
  | dic kvs => obtain ⟨vs, e, _⟩ := h; exact ⟨_, e, trivial⟩
  | ins c fs => obtain ⟨dx, vs, e, _⟩ := h; exact ⟨_, e, trivial⟩
  | dead => exact (d rfl).elim
theorem Sim.live (S : Sim Y B β g H) {a : Addr} (h : Lv B β g a) : ∃ u, H a = some u := by
  rcases h with h | ⟨n, o, h1, h2, h3⟩
  · obtain ⟨o, e⟩ := S.usub a h
    exact ⟨o, S.keep a o e⟩
  · obtain ⟨u, e, _⟩ := (S.obj n a o h1 h2).some h3
    exact ⟨u, e⟩
theorem Sim.notLive (S : Sim Y B β g H) {p : Addr} (h : H p = none) : ¬ Lv B β g p := fun l => by
  obtain ⟨u, e⟩ := S.live l
  rw [e] at h
  cases h
theorem OR.up {L L' : Addr → Prop} {β' : List Addr} {H' : Hp} {a : Addr} {o : Ob} (l : Le H L β H' L' β') (e : o ≠ .dead → H' a = H a) (h : OR Y H L β a o) : OR Y H' L' β' a o := by
  cases o with
  | lst xs => obtain ⟨vs, q, r⟩ := h; exact ⟨vs, (e (by intro z; cases z)).trans q, r.up l⟩
  | dic kvs => obtain ⟨vs, q, r⟩ := h; exact ⟨vs, (e (by intro z; cases z)).trans q, r.up l⟩
  | ins c fs => obtain ⟨dx, vs, q, r⟩ := h; exact ⟨dx, vs, (e (by intro z; cases z)).trans q, r.up l⟩
  | dead => trivial
theorem rd_new {a p : Addr} {u o : HO} (n : H p = none) (h : Rd H a u) : Rd (upd H p o) a u := by
  rcases h with h | ⟨q, h⟩
  · exact .inl (by rw [upd_ne (ne_of_none h n)]; exact h)
  · exact .inr ⟨q, by rw [upd_ne (ne_of_none h n)]; exact h⟩
/-- a new tuple, a new frozen list, any thing that is tracked outside -/
theorem Sim.new (S : Sim Y B β g H) {p : Addr} {o : HO} (n : H p = none) : Sim Y B β g (upd H p o) ∧ LeS B β g H β g (upd H p o) := by
  have kn : ∀ a u, H a = some u → upd H p o a = some u := fun a u e => by rw [upd_ne (ne_of_none e n)]; exact e
  have l : LeS B β g H β g (upd H p o) := ⟨fun _ _ h => h, fun a vs h => rd_new n h, fun a vs h nl => ⟨kn _ _ h, nl⟩, fun a o u h => kn _ _ h⟩
  refine ⟨⟨S.len, S.inj, fun i a ob h1 h2 => ?_, S.fr, fun a u e => ?_, S.usub, fun i a h => ?_⟩, l⟩
  · refine (S.obj i a ob h1 h2).up l fun d => ?_
    obtain ⟨u, e, _⟩ := (S.obj i a ob h1 h2).some d
    exact upd_ne (ne_of_none e n)
  · rw [upd_ne (ne_of_none (S.keep a u e) n)]
    exact S.keep a u e
  · obtain ⟨u, e⟩ := S.trk i a h
    exact ⟨u, by rw [upd_ne (ne_of_none e n)]; exact e⟩

theorem rd_keep {H H' : Hp} {a : Addr} {u : HO} (hk : ∀ a o, H a = some o → H' a = some o) (h : Rd H a u) : Rd H' a u := by
  rcases h with h | ⟨q, h⟩
  · exact .inl (hk _ _ h)
  · exact .inr ⟨q, hk _ _ h⟩
theorem rd_some {H : Hp} {a : Addr} {u : HO} (h : Rd H a u) : ∃ o, H a = some o := by
  rcases h with h | ⟨q, h⟩
  · exact ⟨_, h⟩
  · exact ⟨_, h⟩
theorem Lv_alloc {β : List Addr} {g : Gh} (hlen : β.length = g.length) {p a : Addr} {o : Ob} (h : Lv B (β ++ [p]) (g ++ [o]) a) : Lv B β g a ∨ a = p := by
  rcases h with h | ⟨i, ob, h1, h2, h3⟩
  · exact .inl (.inl h)
  · by_cases hi : i < β.length
    · rw [List.getElem?_append_left hi] at h1
      rw [List.getElem?_append_left (by rw [← hlen]; exact hi)] at h2
      exact .inl (.inr ⟨i, ob, h1, h2, h3⟩)
    · have hb : i < (β ++ [p]).length := (List.getElem?_eq_some_iff.mp h1).1
      have : i = β.length := by simp at hb; omega
      subst this
      simp at h1
      exact .inr h1.symm
/-- a new object of ours -/
theorem Sim.alloc (S : Sim Y B β g H) {p : Addr} {o : Ob} {H' : Hp} (n : H p = none) (hk : ∀ a u, H a = some u → H' a = some u) (hp : ∃ u, H' p = some u)
    (hn : ∀ {L' : Addr → Prop} {β' : List Addr}, Le H (Lv B β g) β H' L' β' → OR Y H' L' β' p o) : Sim Y B (β ++ [p]) (g ++ [o]) H' ∧ LeS B β g H (β ++ [p]) (g ++ [o]) H' := by
  have l : LeS B β g H (β ++ [p]) (g ++ [o]) H' := by
    refine ⟨fun i a h => ?_, fun a vs h => rd_keep hk h, fun a vs h nl => ⟨hk _ _ h, fun q => ?_⟩, fun a o u h => hk _ _ h⟩
    · rw [List.getElem?_append_left (List.getElem?_eq_some_iff.mp h).1]
      exact h
    · rcases Lv_alloc S.len q with q | q
      · exact nl q
      · rw [q, n] at h
        cases h
  have cas : ∀ {i : Nat} {a : Addr}, (β ++ [p])[i]? = some a → (i < β.length ∧ β[i]? = some a) ∨ (i = β.length ∧ a = p) := fun {i a} h => by
    by_cases hi : i < β.length
    · rw [List.getElem?_append_left hi] at h
      exact .inl ⟨hi, h⟩
    · have hb : i < (β ++ [p]).length := (List.getElem?_eq_some_iff.mp h).1
      have e : i = β.length := by simp at hb; omega
      subst e
      simp at h
      exact .inr ⟨rfl, h.symm⟩
  have apart : ∀ {i : Nat} {a : Addr}, β[i]? = some a → a ≠ p := fun {i a} h e => by
    obtain ⟨u, q⟩ := S.trk i a h
    rw [e, n] at q
    cases q
  refine ⟨⟨by simp [S.len], fun i j a h1 h2 => ?_, fun i a ob h1 h2 => ?_, fun i a h => ?_, fun a u e => hk a u (S.keep a u e), S.usub, fun i a h => ?_⟩, l⟩
  · rcases cas h1 with ⟨x1, y1⟩ | ⟨x1, y1⟩ <;> rcases cas h2 with ⟨x2, y2⟩ | ⟨x2, y2⟩
    · exact S.inj i j a y1 y2
    · exact (apart y1 y2).elim
    · exact (apart y2 y1).elim
    · rw [x1, x2]
  · rcases cas h1 with ⟨x1, y1⟩ | ⟨x1, y1⟩
    · rw [List.getElem?_append_left (by rw [← S.len]; exact x1)] at h2
      refine (S.obj i a ob y1 h2).up l fun d => ?_
      obtain ⟨u, e, _⟩ := (S.obj i a ob y1 h2).some d
      rw [e, hk a u e]
    · subst y1
      have e : ob = o := by
        rw [x1, S.len] at h2
        simp at h2
        exact h2.symm
      subst e
      exact hn l
  · rcases cas h with ⟨_, y1⟩ | ⟨_, y1⟩
    · exact S.fr i a y1
    · cases q : B.H0 a with
      | none => rfl
      | some u =>
        have := S.keep a u q
        rw [y1, n] at this
        cases this
  · rcases cas h with ⟨_, y1⟩ | ⟨_, y1⟩
    · obtain ⟨u, q⟩ := S.trk i a y1
      exact ⟨u, hk a u q⟩
    · subst y1
      exact hp
theorem keep_upd {H : Hp} {p : Addr} {o : HO} (n : H p = none) : ∀ a u, H a = some u → upd H p o a = some u := fun a u e => by
  rw [upd_ne (ne_of_none e n)]
  exact e
/-- one of our objects is changed -/
theorem Sim.write (S : Sim Y B β g H) {i : Nat} {a : Addr} {o o' : Ob} {u : HO} (ha : β[i]? = some a) (ho : g[i]? = some o) (d : o ≠ .dead)
    (hn : ∀ {L' : Addr → Prop} {β' : List Addr}, Le H (Lv B β g) β (upd H a u) L' β' → OR Y (upd H a u) L' β' a o') : Sim Y B β (g.set i o') (upd H a u) ∧ LeS B β g H β (g.set i o') (upd H a u) := by
  have hlt : i < g.length := (List.getElem?_eq_some_iff.mp ho).1
  obtain ⟨w, ew, mw⟩ := (S.obj i a o ha ho).some d
  have hL : ∀ b, Lv B β (g.set i o') b → Lv B β g b := by
    rintro b (h | ⟨j, ob, h1, h2, h3⟩)
    · exact .inl h
    · by_cases hj : j = i
      · subst hj
        exact .inr ⟨j, o, h1, ho, d⟩
      · rw [List.getElem?_set_ne (Ne.symm hj)] at h2
        exact .inr ⟨j, ob, h1, h2, h3⟩
  have la : Lv B β g a := Or.inr ⟨i, o, ha, ho, d⟩
  have rdt : ∀ {b vs}, Rd H b (.tup vs) → b ≠ a := fun {b vs} h e => by
    subst e
    rcases h with h | ⟨q, h⟩ <;> (rw [ew] at h; cases h; exact mw)
  have ne : ∀ {b x}, Rd H b x → b ≠ a → Rd (upd H a u) b x := fun {b x} h e => by
    rcases h with h | ⟨q, h⟩
    · exact .inl (by rw [upd_ne e]; exact h)
    · exact .inr ⟨q, by rw [upd_ne e]; exact h⟩
  have l : LeS B β g H β (g.set i o') (upd H a u) :=
    ⟨fun _ _ h => h, fun b vs h => ne h (rdt h), fun b vs h nl => ⟨by
      have e : b ≠ a := fun e => nl (by rw [e]; exact la)
      rw [upd_ne e]; exact h, fun q => nl (hL b q)⟩, fun b q x h => by
      rw [upd_ne fun e => ?_]
      · exact h
      · subst e
        rw [ew] at h
        cases h
        exact mw⟩
  refine ⟨⟨by simp [S.len], S.inj, fun j b ob h1 h2 => ?_, S.fr, fun b x e => ?_, S.usub, fun j b h => ?_⟩, l⟩
  · by_cases hj : j = i
    · subst hj
      rw [ha] at h1
      cases h1
      rw [List.getElem?_set_self hlt] at h2
      cases h2
      exact hn l
    · rw [List.getElem?_set_ne (Ne.symm hj)] at h2
      exact (S.obj j b ob h1 h2).up l fun _ => upd_ne fun e => hj (S.inj j i a (e ▸ h1) ha)
  · have : b ≠ a := fun z => by
      have := S.fr i a ha
      rw [← z, e] at this
      cases this
    rw [upd_ne this]
    exact S.keep b x e
  · obtain ⟨x, q⟩ := S.trk j b h
    by_cases e : b = a
    · exact ⟨u, by rw [e, upd_same]⟩
    · exact ⟨x, by rw [upd_ne e]; exact q⟩
/-- a list of ours is frozen -/
theorem Sim.freeze (S : Sim Y B β g H) {i : Nat} {xs : List Vl} (ho : g[i]? = some (.lst xs)) : Sim Y B β (g.set i .dead) H ∧ LeS B β g H β (g.set i .dead) H ∧ ∀ {v : V} , VR Y.K H (Lv B β g) β (.ref i) v → VR Y.K H (Lv B β (g.set i .dead)) β (.lst xs) v := by
  have hlt : i < g.length := (List.getElem?_eq_some_iff.mp ho).1
  have hL : ∀ b, Lv B β (g.set i .dead) b → Lv B β g b ∧ (B.U b ∨ β[i]? ≠ some b) := by
    rintro b (h | ⟨j, ob, h1, h2, h3⟩)
    · exact ⟨.inl h, .inl h⟩
    · by_cases hj : j = i
      · subst hj
        rw [List.getElem?_set_self hlt] at h2
        cases h2
        exact (h3 rfl).elim
      · rw [List.getElem?_set_ne (Ne.symm hj)] at h2
        exact ⟨.inr ⟨j, ob, h1, h2, h3⟩, .inr fun q => hj (S.inj _ _ _ h1 q)⟩
  have l : LeS B β g H β (g.set i .dead) H := ⟨fun _ _ h => h, fun b vs h => h, fun b vs h nl => ⟨h, fun q => nl (hL b q).1⟩, fun _ _ _ h => h⟩
  refine ⟨⟨by simp [S.len], S.inj, fun j b ob h1 h2 => ?_, S.fr, S.keep, S.usub, S.trk⟩, l, fun {v} h => ?_⟩
  · by_cases hj : j = i
    · subst hj
      rw [List.getElem?_set_self hlt] at h2
      cases h2
      trivial
    · rw [List.getElem?_set_ne (Ne.symm hj)] at h2
      exact (S.obj j b ob h1 h2).up l fun _ => rfl
  · cases h with
    | ref ha =>
      obtain ⟨vs, e, r⟩ := S.obj i _ _ ha ho
      refine .lst e (fun q => ?_) (r.up l)
      rcases (hL _ q).2 with q | q
      · obtain ⟨u, z⟩ := S.usub _ q
        rw [S.fr i _ ha] at z
        cases z
      · exact q ha
end
end CS

set_option Elab.async false
set_option linter.all false
set_option maxRecDepth 100000
namespace CS
open PySem L2

/-! ### what a clean run tells of a real one -/
def XR (Y : Cy) (H : Hp) (L : Addr → Prop) (β : List Addr) (e : Xn) (cls : Value) (d : Option Addr) : Prop :=
  cls = .ref (Y.cad e.c) ∧ ((e.fs = [] ∧ d = none) ∨ ∃ dx ws, d = some dx ∧ H dx = some (.xd ws) ∧ KVR Y.K H L β e.fs ws)
def Fin {α αv : Type} (Y : Cy) (B : Bs) (R : Hp → (Addr → Prop) → List Addr → α → αv → Prop) (β : List Addr) (g : Gh) (H : Hp) (r : Res α) (Q : αv → Hp → Prop) (E : XK) : Prop :=
  match r with
  | .ok a g' => ∀ β' H' x, Sim Y B β' g' H' → LeS B β g H β' g' H' → R H' (Lv B β' g') β' a x → Q x H'
  | .exc e g' => ∀ β' H' cls d, Sim Y B β' g' H' → LeS B β g H β' g' H' → XR Y H' (Lv B β' g') β' e cls d → E cls d H'
  | .stuck => False
structure EnvR (K : PySem.W.Frag) (H : Hp) (L : Addr → Prop) (β : List Addr) (ρ : Env) (σ : St) : Prop where
  len : ρ.length = σ.length
  has : ∀ (i : Nat) (v : Vl), ρ[i]? = some (some v) → ∃ x, σ[i]? = some (some x) ∧ VR K H L β v x
theorem EnvR.up {K : PySem.W.Frag} {H H' : Hp} {L L' : Addr → Prop} {β β' : List Addr} {ρ : Env} {σ : St} (h : EnvR K H L β ρ σ) (l : Le H L β H' L' β') : EnvR K H' L' β' ρ σ :=
  ⟨h.len, fun i v e => let ⟨x, e1, r⟩ := h.has i v e; ⟨x, e1, r.up l⟩⟩
theorem EnvR.put {K : PySem.W.Frag} {H : Hp} {L : Addr → Prop} {β : List Addr} {ρ : Env} {σ : St} {v : Vl} {x : V} (h : EnvR K H L β ρ σ) (i : Nat) (r : VR K H L β v x) : EnvR K H L β (ρ.set i (some v)) (σ.set i (some x)) := by
  refine ⟨by simp [h.len], fun j w e => ?_⟩
  by_cases hj : j = i
  · subst hj
    have hl : j < ρ.length := by
      have := (List.getElem?_eq_some_iff.mp e).1
      simpa using this
    rw [List.getElem?_set_self hl] at e
    cases e
    exact ⟨x, by rw [List.getElem?_set_self (by rw [← h.len]; exact hl)], r⟩
  · rw [List.getElem?_set_ne (Ne.symm hj)] at e
    obtain ⟨y, e1, r1⟩ := h.has j w e
    exact ⟨y, by rw [List.getElem?_set_ne (Ne.symm hj)]; exact e1, r1⟩
theorem EnvR.forget {K : PySem.W.Frag} {H : Hp} {L : Addr → Prop} {β : List Addr} {ρ : Env} {σ : St} (h : EnvR K H L β ρ σ) (i : Nat) : EnvR K H L β (ρ.set i none) σ := by
  refine ⟨by simp [h.len], fun j w e => ?_⟩
  by_cases hj : j = i
  · subst hj
    have hl : j < ρ.length := by
      have := (List.getElem?_eq_some_iff.mp e).1
      simpa using this
    rw [List.getElem?_set_self hl] at e
    cases e
  · rw [List.getElem?_set_ne (Ne.symm hj)] at e
    exact h.has j w e

section
variable {Y : Cy} {B : Bs} {β β1 : List Addr} {g g1 : Gh} {H H1 : Hp} {α αv : Type} {R : Hp → (Addr → Prop) → List Addr → α → αv → Prop} {r : Res α} {Q : αv → Hp → Prop} {E : XK}
theorem Fin.later (l : LeS B β g H β1 g1 H1) (h : Fin Y B R β g H r Q E) : Fin Y B R β1 g1 H1 r Q E := by
  cases r with
  | ok a g' => exact fun β' H' x S l' q => h β' H' x S (l.trans l') q
  | exc e g' => exact fun β' H' c d S l' q => h β' H' c d S (l.trans l') q
  | stuck => exact h
theorem Fin.here {a : α} {x : αv} (h : Fin Y B R β g H (.ok a g) Q E) (S : Sim Y B β g H) (q : R H (Lv B β g) β a x) : Q x H := h β H x S Le.refl q
theorem Fin.imp {Q' : αv → Hp → Prop} {E' : XK} (h : Fin Y B R β g H r Q E) (hq : ∀ x H', Q x H' → Q' x H') (he : ∀ c d H', E c d H' → E' c d H') : Fin Y B R β g H r Q' E' := by
  cases r with
  | ok a g' => exact fun β' H' x S l' q => hq _ _ (h β' H' x S l' q)
  | exc e g' => exact fun β' H' c d S l' q => he _ _ _ (h β' H' c d S l' q)
  | stuck => exact h
end

/-! ### readings by clean programs -/
def tE (Y : Cy) (m : ME) (W : WX) : TE := fun σ H Q => ∃ (B : Bs) (β : List Addr) (g : Gh) (ρ : Env), Sim Y B β g H ∧ EnvR Y.K H (Lv B β g) β ρ σ ∧ Fin Y B (VR Y.K) β g H (m ρ g) Q (fun c d H' => W c d σ H')
def tT (Y : Cy) (m : MT) (W : WX) : TT := fun σ H Q => ∃ (B : Bs) (β : List Addr) (g : Gh) (ρ : Env), Sim Y B β g H ∧ EnvR Y.K H (Lv B β g) β ρ σ ∧ Fin Y B (fun _ _ _ b c => b = c) β g H (m ρ g) Q (fun c d H' => W c d σ H')
def tA (Y : Cy) (m : MA) (W : WX) : TA := fun σ H Q => ∃ (B : Bs) (β : List Addr) (g : Gh) (ρ : Env), Sim Y B β g H ∧ EnvR Y.K H (Lv B β g) β ρ σ ∧ Fin Y B (VRs Y.K) β g H (m ρ g) Q (fun c d H' => W c d σ H')
abbrev MO := Env → Gh → Res (Option Int)
def tO (Y : Cy) (m : MO) (W : WX) : TO := fun σ H Q => ∃ (B : Bs) (β : List Addr) (g : Gh) (ρ : Env), Sim Y B β g H ∧ EnvR Y.K H (Lv B β g) β ρ σ ∧ Fin Y B (fun _ _ _ b c => b = c) β g H (m ρ g) Q (fun c d H' => W c d σ H')

theorem _root_.L2.PE.imp {X : Cx} {e : Expr} {t t' : TE} (p : PE X e t) (h : ∀ σ H Q, t' σ H Q → t σ H Q) : PE X e t' := ⟨fun pins s σ H Q I q => p.run pins s σ H Q I (h _ _ _ q)⟩
theorem _root_.L2.PE.or {X : Cx} {e : Expr} {t t' : TE} (p : PE X e t) (p' : PE X e t') : PE X e (fun σ H Q => t σ H Q ∨ t' σ H Q) :=
  ⟨fun pins s σ H Q I q => q.elim (fun q => p.run pins s σ H Q I q) (fun q => p'.run pins s σ H Q I q)⟩
theorem _root_.L2.PT.imp {X : Cx} {e : Expr} {t t' : TT} (p : PT X e t) (h : ∀ σ H Q, t' σ H Q → t σ H Q) : PT X e t' := ⟨fun pins s σ H Q I q => p.run pins s σ H Q I (h _ _ _ q)⟩
theorem _root_.L2.PA.imp {X : Cx} {e : List Expr} {t t' : TA} (p : PA X e t) (h : ∀ σ H Q, t' σ H Q → t σ H Q) : PA X e t' := ⟨fun pos pins s σ H Q I q => p.run pos pins s σ H Q I (h _ _ _ q)⟩
theorem _root_.L2.PS.imp {X : Cx} {e : Stmt} {t t' : TS} (p : PS X e t) (h : ∀ D σ H, t' D σ H → t D σ H) : PS X e t' := ⟨fun pins s σ H D I q => p.run pins s σ H D I (h _ _ _ q)⟩
theorem _root_.L2.PSs.imp {X : Cx} {e : List Stmt} {t t' : TS} (p : PSs X e t) (h : ∀ D σ H, t' D σ H → t D σ H) : PSs X e t' := ⟨fun pins s σ H D I q => p.run pins s σ H D I (h _ _ _ q)⟩
section
variable {Y : Cy} {B : Bs} {β : List Addr} {g : Gh} {H : Hp} {α αv : Type} {R : Hp → (Addr → Prop) → List Addr → α → αv → Prop} {σ : St} {ρ : Env} {W : WX}
/-- a part, then the rest -/
theorem tE_bind {m : ME} {k : Vl → Gh → Res α} {Q' : αv → Hp → Prop} {Qe : VK} (S : Sim Y B β g H) (V : EnvR Y.K H (Lv B β g) β ρ σ) (h : Fin Y B R β g H ((m ρ g).bind k) Q' (fun c d H' => W c d σ H'))
    (next : ∀ β1 g1 H1 v x, Sim Y B β1 g1 H1 → LeS B β g H β1 g1 H1 → EnvR Y.K H1 (Lv B β1 g1) β1 ρ σ → VR Y.K H1 (Lv B β1 g1) β1 v x → Fin Y B R β1 g1 H1 (k v g1) Q' (fun c d H' => W c d σ H') → Qe x H1) : tE Y m W σ H Qe := by
  refine ⟨B, β, g, ρ, S, V, ?_⟩
  cases e : m ρ g with
  | ok v g1 =>
    rw [e] at h
    exact fun β1 H1 x S1 l1 r1 => next β1 g1 H1 v x S1 l1 (V.up l1) r1 (Fin.later l1 h)
  | exc x g1 =>
    rw [e] at h
    exact h
  | stuck =>
    rw [e] at h
    exact h
theorem tA_bind {m : MA} {k : List Vl → Gh → Res α} {Q' : αv → Hp → Prop} {Qe : List V → Hp → Prop} (S : Sim Y B β g H) (V : EnvR Y.K H (Lv B β g) β ρ σ) (h : Fin Y B R β g H ((m ρ g).bind k) Q' (fun c d H' => W c d σ H'))
    (next : ∀ β1 g1 H1 v x, Sim Y B β1 g1 H1 → LeS B β g H β1 g1 H1 → EnvR Y.K H1 (Lv B β1 g1) β1 ρ σ → VRs Y.K H1 (Lv B β1 g1) β1 v x → Fin Y B R β1 g1 H1 (k v g1) Q' (fun c d H' => W c d σ H') → Qe x H1) : tA Y m W σ H Qe := by
  refine ⟨B, β, g, ρ, S, V, ?_⟩
  cases e : m ρ g with
  | ok v g1 =>
    rw [e] at h
    exact fun β1 H1 x S1 l1 r1 => next β1 g1 H1 v x S1 l1 (V.up l1) r1 (Fin.later l1 h)
  | exc x g1 =>
    rw [e] at h
    exact h
  | stuck =>
    rw [e] at h
    exact h
theorem tO_bind {m : MO} {k : Option Int → Gh → Res α} {Q' : αv → Hp → Prop} {Qe : Option Int → Hp → Prop} (S : Sim Y B β g H) (V : EnvR Y.K H (Lv B β g) β ρ σ) (h : Fin Y B R β g H ((m ρ g).bind k) Q' (fun c d H' => W c d σ H'))
    (next : ∀ β1 g1 H1 v, Sim Y B β1 g1 H1 → LeS B β g H β1 g1 H1 → EnvR Y.K H1 (Lv B β1 g1) β1 ρ σ → Fin Y B R β1 g1 H1 (k v g1) Q' (fun c d H' => W c d σ H') → Qe v H1) : tO Y m W σ H Qe := by
  refine ⟨B, β, g, ρ, S, V, ?_⟩
  cases e : m ρ g with
  | ok v g1 =>
    rw [e] at h
    exact fun β1 H1 x S1 l1 r1 => r1 ▸ next β1 g1 H1 v S1 l1 (V.up l1) (Fin.later l1 h)
  | exc x g1 =>
    rw [e] at h
    exact h
  | stuck =>
    rw [e] at h
    exact h
theorem tT_bind {m : MT} {k : Bool → Gh → Res α} {Q' : αv → Hp → Prop} {Qe : Bool → Hp → Prop} (S : Sim Y B β g H) (V : EnvR Y.K H (Lv B β g) β ρ σ) (h : Fin Y B R β g H ((m ρ g).bind k) Q' (fun c d H' => W c d σ H'))
    (next : ∀ β1 g1 H1 v, Sim Y B β1 g1 H1 → LeS B β g H β1 g1 H1 → EnvR Y.K H1 (Lv B β1 g1) β1 ρ σ → Fin Y B R β1 g1 H1 (k v g1) Q' (fun c d H' => W c d σ H') → Qe v H1) : tT Y m W σ H Qe := by
  refine ⟨B, β, g, ρ, S, V, ?_⟩
  cases e : m ρ g with
  | ok v g1 =>
    rw [e] at h
    exact fun β1 H1 x S1 l1 r1 => r1 ▸ next β1 g1 H1 v S1 l1 (V.up l1) (Fin.later l1 h)
  | exc x g1 =>
    rw [e] at h
    exact h
  | stuck =>
    rw [e] at h
    exact h
end

/-! ### clean expressions -/
def mVar (i : Nat) : ME := fun ρ g => match ρ[i]? with | some (some v) => .ok v g | _ => .stuck
def mC (v : Vl) : ME := fun _ g => .ok v g
def mOp (f : Vl → Vl → Gh → Res Vl) (a b : ME) : ME := fun ρ g => (a ρ g).bind fun v g1 => (b ρ g1).bind fun w g2 => f v w g2
def mUn (f : Vl → Gh → Res Vl) (a : ME) : ME := fun ρ g => (a ρ g).bind fun v g1 => f v g1
def mChain (f f' : Vl → Vl → Gh → Res Vl) (a b c : ME) : ME := fun ρ g => (a ρ g).bind fun v g1 => (b ρ g1).bind fun w g2 => (f v w g2).bind fun z g3 => match z with
  | .bl true => (c ρ g3).bind fun u g4 => f' w u g4
  | .bl false => .ok (.bl false) g3
  | _ => .stuck
def mNil : MA := fun _ g => .ok [] g
def mCons (a : ME) (r : MA) : MA := fun ρ g => (a ρ g).bind fun v g1 => (r ρ g1).bind fun vs g2 => .ok (v :: vs) g2
def tupM (vs : List Vl) (g : Gh) : Res Vl := if vs.length ≤ sizeLine then .ok (.tup vs) g else .stuck
def lstM (vs : List Vl) (g : Gh) : Res Vl := if vs.length ≤ sizeLine then .ok (.lst vs) g else .stuck
/-- a list that may change -/
def newM (vs : List Vl) (g : Gh) : Res Vl := if vs.length ≤ sizeLine then .ok (.ref g.length) (g ++ [.lst vs]) else .stuck
def mArgs (f : List Vl → Gh → Res Vl) (a : MA) : ME := fun ρ g => (a ρ g).bind f
def mMth (f : Vl → List Vl → Gh → Res Vl) (o : ME) (a : MA) : ME := fun ρ g => (o ρ g).bind fun v g1 => (a ρ g1).bind fun vs g2 => f v vs g2
def mAnd (a b : ME) : ME := fun ρ g => (a ρ g).bind fun v g1 => match v with | .bl true => b ρ g1 | .bl false => .ok (.bl false) g1 | _ => .stuck
def mOr (a b : ME) : ME := fun ρ g => (a ρ g).bind fun v g1 => match v with | .bl false => b ρ g1 | .bl true => .ok (.bl true) g1 | _ => .stuck
def notM (v : Vl) (g : Gh) : Res Vl := match v with | .bl b => .ok (.bl (!b)) g | _ => .stuck
def mT (a : ME) : MT := fun ρ g => (a ρ g).bind fun v g1 => match v with | .bl b => .ok b g1 | _ => .stuck
def mIf (t : MT) (a b : ME) : ME := fun ρ g => (t ρ g).bind fun c g1 => if c then a ρ g1 else b ρ g1
def mNoPart : MO := fun _ g => .ok none g
def mPart (a : ME) : MO := fun ρ g => (a ρ g).bind fun v g1 => match v with | .int i => .ok (some i) g1 | _ => .stuck
def mSl (f : Vl → Option Int → Option Int → Gh → Res Vl) (a : ME) (l h : MO) : ME := fun ρ g => (a ρ g).bind fun v g1 => (l ρ g1).bind fun i g2 => (h ρ g2).bind fun j g3 => f v i j g3

def OpS (Y : Cy) (r : R2) (f : Vl → Vl → Gh → Res Vl) : Prop :=
  ∀ (B : Bs) (β : List Addr) (g : Gh) (H : Hp) (v w : Vl) (x y : V) (Q : VK) (E : XK), Sim Y B β g H → VR Y.K H (Lv B β g) β v x → VR Y.K H (Lv B β g) β w y → Fin Y B (VR Y.K) β g H (f v w g) Q E → r x y H Q
def UnS (Y : Cy) (r : V → Hp → VK → Prop) (f : Vl → Gh → Res Vl) : Prop :=
  ∀ (B : Bs) (β : List Addr) (g : Gh) (H : Hp) (v : Vl) (x : V) (Q : VK) (E : XK), Sim Y B β g H → VR Y.K H (Lv B β g) β v x → Fin Y B (VR Y.K) β g H (f v g) Q E → r x H Q
def CallS (Y : Cy) (r : List V → Hp → VK → Prop) (f : List Vl → Gh → Res Vl) : Prop :=
  ∀ (B : Bs) (β : List Addr) (g : Gh) (H : Hp) (vs : List Vl) (xs : List V) (Q : VK) (E : XK), Sim Y B β g H → VRs Y.K H (Lv B β g) β vs xs → Fin Y B (VR Y.K) β g H (f vs g) Q E → r xs H Q
def MtS (Y : Cy) (T : String) (r : V → List V → Hp → VK → Prop) (f : Vl → List Vl → Gh → Res Vl) : Prop :=
  ∀ (B : Bs) (β : List Addr) (g : Gh) (H : Hp) (v : Vl) (x : V) (vs : List Vl) (xs : List V) (Q : VK) (E : XK), Sim Y B β g H → VR Y.K H (Lv B β g) β v x → VRs Y.K H (Lv B β g) β vs xs → Fin Y B (VR Y.K) β g H (f v vs g) Q E → r x xs H Q
def SlS (Y : Cy) (r : V → Option Int → Option Int → Hp → VK → Prop) (f : Vl → Option Int → Option Int → Gh → Res Vl) : Prop :=
  ∀ (B : Bs) (β : List Addr) (g : Gh) (H : Hp) (v : Vl) (x : V) (i j : Option Int) (Q : VK) (E : XK), Sim Y B β g H → VR Y.K H (Lv B β g) β v x → Fin Y B (VR Y.K) β g H (f v i j g) Q E → r x i j H Q

abbrev yX (X : Cx) (cad : Nat → Addr) : Cy := ⟨X.K, cad⟩
section
variable {X : Cx} {cad : Nat → Addr} {W : WX} {a b c e : Expr} {es : List Expr} {ma mb mc : ME} {mt : MT} {mas : MA} {pos p p2 : Pos}
theorem se_var (i : Nat) {x : Str} (hN : X.N[i]? = some x := by rfl) (hv : Vis X.env.scope x := by first | exact Or.inl rfl | exact Or.inr (Or.inl rfl) | exact Or.inr (Or.inr rfl)) (hd : (x == ("__debug__" : Str)) = false := by decide)
    (hcd : (x == ("__classdict__" : Str)) = false := by decide) : PE X (.Name x pos) (tE (yX X cad) (mVar i) W) := by
  refine (pe_var hN hv hd hcd).imp fun σ H Q => ?_
  rintro ⟨B, β, g, ρ, S, V, h⟩
  unfold mVar at h
  cases e : ρ[i]? with
  | none => rw [e] at h; exact h.elim
  | some o =>
    cases o with
    | none => rw [e] at h; exact h.elim
    | some v =>
      rw [e] at h
      obtain ⟨x, e1, r⟩ := V.has i v e
      exact ⟨x, e1, h.here S r⟩
theorem se_c {v : Vl} {x : V} (h : PE X e (tC x)) (hv : ∀ H L β, VR X.K H L β v x) : PE X e (tE (yX X cad) (mC v) W) := by
  refine h.imp fun σ H Q => ?_
  rintro ⟨B, β, g, ρ, S, V, q⟩
  exact q.here S (hv _ _ _)
theorem se_int {i : Int} {j} : PE X (.Constant (.int i) j pos) (tE (yX X cad) (mC (.int i)) W) := se_c pe_int fun _ _ _ => .int i
theorem se_str {i : Str} {j} : PE X (.Constant (.str i) j pos) (tE (yX X cad) (mC (.str i)) W) := se_c pe_str fun _ _ _ => .str i
theorem se_bl {i : Bool} {j} : PE X (.Constant (.bool i) j pos) (tE (yX X cad) (mC (.bl i)) W) := se_c pe_bl fun _ _ _ => .bl i
theorem se_non {j} : PE X (.Constant .none j pos) (tE (yX X cad) (mC .non) W) := se_c pe_non fun _ _ _ => .non
theorem se_glob {x : Str} {v : Vl} {xv : V} {u : Value} (hg : Gl X x) (hm : X.mg x = some u) (r : RelV xv u) (hv : ∀ H L β, VR X.K H L β v xv) (hd : (x == ("__debug__" : Str)) = false := by decide) : PE X (.Name x pos) (tE (yX X cad) (mC v) W) := se_c (pe_glob hg hm r hd) hv
theorem se_op {op} {r : R2} {f : Vl → Vl → Gh → Res Vl} (ho : OpR X (binaryOp op) r) (hs : OpS (yX X cad) r f) (ha : PE X a (tE (yX X cad) ma W)) (hb : PE X b (tE (yX X cad) mb W)) : PE X (.BinOp a op b pos) (tE (yX X cad) (mOp f ma mb) W) := by
  refine (pe_op ho ha hb).imp fun σ H Q => ?_
  rintro ⟨B, β, g, ρ, S, V, h⟩
  refine tE_bind S V h fun β1 g1 H1 v x S1 l1 V1 r1 h1 => ?_
  refine tE_bind S1 V1 h1 fun β2 g2 H2 w y S2 l2 V2 r2 h2 => ?_
  exact hs B β2 g2 H2 v w x y Q _ S2 (r1.up l2) r2 h2
theorem se_cmp {op : CmpOp} {r : R2} {f : Vl → Vl → Gh → Res Vl} (ho : OpR X (compareOp op) r) (hs : OpS (yX X cad) r f) (ha : PE X a (tE (yX X cad) ma W)) (hb : PE X b (tE (yX X cad) mb W)) (hm : behindInMarks op b = false) : PE X (.Compare a [op] [b] pos) (tE (yX X cad) (mOp f ma mb) W) := by
  refine (pe_cmpR ho ha hb hm).imp fun σ H Q => ?_
  rintro ⟨B, β, g, ρ, S, V, h⟩
  refine tE_bind S V h fun β1 g1 H1 v x S1 l1 V1 r1 h1 => ?_
  refine tE_bind S1 V1 h1 fun β2 g2 H2 w y S2 l2 V2 r2 h2 => ?_
  exact hs B β2 g2 H2 v w x y Q _ S2 (r1.up l2) r2 h2
theorem se_ix {r : R2} {f : Vl → Vl → Gh → Res Vl} (ho : IxR X r) (hs : OpS (yX X cad) r f) (ha : PE X a (tE (yX X cad) ma W)) (hb : PE X b (tE (yX X cad) mb W)) (hp : PlainIx b) : PE X (.Subscript a b pos) (tE (yX X cad) (mOp f ma mb) W) := by
  refine (pe_ix ho ha hb hp).imp fun σ H Q => ?_
  rintro ⟨B, β, g, ρ, S, V, h⟩
  refine tE_bind S V h fun β1 g1 H1 v x S1 l1 V1 r1 h1 => ?_
  refine tE_bind S1 V1 h1 fun β2 g2 H2 w y S2 l2 V2 r2 h2 => ?_
  exact hs B β2 g2 H2 v w x y Q _ S2 (r1.up l2) r2 h2
theorem se_un {op} {r : V → Hp → VK → Prop} {f : Vl → Gh → Res Vl} (ho : UnR X (unaryOp op) r) (hs : UnS (yX X cad) r f) (ha : PE X a (tE (yX X cad) ma W)) : PE X (.UnaryOp op a pos) (tE (yX X cad) (mUn f ma) W) := by
  refine (pe_un ho ha).imp fun σ H Q => ?_
  rintro ⟨B, β, g, ρ, S, V, h⟩
  refine tE_bind S V h fun β1 g1 H1 v x S1 l1 V1 r1 h1 => ?_
  exact hs B β1 g1 H1 v x Q _ S1 r1 h1
theorem se_chain {op op' : CmpOp} {r r' : R2} {f f' : Vl → Vl → Gh → Res Vl} (ho : OpR X (compareOp op) r) (hs : OpS (yX X cad) r f) (ho' : OpR X (compareOp op') r') (hs' : OpS (yX X cad) r' f') (ha : PE X a (tE (yX X cad) ma W)) (hb : PE X b (tE (yX X cad) mb W)) (hc : PE X c (tE (yX X cad) mc W))
    (hm : lastMarks [op, op'] [b, c] = false := by with_unfolding_all rfl) : PE X (.Compare a [op, op'] [b, c] pos) (tE (yX X cad) (mChain f f' ma mb mc) W) := by
  refine (pe_chain ho ho' ha hb hc hm).imp fun σ H Q => ?_
  rintro ⟨B, β, g, ρ, S, V, h⟩
  refine tE_bind S V h fun β1 g1 H1 v x S1 l1 V1 r1 h1 => ?_
  refine tE_bind S1 V1 h1 fun β2 g2 H2 w y S2 l2 V2 r2 h2 => ?_
  have fin : Fin (yX X cad) B (VR X.K) β2 g2 H2 (f v w g2) (fun z H3 => ∃ k, z = .bl k ∧ (if k = true then tE (yX X cad) mc W σ H3 fun w' H4 => r' y w' H4 Q else Q (.bl false) H3)) (fun c d H' => W c d σ H') := by
    revert h2
    cases f v w g2 with
    | ok z g3 =>
      intro h2 β3 H3 xz S3 l3 r3
      have h3 := Fin.later l3 h2
      cases z with
      | bl k =>
        cases r3
        refine ⟨k, rfl, ?_⟩
        cases k with
        | true =>
          refine iteT ?_
          refine tE_bind S3 (V2.up l3) h3 fun β4 g4 H4 u y4 S4 l4 V4 r4 h4 => ?_
          exact hs' B β4 g4 H4 w u y y4 Q _ S4 ((r2.up l3).up l4) r4 h4
        | false => exact iteF (Fin.here h3 S3 (.bl false))
      | _ => exact h3.elim
    | exc z g3 => exact fun h2 => h2
    | stuck => exact fun h2 => h2
  exact hs B β2 g2 H2 v w x y _ _ S2 (r1.up l2) r2 fin
theorem sa_nil : PA X [] (tA (yX X cad) mNil W) := by
  refine pa_nil.imp fun σ H Q => ?_
  rintro ⟨B, β, g, ρ, S, V, h⟩
  exact h.here S .nil
theorem sa_cons (ha : PE X e (tE (yX X cad) ma W)) (hr : PA X es (tA (yX X cad) mas W)) (hs : starEach (e :: es) X.env = (false, eval e X.env) :: starEach es X.env := by rfl) : PA X (e :: es) (tA (yX X cad) (mCons ma mas) W) := by
  refine (pa_cons ha hr hs).imp fun σ H Q => ?_
  rintro ⟨B, β, g, ρ, S, V, h⟩
  refine tE_bind S V h fun β1 g1 H1 v x S1 l1 V1 r1 h1 => ?_
  refine tA_bind S1 V1 h1 fun β2 g2 H2 vs xs S2 l2 V2 r2 h2 => ?_
  exact h2.here S2 (.cons (r1.up l2) r2)
theorem se_tup {k} (ha : PA X es (tA (yX X cad) mas W)) : PE X (.Tuple es k pos) (tE (yX X cad) (mArgs tupM mas) W) := by
  refine (pe_tup ha).imp fun σ H Q => ?_
  rintro ⟨B, β, g, ρ, S, V, h⟩
  refine tA_bind S V h fun β1 g1 H1 vs xs S1 l1 V1 r1 h1 => ?_
  unfold tupM at h1
  split at h1
  · rename_i hz
    refine ⟨by rw [← r1.length]; exact hz, fun p hp => ?_⟩
    obtain ⟨S2, l2⟩ := S1.new (o := .tup xs) hp
    exact h1 β1 _ _ S2 l2 (.tup (.inl (.inl upd_same)) (r1.up l2))
  · exact h1.elim
theorem se_lst (ha : PA X es (tA (yX X cad) mas W)) : PE X (.List es pos) (tE (yX X cad) (mArgs lstM mas) W) := by
  refine (pe_lst ha).imp fun σ H Q => ?_
  rintro ⟨B, β, g, ρ, S, V, h⟩
  refine tA_bind S V h fun β1 g1 H1 vs xs S1 l1 V1 r1 h1 => ?_
  unfold lstM at h1
  split at h1
  · rename_i hz
    refine ⟨by rw [← r1.length]; exact hz, fun p hp => ?_⟩
    obtain ⟨S2, l2⟩ := S1.new (o := .lst xs) hp
    exact h1 β1 _ _ S2 l2 (.lst upd_same (S1.notLive hp) (r1.up l2))
  · exact h1.elim
/-- a new list at p is one of ours -/
theorem new_ours {Y : Cy} {B : Bs} {β : List Addr} {g : Gh} {H : Hp} {p : Addr} {vs : List Vl} {xs : List V} (S : Sim Y B β g H) (hp : H p = none) (r : VRs Y.K H (Lv B β g) β vs xs) :
    Sim Y B (β ++ [p]) (g ++ [.lst vs]) (upd H p (.lst xs)) ∧ LeS B β g H (β ++ [p]) (g ++ [.lst vs]) (upd H p (.lst xs)) ∧ VR Y.K (upd H p (.lst xs)) (Lv B (β ++ [p]) (g ++ [.lst vs])) (β ++ [p]) (.ref g.length) (.ref p) := by
  have q := S.alloc (o := .lst vs) (H' := upd H p (.lst xs)) hp (keep_upd hp) ⟨_, upd_same⟩ fun l => ⟨xs, upd_same, r.up l⟩
  exact ⟨q.1, q.2, .ref (by rw [← S.len]; simp)⟩
theorem se_new (ha : PA X es (tA (yX X cad) mas W)) : PE X (.List es pos) (tE (yX X cad) (mArgs newM mas) W) := by
  refine (pe_lst ha).imp fun σ H Q => ?_
  rintro ⟨B, β, g, ρ, S, V, h⟩
  refine tA_bind S V h fun β1 g1 H1 vs xs S1 l1 V1 r1 h1 => ?_
  unfold newM at h1
  split at h1
  · rename_i hz
    refine ⟨by rw [← r1.length]; exact hz, fun p hp => ?_⟩
    obtain ⟨S2, l2, r2⟩ := new_ours (Y := yX X cad) S1 hp r1
    exact h1 _ _ _ S2 l2 r2
  · exact h1.elim
theorem se_and {rest : List Expr} (ha : PE X a (tE (yX X cad) ma W)) (hb : PE X (.BoolOp .And (b :: rest) pos) (tE (yX X cad) mb W)) : PE X (.BoolOp .And (a :: b :: rest) pos) (tE (yX X cad) (mAnd ma mb) W) := by
  refine (pe_and ha hb).imp fun σ H Q => ?_
  rintro ⟨B, β, g, ρ, S, V, h⟩
  refine tE_bind S V h fun β1 g1 H1 v x S1 l1 V1 r1 h1 => ?_
  cases v with
  | bl k =>
    cases r1
    refine ⟨k, rfl, ?_⟩
    cases k with
    | true => exact iteT ⟨B, β1, g1, ρ, S1, V1, h1⟩
    | false => exact iteF (h1.here S1 (.bl false))
  | _ => exact h1.elim
theorem se_or {rest : List Expr} (ha : PE X a (tE (yX X cad) ma W)) (hb : PE X (.BoolOp .Or (b :: rest) pos) (tE (yX X cad) mb W)) : PE X (.BoolOp .Or (a :: b :: rest) pos) (tE (yX X cad) (mOr ma mb) W) := by
  refine (pe_or ha hb).imp fun σ H Q => ?_
  rintro ⟨B, β, g, ρ, S, V, h⟩
  refine tE_bind S V h fun β1 g1 H1 v x S1 l1 V1 r1 h1 => ?_
  cases v with
  | bl k =>
    cases r1
    refine ⟨k, rfl, ?_⟩
    cases k with
    | true => exact iteT (h1.here S1 (.bl true))
    | false => exact iteF ⟨B, β1, g1, ρ, S1, V1, h1⟩
  | _ => exact h1.elim
theorem se_one {op} (ha : PE X a (tE (yX X cad) ma W)) : PE X (.BoolOp op [a] pos) (tE (yX X cad) ma W) := pe_one ha
theorem se_not (ha : PE X a (tE (yX X cad) ma W)) : PE X (.UnaryOp .Not a pos) (tE (yX X cad) (mUn notM ma) W) := by
  refine (pe_not ha).imp fun σ H Q => ?_
  rintro ⟨B, β, g, ρ, S, V, h⟩
  refine tE_bind S V h fun β1 g1 H1 v x S1 l1 V1 r1 h1 => ?_
  cases v with
  | bl k =>
    cases r1
    exact ⟨k, rfl, h1.here S1 (.bl (!k))⟩
  | _ => exact h1.elim
theorem st_val (ha : PE X a (tE (yX X cad) ma W)) (he : ∀ whole, isTrue a X.env whole = (do let v ← whole; standAt a.pos; holding [v] (truthy v)) := by intro _; rfl) : PT X a (tT (yX X cad) (mT ma) W) := by
  refine (pt_val ha he).imp fun σ H Q => ?_
  rintro ⟨B, β, g, ρ, S, V, h⟩
  refine tE_bind S V h fun β1 g1 H1 v x S1 l1 V1 r1 h1 => ?_
  cases v with
  | bl k =>
    cases r1
    exact ⟨k, rfl, h1.here S1 rfl⟩
  | _ => exact h1.elim
theorem se_ifx (hc : PT X c (tT (yX X cad) mt W)) (ha : PE X a (tE (yX X cad) ma W)) (hb : PE X b (tE (yX X cad) mb W)) : PE X (.IfExp c a b pos) (tE (yX X cad) (mIf mt ma mb) W) := by
  refine (pe_ifExp hc ha hb).imp fun σ H Q => ?_
  rintro ⟨B, β, g, ρ, S, V, h⟩
  refine tT_bind S V h fun β1 g1 H1 v S1 l1 V1 h1 => ?_
  cases v with
  | true => exact iteT ⟨B, β1, g1, ρ, S1, V1, h1⟩
  | false => exact iteF ⟨B, β1, g1, ρ, S1, V1, h1⟩
theorem so_none : PO X none (tO (yX X cad) mNoPart W) := by
  refine ⟨fun pins s σ H Q I q => po_none.run pins s σ H Q I ?_⟩
  obtain ⟨B, β, g, ρ, S, V, h⟩ := q
  exact h.here S rfl
theorem so_some (ha : PE X a (tE (yX X cad) ma W)) : PO X (some a) (tO (yX X cad) (mPart ma) W) := by
  refine ⟨fun pins s σ H Q I q => (po_some ha).run pins s σ H Q I ?_⟩
  obtain ⟨B, β, g, ρ, S, V, h⟩ := q
  refine tE_bind S V h fun β1 g1 H1 v x S1 l1 V1 r1 h1 => ?_
  cases v with
  | int i =>
    cases r1
    exact ⟨i, rfl, h1.here S1 rfl⟩
  | _ => exact h1.elim
theorem se_slice {r : V → Option Int → Option Int → Hp → VK → Prop} {f : Vl → Option Int → Option Int → Gh → Res Vl} {lo hi : Option Expr} {ml mh : MO} (hr : SlR X r) (hs : SlS (yX X cad) r f) (ha : PE X a (tE (yX X cad) ma W)) (hl : PO X lo (tO (yX X cad) ml W)) (hh : PO X hi (tO (yX X cad) mh W)) :
    PE X (.Subscript a (.Slice lo hi none p2) pos) (tE (yX X cad) (mSl f ma ml mh) W) := by
  refine (pe_slice hr ha hl hh).imp fun σ H Q => ?_
  rintro ⟨B, β, g, ρ, S, V, h⟩
  refine tE_bind S V h fun β1 g1 H1 v x S1 l1 V1 r1 h1 => ?_
  refine tO_bind S1 V1 h1 fun β2 g2 H2 i S2 l2 V2 h2 => ?_
  refine tO_bind S2 V2 h2 fun β3 g3 H3 j S3 l3 V3 h3 => ?_
  exact hs B β3 g3 H3 v x i j Q _ S3 ((r1.up l2).up l3) h3
/-- a builtin, a builtin class called -/
theorem se_callB {x : Str} {id : String} {r : List V → Hp → VK → Prop} {f : List Vl → Gh → Res Vl} (hc : CallR X (.builtin id) r) (hs : CallS (yX X cad) r f) (hg : Gl X x) (hm : X.mg x = none) (hv : bootBuiltins x = some (.builtin id)) (ha : PA X (e :: es) (tA (yX X cad) mas W))
    (hn : x ≠ "__name__" := by decide) (hdb : (x == ("__debug__" : Str)) = false := by decide)
    (he : starEach (e :: es) X.env = (false, eval e X.env) :: starEach es X.env := by rfl) (hpl : (backTo pos (starEach es X.env)).any (·.1) = false := by rfl) : PE X (.Call (.Name x p) (e :: es) [] pos) (tE (yX X cad) (mArgs f mas) W) := by
  refine (pe_callB hc hg hm hv ha hn hdb he hpl).imp fun σ H Q => ?_
  rintro ⟨B, β, g, ρ, S, V, h⟩
  refine tA_bind S V h fun β1 g1 H1 vs xs S1 l1 V1 r1 h1 => ?_
  exact hs B β1 g1 H1 vs xs Q _ S1 r1 h1
theorem se_callTy {x : Str} {T : String} {r : List V → Hp → VK → Prop} {f : List Vl → Gh → Res Vl} (hc : CallR X (.type T) r) (hs : CallS (yX X cad) r f) (hg : Gl X x) (hm : X.mg x = none) (hv : bootBuiltins x = some (.type T)) (ha : PA X (e :: es) (tA (yX X cad) mas W))
    (hn : x ≠ "__name__" := by decide) (hdb : (x == ("__debug__" : Str)) = false := by decide)
    (he : starEach (e :: es) X.env = (false, eval e X.env) :: starEach es X.env := by rfl) (hpl : (backTo pos (starEach es X.env)).any (·.1) = false := by rfl) : PE X (.Call (.Name x p) (e :: es) [] pos) (tE (yX X cad) (mArgs f mas) W) := by
  refine (pe_callTy hc hg hm hv ha hn hdb he hpl).imp fun σ H Q => ?_
  rintro ⟨B, β, g, ρ, S, V, h⟩
  refine tA_bind S V h fun β1 g1 H1 vs xs S1 l1 V1 r1 h1 => ?_
  exact hs B β1 g1 H1 vs xs Q _ S1 r1 h1
end
end CS

set_option Elab.async false
set_option linter.all false
set_option maxRecDepth 100000
namespace CS
open PySem L2

/-! ### clean statements -/
def FinS (Y : Cy) (B : Bs) (β : List Addr) (g : Gh) (H : Hp) (r : SR) (D : Ends) (W : WX) : Prop :=
  match r with
  | .nx ρ g' => ∀ β' H' σ', Sim Y B β' g' H' → LeS B β g H β' g' H' → EnvR Y.K H' (Lv B β' g') β' ρ σ' → D.nx σ' H'
  | .bk ρ g' => ∀ β' H' σ', Sim Y B β' g' H' → LeS B β g H β' g' H' → EnvR Y.K H' (Lv B β' g') β' ρ σ' → D.bk σ' H'
  | .ct ρ g' => ∀ β' H' σ', Sim Y B β' g' H' → LeS B β g H β' g' H' → EnvR Y.K H' (Lv B β' g') β' ρ σ' → D.ct σ' H'
  | .rt v g' => ∀ β' H' x, Sim Y B β' g' H' → LeS B β g H β' g' H' → VR Y.K H' (Lv B β' g') β' v x → D.rt x H'
  | .exc e ρ g' => ∀ β' H' σ' cls d, Sim Y B β' g' H' → LeS B β g H β' g' H' → EnvR Y.K H' (Lv B β' g') β' ρ σ' → XR Y H' (Lv B β' g') β' e cls d → W cls d σ' H'
  | .stuck => False
def tS (Y : Cy) (m : MS) (W : WX) : TS := fun D σ H => ∃ (B : Bs) (β : List Addr) (g : Gh) (ρ : Env), Sim Y B β g H ∧ EnvR Y.K H (Lv B β g) β ρ σ ∧ FinS Y B β g H (m ρ g) D W
def Res.lift {α : Type} (r : Res α) (ρ : Env) (f : α → Gh → SR) : SR :=
  match r with
  | .ok a g => f a g
  | .exc e g => .exc e ρ g
  | .stuck => .stuck
section
variable {Y : Cy} {B : Bs} {β β1 : List Addr} {g g1 : Gh} {H H1 : Hp} {r : SR} {D D' : Ends} {W W' : WX} {σ : St} {ρ : Env}
theorem FinS.later (l : LeS B β g H β1 g1 H1) (h : FinS Y B β g H r D W) : FinS Y B β1 g1 H1 r D W := by
  cases r with
  | nx ρ g' => exact fun β' H' x S l' q => h β' H' x S (l.trans l') q
  | bk ρ g' => exact fun β' H' x S l' q => h β' H' x S (l.trans l') q
  | ct ρ g' => exact fun β' H' x S l' q => h β' H' x S (l.trans l') q
  | rt ρ g' => exact fun β' H' x S l' q => h β' H' x S (l.trans l') q
  | exc e ρ g' => exact fun β' H' x c d S l' v q => h β' H' x c d S (l.trans l') v q
  | stuck => exact h
theorem FinS.nxt {ρ : Env} (h : FinS Y B β g H (.nx ρ g) D W) (S : Sim Y B β g H) (V : EnvR Y.K H (Lv B β g) β ρ σ) : D.nx σ H := h β H σ S Le.refl V
theorem FinS.to (h : FinS Y B β g H r D W) (h1 : ∀ σ H, D.nx σ H → D'.nx σ H) (h2 : ∀ v H, D.rt v H → D'.rt v H) (h3 : ∀ σ H, D.bk σ H → D'.bk σ H) (h4 : ∀ σ H, D.ct σ H → D'.ct σ H) (h5 : ∀ c d σ H, W c d σ H → W' c d σ H) : FinS Y B β g H r D' W' := by
  cases r with
  | nx ρ g' => exact fun β' H' x S l' q => h1 _ _ (h β' H' x S l' q)
  | bk ρ g' => exact fun β' H' x S l' q => h3 _ _ (h β' H' x S l' q)
  | ct ρ g' => exact fun β' H' x S l' q => h4 _ _ (h β' H' x S l' q)
  | rt ρ g' => exact fun β' H' x S l' q => h2 _ _ (h β' H' x S l' q)
  | exc e ρ g' => exact fun β' H' x c d S l' v q => h5 _ _ _ _ (h β' H' x c d S l' v q)
  | stuck => exact h
theorem tE_lift {m : ME} {k : Vl → Gh → SR} {Qe : VK} (S : Sim Y B β g H) (V : EnvR Y.K H (Lv B β g) β ρ σ) (h : FinS Y B β g H ((m ρ g).lift ρ k) D W)
    (next : ∀ β1 g1 H1 v x, Sim Y B β1 g1 H1 → LeS B β g H β1 g1 H1 → EnvR Y.K H1 (Lv B β1 g1) β1 ρ σ → VR Y.K H1 (Lv B β1 g1) β1 v x → FinS Y B β1 g1 H1 (k v g1) D W → Qe x H1) : tE Y m W σ H Qe := by
  refine ⟨B, β, g, ρ, S, V, ?_⟩
  cases e : m ρ g with
  | ok v g1 =>
    rw [e] at h
    exact fun β1 H1 x S1 l1 r1 => next β1 g1 H1 v x S1 l1 (V.up l1) r1 (FinS.later l1 h)
  | exc x g1 =>
    rw [e] at h
    exact fun β' H' c d S' l' q => h β' H' σ c d S' l' (V.up l') q
  | stuck =>
    rw [e] at h
    exact h
theorem tT_lift {m : MT} {k : Bool → Gh → SR} {Qe : Bool → Hp → Prop} (S : Sim Y B β g H) (V : EnvR Y.K H (Lv B β g) β ρ σ) (h : FinS Y B β g H ((m ρ g).lift ρ k) D W)
    (next : ∀ β1 g1 H1 v, Sim Y B β1 g1 H1 → LeS B β g H β1 g1 H1 → EnvR Y.K H1 (Lv B β1 g1) β1 ρ σ → FinS Y B β1 g1 H1 (k v g1) D W → Qe v H1) : tT Y m W σ H Qe := by
  refine ⟨B, β, g, ρ, S, V, ?_⟩
  cases e : m ρ g with
  | ok v g1 =>
    rw [e] at h
    exact fun β1 H1 x S1 l1 r1 => r1 ▸ next β1 g1 H1 v S1 l1 (V.up l1) (FinS.later l1 h)
  | exc x g1 =>
    rw [e] at h
    exact fun β' H' c d S' l' q => h β' H' σ c d S' l' (V.up l') q
  | stuck =>
    rw [e] at h
    exact h
end

def mNext : MS := fun ρ g => .nx ρ g
def mSeq (a b : MS) : MS := fun ρ g => match a ρ g with | .nx ρ' g' => b ρ' g' | r => r
def mPut (i : Nat) (m : ME) : MS := fun ρ g => (m ρ g).lift ρ fun v g1 => .nx (ρ.set i (some v)) g1
def mDrop (m : ME) : MS := fun ρ g => (m ρ g).lift ρ fun _ g1 => .nx ρ g1
def mRet (m : ME) : MS := fun ρ g => (m ρ g).lift ρ fun v g1 => .rt v g1
def mRetN : MS := fun _ g => .rt .non g
def mIfS (t : MT) (a b : MS) : MS := fun ρ g => (t ρ g).lift ρ fun c g1 => if c then a ρ g1 else b ρ g1
def mBreak : MS := fun ρ g => .bk ρ g
def mCont : MS := fun ρ g => .ct ρ g
/-- what stands in a slot is a list of ours: from here on it stays -/
def mFrz (i : Nat) : MS := fun ρ g => match ρ[i]? with
  | some (some (.ref n)) => match g[n]? with
    | some (.lst xs) => .nx (ρ.set i (some (.lst xs))) (g.set n .dead)
    | _ => .stuck
  | _ => .stuck
/-- targets -/
abbrev MG := Vl → MS
abbrev MGs := List Vl → MS
def gtName (i : Nat) : MG := fun v ρ g => .nx (ρ.set i (some v)) g
def gtTup (t : MGs) : MG := fun v ρ g => match v with | .tup xs => t xs ρ g | _ => .stuck
def gtNil : MGs := fun vs ρ g => match vs with | [] => .nx ρ g | _ => .stuck
def gtCons (t : MG) (r : MGs) : MGs := fun vs ρ g => match vs with | v :: vs => mSeq (t v) (r vs) ρ g | [] => .stuck
def mAsg (t : MG) (m : ME) : MS := fun ρ g => (m ρ g).lift ρ fun v g1 => t v ρ g1
abbrev EG (Q : St → Hp → Prop) : Ends := { nx := Q, rt := fun _ _ => False }
def tG (Y : Cy) (m : MG) (W : WX) : TG := fun x σ H Q => ∃ (B : Bs) (β : List Addr) (g : Gh) (ρ : Env) (v : Vl), Sim Y B β g H ∧ EnvR Y.K H (Lv B β g) β ρ σ ∧ VR Y.K H (Lv B β g) β v x ∧ FinS Y B β g H (m v ρ g) (EG Q) W
def tGs (Y : Cy) (m : MGs) (W : WX) : TGs := fun x σ H Q => ∃ (B : Bs) (β : List Addr) (g : Gh) (ρ : Env) (v : List Vl), Sim Y B β g H ∧ EnvR Y.K H (Lv B β g) β ρ σ ∧ VRs Y.K H (Lv B β g) β v x ∧ FinS Y B β g H (m v ρ g) (EG Q) W
theorem _root_.L2.PG.imp {X : Cx} {e : Expr} {t t' : TG} (p : PG X e t) (h : ∀ v σ H Q, t' v σ H Q → t v σ H Q) : PG X e t' := ⟨fun pins s σ H v u Q I r q => p.run pins s σ H v u Q I r (h _ _ _ _ q)⟩
theorem _root_.L2.PGs.imp {X : Cx} {e : List Expr} {t t' : TGs} (p : PGs X e t) (h : ∀ v σ H Q, t' v σ H Q → t v σ H Q) : PGs X e t' := ⟨fun pins s σ H v u Q I r q => p.run pins s σ H v u Q I r (h _ _ _ _ q)⟩

section
variable {X : Cx} {cad : Nat → Addr} {W : WX} {a b c e tg : Expr} {es : List Expr} {st : Stmt} {sts rest : List Stmt} {ma mb mc : ME} {mt : MT} {m m' : MS} {gm : MG} {gms : MGs} {pos p p2 : Pos}
theorem ss_nil : PSs X [] (tS (yX X cad) mNext W) := by
  refine pss_nil.imp fun D σ H => ?_
  rintro ⟨B, β, g, ρ, S, V, h⟩
  exact h.nxt S V
theorem seq_of (h1 : PS X st (tS (yX X cad) m W)) (h2 : PSs X rest (tS (yX X cad) m' W)) : PSs X (st :: rest) (tS (yX X cad) (mSeq m m') W) := by
  refine (pss_cons h1 h2).imp fun D σ H => ?_
  rintro ⟨B, β, g, ρ, S, V, h⟩
  refine ⟨B, β, g, ρ, S, V, ?_⟩
  unfold mSeq at h
  cases q : m ρ g with
  | nx ρ' g' =>
    rw [q] at h
    exact fun β1 H1 σ1 S1 l1 V1 => ⟨B, β1, g', ρ', S1, V1, FinS.later l1 h⟩
  | bk ρ' g' => rw [q] at h; exact h
  | ct ρ' g' => rw [q] at h; exact h
  | rt v g' => rw [q] at h; exact h
  | exc e ρ' g' => rw [q] at h; exact h
  | stuck => rw [q] at h; exact h
theorem ss_cons (h1 : PS X st (tS (yX X cad) m W)) (h2 : PSs X rest (tS (yX X cad) m' W)) : PSs X (st :: rest) (tS (yX X cad) (mSeq m m') W) := seq_of h1 h2
theorem ss_one (h1 : PS X st (tS (yX X cad) m W)) : PSs X [st] (tS (yX X cad) m W) := pss_one h1
/-- a ghost's step ahead of a block -/
theorem ss_frz (i : Nat) (h2 : PSs X sts (tS (yX X cad) m W)) : PSs X sts (tS (yX X cad) (mSeq (mFrz i) m) W) := by
  refine h2.imp fun D σ H => ?_
  rintro ⟨B, β, g, ρ, S, V, h⟩
  unfold mSeq mFrz at h
  cases e : ρ[i]? with
  | none => rw [e] at h; exact h.elim
  | some o =>
    cases o with
    | none => rw [e] at h; exact h.elim
    | some v =>
      cases v with
      | ref n =>
        rw [e] at h
        cases e2 : g[n]? with
        | none => simp only [e2] at h; exact h.elim
        | some ob =>
          cases ob with
          | lst xs =>
            simp only [e2] at h
            obtain ⟨S1, l1, hv⟩ := S.freeze e2
            obtain ⟨x, ex, rx⟩ := V.has i _ e
            have V1 := (V.up l1).put i (hv rx)
            have es : σ.set i (some x) = σ := by
              refine List.ext_getElem? fun j => ?_
              by_cases hj : j = i
              · subst hj
                rw [List.getElem?_set_self (List.getElem?_eq_some_iff.mp ex).1, ex]
              · rw [List.getElem?_set_ne (Ne.symm hj)]
            rw [es] at V1
            exact ⟨B, β, _, _, S1, V1, FinS.later l1 h⟩
          | _ => simp only [e2] at h; exact h.elim
      | _ => rw [e] at h; exact h.elim
theorem ss_set {i : Nat} {x : Str} {pos' : Pos} (hN : X.N.Nodup) (hi : X.N[i]? = some x) (hx : Loc X.env.scope x) (he : PE X e (tE (yX X cad) ma W)) (hs : swapsWith e (some (.Name x pos')) pos.line X.env = pure false := by rfl)
    (hf : X.fn x = true ∨ X.env.scope.names.lookup x = some .local := by first | exact .inl rfl | exact .inr rfl | assumption) : PS X (.Assign [.Name x pos'] e pos) (tS (yX X cad) (mPut i ma) W) := by
  refine (ps_set hN hi hx he hs hf).imp fun D σ H => ?_
  rintro ⟨B, β, g, ρ, S, V, h⟩
  refine tE_lift S V h fun β1 g1 H1 v x S1 l1 V1 r1 h1 => ?_
  exact h1.nxt S1 (V1.put i r1)
theorem sg_name {i : Nat} {x : Str} (hN : X.N.Nodup) (hi : X.N[i]? = some x) (hx : Loc X.env.scope x) (hf : X.fn x = true ∨ X.env.scope.names.lookup x = some .local := by first | exact .inl rfl | exact .inr rfl | assumption) : PG X (.Name x pos) (tG (yX X cad) (gtName i) W) := by
  refine (pg_name hN hi hx hf).imp fun x σ H Q => ?_
  rintro ⟨B, β, g, ρ, v, S, V, r, h⟩
  exact h.nxt S (V.put i r)
theorem sgs_nil : PGs X [] (tGs (yX X cad) gtNil W) := by
  refine pgs_nil.imp fun x σ H Q => ?_
  rintro ⟨B, β, g, ρ, v, S, V, r, h⟩
  cases r with
  | nil => exact ⟨rfl, h.nxt S V⟩
  | cons _ _ => exact h.elim
theorem sgs_cons (h1 : PG X e (tG (yX X cad) gm W)) (h2 : PGs X es (tGs (yX X cad) gms W)) (hs : (assignEach (e :: es) X.env).map (·.2) = assign e X.env :: (assignEach es X.env).map (·.2) := by rfl) : PGs X (e :: es) (tGs (yX X cad) (gtCons gm gms) W) := by
  refine (pgs_cons h1 h2 hs).imp fun x σ H Q => ?_
  rintro ⟨B, β, g, ρ, v, S, V, r, h⟩
  cases r with
  | nil => exact h.elim
  | cons r rs =>
    refine ⟨_, _, rfl, B, β, g, ρ, _, S, V, r, ?_⟩
    simp only [gtCons, mSeq] at h
    rename_i v1 x1 vr xr
    cases q : gm v1 ρ g with
    | nx ρ' g' =>
      rw [q] at h
      exact fun β1 H1 σ1 S1 l1 V1 => ⟨B, β1, g', ρ', _, S1, V1, rs.up l1, FinS.later l1 h⟩
    | bk ρ' g' => rw [q] at h; exact h
    | ct ρ' g' => rw [q] at h; exact h
    | rt v g' => rw [q] at h; exact h
    | exc e ρ' g' => rw [q] at h; exact h
    | stuck => rw [q] at h; exact h
theorem gts_len : ∀ {n : Nat} {gms : MGs}, True := fun {_ _} => trivial
theorem sg_tup {k n : Nat} (hc : X.calm = true) (h : PGs X es (tGs (yX X cad) gms W)) (hlen : ∀ vs ρ g, vs.length ≠ n → gms vs ρ g = .stuck) (hn : (assignEach es X.env).length = n := by rfl) (hst : (assignEach es X.env).findIdx? (·.1) = none := by rfl) :
    PG X (.Tuple es k pos) (tG (yX X cad) (gtTup gms) W) := by
  refine (pg_tup hc h hn hst).imp fun x σ H Q => ?_
  rintro ⟨B, β, g, ρ, v, S, V, r, q⟩
  cases v with
  | tup xs =>
    obtain ⟨a, vs, rfl, ht, hs⟩ := r.tseq
    refine ⟨a, vs, rfl, ht, ?_, B, β, g, ρ, xs, S, V, hs, q⟩
    rw [← hs.length]
    by_cases z : xs.length = n
    · exact z
    · simp only [gtTup] at q
      rw [hlen xs ρ g z] at q
      exact q.elim
  | _ => exact q.elim
theorem gtNil_len : ∀ vs ρ g, vs.length ≠ 0 → gtNil vs ρ g = .stuck := fun vs ρ g h => by
  cases vs with
  | nil => simp at h
  | cons _ _ => rfl
theorem gtCons_len {n : Nat} (h : ∀ vs ρ g, vs.length ≠ n → gms vs ρ g = .stuck) (hn : ∀ v ρ g, (∃ ρ' g', gm v ρ g = .nx ρ' g') ∨ gm v ρ g = .stuck) : ∀ vs ρ g, vs.length ≠ n + 1 → gtCons gm gms vs ρ g = .stuck := fun vs ρ g hl => by
  cases vs with
  | nil => rfl
  | cons v vs =>
    simp only [gtCons, mSeq]
    rcases hn v ρ g with ⟨ρ', g', e⟩ | e
    · rw [e]
      exact h vs ρ' g' (by simpa using hl)
    · rw [e]
theorem gtName_ok (i : Nat) : ∀ v ρ g, (∃ ρ' g', gtName i v ρ g = .nx ρ' g') ∨ gtName i v ρ g = .stuck := fun v ρ g => .inl ⟨_, _, rfl⟩
theorem ss_asg (he : PE X e (tE (yX X cad) ma W)) (hg : PG X tg (tG (yX X cad) gm W)) (hok : ∀ v ρ g, (∃ ρ' g', gm v ρ g = .nx ρ' g') ∨ (∃ e ρ' g', gm v ρ g = .exc e ρ' g') ∨ gm v ρ g = .stuck) (hs : swapsWithSole [tg] e pos.line X.env = pure false := by rfl) (hw : swappedStores [tg] e X.env = pure none := by rfl)
    (h1 : (assignEach [tg] X.env).map (·.2) = [assign tg X.env] := by rfl) : PS X (.Assign [tg] e pos) (tS (yX X cad) (mAsg gm ma) W) := by
  refine (ps_asg he hg hs hw h1).imp fun D σ H => ?_
  rintro ⟨B, β, g, ρ, S, V, h⟩
  refine tE_lift S V h fun β1 g1 H1 v x S1 l1 V1 r1 h1 => ?_
  refine ⟨B, β1, g1, ρ, v, S1, V1, r1, ?_⟩
  rcases hok v ρ g1 with ⟨ρ', g', e⟩ | ⟨x, ρ', g', e⟩ | e
  · rw [e] at h1 ⊢
    exact h1
  · rw [e] at h1 ⊢
    exact h1
  · rw [e] at h1
    exact h1.elim
theorem ss_expr (he : PE X e (tE (yX X cad) ma W)) (hs : swapsWith e none pos.line X.env = pure false := by rfl) : PS X (.Expr e pos) (tS (yX X cad) (mDrop ma) W) := by
  refine (ps_expr he hs).imp fun D σ H => ?_
  rintro ⟨B, β, g, ρ, S, V, h⟩
  refine tE_lift S V h fun β1 g1 H1 v x S1 l1 V1 r1 h1 => ?_
  exact h1.nxt S1 V1
theorem ss_ret (he : PE X e (tE (yX X cad) ma W)) : PS X (.Return (some e) pos) (tS (yX X cad) (mRet ma) W) := by
  refine (ps_ret he).imp fun D σ H => ?_
  rintro ⟨B, β, g, ρ, S, V, h⟩
  refine tE_lift S V h fun β1 g1 H1 v x S1 l1 V1 r1 h1 => ?_
  exact h1 β1 H1 x S1 Le.refl r1
theorem ss_retN : PS X (.Return none pos) (tS (yX X cad) mRetN W) := by
  refine ps_retN.imp fun D σ H => ?_
  rintro ⟨B, β, g, ρ, S, V, h⟩
  exact h β H .non S Le.refl .non
theorem ss_pass : PS X (.Pass pos) (tS (yX X cad) mNext W) := by
  refine ps_pass.imp fun D σ H => ?_
  rintro ⟨B, β, g, ρ, S, V, h⟩
  exact h.nxt S V
theorem ss_break : PS X (.Break pos) (tS (yX X cad) mBreak W) := by
  refine ps_break.imp fun D σ H => ?_
  rintro ⟨B, β, g, ρ, S, V, h⟩
  exact h β H σ S Le.refl V
theorem ss_cont : PS X (.Continue pos) (tS (yX X cad) mCont W) := by
  refine ps_continue.imp fun D σ H => ?_
  rintro ⟨B, β, g, ρ, S, V, h⟩
  exact h β H σ S Le.refl V
/-- what is never come to -/
theorem ss_never : PS X st (tS (yX X cad) (fun _ _ => .stuck) W) := by
  refine ps_never.imp fun D σ H => ?_
  rintro ⟨B, β, g, ρ, S, V, h⟩
  exact h
theorem sss_never : PSs X sts (tS (yX X cad) (fun _ _ => .stuck) W) := by
  refine pss_never.imp fun D σ H => ?_
  rintro ⟨B, β, g, ρ, S, V, h⟩
  exact h
theorem ss_if {pa pb : List Stmt} (hc : PT X c (tT (yX X cad) mt W)) (ha : PSs X pa (tS (yX X cad) m W)) (hb : PSs X pb (tS (yX X cad) m' W)) : PS X (.If c pa pb pos) (tS (yX X cad) (mIfS mt m m') W) := by
  refine (ps_if hc ha hb).imp fun D σ H => ?_
  rintro ⟨B, β, g, ρ, S, V, h⟩
  refine tT_lift S V h fun β1 g1 H1 v S1 l1 V1 h1 => ?_
  cases v with
  | true => exact iteT ⟨B, β1, g1, ρ, S1, V1, h1⟩
  | false => exact iteF ⟨B, β1, g1, ρ, S1, V1, h1⟩
end
end CS

set_option Elab.async false
set_option linter.all false
set_option maxRecDepth 100000
namespace CS
open PySem L2

/-! ### while -/
def whileF (t : MT) (b : MS) : Nat → MS
  | 0 => fun _ _ => .stuck
  | n + 1 => fun ρ g => (t ρ g).lift ρ fun c g1 => if c then (match b ρ g1 with
    | .nx ρ' g' => whileF t b n ρ' g'
    | .ct ρ' g' => whileF t b n ρ' g'
    | .bk ρ' g' => .nx ρ' g'
    | r => r) else .nx ρ g1
theorem whileF_more {t : MT} {b : MS} (k : Nat) : ∀ {n : Nat} {ρ : Env} {g : Gh}, whileF t b n ρ g ≠ .stuck → whileF t b (n + k) ρ g = whileF t b n ρ g
  | 0, _, _, h => absurd rfl h
  | n + 1, ρ, g, h => by
    rw [show n + 1 + k = (n + k) + 1 by omega]
    simp only [whileF] at h ⊢
    cases e : t ρ g with
    | ok c g1 =>
      rw [e] at h
      simp only [Res.lift] at h ⊢
      cases c with
      | true =>
        simp only [if_true] at h ⊢
        cases e2 : b ρ g1 with
        | nx ρ' g' => rw [e2] at h; exact whileF_more k h
        | ct ρ' g' => rw [e2] at h; exact whileF_more k h
        | bk ρ' g' => rfl
        | rt v g' => rfl
        | exc x ρ' g' => rfl
        | stuck => rfl
      | false => rfl
    | exc x g1 => rfl
    | stuck => rfl
open Classical in
noncomputable def mWhile (t : MT) (b : MS) : MS := fun ρ g => if h : ∃ n, whileF t b n ρ g ≠ .stuck then whileF t b (choose h) ρ g else .stuck
theorem mWhile_of {t : MT} {b : MS} {n : Nat} {ρ : Env} {g : Gh} (h : whileF t b n ρ g ≠ .stuck) : mWhile t b ρ g = whileF t b n ρ g := by
  have hx : ∃ n, whileF t b n ρ g ≠ .stuck := ⟨n, h⟩
  unfold mWhile
  rw [dif_pos hx]
  have h2 := Classical.choose_spec hx
  have a := whileF_more n h2
  have c := whileF_more (Classical.choose hx) h
  rw [← a, ← c, Nat.add_comm]
theorem mWhile_at {t : MT} {b : MS} {ρ : Env} {g : Gh} (h : mWhile t b ρ g ≠ .stuck) : ∃ n, whileF t b n ρ g = mWhile t b ρ g ∧ whileF t b n ρ g ≠ .stuck := by
  by_cases hx : ∃ n, whileF t b n ρ g ≠ .stuck
  · obtain ⟨n, hn⟩ := hx
    exact ⟨n, (mWhile_of hn).symm, hn⟩
  · unfold mWhile at h
    rw [dif_neg hx] at h
    exact absurd rfl h
theorem mWhile_eq (t : MT) (b : MS) (ρ : Env) (g : Gh) : mWhile t b ρ g = (t ρ g).lift ρ fun c g1 => if c then (match b ρ g1 with
    | .nx ρ' g' => mWhile t b ρ' g'
    | .ct ρ' g' => mWhile t b ρ' g'
    | .bk ρ' g' => .nx ρ' g'
    | r => r) else .nx ρ g1 := by
  -- one turn more of the fuelled one
  have turn : ∀ n, whileF t b (n + 1) ρ g = (t ρ g).lift ρ fun c g1 => if c then (match b ρ g1 with
    | .nx ρ' g' => whileF t b n ρ' g'
    | .ct ρ' g' => whileF t b n ρ' g'
    | .bk ρ' g' => .nx ρ' g'
    | r => r) else .nx ρ g1 := fun n => rfl
  cases e : t ρ g with
  | stuck =>
    have : ∀ n, ¬ whileF t b n ρ g ≠ .stuck := fun n hn => by
      cases n with
      | zero => exact hn rfl
      | succ n => rw [turn, e] at hn; exact hn rfl
    unfold mWhile
    rw [dif_neg (fun ⟨n, hn⟩ => this n hn)]
    rfl
  | exc x g1 =>
    have : whileF t b 1 ρ g = .exc x ρ g1 := by rw [turn, e]; rfl
    rw [mWhile_of (n := 1) (by rw [this]; intro z; cases z), this]
    rfl
  | ok c g1 =>
    cases c with
    | false =>
      have : whileF t b 1 ρ g = .nx ρ g1 := by rw [turn, e]; rfl
      rw [mWhile_of (n := 1) (by rw [this]; intro z; cases z), this]
      rfl
    | true =>
      have deep : ∀ ρ' g', (∀ n, whileF t b (n + 1) ρ g = whileF t b n ρ' g') → mWhile t b ρ g = mWhile t b ρ' g' := fun ρ' g' hq => by
        by_cases hx : ∃ n, whileF t b n ρ' g' ≠ .stuck
        · obtain ⟨n, hn⟩ := hx
          rw [mWhile_of hn, ← hq n, mWhile_of (n := n + 1) (by rw [hq n]; exact hn)]
        · have hy : ¬ ∃ n, whileF t b n ρ g ≠ .stuck := fun ⟨n, hn⟩ => by
            cases n with
            | zero => exact hn rfl
            | succ n => rw [hq n] at hn; exact hx ⟨n, hn⟩
          unfold mWhile
          rw [dif_neg hx, dif_neg hy]
      have same : ∀ r, r ≠ SR.stuck → (∀ n, whileF t b (n + 1) ρ g = r) → mWhile t b ρ g = r := fun r hr hq => by
        rw [mWhile_of (n := 1) (by rw [hq 0]; exact hr), hq 0]
      simp only [Res.lift, if_true]
      cases e2 : b ρ g1 with
      | nx ρ' g' => exact deep ρ' g' fun n => by rw [turn, e]; simp only [Res.lift, if_true, e2]
      | ct ρ' g' => exact deep ρ' g' fun n => by rw [turn, e]; simp only [Res.lift, if_true, e2]
      | bk ρ' g' => exact same _ (by intro z; cases z) fun n => by rw [turn, e]; simp only [Res.lift, if_true, e2]
      | rt v g' => exact same _ (by intro z; cases z) fun n => by rw [turn, e]; simp only [Res.lift, if_true, e2]
      | exc x ρ' g' => exact same _ (by intro z; cases z) fun n => by rw [turn, e]; simp only [Res.lift, if_true, e2]
      | stuck =>
        have hy : ¬ ∃ n, whileF t b n ρ g ≠ .stuck := fun ⟨n, hn⟩ => by
          cases n with
          | zero => exact hn rfl
          | succ n => rw [turn, e] at hn; simp only [Res.lift, if_true, e2] at hn; exact hn rfl
        unfold mWhile
        rw [dif_neg hy]

/-! ### what a for walks -/
abbrev MI := Env → Gh → Res (List Vl × Option (Nat × List Vl))
def srcOk : Option (Nat × List Vl) → Gh → Prop
  | none, _ => True
  | some (n, xs), g => g[n]? = some (.lst xs)
open Classical in
noncomputable def forF (t : MG) (b : MS) (src : Option (Nat × List Vl)) : List Vl → MS
  | [] => fun ρ g => if srcOk src g then .nx ρ g else .stuck
  | v :: vs => fun ρ g => if srcOk src g then (match t v ρ g with
    | .nx ρ1 g1 => (match b ρ1 g1 with
      | .nx ρ' g' => forF t b src vs ρ' g'
      | .ct ρ' g' => forF t b src vs ρ' g'
      | .bk ρ' g' => .nx ρ' g'
      | r => r)
    | _ => .stuck) else .stuck
noncomputable def mFor (it : MI) (t : MG) (b : MS) : MS := fun ρ g => (it ρ g).lift ρ fun p g1 => forF t b p.2 p.1 ρ g1

def JL (Y : Cy) (H0 : Hp) (L0 : Addr → Prop) (β0 : List Addr) (p : List Vl × Option (Nat × List Vl)) (J : It) : Prop :=
  ∀ (B : Bs) (i : Nat) (β : List Addr) (g : Gh) (H : Hp), Sim Y B β g H → Le H0 L0 β0 H (Lv B β g) β → srcOk p.2 g →
    (∀ v, p.1[i]? = some v → J.go i H ∧ ∀ x H', J.yld i H x H' → Sim Y B β g H' ∧ LeS B β g H β g H' ∧ VR Y.K H' (Lv B β g) β v x) ∧ (i = p.1.length → J.stop i H)
def tI (Y : Cy) (m : MI) (W : WX) : TI := fun σ H R => ∃ (B : Bs) (β : List Addr) (g : Gh) (ρ : Env), Sim Y B β g H ∧ EnvR Y.K H (Lv B β g) β ρ σ ∧ Fin Y B (JL Y) β g H (m ρ g) R (fun c d H' => W c d σ H')
theorem _root_.L2.PI.imp {X : Cx} {tg e : Expr} {t t' : TI} (p : PI X tg e t) (h : ∀ σ H Q, t' σ H Q → t σ H Q) : PI X tg e t' := ⟨fun pins s σ H Q I q => p.run pins s σ H Q I (h _ _ _ q)⟩
theorem _root_.L2.PI.or {X : Cx} {tg e : Expr} {t t' : TI} (p : PI X tg e t) (p' : PI X tg e t') : PI X tg e (fun σ H Q => t σ H Q ∨ t' σ H Q) :=
  ⟨fun pins s σ H Q I q => q.elim (fun q => p.run pins s σ H Q I q) (fun q => p'.run pins s σ H Q I q)⟩

/-- the list a value is, to be read -/
def asL (g : Gh) : Vl → Option (List Vl × Option (Nat × List Vl))
  | .lst xs => some (xs, none)
  | .rol xs => some (xs, none)
  | .ref n => match g[n]? with | some (.lst xs) => some (xs, some (n, xs)) | _ => none
  | _ => none
/-- a value that is walked as it stands -/
def iterM (v : Vl) (g : Gh) : Res (List Vl × Option (Nat × List Vl)) := match asL g v with
  | some p => .ok p g
  | none => match v with | .tup xs => .ok (xs, none) g | _ => .stuck
def mIter (a : ME) : MI := fun ρ g => (a ρ g).bind iterM
def rangeL (lo : Int) (n : Nat) : List Vl := (List.range n).map fun (i : Nat) => Vl.int (lo + (i : Int))
def rangeM (vs : List Vl) (g : Gh) : Res (List Vl × Option (Nat × List Vl)) := match vs with
  | [.int j] => if j < 2 ^ 62 ∧ -(2 ^ 62) ≤ j then .ok (rangeL 0 j.toNat, none) g else .stuck
  | [.int i, .int j] => if -(2 ^ 62) ≤ i ∧ i < 2 ^ 62 ∧ -(2 ^ 62) ≤ j ∧ j < 2 ^ 62 then .ok (rangeL i (j - i).toNat, none) g else .stuck
  | _ => .stuck
def mRange1 (a : ME) : MI := fun ρ g => (a ρ g).bind fun v g1 => rangeM [v] g1
def mRange2 (a b : ME) : MI := fun ρ g => (a ρ g).bind fun v g1 => (b ρ g1).bind fun w g2 => rangeM [v, w] g2
def enumL (xs : List Vl) : List Vl := xs.zipIdx.map fun p => .tup [.int (p.2 : Nat), p.1]
def enumM (vs : List Vl) (g : Gh) : Res (List Vl × Option (Nat × List Vl)) := match vs with
  | [v] => match asL g v with | some p => .ok (enumL p.1, p.2) g | none => .stuck
  | _ => .stuck
def mEnum (a : ME) : MI := fun ρ g => (a ρ g).bind fun v g1 => enumM [v] g1
def zipL (xs ys : List Vl) : List Vl := (xs.zip ys).map fun p => .tup [p.1, p.2]
def zipM (vs : List Vl) (g : Gh) : Res (List Vl × Option (Nat × List Vl)) := match vs with
  | [.lst xs, .lst ys] => .ok (zipL xs ys, none) g
  | [.tup xs, .tup ys] => .ok (zipL xs ys, none) g
  | _ => .stuck
def mZip (a b : ME) : MI := fun ρ g => (a ρ g).bind fun v g1 => (b ρ g1).bind fun w g2 => zipM [v, w] g2

section
variable {Y : Cy} {B : Bs} {β : List Addr} {g : Gh} {H : Hp}
theorem asL_src {v : Vl} {p : List Vl × Option (Nat × List Vl)} (e : asL g v = some p) : srcOk p.2 g := by
  cases v with
  | lst ys => cases e; exact trivial
  | rol ys => cases e; exact trivial
  | ref n =>
    simp only [asL] at e
    split at e
    · rename_i ys eg
      cases e
      exact eg
    · cases e
  | _ => cases e
/-- a list that is read: what it holds stays as long as it is looked at -/
theorem asL_at {v : Vl} {x : V} {p : List Vl × Option (Nat × List Vl)} (e : asL g v = some p) (r : VR Y.K H (Lv B β g) β v x) :
    ∃ a, x = .ref a ∧ ∀ (B' : Bs) β' g' H', Sim Y B' β' g' H' → Le H (Lv B β g) β H' (Lv B' β' g') β' → srcOk p.2 g' → ∃ vs, SqL Y.K H' a vs ∧ VRs Y.K H' (Lv B' β' g') β' p.1 vs := by
  cases v with
  | lst xs =>
    cases e
    obtain ⟨a, vs, rfl, h, hs⟩ := r.seq
    refine ⟨a, rfl, fun B' β' g' H' S l _ => ?_⟩
    cases r.up l with
    | lst h' _ hs' => exact ⟨_, .inl (.inl h'), hs'⟩
  | rol xs =>
    cases e
    obtain ⟨a, vs, rfl, h, hs⟩ := r.rseq
    refine ⟨a, rfl, fun B' β' g' H' S l _ => ?_⟩
    obtain ⟨a', vs', e', h', hs'⟩ := (r.up l).rseq
    cases e'
    exact ⟨_, h', hs'⟩
  | ref n =>
    simp only [asL] at e
    split at e
    · rename_i xs eg
      cases e
      cases r with
      | ref ha =>
        refine ⟨_, rfl, fun B' β' g' H' S l so => ?_⟩
        obtain ⟨vs, h', hs'⟩ := S.obj n _ _ (l.pre _ _ ha) so
        exact ⟨vs, .inl (.inl h'), hs'⟩
    · cases e
  | _ => cases e
end

theorem rangeL_get (lo : Int) (n i : Nat) (v : Vl) (h : (rangeL lo n)[i]? = some v) : i < n ∧ v = .int (lo + (i : Int)) := by
  unfold rangeL at h
  rw [List.getElem?_map] at h
  by_cases hi : i < n
  · rw [List.getElem?_range hi] at h
    cases h
    exact ⟨hi, rfl⟩
  · rw [List.getElem?_eq_none (by simpa using hi)] at h
    cases h

section
variable {X : Cx} {cad : Nat → Addr} {W : WX} {a c e tg iter : Expr} {es body : List Expr} {ma : ME} {mas : MA} {mt : MT} {m : MS} {gm : MG} {mi : MI} {pos p tpos : Pos} {elts : List Expr} {kk : Nat}
theorem si_seq (ha : PE X a (tE (yX X cad) ma W)) : PI X tg a (tI (yX X cad) (mIter ma) W) := by
  refine ((pi_list ha).or (pi_tup ha)).imp fun σ H R => ?_
  rintro ⟨B, β, g, ρ, S, V, h⟩
  cases e : ma ρ g with
  | ok v g1 =>
    simp only [mIter, e, Res.bind, iterM] at h
    cases ep : asL g1 v with
    | none =>
      simp only [ep] at h
      cases v with
      | tup xs =>
        refine .inr ⟨B, β, g, ρ, S, V, ?_⟩
        rw [e]
        intro β1 H1 x S1 l1 r1
        obtain ⟨a, vs, rfl, ht, hs⟩ := r1.tseq
        refine ⟨a, rfl, ⟨vs, ht⟩, h β1 H1 _ S1 l1 ?_⟩
        intro B' i β2 g2 H2 S2 l2 _
        have ht2 := l2.sqt ht
        have hs2 := hs.up l2
        refine ⟨fun v hv => ?_, fun hi => ⟨vs, ht2, by rw [hi, hs.length]; exact Nat.le_refl _⟩⟩
        obtain ⟨x, hx, rx⟩ := hs2.get hv
        refine ⟨⟨vs, x, ht2, hx⟩, ?_⟩
        rintro y H' ⟨rfl, hy⟩
        have := hy vs ht2
        rw [hx] at this
        cases this
        exact ⟨S2, Le.refl, rx⟩
      | _ => exact h.elim
    | some p =>
      simp only [ep] at h
      refine .inl ⟨B, β, g, ρ, S, V, ?_⟩
      rw [e]
      intro β1 H1 x S1 l1 r1
      obtain ⟨a, rfl, ha⟩ := asL_at (Y := yX X cad) ep r1
      obtain ⟨vs0, hq0, _⟩ := ha B β1 g1 H1 S1 Le.refl (asL_src ep)
      refine ⟨a, rfl, ⟨vs0, hq0⟩, h β1 H1 _ S1 l1 ?_⟩
      intro B' i β2 g2 H2 S2 l2 so
      obtain ⟨vs, hq, hs⟩ := ha B' β2 g2 H2 S2 l2 so
      refine ⟨fun v hv => ?_, fun hi => ⟨vs, hq, by rw [hi, hs.length]; exact Nat.le_refl _⟩⟩
      obtain ⟨x, hx, rx⟩ := hs.get hv
      refine ⟨⟨vs, x, hq, hx⟩, ?_⟩
      rintro y H' ⟨rfl, hy⟩
      have := hy vs hq
      rw [hx] at this
      cases this
      exact ⟨S2, Le.refl, rx⟩
  | exc x g1 =>
    simp only [mIter, e, Res.bind] at h
    refine .inl ⟨B, β, g, ρ, S, V, ?_⟩
    rw [e]
    exact h
  | stuck =>
    simp only [mIter, e, Res.bind] at h
    exact h.elim
theorem jl_range {Y : Cy} {H0 : Hp} {L0 : Addr → Prop} {β0 : List Addr} (lo : Int) (n : Nat) : JL Y H0 L0 β0 (rangeL lo n, none) (Itr lo n) := by
  intro B i β g H S l _
  refine ⟨fun v hv => ?_, fun hi => by
    have : (rangeL lo n).length = n := by simp [rangeL]
    show n ≤ i
    rw [hi, this]
    exact Nat.le_refl _⟩
  obtain ⟨hi, rfl⟩ := rangeL_get lo n i v hv
  refine ⟨hi, ?_⟩
  rintro x H' ⟨rfl, rfl⟩
  exact ⟨S, Le.refl, .int _⟩
theorem si_range1 (hg : Gl X "range") (hm : X.mg "range" = none) (ha : PE X a (tE (yX X cad) ma W)) (hs : starEach [a] X.env = [(false, eval a X.env)] := by rfl) : PI X tg (.Call (.Name "range" p) [a] [] pos) (tI (yX X cad) (mRange1 ma) W) := by
  refine (pi_range1 hg hm (pa_cons ha pa_nil hs) hs).imp fun σ H R => ?_
  rintro ⟨B, β, g, ρ, S, V, h⟩
  refine tE_bind S V h fun β1 g1 H1 v x S1 l1 V1 r1 h1 => ?_
  cases v with
  | int i =>
    cases r1
    simp only [rangeM] at h1
    split at h1
    · rename_i hb
      exact ⟨i, rfl, hb.2, hb.1, h1 β1 H1 _ S1 Le.refl (jl_range 0 _)⟩
    · exact h1.elim
  | _ => exact h1.elim
theorem si_range2 {b : Expr} {mb : ME} (hg : Gl X "range") (hm : X.mg "range" = none) (ha : PE X a (tE (yX X cad) ma W)) (hb : PE X b (tE (yX X cad) mb W)) (hs : starEach [a, b] X.env = [(false, eval a X.env), (false, eval b X.env)] := by rfl) (hs2 : starEach [b] X.env = [(false, eval b X.env)] := by rfl)
    (hs3 : starEach [a, b] X.env = (false, eval a X.env) :: starEach [b] X.env := by rfl) : PI X tg (.Call (.Name "range" p) [a, b] [] pos) (tI (yX X cad) (mRange2 ma mb) W) := by
  refine (pi_range2 hg hm (pa_cons ha (pa_cons hb pa_nil hs2) hs3) hs hs2).imp fun σ H R => ?_
  rintro ⟨B, β, g, ρ, S, V, h⟩
  refine tE_bind S V h fun β1 g1 H1 v x S1 l1 V1 r1 h1 => ?_
  refine tE_bind S1 V1 h1 fun β2 g2 H2 w y S2 l2 V2 r2 h2 => ?_
  have r1 := r1.up l2
  cases v with
  | int i =>
    cases w with
    | int j =>
      cases r1
      cases r2
      simp only [rangeM] at h2
      split at h2
      · rename_i hb
        exact ⟨i, j, rfl, hb, h2 β2 H2 _ S2 Le.refl (jl_range i _)⟩
      · exact h2.elim
    | _ => exact h2.elim
  | _ => exact h2.elim
theorem enumL_get (xs : List Vl) (i : Nat) (v : Vl) (h : (enumL xs)[i]? = some v) : ∃ x, xs[i]? = some x ∧ v = .tup [.int (i : Nat), x] := by
  unfold enumL at h
  rw [List.getElem?_map, List.getElem?_zipIdx] at h
  cases e : xs[i]? with
  | none => rw [e] at h; cases h
  | some x =>
    rw [e] at h
    simp at h
    exact ⟨x, rfl, h.symm⟩
theorem si_enum (hg : Gl X "enumerate") (hm : X.mg "enumerate" = none) (ha : PE X a (tE (yX X cad) ma W)) (hs : starEach [a] X.env = [(false, eval a X.env)] := by rfl) : PI X (.Tuple elts kk tpos) (.Call (.Name "enumerate" p) [a] [] pos) (tI (yX X cad) (mEnum ma) W) := by
  refine (pi_enum hg hm (pa_cons ha pa_nil hs) hs).imp fun σ H R => ?_
  rintro ⟨B, β, g, ρ, S, V, h⟩
  refine tE_bind S V h fun β1 g1 H1 v x S1 l1 V1 r1 h1 => ?_
  simp only [enumM] at h1
  cases ep : asL g1 v with
  | none => rw [ep] at h1; exact h1.elim
  | some q =>
    rw [ep] at h1
    obtain ⟨a, rfl, ha⟩ := asL_at (Y := yX X cad) ep r1
    obtain ⟨vs0, hq0, _⟩ := ha B β1 g1 H1 S1 Le.refl (asL_src ep)
    refine ⟨a, vs0, rfl, hq0, h1 β1 H1 _ S1 Le.refl ?_⟩
    intro B' i β2 g2 H2 S2 l2 so
    obtain ⟨vs, hq, hs⟩ := ha B' β2 g2 H2 S2 l2 so
    refine ⟨fun v hv => ?_, fun hi => ⟨vs, hq, by rw [hi, ← hs.length]; simp [enumL]⟩⟩
    obtain ⟨y, hy, rfl⟩ := enumL_get _ _ _ hv
    obtain ⟨x, hx, rx⟩ := hs.get hy
    refine ⟨⟨vs, x, hq, hx⟩, ?_⟩
    rintro z H' ⟨T, x', rfl, hT, rfl, hx'⟩
    have := hx' vs hq
    rw [hx] at this
    cases this
    obtain ⟨S3, l3⟩ := S2.new (o := .tup [.int (i : Nat), x]) hT
    exact ⟨S3, l3, .tup (.inl (.inl upd_same)) (.cons (.int _) (.cons (rx.up l3) .nil))⟩
theorem zipL_get (xs ys : List Vl) (i : Nat) (v : Vl) (h : (zipL xs ys)[i]? = some v) : ∃ x y, xs[i]? = some x ∧ ys[i]? = some y ∧ v = .tup [x, y] := by
  unfold zipL at h
  rw [List.getElem?_map] at h
  cases e : (xs.zip ys)[i]? with
  | none => rw [e] at h; cases h
  | some z =>
    rw [e] at h
    obtain ⟨h1, h2⟩ := List.getElem?_zip_eq_some.mp e
    cases h
    exact ⟨_, _, h1, h2, rfl⟩
theorem si_zip {b : Expr} {mb : ME} (hg : Gl X "zip") (hm : X.mg "zip" = none) (ha : PE X a (tE (yX X cad) ma W)) (hb : PE X b (tE (yX X cad) mb W)) (hs : starEach [a, b] X.env = (false, eval a X.env) :: starEach [b] X.env := by rfl) (hpl : (backTo pos (starEach [b] X.env)).any (·.1) = false := by rfl)
    (hs2 : starEach [b] X.env = (false, eval b X.env) :: starEach [] X.env := by rfl) : PI X (.Tuple elts kk tpos) (.Call (.Name "zip" p) [a, b] [] pos) (tI (yX X cad) (mZip ma mb) W) := by
  refine (RZ.pi_zipA hg hm (pa_cons ha (pa_cons hb pa_nil hs2) hs) hs hpl).imp fun σ H R => ?_
  rintro ⟨B, β, g, ρ, S, V, h⟩
  refine tE_bind S V h fun β1 g1 H1 v x S1 l1 V1 r1 h1 => ?_
  refine tE_bind S1 V1 h1 fun β2 g2 H2 w y S2 l2 V2 r2 h2 => ?_
  have r1 := r1.up l2
  cases v with
  | lst xs =>
    cases w with
    | lst ys =>
      obtain ⟨a1, vs, rfl, hq, hs⟩ := r1.seq
      obtain ⟨a2, ws, rfl, hq2, hs2⟩ := r2.seq
      refine ⟨a1, a2, vs, ws, rfl, .inl ⟨.inl (.inl hq), .inl (.inl hq2), h2 β2 H2 _ S2 Le.refl ?_⟩⟩
      intro B' i β3 g3 H3 S3 l3 _
      obtain ⟨_, vs3, e3, hq3, hs3⟩ := (r1.up l3).seq
      cases e3
      obtain ⟨_, ws3, e4, hq4, hs4⟩ := (r2.up l3).seq
      cases e4
      refine ⟨fun v hv => ?_, fun hi => ⟨vs3, ws3, .inl (.inl hq3), .inl (.inl hq4), by rw [hi, ← hs3.length, ← hs4.length]; simp [zipL]; omega⟩⟩
      obtain ⟨x1, y1, hx, hy, rfl⟩ := zipL_get _ _ _ _ hv
      obtain ⟨x2, ex, rx⟩ := hs3.get hx
      obtain ⟨y2, ey, ry⟩ := hs4.get hy
      refine ⟨⟨vs3, ws3, x2, y2, .inl (.inl hq3), .inl (.inl hq4), ex, ey⟩, ?_⟩
      rintro z H' ⟨T, x', y', rfl, hT, rfl, hx', hy'⟩
      have e1 := hx' vs3 (.inl (.inl hq3))
      have e2 := hy' ws3 (.inl (.inl hq4))
      rw [ex] at e1
      rw [ey] at e2
      cases e1
      cases e2
      obtain ⟨S4, l4⟩ := S3.new (o := .tup [x2, y2]) hT
      exact ⟨S4, l4, .tup (.inl (.inl upd_same)) (.cons (rx.up l4) (.cons (ry.up l4) .nil))⟩
    | _ => exact h2.elim
  | tup xs =>
    cases w with
    | tup ys =>
      obtain ⟨a1, vs, rfl, hq, hs⟩ := r1.tseq
      obtain ⟨a2, ws, rfl, hq2, hs2⟩ := r2.tseq
      refine ⟨a1, a2, vs, ws, rfl, .inr ⟨hq, hq2, h2 β2 H2 _ S2 Le.refl ?_⟩⟩
      intro B' i β3 g3 H3 S3 l3 _
      have hq3 := l3.sqt hq
      have hq4 := l3.sqt hq2
      have hs3 := hs.up l3
      have hs4 := hs2.up l3
      refine ⟨fun v hv => ?_, fun hi => ⟨vs, ws, hq3, hq4, by rw [hi, ← hs3.length, ← hs4.length]; simp [zipL]; omega⟩⟩
      obtain ⟨x1, y1, hx, hy, rfl⟩ := zipL_get _ _ _ _ hv
      obtain ⟨x2, ex, rx⟩ := hs3.get hx
      obtain ⟨y2, ey, ry⟩ := hs4.get hy
      refine ⟨⟨vs, ws, x2, y2, hq3, hq4, ex, ey⟩, ?_⟩
      rintro z H' ⟨T, x', y', rfl, hT, rfl, hx', hy'⟩
      have e1 := hx' vs hq3
      have e2 := hy' ws hq4
      rw [ex] at e1
      rw [ey] at e2
      cases e1
      cases e2
      obtain ⟨S4, l4⟩ := S3.new (o := .tup [x2, y2]) hT
      exact ⟨S4, l4, .tup (.inl (.inl upd_same)) (.cons (rx.up l4) (.cons (ry.up l4) .nil))⟩
    | _ => exact h2.elim
  | _ => exact h2.elim
/-! ### loops -/
theorem ss_while {pb : List Stmt} (hp : PassesOwn (model X.prog X.w) X.A X.env X.xe) (hc : PT X c (tT (yX X cad) mt W)) (hb : PSs X pb (tS (yX X cad) m W)) : PS X (.While c pb [] pos) (tS (yX X cad) (mWhile mt m) W) := by
  refine (ps_while hp hc hb).imp fun D σ H => ?_
  rintro ⟨B, β, g, ρ, S, V, h⟩
  have hn : mWhile mt m ρ g ≠ .stuck := fun z => by
    rw [z] at h
    exact h
  obtain ⟨n, en, _⟩ := mWhile_at hn
  rw [← en] at h
  refine ⟨fun n σ H => ∃ (β : List Addr) (g : Gh) (ρ : Env), Sim (yX X cad) B β g H ∧ EnvR X.K H (Lv B β g) β ρ σ ∧ FinS (yX X cad) B β g H (whileF mt m n ρ g) D W, ⟨n, β, g, ρ, S, V, h⟩, ?_⟩
  rintro n σ H ⟨β, g, ρ, S, V, h⟩
  cases n with
  | zero => exact h.elim
  | succ n =>
    simp only [whileF] at h
    refine tT_lift (B := B) S V h fun β1 g1 H1 v S1 l1 V1 h1 => ?_
    cases v with
    | false => exact iteF (h1.nxt S1 V1)
    | true =>
      refine iteT ⟨fun σ' H' => ∃ (β : List Addr) (g : Gh) (ρ : Env), Sim (yX X cad) B β g H' ∧ EnvR X.K H' (Lv B β g) β ρ σ' ∧ FinS (yX X cad) B β g H' (whileF mt m n ρ g) D W, fun σ' H' q => ⟨n, Nat.lt_succ_self _, q⟩, ?_⟩
      refine ⟨B, β1, g1, ρ, S1, V1, ?_⟩
      simp only [if_true] at h1
      cases e : m ρ g1 with
      | nx ρ' g' => rw [e] at h1; exact fun β' H' σ' S' l' V' => ⟨β', g', ρ', S', V', FinS.later l' h1⟩
      | ct ρ' g' => rw [e] at h1; exact fun β' H' σ' S' l' V' => ⟨β', g', ρ', S', V', FinS.later l' h1⟩
      | bk ρ' g' => rw [e] at h1; exact h1
      | rt v g' => rw [e] at h1; exact h1
      | exc x ρ' g' => rw [e] at h1; exact h1
      | stuck => rw [e] at h1; exact h1
theorem ss_for {pb : List Stmt} (hp : PassesOwn (model X.prog X.w) X.A X.env X.xe) (hcl : X.calm = true) (hi : PI X tg iter (tI (yX X cad) mi W)) (hg : PG X tg (tG (yX X cad) gm W)) (hb : PSs X pb (tS (yX X cad) m W))
    (hs : ∀ x, foldedSetIterable iter X.env x = pure x := by intro _; rfl) : PS X (.For tg iter pb [] pos) (tS (yX X cad) (mFor mi gm m) W) := by
  refine (ps_for hp hcl hi hg hb hs).imp fun D σ H => ?_
  rintro ⟨B, β, g, ρ, S, V, h⟩
  refine ⟨B, β, g, ρ, S, V, ?_⟩
  simp only [mFor] at h
  cases e : mi ρ g with
  | stuck => rw [e] at h; exact h
  | exc x g1 =>
    rw [e] at h
    exact fun β' H' c d S' l' q => h β' H' σ c d S' l' (V.up l') q
  | ok q g1 =>
    rw [e] at h
    simp only [Res.lift] at h
    intro β1 H1 J S1 l1 jl
    have V1 := V.up l1
    have h1 := FinS.later l1 h
    refine ⟨fun i n σ H => i + n = q.1.length ∧ ∃ (β : List Addr) (g : Gh) (ρ : Env), Sim (yX X cad) B β g H ∧ LeS B β1 g1 H1 β g H ∧ EnvR X.K H (Lv B β g) β ρ σ ∧ FinS (yX X cad) B β g H (forF gm m q.2 (q.1.drop i) ρ g) D W,
      ⟨q.1.length, Nat.zero_add _, β1, g1, ρ, S1, Le.refl, V1, h1⟩, ?_⟩
    rintro i n σ H ⟨hin, β, g, ρ, S, l, V, h⟩
    by_cases hlt : i < q.1.length
    · rw [List.drop_eq_getElem_cons hlt] at h
      simp only [forF] at h
      split at h
      · rename_i so
        obtain ⟨j1, j2⟩ := jl B i β g H S l so
        obtain ⟨go, hy⟩ := j1 _ (List.getElem?_eq_getElem hlt)
        refine .inr ⟨go, fun σ' H' => ∃ (β : List Addr) (g : Gh) (ρ : Env), Sim (yX X cad) B β g H' ∧ LeS B β1 g1 H1 β g H' ∧ EnvR X.K H' (Lv B β g) β ρ σ' ∧ FinS (yX X cad) B β g H' (forF gm m q.2 (q.1.drop (i + 1)) ρ g) D W, fun σ' H' w => ⟨n - 1, by omega, by omega, w⟩, ?_⟩
        intro x H2 yl
        obtain ⟨S2, l2, r2⟩ := hy x H2 yl
        have h2 := FinS.later l2 h
        refine ⟨B, β, g, ρ, _, S2, V.up l2, r2, ?_⟩
        cases e2 : gm q.1[i] ρ g with
        | nx ρ' g' =>
          rw [e2] at h2
          dsimp only at h2
          intro β3 H3 σ3 S3 l3 V3
          refine ⟨B, β3, g', ρ', S3, V3, ?_⟩
          have h3 := FinS.later l3 h2
          have lx := l.trans (l2.trans l3)
          cases e3 : m ρ' g' with
          | nx ρ4 g4 => rw [e3] at h3; exact fun β' H' σ' S' l' V' => ⟨β', g4, ρ4, S', lx.trans l', V', FinS.later l' h3⟩
          | ct ρ4 g4 => rw [e3] at h3; exact fun β' H' σ' S' l' V' => ⟨β', g4, ρ4, S', lx.trans l', V', FinS.later l' h3⟩
          | bk ρ4 g4 => rw [e3] at h3; exact h3
          | rt v g4 => rw [e3] at h3; exact h3
          | exc x ρ4 g4 => rw [e3] at h3; exact h3
          | stuck => rw [e3] at h3; exact h3
        | _ => rw [e2] at h2; exact h2.elim
      · exact h.elim
    · have hi : i = q.1.length := by omega
      rw [hi, List.drop_length] at h
      simp only [forF] at h
      split at h
      · rename_i so
        obtain ⟨j1, j2⟩ := jl B i β g H S l so
        exact .inl ⟨j2 hi, h.nxt S V⟩
      · exact h.elim
end
end CS

set_option Elab.async false
set_option linter.all false
set_option maxRecDepth 100000
namespace CS
open PySem L2 PySem.Spec PyProof.Rows

/-! ### defs: room, promises, calls -/
structure RoomG (k : Nat) (A : Around) : Prop where
  hd : A.handled = none
  dp : A.depth + k + 8 < recursionLimit
  un : A.units + 4 * k + 300 < cLine
  gd : A.guards = some []
theorem RoomG.deeper {k : Nat} {A : Around} (r : RoomG (k + 1) A) (env : PySem.Env) : RoomG k (A.deeper env) := by
  obtain ⟨h1, h2, h3, h4⟩ := r
  refine ⟨h1, ?_, ?_, h4⟩
  · show A.depth + 1 + k + 8 < recursionLimit
    omega
  · show A.units + 3 + 4 * k + 300 < cLine
    omega
theorem RoomG.mono {j k : Nat} {A : Around} (r : RoomG k A) (h : j ≤ k) : RoomG j A := ⟨r.hd, by have := r.dp; omega, by have := r.un; omega, r.gd⟩
theorem RoomG.u64 {k : Nat} {A : Around} (r : RoomG k A) : A.units + 64 < cLine := by have := r.un; omega
theorem RoomG.u65 {k : Nat} {A : Around} (r : RoomG k A) : A.units + 65 < cLine := by have := r.un; omega
theorem RoomG.u0 {k : Nat} {A : Around} (r : RoomG k A) : A.units < cLine := by have := r.un; omega
theorem RoomG.u1 {k : Nat} {A : Around} (r : RoomG k A) : A.units + 1 < cLine := by have := r.un; omega

structure FnG (P : Program) (w : World) (K : PySem.W.Frag) (mg : Str → Option Value) (base : Heap) (C : CXT) (k : Nat) (f : Addr) (fd : FuncData) (ps : List Str) (sp : Sp) : Prop where
  len : ∀ vs H Q E, sp vs H Q E → vs.length = ps.length
  run : ∀ (A : Around) (fr : List PySem.Env) (s : Shared) (H : Hp) (ar : Args) (us : List Value) (vs : List V) (Q : VK) (E : XK), RoomG k A → Env0 P w K mg base A fr s H →
    BindsTo s fd ar (ps.zip us) → Vals vs us → sp vs H Q E → codeAny (model P w) A (.call (.ref f) ar) (CR C fr P w H s Q E) s
theorem FnG.mono {P : Program} {w : World} {K : PySem.W.Frag} {mg : Str → Option Value} {base : Heap} {C : CXT} {j k : Nat} {f : Addr} {fd : FuncData} {ps : List Str} {sp : Sp} (F : FnG P w K mg base C j f fd ps sp) (h : j ≤ k) : FnG P w K mg base C k f fd ps sp :=
  ⟨F.len, fun A fr s H ar us vs Q E hr => F.run A fr s H ar us vs Q E (hr.mono h)⟩

/-- a def's clean run, from its body -/
def startC (n : Nat) (ds : List Vl) : Env := ds.map some ++ List.replicate (n - ds.length) none
def runOf (n : Nat) (m : MS) : List Vl → Gh → Res Vl := fun ds g => match m (startC n ds) g with
  | .nx _ g' => .ok .non g'
  | .rt v g' => .ok v g'
  | .exc e _ g' => .exc e g'
  | _ => .stuck
def spR (Y : Cy) (n : Nat) (run : List Vl → Gh → Res Vl) : Sp := fun vs H Q E => vs.length = n ∧ ∃ (B : Bs) (β : List Addr) (g : Gh) (ds : List Vl), Sim Y B β g H ∧ VRs Y.K H (Lv B β g) β ds vs ∧ Fin Y B (VR Y.K) β g H (run ds g) Q E

section
variable {P : Program} {w : World} {K : PySem.W.Frag} {mg : Str → Option Value} {base : Heap} {cad : Nat → Addr}
theorem start_rel {H : Hp} {L : Addr → Prop} {β : List Addr} {N : List Str} {ds : List Vl} {vs : List V} (r : VRs K H L β ds vs) (hl : vs.length ≤ N.length) : EnvR K H L β (startC N.length ds) (L2.start N vs) := by
  have el := r.length
  refine ⟨by unfold startC L2.start; simp [el], fun i v e => ?_⟩
  unfold startC at e
  unfold L2.start
  by_cases hi : i < ds.length
  · rw [List.getElem?_append_left (by simpa using hi), List.getElem?_map] at e
    cases q : ds[i]? with
    | none => rw [q] at e; cases e
    | some d =>
      rw [q] at e
      cases e
      obtain ⟨x, ex, rx⟩ := r.get q
      exact ⟨x, by rw [List.getElem?_append_left (by simp; omega), List.getElem?_map, ex]; rfl, rx⟩
  · rw [List.getElem?_append_right (by simpa using hi), List.getElem?_replicate] at e
    split at e <;> cases e
/-- THE RULE of a def: its body's derivation -/
theorem fnG_run {x qual : Str} {st : Stmt} {f : Addr} {fd : FuncData} {N ps : List Str} {k : Nat} {m : MS} (F : Fun K x qual st f fd) (S : FnScope N ps (defScope st))
    (hb : ∀ (cdv : Value) (A : Around) (fr : List PySem.Env) (s : Shared) (H : Hp) (E : XK), RoomG k (A.deeper (envOfC qual (defScope st) s.heap.objs.size f cdv)) →
      PSs (cxOf (L2.CX P w) P w K mg base N qual (defScope st) f cdv A fr s H E) (defBody st) (tS ⟨K, cad⟩ m (fun c d _ H => E c d H))) :
    FnG P w K mg base (L2.CX P w) (k + 1) f fd ps (spR ⟨K, cad⟩ ps.length (runOf N.length m)) := by
  obtain ⟨oc, od, kV, doc, pm, an, cdv, ct, osl, rfl, lk, hcd⟩ := F.ex
  refine ⟨fun vs H Q E h => h.1, fun A fr s H ar us vs Q E hr e0 bt rv hsp => ?_⟩
  obtain ⟨hlen, B, β, g, ds, SS, rd, hf⟩ := hsp
  have kin := e0.mod.kin.keeps fun b o e => (e0.bs b o e).1
  have nl := e0.mod.nolimit.keeps fun b o e => (e0.bs b o e).1
  have hdp : A.depth < recursionLimit := by have := hr.dp; omega
  have par : ∀ y ∈ ps.zip us, (defScope st).names.lookup y.1 = some .local ∨ ((defScope st).names.lookup y.1 = some .cell ∧ ((cellsFrom (s.heap.objs.size + 1) (defScope st).names []).lookup y.1).isSome = true) := by
    rintro ⟨n, v⟩ hy
    cases S.par n (List.of_mem_zip hy).1 with
    | inl q => exact Or.inl q
    | inr q => exact Or.inr ⟨q, PySem.W.cellsFrom_some _ _ _ (Or.inl q)⟩
  refine codeAny_call_function hdp (kin _ _ lk) rfl S.co S.gen rfl (PySem.W.codeRec_of kin hcd) (bt _ _ _ _ ?_)
  refine wpAny_newFunctionEnv_cells S.kind par fun env he s1 xi => ?_
  subst he
  refine ⟨nl.keeps xi.toInCall.keep, codeAny_func ?_⟩
  have II := inv_start (CX := L2.CX P w) (E := E) S hr.hd e0 hlen rv xi
  have hN : vs.length ≤ N.length := by
    have z := congrArg List.length S.pre
    rw [List.length_take] at z
    omega
  have rdg : tS ⟨K, cad⟩ m (fun c d _ H => E c d H) { nx := fun _ H' => Q .non H', rt := Q } (L2.start N vs) H := by
    refine ⟨B, β, g, startC N.length ds, SS, start_rel rd hN, ?_⟩
    unfold runOf at hf
    cases q : m (startC N.length ds) g with
    | nx ρ g' => rw [q] at hf; exact fun β' H' σ' S' l' _ => hf β' H' _ S' l' .non
    | rt v g' => rw [q] at hf; exact hf
    | exc e ρ g' => rw [q] at hf; exact fun β' H' σ' c d S' l' _ xr => hf β' H' c d S' l' xr
    | bk ρ g' => rw [q] at hf; exact hf.elim
    | ct ρ g' => rw [q] at hf; exact hf.elim
    | stuck => rw [q] at hf; exact hf.elim
  refine wpAny_mono ((hb cdv A fr s H E (hr.deeper _)).run [] s1 (L2.start N vs) H _ II rdg) (fun fl s' hs => ?_) fun e s' hs => hs
  cases fl with
  | ret u =>
    obtain ⟨v, σ', H', J, rv', q⟩ := hs
    exact ⟨v, H', J.os, J.bare, J.base, J.hok, rv', q⟩
  | next =>
    obtain ⟨σ', H', J, q⟩ := hs
    exact ⟨V.non, H', J.os, J.bare, J.base, J.hok, rfl, q⟩
  | brk =>
    obtain ⟨_, _, _, q⟩ := hs
    exact q.elim
  | cont =>
    obtain ⟨_, _, _, q⟩ := hs
    exact q.elim
end

/-! ### pure calls: of values alone, in a heap of its own -/
mutual
def noRef : Vl → Bool
  | .ref _ => false
  | .tup xs => noRefs xs
  | .lst xs => noRefs xs
  | .rol xs => noRefs xs
  | _ => true
def noRefs : List Vl → Bool
  | [] => true
  | x :: xs => noRef x && noRefs xs
end
def noRefF : List (Str × Vl) → Bool
  | [] => true
  | (_, x) :: r => noRef x && noRefF r
def pureM (run : List Vl → Gh → Res Vl) : List Vl → Gh → Res Vl := fun ds g => if noRefs ds then (match run ds [] with
  | .ok v _ => if noRef v then .ok v g else .stuck
  | .exc e _ => if noRefF e.fs then .exc e g else .stuck
  | .stuck => .stuck) else .stuck
section
variable {K : PySem.W.Frag} {H : Hp} {L L' : Addr → Prop} {β β' : List Addr}
mutual
theorem VR.pure (h : ∀ a, L' a → L a) : ∀ (v : Vl) (x : V), noRef v = true → VR K H L β v x → VR K H L' β' v x
  | .non, _, _, r => by cases r; exact .non
  | .bl _, _, _, r => by cases r; exact .bl _
  | .int _, _, _, r => by cases r; exact .int _
  | .str _, _, _, r => by cases r; exact .str _
  | .tup xs, _, n, r => by
    cases r with
    | tup h1 hs => exact .tup h1 (VRs.pure h xs _ n hs)
  | .lst xs, _, n, r => by
    cases r with
    | lst h1 h2 hs => exact .lst h1 (fun z => h2 (h _ z)) (VRs.pure h xs _ n hs)
  | .rol xs, _, n, r => by
    cases r with
    | rol h1 hs => exact .rol h1 (VRs.pure h xs _ n hs)
  | .ref _, _, n, _ => by cases n
theorem VRs.pure (h : ∀ a, L' a → L a) : ∀ (v : List Vl) (x : List V), noRefs v = true → VRs K H L β v x → VRs K H L' β' v x
  | [], _, _, r => by cases r; exact .nil
  | v :: vs, _, n, r => by
    have n' : noRef v = true ∧ noRefs vs = true := by
      simpa [noRefs] using n
    cases r with
    | cons h1 hs => exact .cons (VR.pure h v _ n'.1 h1) (VRs.pure h vs _ n'.2 hs)
end
theorem KVR.pure (h : ∀ a, L' a → L a) : ∀ (r : List (Str × Vl)) (r' : List (Str × V)), noRefF r = true → KVR K H L β r r' → KVR K H L' β' r r'
  | [], [], _, _ => trivial
  | (k, x) :: r, (k', v) :: r', n, q => by
    have n' : noRef x = true ∧ noRefF r = true := by
      simpa [noRefF] using n
    exact ⟨q.1, VR.pure h _ _ n'.1 q.2.1, KVR.pure h r r' n'.2 q.2.2⟩
  | [], _ :: _, _, q => q.elim
  | _ :: _, [], _, q => q.elim
end
theorem spR_pure {Y : Cy} {n : Nat} {run : List Vl → Gh → Res Vl} {B : Bs} {β : List Addr} {g : Gh} {H : Hp} {ds : List Vl} {vs : List V} {Q : VK} {E : XK} (S : Sim Y B β g H) (r : VRs Y.K H (Lv B β g) β ds vs) (hl : vs.length = n)
    (h : Fin Y B (VR Y.K) β g H (pureM run ds g) Q E) : spR Y n run vs H Q E := by
  unfold pureM at h
  split at h
  · rename_i hn
    let B' : Bs := ⟨Lv B β g, H⟩
    have S' : Sim Y B' [] [] H := ⟨rfl, fun i j a h => by simp at h, fun n a o h => by simp at h, fun n a h => by simp at h, fun a o h => h, fun a h => S.live h, fun n a h => by simp at h⟩
    have hL0 : ∀ a, Lv B' [] [] a → Lv B β g a := fun a z => by
      rcases z with z | ⟨n, o, z, _⟩
      · exact z
      · simp at z
    refine ⟨hl, B', [], [], ds, S', VRs.pure hL0 _ _ hn r, ?_⟩
    have back : ∀ {β1 g1 H1}, Sim Y B' β1 g1 H1 → Sim Y B β g H1 ∧ LeS B β g H β g H1 := fun {β1 g1 H1} S1 => by
      have kp : ∀ a o, H a = some o → H1 a = some o := S1.keep
      have l : LeS B β g H β g H1 := ⟨fun _ _ h => h, fun a vs h => rd_keep kp h, fun a vs h n => ⟨kp _ _ h, n⟩, fun a o u h => kp _ _ h⟩
      refine ⟨⟨S.len, S.inj, fun i a o h1 h2 => (S.obj i a o h1 h2).up l fun d => ?_, S.fr, fun a o e => kp _ _ (S.keep a o e), S.usub, fun i a e => ?_⟩, l⟩
      · obtain ⟨u, e, _⟩ := (S.obj i a o h1 h2).some d
        rw [e, kp _ _ e]
      · obtain ⟨u, e'⟩ := S.trk i a e
        exact ⟨u, kp _ _ e'⟩
    have hLb : ∀ β1 g1 a, Lv B β g a → Lv B' β1 g1 a := fun β1 g1 a z => Or.inl z
    cases q : run ds [] with
    | ok v g1 =>
      rw [q] at h
      simp only at h
      split at h
      · rename_i nv
        intro β1 H1 x S1 _ rx
        obtain ⟨S2, l2⟩ := back S1
        exact h β H1 x S2 l2 (VR.pure (hLb β1 g1) _ _ nv rx)
      · exact h.elim
    | exc e g1 =>
      rw [q] at h
      simp only at h
      split at h
      · rename_i nv
        intro β1 H1 c d S1 _ rx
        obtain ⟨S2, l2⟩ := back S1
        refine h β H1 c d S2 l2 ⟨rx.1, ?_⟩
        rcases rx.2 with z | ⟨dx, ws, z1, z2, z3⟩
        · exact .inl z
        · exact .inr ⟨dx, ws, z1, z2, KVR.pure (hLb β1 g1) _ _ nv z3⟩
      · exact h.elim
    | stuck =>
      rw [q] at h
      exact h
  · exact h.elim

section
variable {X : Cx} {cad : Nat → Addr} {W : WX} {k : Nat} {f : Addr} {fd : FuncData} {ps : List Str} {x : Str} {p pos : Pos} {e : Expr} {es : List Expr} {mas : MA} {run : List Vl → Gh → Res Vl}
theorem run_fnG {sp : Sp} {pins : List (Addr × Obj)} {σ : L2.St} {H : Hp} {s : Shared} {Q : VK} {us : List Value} {vs : List V} {E : XK} (F : FnG X.prog X.w X.K X.mg X.base (L2.CX X.prog X.w) k f fd ps sp) (hr : RoomG k X.A) (hb : Binds X.K fd ps [])
    (hx : PassesAt (L2.CX X.prog X.w) X σ E) (I : Inv X pins σ H s) (r : Vals vs us) (h : sp vs H Q E) : wpAny (model X.prog X.w) X.A (call (.ref f) us) (EP X pins σ Q) X.xe s := by
  have el : us.length = ps.length := r.length.symm.trans (F.len _ _ _ _ h)
  have bt := hb s us I.kIn (by simpa using el)
  rw [List.append_nil] at bt
  refine wpAny_call (codeAny_mono (F.run X.A X.stack s H ⟨us, []⟩ us vs Q E hr I.env0 bt r h) fun res s' hq => ?_)
  match res, hq with
  | .error e, hq => exact hx pins H s e s' I hq
  | .ok (.ret u), hq => exact I.after hq
  | .ok .next, hq => exact False.elim hq
  | .ok .brk, hq => exact False.elim hq
  | .ok .cont, hq => exact False.elim hq
theorem call_sp {sp : Sp} {cal : List Vl → Gh → Res Vl} (hsp : ∀ (B : Bs) (β : List Addr) (g : Gh) (H : Hp) (ds : List Vl) (vs : List V) (Q : VK) (E : XK), Sim (yX X cad) B β g H → VRs X.K H (Lv B β g) β ds vs → Fin (yX X cad) B (VR X.K) β g H (cal ds g) Q E → vs.length = ps.length → sp vs H Q E)
    (F : FnG X.prog X.w X.K X.mg X.base (L2.CX X.prog X.w) k f fd ps sp) (hr : RoomG k X.A) (hg : Gl X x) (hm : X.mg x = some (.ref f)) (hk : PySem.W.keepIn X.K (.ref f) = true) (hb : Binds X.K fd ps [])
    (tk : Takes X W) (ha : PA X (e :: es) (tA (yX X cad) mas W)) (hn : (e :: es).length = ps.length) (hlen : ∀ ρ g vs g1, mas ρ g = .ok vs g1 → vs.length = (e :: es).length) (hdb : (x == ("__debug__" : Str)) = false := by decide) (he : starEach (e :: es) X.env = (false, eval e X.env) :: starEach es X.env := by rfl)
    (hpl : (backTo pos (starEach es X.env)).any (·.1) = false := by rfl) : PE X (.Call (.Name x p) (e :: es) [] pos) (tE (yX X cad) (mArgs cal mas) W) := by
  refine ⟨fun pins s σ H Q I h => ?_⟩
  obtain ⟨B, β, g, ρ, S, V, h⟩ := h
  refine wpAny_Call_Name_kw (ld_glob I hg hm ?_ hdb)
  have rdg : tA (yX X cad) mas W σ H (fun vs H1 => sp vs H1 Q (WE W σ)) := by
    refine ⟨B, β, g, ρ, S, V, ?_⟩
    simp only [mArgs] at h
    cases q : mas ρ g with
    | ok ds g1 =>
      rw [q] at h
      intro β1 H1 vs S1 l1 r1
      exact hsp B β1 g1 H1 ds vs Q _ S1 r1 (Fin.later l1 h) (by rw [← r1.length, hlen _ _ _ _ q]; exact hn)
    | exc z g1 => rw [q] at h; exact h
    | stuck => rw [q] at h; exact h
  refine PySem.W.callWith_K (h₀ := X.base) I.ok.mod.kin hk (thn (ha.run pos pins s σ H _ I rdg) fun us s1 ⟨vs, H1, I1, r, q⟩ => ⟨I1.kIn, ?_⟩) he hpl
  exact run_fnG F hr hb (passAt tk σ) I1 r q
theorem se_call (F : FnG X.prog X.w X.K X.mg X.base (L2.CX X.prog X.w) k f fd ps (spR (yX X cad) ps.length run)) (hr : RoomG k X.A) (hg : Gl X x) (hm : X.mg x = some (.ref f)) (hk : PySem.W.keepIn X.K (.ref f) = true) (hb : Binds X.K fd ps [])
    (tk : Takes X W) (ha : PA X (e :: es) (tA (yX X cad) mas W)) (hn : (e :: es).length = ps.length) (hlen : ∀ ρ g vs g1, mas ρ g = .ok vs g1 → vs.length = (e :: es).length) (hdb : (x == ("__debug__" : Str)) = false := by decide) (he : starEach (e :: es) X.env = (false, eval e X.env) :: starEach es X.env := by rfl)
    (hpl : (backTo pos (starEach es X.env)).any (·.1) = false := by rfl) : PE X (.Call (.Name x p) (e :: es) [] pos) (tE (yX X cad) (mArgs run mas) W) :=
  call_sp (fun B β g H ds vs Q E S r h hl => ⟨hl, B, β, g, ds, S, r, h⟩) F hr hg hm hk hb tk ha hn hlen hdb he hpl
theorem se_pcall (F : FnG X.prog X.w X.K X.mg X.base (L2.CX X.prog X.w) k f fd ps (spR (yX X cad) ps.length run)) (hr : RoomG k X.A) (hg : Gl X x) (hm : X.mg x = some (.ref f)) (hk : PySem.W.keepIn X.K (.ref f) = true) (hb : Binds X.K fd ps [])
    (tk : Takes X W) (ha : PA X (e :: es) (tA (yX X cad) mas W)) (hn : (e :: es).length = ps.length) (hlen : ∀ ρ g vs g1, mas ρ g = .ok vs g1 → vs.length = (e :: es).length) (hdb : (x == ("__debug__" : Str)) = false := by decide) (he : starEach (e :: es) X.env = (false, eval e X.env) :: starEach es X.env := by rfl)
    (hpl : (backTo pos (starEach es X.env)).any (·.1) = false := by rfl) : PE X (.Call (.Name x p) (e :: es) [] pos) (tE (yX X cad) (mArgs (pureM run) mas) W) :=
  call_sp (fun B β g H ds vs Q E S r h hl => spR_pure S r hl h) F hr hg hm hk hb tk ha hn hlen hdb he hpl
theorem mNil_len : ∀ ρ g vs g1, mNil ρ g = .ok vs g1 → vs.length = 0 := fun ρ g vs g1 h => by
  cases h
  rfl
theorem mCons_len {n : Nat} {ma : ME} {mr : MA} (h : ∀ ρ g vs g1, mr ρ g = .ok vs g1 → vs.length = n) : ∀ ρ g vs g1, mCons ma mr ρ g = .ok vs g1 → vs.length = n + 1 := fun ρ g vs g1 q => by
  simp only [mCons] at q
  cases e1 : ma ρ g with
  | ok v g2 =>
    rw [e1] at q
    simp only [Res.bind] at q
    cases e2 : mr ρ g2 with
    | ok ws g3 =>
      rw [e2] at q
      simp only [Res.ok.injEq] at q
      obtain ⟨rfl, rfl⟩ := q
      simp [h _ _ _ _ e2]
    | exc _ _ => rw [e2] at q; cases q
    | stuck => rw [e2] at q; cases q
  | exc _ _ => rw [e1] at q; cases q
  | stuck => rw [e1] at q; cases q
end
end CS

set_option Elab.async false
set_option linter.all false
set_option maxRecDepth 100000
namespace CS
open PySem L2

/-! ### comprehensions -/
def wipeC (ρ : Env) : List Nat → Env
  | [] => ρ
  | i :: is => (wipeC ρ is).set i none
open Classical in
noncomputable def compF (t : MG) (c : MT) (e : ME) (src : Option (Nat × List Vl)) (ρ : Env) : List Vl → Gh → Res (List Vl)
  | [], g => if srcOk src g then .ok [] g else .stuck
  | v :: vs, g => if srcOk src g then (match t v ρ g with
    | .nx ρ1 g1 => match c ρ1 g1 with
      | .ok true g2 => (match e ρ1 g2 with
        | .ok y g3 => (compF t c e src ρ vs g3).bind fun ys g4 => .ok (y :: ys) g4
        | _ => .stuck)
      | .ok false g2 => compF t c e src ρ vs g2
      | _ => .stuck
    | _ => .stuck) else .stuck
noncomputable def mComp (mk : List Vl → Gh → Res Vl) (it : MI) (own : List Nat) (t : MG) (c : MT) (e : ME) : ME := fun ρ g => (it ρ g).bind fun p g1 => (compF t c e p.2 (wipeC ρ own) p.1 g1).bind mk
def mYes : MT := fun _ g => .ok true g

/-- targets that only store to some slots -/
def tGw (Y : Cy) (vs : List Nat) (m : MG) (W : WX) : TG := fun x σ H Q => ∃ (B : Bs) (β : List Addr) (g : Gh) (ρ : Env) (v : Vl), Sim Y B β g H ∧ EnvR Y.K H (Lv B β g) β ρ σ ∧ VR Y.K H (Lv B β g) β v x ∧
  FinS Y B β g H (m v ρ g) (EG fun σ' H' => wipe σ' vs = wipe σ vs → Q σ' H') W
def tGsw (Y : Cy) (vs : List Nat) (m : MGs) (W : WX) : TGs := fun x σ H Q => ∃ (B : Bs) (β : List Addr) (g : Gh) (ρ : Env) (v : List Vl), Sim Y B β g H ∧ EnvR Y.K H (Lv B β g) β ρ σ ∧ VRs Y.K H (Lv B β g) β v x ∧
  FinS Y B β g H (m v ρ g) (EG fun σ' H' => wipe σ' vs = wipe σ vs → Q σ' H') W
theorem wipe_get (σ : L2.St) (j : Nat) : ∀ vs : List Nat, (wipe σ vs)[j]? = if j ∈ vs ∧ j < σ.length then some none else σ[j]?
  | [] => by simp [wipe]
  | v :: vs => by
    unfold wipe
    by_cases h : j = v
    · subst h
      by_cases hl : j < σ.length
      · rw [List.getElem?_set_self (by rw [wipe_length]; exact hl)]
        simp [hl]
      · rw [List.getElem?_eq_none (by simp [wipe_length]; omega)]
        simp [hl]
    · rw [List.getElem?_set_ne (Ne.symm h), wipe_get σ j vs]
      simp [h]
theorem wipe_put {σ : L2.St} {i : Nat} {o : Option L2.V} {vs : List Nat} (h : i ∈ vs) : wipe (σ.set i o) vs = wipe σ vs := by
  refine List.ext_getElem? fun j => ?_
  rw [wipe_get, wipe_get]
  by_cases hj : j = i
  · subst hj
    by_cases hl : j < σ.length
    · simp [h, hl]
    · simp [hl]
  · simp [List.getElem?_set_ne (Ne.symm hj)]
theorem wipe_twice (σ : L2.St) (vs : List Nat) : wipe (wipe σ vs) vs = wipe σ vs := by
  refine List.ext_getElem? fun j => ?_
  rw [wipe_get, wipe_get, wipe_length]
  split <;> rfl
theorem compF_noexc (t : MG) (c : MT) (e : ME) (src : Option (Nat × List Vl)) (ρ : Env) : ∀ (vs : List Vl) (g : Gh) (x : Xn) (g' : Gh), compF t c e src ρ vs g ≠ .exc x g'
  | [], g, x, g', h => by
    simp only [compF] at h
    split at h <;> cases h
  | v :: vs, g, x, g', h => by
    simp only [compF] at h
    split at h
    · split at h
      · rename_i ρ1 g1 _
        cases e3 : c ρ1 g1 with
        | ok b g2 =>
          rw [e3] at h
          cases b with
          | true =>
            dsimp only at h
            cases e4 : e ρ1 g2 with
            | ok y g3 =>
              rw [e4] at h
              dsimp only at h
              have ih := compF_noexc t c e src ρ vs g3
              revert ih h
              cases compF t c e src ρ vs g3 with
              | ok ys g4 => exact fun h => nomatch h
              | exc z g4 => exact fun _ ih => ih z g4 rfl
              | stuck => exact fun h => nomatch h
            | exc _ _ => rw [e4] at h; cases h
            | stuck => rw [e4] at h; cases h
          | false => exact compF_noexc t c e src ρ vs g2 x g' h
        | exc _ _ => rw [e3] at h; cases h
        | stuck => rw [e3] at h; cases h
      · cases h
    · cases h
theorem EnvR.wipe {K : PySem.W.Frag} {H : Hp} {L : Addr → Prop} {β : List Addr} {ρ : Env} {σ : L2.St} (h : EnvR K H L β ρ σ) : ∀ vs : List Nat, EnvR K H L β (wipeC ρ vs) (L2.wipe σ vs)
  | [] => h
  | v :: vs => by
    have q := EnvR.wipe h vs
    refine ⟨by simp [wipeC, L2.wipe, q.len], fun i x e => ?_⟩
    unfold wipeC at e
    unfold L2.wipe
    by_cases hi : i = v
    · subst hi
      have hl : i < (wipeC ρ vs).length := by
        have := (List.getElem?_eq_some_iff.mp e).1
        simpa using this
      rw [List.getElem?_set_self hl] at e
      cases e
    · rw [List.getElem?_set_ne (Ne.symm hi)] at e
      obtain ⟨y, e1, r⟩ := q.has i x e
      exact ⟨y, by rw [List.getElem?_set_ne (Ne.symm hi)]; exact e1, r⟩

/-- a private list at D, for as long as it is made -/
def Bs.with (B : Bs) (D : Addr) (acc : List L2.V) : Bs := ⟨fun a => B.U a ∨ a = D, fun a => if a = D then some (.lst acc) else B.H0 a⟩
section
variable {Y : Cy} {B : Bs} {β : List Addr} {g : Gh} {H : Hp} {D : Addr} {acc acc' : List L2.V}
theorem Lv_with {a : Addr} : Lv (B.with D acc) β g a ↔ Lv B β g a ∨ a = D := by
  unfold Lv Bs.with
  constructor
  · rintro ((h | h) | h)
    · exact .inl (.inl h)
    · exact .inr h
    · exact .inl (.inr h)
  · rintro ((h | h) | h)
    · exact .inl (.inl h)
    · exact .inr h
    · exact .inl (.inr h)
theorem Lv_with_eq : Lv (B.with D acc) β g = Lv (B.with D acc') β g := by
  funext a
  exact propext (Lv_with.trans Lv_with.symm)
/-- the list is laid -/
theorem Sim.open (S : Sim Y B β g H) (n : H D = none) : Sim Y (B.with D []) β g (upd H D (.lst [])) ∧ Le H (Lv B β g) β (upd H D (.lst [])) (Lv (B.with D []) β g) β := by
  have kn := keep_upd (H := H) (p := D) (o := .lst []) n
  have l : Le H (Lv B β g) β (upd H D (.lst [])) (Lv (B.with D []) β g) β := by
    refine ⟨fun _ _ h => h, fun a vs h => rd_keep kn h, fun a vs h nl => ⟨kn _ _ h, fun q => ?_⟩, fun a o u h => kn _ _ h⟩
    rcases Lv_with.mp q with q | q
    · exact nl q
    · rw [q, n] at h
      cases h
  refine ⟨⟨S.len, S.inj, fun i a o h1 h2 => (S.obj i a o h1 h2).up l fun d => ?_, fun i a h => ?_, fun a o e => ?_, fun a h => ?_, fun i a h => ?_⟩, l⟩
  · obtain ⟨u, e, _⟩ := (S.obj i a o h1 h2).some d
    rw [e, kn _ _ e]
  · show (if a = D then _ else B.H0 a) = none
    rw [if_neg]
    · exact S.fr i a h
    · rintro rfl
      obtain ⟨u, e⟩ := S.trk i a h
      rw [n] at e
      cases e
  · have e' : (if a = D then some (HO.lst []) else B.H0 a) = some o := e
    by_cases h : a = D
    · rw [if_pos h] at e'
      rw [h, upd_same]
      exact e'
    · rw [if_neg h] at e'
      rw [upd_ne h]
      exact S.keep a o e'
  · show ∃ o, (if a = D then some (HO.lst []) else B.H0 a) = some o
    by_cases h' : a = D
    · exact ⟨_, if_pos h'⟩
    · rcases h with h | h
      · obtain ⟨o, e⟩ := S.usub a h
        exact ⟨o, by rw [if_neg h']; exact e⟩
      · exact absurd h h'
  · obtain ⟨u, e⟩ := S.trk i a h
    exact ⟨u, kn _ _ e⟩
theorem Sim.priv (S : Sim Y (B.with D acc) β g H) : H D = some (.lst acc) := S.keep D _ (if_pos rfl)
theorem Sim.notD (S : Sim Y (B.with D acc) β g H) {i : Nat} {a : Addr} (h : β[i]? = some a) : a ≠ D := fun e => by
  have := S.fr i a h
  have z : (if a = D then some (HO.lst acc) else B.H0 a) = none := this
  rw [if_pos e] at z
  cases z
/-- .. written -/
theorem Sim.more (S : Sim Y (B.with D acc) β g H) : Sim Y (B.with D acc') β g (upd H D (.lst acc')) ∧ Le H (Lv (B.with D acc) β g) β (upd H D (.lst acc')) (Lv (B.with D acc') β g) β := by
  have hD := S.priv
  have ne : ∀ {a u}, H a = some u → (∀ xs, u ≠ .lst xs) → upd H D (.lst acc') a = some u := fun {a u} h z => by
    rw [upd_ne]
    · exact h
    · rintro rfl
      rw [hD] at h
      cases h
      exact z _ rfl
  have l : Le H (Lv (B.with D acc) β g) β (upd H D (.lst acc')) (Lv (B.with D acc') β g) β := by
    refine ⟨fun _ _ h => h, fun a vs h => ?_, fun a vs h nl => ?_, fun a o u h => ne h fun xs z => by cases z⟩
    · rcases h with h | ⟨q, h⟩
      · exact .inl (ne h fun xs z => by cases z)
      · exact .inr ⟨q, ne h fun xs z => by cases z⟩
    · have h' : a ≠ D := fun e => nl (Lv_with.mpr (.inr e))
      exact ⟨by rw [upd_ne h']; exact h, fun q => nl (by rw [Lv_with_eq (acc' := acc')]; exact q)⟩
  refine ⟨⟨S.len, S.inj, fun i a o h1 h2 => (S.obj i a o h1 h2).up l fun _ => upd_ne (S.notD h1), fun i a h => ?_, fun a o e => ?_, fun a h => ?_, fun i a h => ?_⟩, l⟩
  · have z : (if a = D then some (HO.lst acc) else B.H0 a) = none := S.fr i a h
    show (if a = D then some (HO.lst acc') else B.H0 a) = none
    rw [if_neg (S.notD h)] at z ⊢
    exact z
  · have e' : (if a = D then some (HO.lst acc') else B.H0 a) = some o := e
    by_cases h : a = D
    · rw [if_pos h] at e'
      rw [h, upd_same]
      exact e'
    · rw [if_neg h] at e'
      rw [upd_ne h]
      refine S.keep a o ?_
      show (if a = D then _ else B.H0 a) = some o
      rw [if_neg h]
      exact e'
  · show ∃ o, (if a = D then some (HO.lst acc') else B.H0 a) = some o
    by_cases h' : a = D
    · exact ⟨_, if_pos h'⟩
    · obtain ⟨o, e⟩ := S.usub a h
      have e' : (if a = D then some (HO.lst acc) else B.H0 a) = some o := e
      rw [if_neg h'] at e'
      exact ⟨o, by rw [if_neg h']; exact e'⟩
  · obtain ⟨u, e⟩ := S.trk i a h
    exact ⟨u, by rw [upd_ne (S.notD h)]; exact e⟩
/-- .. done: nobody's -/
theorem Sim.close (S : Sim Y (B.with D acc) β g H) (hn : B.H0 D = none) (hu : ∀ a, B.U a → ∃ o, B.H0 a = some o) : Sim Y B β g H ∧ Le H (Lv (B.with D acc) β g) β H (Lv B β g) β ∧ ¬ Lv B β g D := by
  have l : Le H (Lv (B.with D acc) β g) β H (Lv B β g) β := ⟨fun _ _ h => h, fun a vs h => h, fun a vs h nl => ⟨h, fun q => nl (Lv_with.mpr (.inl q))⟩, fun _ _ _ h => h⟩
  refine ⟨⟨S.len, S.inj, fun i a o h1 h2 => (S.obj i a o h1 h2).up l fun _ => rfl, fun i a h => ?_, fun a o e => ?_, hu, S.trk⟩, l, ?_⟩
  · have z : (if a = D then some (HO.lst acc) else B.H0 a) = none := S.fr i a h
    rw [if_neg (S.notD h)] at z
    exact z
  · refine S.keep a o ?_
    show (if a = D then _ else B.H0 a) = some o
    rw [if_neg]
    · exact e
    · rintro rfl
      rw [hn] at e
      cases e
  · rintro (h | ⟨n, o, h, _⟩)
    · obtain ⟨o, e⟩ := hu D h
      rw [hn] at e
      cases e
    · exact S.notD h rfl
/-- .. done: one of ours -/
theorem Sim.adopt (S : Sim Y B β g H) {xs : List Vl} (hD : H D = some (.lst acc)) (hn : B.H0 D = none) (nd : ∀ (i : Nat) (a : Addr), β[i]? = some a → a ≠ D) (nf : ∀ a, Lv B β g a → a ≠ D)
    (r : VRs Y.K H (Lv (B.with D acc) β g) β xs acc) (so : Sim Y (B.with D acc) β g H) : Sim Y B (β ++ [D]) (g ++ [.lst xs]) H ∧ Le H (Lv (B.with D acc) β g) β H (Lv B (β ++ [D]) (g ++ [.lst xs])) (β ++ [D]) ∧ VR Y.K H (Lv B (β ++ [D]) (g ++ [.lst xs])) (β ++ [D]) (.ref g.length) (.ref D) := by
  have cas : ∀ {i : Nat} {a : Addr}, (β ++ [D])[i]? = some a → (i < β.length ∧ β[i]? = some a) ∨ (i = β.length ∧ a = D) := fun {i a} h => by
    by_cases hi : i < β.length
    · rw [List.getElem?_append_left hi] at h
      exact .inl ⟨hi, h⟩
    · have hb : i < (β ++ [D]).length := (List.getElem?_eq_some_iff.mp h).1
      have e : i = β.length := by simp at hb; omega
      subst e
      simp at h
      exact .inr ⟨rfl, h.symm⟩
  have hL : ∀ a, Lv B (β ++ [D]) (g ++ [.lst xs]) a → Lv (B.with D acc) β g a := fun a q => Lv_with.mpr (Lv_alloc S.len q)
  have l : Le H (Lv (B.with D acc) β g) β H (Lv B (β ++ [D]) (g ++ [.lst xs])) (β ++ [D]) :=
    ⟨fun i a h => by rw [List.getElem?_append_left (List.getElem?_eq_some_iff.mp h).1]; exact h, fun a vs h => h, fun a vs h n => ⟨h, fun q => n (hL a q)⟩, fun _ _ _ h => h⟩
  refine ⟨⟨by simp [S.len], fun i j a h1 h2 => ?_, fun i a o h1 h2 => ?_, fun i a h => ?_, S.keep, S.usub, fun i a h => ?_⟩, l, .ref (by rw [← S.len]; simp)⟩
  · rcases cas h1 with ⟨x1, y1⟩ | ⟨x1, y1⟩ <;> rcases cas h2 with ⟨x2, y2⟩ | ⟨x2, y2⟩
    · exact S.inj i j a y1 y2
    · exact (nd _ _ y1 y2).elim
    · exact (nd _ _ y2 y1).elim
    · rw [x1, x2]
  · rcases cas h1 with ⟨x1, y1⟩ | ⟨x1, y1⟩
    · rw [List.getElem?_append_left (by rw [← S.len]; exact x1)] at h2
      exact (so.obj i a o y1 h2).up l fun _ => rfl
    · subst y1
      have e : o = .lst xs := by
        rw [x1, S.len] at h2
        simp at h2
        exact h2.symm
      subst e
      exact ⟨acc, hD, r.up l⟩
  · rcases cas h with ⟨_, y1⟩ | ⟨_, y1⟩
    · exact S.fr i a y1
    · rw [y1]
      exact hn
  · rcases cas h with ⟨_, y1⟩ | ⟨_, y1⟩
    · exact S.trk i a y1
    · exact ⟨_, y1 ▸ hD⟩
end

/-- how a comprehension's list ends: fixed, or ours -/
def MkOk (mk : List Vl → Gh → Res Vl) : Prop := mk = lstM ∨ mk = newM
theorem mk_len {mk : List Vl → Gh → Res Vl} (h : MkOk mk) {Y : Cy} {B : Bs} {β : List Addr} {g g' : Gh} {H : Hp} {xs : List Vl} {Q : VK} {E : XK} (f : Fin Y B (VR Y.K) β g H (mk xs g') Q E) : xs.length ≤ sizeLine := by
  rcases h with rfl | rfl
  · unfold lstM at f
    split at f
    · assumption
    · exact f.elim
  · unfold newM at f
    split at f
    · assumption
    · exact f.elim
theorem mk_end {mk : List Vl → Gh → Res Vl} (h : MkOk mk) {Y : Cy} {B : Bs} {β β1 : List Addr} {g g1 : Gh} {H H1 : Hp} {D : Addr} {acc : List L2.V} {xs : List Vl} {Q : VK} {E : XK} (f : Fin Y B (VR Y.K) β1 g1 H1 (mk xs g) Q E)
    (S : Sim Y (B.with D acc) β g H) (hn : B.H0 D = none) (hu : ∀ a, B.U a → ∃ o, B.H0 a = some o) (l : Le H1 (Lv B β1 g1) β1 H (Lv (B.with D acc) β g) β) (r : VRs Y.K H (Lv (B.with D acc) β g) β xs acc) : Q (.ref D) H := by
  obtain ⟨S2, l2, nl⟩ := S.close hn hu
  have hz := mk_len h f
  rcases h with rfl | rfl
  · unfold lstM at f
    rw [if_pos hz] at f
    exact f β H _ S2 (l.trans l2) (.lst S.priv nl (r.up l2))
  · unfold newM at f
    rw [if_pos hz] at f
    obtain ⟨S3, l3, r3⟩ := S2.adopt S.priv hn (fun i a h => S.notD h) (fun a q e => nl (e ▸ q)) r S
    exact f _ H _ S3 (l.trans l3) r3

section
variable {X : Cx} {cad : Nat → Addr} {W : WX} {e elt tg iter : Expr} {es ifs : List Expr} {me : ME} {mc : MT} {gm : MG} {gms : MGs} {mi : MI} {pos : Pos} {vs : List Nat}
theorem sgw_name {i : Nat} {x : Str} (hN : X.N.Nodup) (hi : X.N[i]? = some x) (hx : Loc X.env.scope x) (hv : i ∈ vs) (hf : X.fn x = true ∨ X.env.scope.names.lookup x = some .local := by first | exact .inl rfl | exact .inr rfl | assumption) : PG X (.Name x pos) (tGw (yX X cad) vs (gtName i) W) := by
  refine (pg_name hN hi hx hf).imp fun x σ H Q => ?_
  rintro ⟨B, β, g, ρ, v, S, V, r, h⟩
  exact h.nxt S (V.put i r) (wipe_put hv)
theorem sgsw_nil : PGs X [] (tGsw (yX X cad) vs gtNil W) := by
  refine pgs_nil.imp fun x σ H Q => ?_
  rintro ⟨B, β, g, ρ, v, S, V, r, h⟩
  cases r with
  | nil => exact ⟨rfl, h.nxt S V rfl⟩
  | cons _ _ => exact h.elim
theorem sgsw_cons (h1 : PG X e (tGw (yX X cad) vs gm W)) (h2 : PGs X es (tGsw (yX X cad) vs gms W)) (hs : (assignEach (e :: es) X.env).map (·.2) = assign e X.env :: (assignEach es X.env).map (·.2) := by rfl) : PGs X (e :: es) (tGsw (yX X cad) vs (gtCons gm gms) W) := by
  refine (pgs_cons h1 h2 hs).imp fun x σ H Q => ?_
  rintro ⟨B, β, g, ρ, v, S, V, r, h⟩
  cases r with
  | nil => exact h.elim
  | cons r rs =>
    refine ⟨_, _, rfl, B, β, g, ρ, _, S, V, r, ?_⟩
    simp only [gtCons, mSeq] at h
    rename_i v1 x1 vr xr
    cases q : gm v1 ρ g with
    | nx ρ' g' =>
      rw [q] at h
      intro β1 H1 σ1 S1 l1 V1 w1
      refine ⟨B, β1, g', ρ', _, S1, V1, rs.up l1, (FinS.later l1 h).to (fun σ H a b => a (b.trans w1)) (fun _ _ a => a) (fun _ _ a => a) (fun _ _ a => a) (fun _ _ _ _ a => a)⟩
    | bk ρ' g' => rw [q] at h; exact h
    | ct ρ' g' => rw [q] at h; exact h
    | rt v g' => rw [q] at h; exact h
    | exc e ρ' g' => rw [q] at h; exact h
    | stuck => rw [q] at h; exact h
theorem sgw_tup {k n : Nat} (hc : X.calm = true) (h : PGs X es (tGsw (yX X cad) vs gms W)) (hlen : ∀ vs ρ g, vs.length ≠ n → gms vs ρ g = .stuck) (hn : (assignEach es X.env).length = n := by rfl) (hst : (assignEach es X.env).findIdx? (·.1) = none := by rfl) :
    PG X (.Tuple es k pos) (tGw (yX X cad) vs (gtTup gms) W) := by
  refine (pg_tup hc h hn hst).imp fun x σ H Q => ?_
  rintro ⟨B, β, g, ρ, v, S, V, r, q⟩
  cases v with
  | tup xs =>
    obtain ⟨a, vs, rfl, ht, hs⟩ := r.tseq
    refine ⟨a, vs, rfl, ht, ?_, B, β, g, ρ, xs, S, V, hs, q⟩
    rw [← hs.length]
    by_cases z : xs.length = n
    · exact z
    · simp only [gtTup] at q
      rw [hlen xs ρ g z] at q
      exact q.elim
  | _ => exact q.elim
theorem sts_nil : PTs X [] (tT (yX X cad) mYes W) := by
  refine ⟨fun pins s σ H Q I q => pts_nil.run pins s σ H Q I ?_⟩
  obtain ⟨B, β, g, ρ, S, V, h⟩ := q
  exact h.here S rfl
theorem sts_one (h1 : PT X e (tT (yX X cad) mc W)) : PTs X [e] (tT (yX X cad) mc W) := pts_one h1
abbrev W0 : WX := fun _ _ _ _ => False
theorem comp_reads {wi : TI} {own : List Nat} {mk : List Vl → Gh → Res Vl} (hm : MkOk mk) (hi : ∀ σ H R, tI (yX X cad) mi W σ H R → wi σ H R) : ∀ σ H Q, tE (yX X cad) (mComp mk mi own gm mc me) W σ H Q →
    tLc wi (tGw (yX X cad) own gm W0) (tT (yX X cad) mc W0) (tE (yX X cad) me W0) own σ H Q := by
  rintro σ H Q ⟨B, β, g, ρ, S, V, h⟩
  refine hi _ _ _ ⟨B, β, g, ρ, S, V, ?_⟩
  simp only [mComp] at h
  cases e : mi ρ g with
  | stuck => rw [e] at h; exact h
  | exc x g1 => rw [e] at h; exact h
  | ok q g1 =>
    rw [e] at h
    simp only [Res.bind] at h
    intro β1 H1 J S1 l1 jl D hD
    have V1 := V.up l1
    have h1 := Fin.later l1 h
    obtain ⟨S2, l2⟩ := S1.open hD
    have V2 := (V1.up l2).wipe own
    have hn : B.H0 D = none := by
      cases z : B.H0 D with
      | none => rfl
      | some u =>
        have := S1.keep D u z
        rw [hD] at this
        cases this
    refine ⟨fun i n H => i + n = q.1.length ∧ ∃ (β : List Addr) (g : Gh) (accC : List Vl) (acc : List L2.V), Sim (yX X cad) (B.with D acc) β g H ∧ Le H1 (Lv B β1 g1) β1 H (Lv (B.with D acc) β g) β ∧
      VRs X.K H (Lv (B.with D acc) β g) β accC acc ∧ EnvR X.K H (Lv (B.with D acc) β g) β (wipeC ρ own) (L2.wipe σ own) ∧
      Fin (yX X cad) B (VR X.K) β1 g1 H1 ((compF gm mc me q.2 (wipeC ρ own) (q.1.drop i) g).bind fun ys g' => mk (accC ++ ys) g') Q (fun c d H' => W c d σ H'),
      ⟨q.1.length, Nat.zero_add _, β1, g1, [], [], S2, l2, .nil, V2, h1⟩, ?_⟩
    rintro i n H ⟨hin, β, g, accC, acc, S, l, ra, Vw, h⟩
    by_cases hlt : i < q.1.length
    · rw [List.drop_eq_getElem_cons hlt] at h
      simp only [compF] at h
      split at h
      · rename_i so
        obtain ⟨j1, j2⟩ := jl (B.with D acc) i β g H S l so
        obtain ⟨go, hy⟩ := j1 _ (List.getElem?_eq_getElem hlt)
        refine .inr ⟨go, fun H' => ∃ (β : List Addr) (g : Gh) (accC : List Vl) (acc : List L2.V), Sim (yX X cad) (B.with D acc) β g H' ∧ Le H1 (Lv B β1 g1) β1 H' (Lv (B.with D acc) β g) β ∧
          VRs X.K H' (Lv (B.with D acc) β g) β accC acc ∧ EnvR X.K H' (Lv (B.with D acc) β g) β (wipeC ρ own) (L2.wipe σ own) ∧
          Fin (yX X cad) B (VR X.K) β1 g1 H1 ((compF gm mc me q.2 (wipeC ρ own) (q.1.drop (i + 1)) g).bind fun ys g' => mk (accC ++ ys) g') Q (fun c d H' => W c d σ H'),
          fun H' w => ⟨n - 1, by omega, by omega, w⟩, ?_⟩
        intro x H2 yl
        obtain ⟨S2, l2, r2⟩ := hy x H2 yl
        refine ⟨B.with D acc, β, g, wipeC ρ own, _, S2, Vw.up l2, r2, ?_⟩
        cases e2 : gm q.1[i] (wipeC ρ own) g with
        | nx ρ' g' =>
          rw [e2] at h
          dsimp only at h
          intro β3 H3 σ3 S3 l3 V3 w3
          refine ⟨w3.trans (wipe_twice σ own), B.with D acc, β3, g', ρ', S3, V3, ?_⟩
          cases e3 : mc ρ' g' with
          | ok b g4 =>
            rw [e3] at h
            intro β4 H4 b' S4 l4 eb
            subst eb
            have l24 := l2.trans (l3.trans l4)
            cases b with
            | true =>
              dsimp only at h
              refine iteT ⟨B.with D acc, β4, g4, ρ', S4, V3.up l4, ?_⟩
              cases e5 : me ρ' g4 with
              | ok y g5 =>
                rw [e5] at h
                dsimp only at h
                intro β5 H5 y' S5 l5 r5
                have l25 := l24.trans l5
                have fin : Fin (yX X cad) B (VR X.K) β1 g1 H1 ((compF gm mc me q.2 (wipeC ρ own) (q.1.drop (i + 1)) g5).bind fun ys g' => mk ((accC ++ [y]) ++ ys) g') Q (fun c d H' => W c d σ H') := by
                  revert h
                  cases compF gm mc me q.2 (wipeC ρ own) (q.1.drop (i + 1)) g5 with
                  | ok ys g6 =>
                    intro h
                    show Fin _ _ _ _ _ _ (mk ((accC ++ [y]) ++ ys) g6) _ _
                    rw [List.append_assoc]
                    exact h
                  | exc _ _ => exact fun h => h
                  | stuck => exact fun h => h
                have hz : accC.length < sizeLine := by
                  revert fin
                  have nx := compF_noexc gm mc me q.2 (wipeC ρ own) (q.1.drop (i + 1)) g5
                  revert nx
                  cases compF gm mc me q.2 (wipeC ρ own) (q.1.drop (i + 1)) g5 with
                  | ok ys g6 =>
                    intro _ f
                    have := mk_len hm f
                    simp only [List.length_append, List.length_cons, List.length_nil] at this
                    omega
                  | exc x g6 => exact fun nx => (nx x g6 rfl).elim
                  | stuck => exact fun _ f => f.elim
                refine ⟨acc, S5.priv, by rw [← (ra.up l25).length]; exact hz, ?_⟩
                obtain ⟨S6, l6⟩ := S5.more (acc' := acc ++ [y'])
                exact ⟨β5, g5, accC ++ [y], acc ++ [y'], S6, l.trans (l25.trans l6), ((ra.up l25).up l6).append (.cons (r5.up l6) .nil), (Vw.up l25).up l6, fin⟩
              | exc _ _ => rw [e5] at h; exact h.elim
              | stuck => rw [e5] at h; exact h.elim
            | false =>
              dsimp only at h
              exact iteF ⟨β4, g4, accC, acc, S4, l.trans l24, ra.up l24, Vw.up l24, h⟩
          | exc _ _ => rw [e3] at h; exact h.elim
          | stuck => rw [e3] at h; exact h.elim
        | _ => rw [e2] at h; exact h.elim
      · exact h.elim
    · have hi : i = q.1.length := by omega
      rw [hi, List.drop_length] at h
      simp only [compF] at h
      split at h
      · rename_i so
        obtain ⟨j1, j2⟩ := jl (B.with D acc) i β g H S l so
        simp only [Res.bind, List.append_nil] at h
        exact .inl ⟨j2 hi, mk_end hm h S hn S1.usub l ra⟩
      · exact h.elim
end
end CS

set_option Elab.async false
set_option linter.all false
set_option maxRecDepth 100000
namespace CS
open PySem L2

theorem se_comp {X : Cx} {cad : Nat → Addr} {W : WX} {elt tg iter : Expr} {ifs : List Expr} {me : ME} {mc : MT} {gm : MG} {mi : MI} {pos : Pos} {scope : Scope} {own : List (Str × Nat)} {mk : List Vl → Gh → Res Vl} (hm : MkOk mk) (hc : X.calm = true) (hN : X.N.Nodup) (hi : PI X tg iter (tI (yX X cad) mi W))
    (ok : BlkOk X.N X.env.scope scope own) (hg : ∀ (s : Shared) (H : Hp) (C : Addr) (cl : List (Str × Addr)) (fp : List Addr), PG (X.blk s H scope (compEnvC scope cl C X.env) fp) tg (tGw (yX X cad) (own.map (·.2)) gm W0))
    (ht : ∀ (s : Shared) (H : Hp) (C : Addr) (cl : List (Str × Addr)) (fp : List Addr), PTs (X.blk s H scope (compEnvC scope cl C X.env) fp) ifs (tT (yX X cad) mc W0))
    (he : ∀ (s : Shared) (H : Hp) (C : Addr) (cl : List (Str × Addr)) (fp : List Addr), PE (X.blk s H scope (compEnvC scope cl C X.env) fp) elt (tE (yX X cad) me W0)) (hs : ∀ x, foldedSetIterable iter X.env x = pure x := by intro _; rfl) :
    PE X (.ListComp elt [⟨tg, iter, ifs, 0⟩] scope pos) (tE (yX X cad) (mComp mk mi (own.map (·.2)) gm mc me) W) := (pe_lc hc hN hi ok hg ht he hs).imp (comp_reads hm fun _ _ _ h => h)
theorem ss_setComp {X : Cx} {cad : Nat → Addr} {W : WX} {elt tg iter : Expr} {ifs : List Expr} {me : ME} {mc : MT} {gm : MG} {mi : MI} {pos py spos : Pos} {scope : Scope} {own : List (Str × Nat)} {mk : List Vl → Gh → Res Vl} {y : Str} {i : Nat} (hm : MkOk mk) (hc : X.calm = true) (hN : X.N.Nodup) (hy : X.N[i]? = some y) (hyl : X.env.scope.names.lookup y = some .local)
    (hsw : swapsWith (.ListComp elt [⟨tg, iter, ifs, 0⟩] scope pos) (some (.Name y py)) spos.line X.env = pure true) (hi : PI X tg iter (tI (yX X cad) mi W))
    (ok : BlkOk X.N X.env.scope scope own) (hg : ∀ (s : Shared) (H : Hp) (C : Addr) (cl : List (Str × Addr)) (fp : List Addr), PG (X.blk s H scope (compEnvC scope cl C X.env) fp) tg (tGw (yX X cad) (own.map (·.2)) gm W0))
    (ht : ∀ (s : Shared) (H : Hp) (C : Addr) (cl : List (Str × Addr)) (fp : List Addr), PTs (X.blk s H scope (compEnvC scope cl C X.env) fp) ifs (tT (yX X cad) mc W0))
    (he : ∀ (s : Shared) (H : Hp) (C : Addr) (cl : List (Str × Addr)) (fp : List Addr), PE (X.blk s H scope (compEnvC scope cl C X.env) fp) elt (tE (yX X cad) me W0)) (hs : ∀ x, foldedSetIterable iter X.env x = pure x := by intro _; rfl) :
    PS X (.Assign [.Name y py] (.ListComp elt [⟨tg, iter, ifs, 0⟩] scope pos) spos) (tS (yX X cad) (mPut i (mComp mk mi (own.map (·.2)) gm mc me)) W) := by
  refine (ps_setLc (i := i) hc hN hy hyl hsw hi ok hg ht he hs).imp fun D σ H => ?_
  rintro ⟨B, β, g, ρ, S, V, h⟩
  have q : tE (yX X cad) (mComp mk mi (own.map (·.2)) gm mc me) W σ H fun x H1 => D.nx (σ.set i (some x)) H1 :=
    tE_lift S V h fun β1 g1 H1 v x S1 l1 V1 r1 h1 => h1.nxt S1 (V1.put i r1)
  exact comp_reads hm (fun _ _ _ h => h) _ _ _ q

/-! ### operators by values -/
/-- a list that stands by itself -/
def asT (g : Gh) : Vl → Option (List Vl)
  | .lst xs => some xs
  | .ref n => match g[n]? with | some (.lst xs) => some xs | _ => none
  | _ => none
/-- a fixed list, or one of ours -/
def mkL (fz : Bool) (xs : List Vl) (g : Gh) : Res Vl := if fz then lstM xs g else newM xs g
section
variable {Y : Cy} {B : Bs} {β : List Addr} {g : Gh} {H : Hp}
theorem asT_at {v : Vl} {x : V} {xs : List Vl} (S : Sim Y B β g H) (e : asT g v = some xs) (r : VR Y.K H (Lv B β g) β v x) : ∃ a vs, x = .ref a ∧ H a = some (.lst vs) ∧ VRs Y.K H (Lv B β g) β xs vs := by
  cases v with
  | lst ys =>
    cases e
    exact r.seq
  | ref n =>
    simp only [asT] at e
    split at e
    · rename_i ys eg
      cases e
      cases r with
      | ref ha =>
        obtain ⟨vs, h, hs⟩ := S.obj n _ _ ha eg
        exact ⟨_, vs, rfl, h, hs⟩
    · cases e
  | _ => cases e
theorem asL_now {v : Vl} {x : V} {p : List Vl × Option (Nat × List Vl)} (S : Sim Y B β g H) (e : asL g v = some p) (r : VR Y.K H (Lv B β g) β v x) : ∃ a vs, x = .ref a ∧ SqL Y.K H a vs ∧ VRs Y.K H (Lv B β g) β p.1 vs := by
  obtain ⟨a, rfl, h⟩ := asL_at e r
  obtain ⟨vs, h1, h2⟩ := h B β g H S Le.refl (asL_src e)
  exact ⟨a, vs, rfl, h1, h2⟩
/-- a new list -/
theorem mkL_new {fz : Bool} {xs : List Vl} {vs : List V} {Q : VK} {E : XK} (S : Sim Y B β g H) (r : VRs Y.K H (Lv B β g) β xs vs) (h : Fin Y B (VR Y.K) β g H (mkL fz xs g) Q E) : vs.length ≤ sizeLine ∧ ∀ p, H p = none → Q (.ref p) (upd H p (.lst vs)) := by
  have hl := r.length
  cases fz with
  | true =>
    simp only [mkL, if_true, lstM] at h
    split at h
    · rename_i hz
      refine ⟨by omega, fun p hp => ?_⟩
      obtain ⟨S2, l2⟩ := S.new (o := .lst vs) hp
      exact h β _ _ S2 l2 (.lst upd_same (S.notLive hp) (r.up l2))
    · exact h.elim
  | false =>
    simp only [mkL, newM] at h
    rw [if_neg (by decide)] at h
    split at h
    · rename_i hz
      refine ⟨by omega, fun p hp => ?_⟩
      obtain ⟨S2, l2, r2⟩ := new_ours (Y := Y) S hp r
      exact h _ _ _ S2 l2 r2
    · exact h.elim
theorem tup_new {xs : List Vl} {vs : List V} {Q : VK} {E : XK} (S : Sim Y B β g H) (r : VRs Y.K H (Lv B β g) β xs vs) (h : Fin Y B (VR Y.K) β g H (.ok (.tup xs) g) Q E) : ∀ p, H p = none → Q (.ref p) (upd H p (.tup vs)) := fun p hp => by
  obtain ⟨S2, l2⟩ := S.new (o := .tup vs) hp
  exact h β _ _ S2 l2 (.tup (.inl (.inl upd_same)) (r.up l2))
end

def oAdd (fz : Bool) (v w : Vl) (g : Gh) : Res Vl := match v, w with
  | .int i, .int j => .ok (.int (i + j)) g
  | .str s, .str t => if s.length + t.length ≤ sizeLine then .ok (.str (s ++ t)) g else .stuck
  | .tup xs, .tup ys => if xs.length + ys.length ≤ sizeLine then .ok (.tup (xs ++ ys)) g else .stuck
  | v, w => match asT g v, asT g w with
    | some xs, some ys => mkL fz (xs ++ ys) g
    | _, _ => .stuck
def rAddA (K : PySem.W.Frag) : R2 := fun x y H Q => (((rI0 fun i j => .int (i + j)) x y H Q ∨ (∃ i j, x = .str i ∧ y = .str j ∧ i.length + j.length ≤ sizeLine ∧ Q (.str (i ++ j)) H)) ∨ rCatA K x y H Q) ∨ rCat x y H Q
theorem op_addA {X : Cx} : OpR X (binaryOp .Add) (rAddA X.K) := ((op_add.or op_add_str).or op_catA).or op_cat
theorem os_add {X : Cx} {cad : Nat → Addr} (fz : Bool) : OpS (yX X cad) (rAddA X.K) (oAdd fz) := by
  intro B β g H v w x y Q E S rv rw' h
  have lists : ∀ xs ys, asT g v = some xs → asT g w = some ys → Fin (yX X cad) B (VR (yX X cad).K) β g H (mkL fz (xs ++ ys) g) Q E → rAddA X.K x y H Q := fun xs ys e1 e2 hf => by
    obtain ⟨a, vs, rfl, h1, r1⟩ := asT_at S e1 rv
    obtain ⟨b, ws, rfl, h2, r2⟩ := asT_at S e2 rw'
    obtain ⟨hz, hq⟩ := mkL_new S (r1.append r2) hf
    exact .inr ⟨a, b, vs, ws, rfl, rfl, h1, h2, by simpa using hz, hq⟩
  have rest : (match asT g v, asT g w with | some xs, some ys => Fin (yX X cad) B (VR (yX X cad).K) β g H (mkL fz (xs ++ ys) g) Q E | _, _ => False) → rAddA X.K x y H Q := fun hf => by
    cases e1 : asT g v with
    | none => rw [e1] at hf; exact hf.elim
    | some xs =>
      cases e2 : asT g w with
      | none => rw [e1, e2] at hf; exact hf.elim
      | some ys => rw [e1, e2] at hf; exact lists xs ys e1 e2 hf
  have rest' : Fin (yX X cad) B (VR (yX X cad).K) β g H (match asT g v, asT g w with | some xs, some ys => mkL fz (xs ++ ys) g | _, _ => .stuck) Q E → rAddA X.K x y H Q := fun hf => by
    refine rest ?_
    cases e1 : asT g v <;> cases e2 : asT g w <;> rw [e1, e2] at hf <;> exact hf
  unfold oAdd at h
  split at h
  · cases rv
    cases rw'
    exact .inl (.inl (.inl ⟨_, _, rfl, rfl, h.here S (.int _)⟩))
  · split at h
    · rename_i hz
      cases rv
      cases rw'
      exact .inl (.inl (.inr ⟨_, _, rfl, rfl, hz, h.here S (.str _)⟩))
    · exact h.elim
  · split at h
    · rename_i xs ys hz
      obtain ⟨a, vs, rfl, h1, r1⟩ := rv.tseq
      obtain ⟨b, ws, rfl, h2, r2⟩ := rw'.tseq
      have l1 := r1.length
      have l2 := r2.length
      refine .inl (.inr ⟨a, b, vs, ws, rfl, rfl, h1, h2, by omega, fun e => ?_, fun _ e => ?_, fun _ _ => tup_new S (r1.append r2) h⟩)
      · subst e
        cases r1
        exact h.here S (.tup h2 r2)
      · subst e
        cases r2
        rw [List.append_nil] at h
        exact h.here S (.tup h1 r1)
    · exact h.elim
  · exact rest' h

def oI (f : Int → Int → Vl) (v w : Vl) (g : Gh) : Res Vl := match v, w with
  | .int i, .int j => .ok (f i j) g
  | _, _ => .stuck
theorem os_I0 {Y : Cy} {f : Int → Int → Vl} {f' : Int → Int → V} (hf : ∀ K H L β i j, VR K H L β (f i j) (f' i j)) : OpS Y (rI0 f') (oI f) := by
  intro B β g H v w x y Q E S rv rw' h
  unfold oI at h
  split at h
  · cases rv
    cases rw'
    exact ⟨_, _, rfl, rfl, h.here S (hf _ _ _ _ _ _)⟩
  · exact h.elim
open Classical in
noncomputable def oIC (C : Int → Int → Prop) (f : Int → Int → Vl) (v w : Vl) (g : Gh) : Res Vl := match v, w with
  | .int i, .int j => if C i j then .ok (f i j) g else .stuck
  | _, _ => .stuck
theorem os_I {Y : Cy} {C C' : Int → Int → Prop} {f : Int → Int → Vl} {f' : Int → Int → V} (hC : ∀ i j, C i j → C' i j) (hf : ∀ K H L β i j, C i j → VR K H L β (f i j) (f' i j)) : OpS Y (rI C' f') (oIC C f) := by
  intro B β g H v w x y Q E S rv rw' h
  unfold oIC at h
  split at h
  · split at h
    · rename_i c
      cases rv
      cases rw'
      exact ⟨_, _, rfl, rfl, hC _ _ c, h.here S (hf _ _ _ _ _ _ c)⟩
    · exact h.elim
  · exact h.elim
def oSub := oI fun i j => .int (i - j)
noncomputable def oDiv := oIC (fun _ j => 0 < j ∧ j < 1073741824) fun i j => .int (i / j)
noncomputable def oMod := oIC (fun _ j => 0 < j) fun i j => .int (i % j)
noncomputable def oPow := oIC CPow fun i j => .int (i ^ j.toNat)
noncomputable def oShl := oIC CPow fun i j => .int (i * 2 ^ j.toNat)
def oAnd := oI fun i j => .int (Builtin.bitAnd i j)
def oOr := oI fun i j => .int (Builtin.bitOr i j)
theorem os_sub {Y : Cy} : OpS Y (rI0 fun i j => .int (i - j)) oSub := os_I0 fun _ _ _ _ _ _ => .int _
theorem os_div {Y : Cy} : OpS Y (rI CDiv fun i j => .int (i / j)) oDiv := os_I (fun i j h => h) fun _ _ _ _ _ _ _ => .int _
theorem os_mod {Y : Cy} : OpS Y (rI (fun _ j => 0 < j) fun i j => .int (i % j)) oMod := os_I (fun _ _ h => h) fun _ _ _ _ _ _ _ => .int _
theorem os_pow {Y : Cy} : OpS Y (rI CPow fun i j => .int (i ^ j.toNat)) oPow := os_I (fun _ _ h => h) fun _ _ _ _ _ _ _ => .int _
theorem os_shl {Y : Cy} : OpS Y (rI CPow fun i j => .int (i * 2 ^ j.toNat)) oShl := os_I (fun _ _ h => h) fun _ _ _ _ _ _ _ => .int _
theorem os_and {Y : Cy} : OpS Y (rI0 fun i j => .int (Builtin.bitAnd i j)) oAnd := os_I0 fun _ _ _ _ _ _ => .int _
theorem os_or {Y : Cy} : OpS Y (rI0 fun i j => .int (Builtin.bitOr i j)) oOr := os_I0 fun _ _ _ _ _ _ => .int _
open Classical in
noncomputable def oMul (fz : Bool) (v w : Vl) (g : Gh) : Res Vl := match v, w with
  | .int i, .int j => if CMul i j then .ok (.int (i * j)) g else .stuck
  | v, .int k => match asT g v with
    | some xs => if -(2 ^ 63) ≤ k ∧ k < 2 ^ 63 ∧ xs.length * k.toNat ≤ sizeLine then mkL fz (List.replicate k.toNat xs).flatten g else .stuck
    | none => .stuck
  | _, _ => .stuck
def rMulA : R2 := fun x y H Q => (rI CMul fun i j => .int (i * j)) x y H Q ∨ rRep x y H Q
theorem op_mulA {X : Cx} : OpR X (binaryOp .Mult) rMulA := op_mul.or op_rep
theorem VRs.rep {K : PySem.W.Frag} {H : Hp} {L : Addr → Prop} {β : List Addr} {xs : List Vl} {vs : List V} (r : VRs K H L β xs vs) : ∀ n : Nat, VRs K H L β (List.replicate n xs).flatten (List.replicate n vs).flatten
  | 0 => .nil
  | n + 1 => by
    rw [List.replicate_succ, List.replicate_succ, List.flatten_cons, List.flatten_cons]
    exact r.append (VRs.rep r n)
theorem os_mul {Y : Cy} (fz : Bool) : OpS Y rMulA (oMul fz) := by
  intro B β g H v w x y Q E S rv rw' h
  have lists : ∀ k : Int, w = .int k → Fin Y B (VR Y.K) β g H (match asT g v with
    | some xs => if -(2 ^ 63) ≤ k ∧ k < 2 ^ 63 ∧ xs.length * k.toNat ≤ sizeLine then mkL fz (List.replicate k.toNat xs).flatten g else .stuck
    | none => .stuck) Q E → rMulA x y H Q := fun k ew hf => by
    subst ew
    cases rw'
    cases e1 : asT g v with
    | none => rw [e1] at hf; exact hf.elim
    | some xs =>
      rw [e1] at hf
      dsimp only at hf
      split at hf
      · rename_i hz
        obtain ⟨a, vs, rfl, h1, r1⟩ := asT_at S e1 rv
        exact .inr ⟨a, k, vs, rfl, rfl, h1, hz.1, hz.2.1, by rw [← r1.length]; exact hz.2.2, (mkL_new S (r1.rep _) hf).2⟩
      · exact hf.elim
  unfold oMul at h
  split at h
  · split at h
    · rename_i c
      cases rv
      cases rw'
      exact .inl ⟨_, _, rfl, rfl, c, h.here S (.int _)⟩
    · exact h.elim
  · exact lists _ rfl h
  · exact h.elim

/-! ### comparisons -/
def cLt := oI fun i j => .bl (decide (i < j))
def cLe := oI fun i j => .bl (decide (i ≤ j))
def cGt := oI fun i j => .bl (decide (j < i))
def cGe := oI fun i j => .bl (decide (j ≤ i))
theorem os_lt {Y : Cy} : OpS Y (rI0 fun i j => .bl (decide (i < j))) cLt := os_I0 fun _ _ _ _ _ _ => .bl _
theorem os_le {Y : Cy} : OpS Y (rI0 fun i j => .bl (decide (i ≤ j))) cLe := os_I0 fun _ _ _ _ _ _ => .bl _
theorem os_gt {Y : Cy} : OpS Y (rI0 fun i j => .bl (decide (j < i))) cGt := os_I0 fun _ _ _ _ _ _ => .bl _
theorem os_ge {Y : Cy} : OpS Y (rI0 fun i j => .bl (decide (j ≤ i))) cGe := os_I0 fun _ _ _ _ _ _ => .bl _
def isNon : Vl → Bool
  | .non => true
  | _ => false
def cIsN (v w : Vl) (g : Gh) : Res Vl := match w with | .non => .ok (.bl (isNon v)) g | _ => .stuck
def cNotN (v w : Vl) (g : Gh) : Res Vl := match w with | .non => .ok (.bl (!isNon v)) g | _ => .stuck
theorem isNon_rel {K : PySem.W.Frag} {H : Hp} {L : Addr → Prop} {β : List Addr} {v : Vl} {x : V} (r : VR K H L β v x) : decide (x = .non) = isNon v := by
  cases r <;> simp [isNon]
theorem os_isN {Y : Cy} : OpS Y (fun x y H Q => y = .non ∧ Q (.bl (decide (x = .non))) H) cIsN := by
  intro B β g H v w x y Q E S rv rw' h
  unfold cIsN at h
  split at h
  · cases rw'
    refine ⟨rfl, ?_⟩
    rw [isNon_rel rv]
    exact h.here S (.bl _)
  · exact h.elim
theorem os_notN {Y : Cy} : OpS Y (fun x y H Q => y = .non ∧ Q (.bl (!decide (x = .non))) H) cNotN := by
  intro B β g H v w x y Q E S rv rw' h
  unfold cNotN at h
  split at h
  · cases rw'
    refine ⟨rfl, ?_⟩
    rw [isNon_rel rv]
    exact h.here S (.bl _)
  · exact h.elim
mutual
def snap : Nat → Gh → Vl → Option PyData
  | _, _, .non => some .none
  | _, _, .bl b => some (.bool b)
  | _, _, .int i => some (.int i)
  | _, _, .str s => some (.str s)
  | n + 1, g, .tup xs => (snaps n g xs).map .tuple
  | n + 1, g, .lst xs => (snaps n g xs).map .list
  | n + 1, g, .rol xs => (snaps n g xs).map .list
  | n + 1, g, .ref k => match g[k]? with
    | some (.lst xs) => (snaps n g xs).map .list
    | _ => none
  | 0, _, _ => none
def snaps : Nat → Gh → List Vl → Option (List PyData)
  | _, _, [] => some []
  | n, g, x :: xs => match snap n g x, snaps n g xs with
    | some d, some ds => some (d :: ds)
    | _, _ => none
end
theorem snap_at {Y : Cy} {B : Bs} {β : List Addr} {g : Gh} {H : Hp} (S : Sim Y B β g H) : ∀ (n : Nat), (∀ (v : Vl) (x : V) (d : PyData), VR Y.K H (Lv B β g) β v x → snap n g v = some d → Dp Y.K H x d) ∧ (∀ (vs : List Vl) (xs : List V) (ds : List PyData), VRs Y.K H (Lv B β g) β vs xs → snaps n g vs = some ds → DpAll Y.K H xs ds) := by
  intro n
  induction n with
  | zero =>
    have one : ∀ (v : Vl) (x : V) (d : PyData), VR Y.K H (Lv B β g) β v x → snap 0 g v = some d → Dp Y.K H x d := fun v x d r e => by
      cases v <;> simp only [snap] at e <;> first | (cases e; done) | (cases e; cases r; first | exact .non | exact .bl _ | exact .int _ | exact .str _)
    refine ⟨one, fun vs => ?_⟩
    induction vs with
    | nil => intro xs ds r e; cases r; simp only [snaps] at e; cases e; exact .nil
    | cons v vs ih =>
      intro xs ds r e
      cases r with
      | cons r rs =>
        simp only [snaps] at e
        split at e
        · rename_i d ds' e1 e2
          cases e
          exact .cons (one _ _ _ r e1) (ih _ _ rs e2)
        · cases e
  | succ n ih =>
    obtain ⟨_, ihs⟩ := ih
    have one : ∀ (v : Vl) (x : V) (d : PyData), VR Y.K H (Lv B β g) β v x → snap (n + 1) g v = some d → Dp Y.K H x d := fun v x d r e => by
      cases v with
      | tup xs =>
        simp only [snap, Option.map_eq_some_iff] at e
        obtain ⟨ds, e, rfl⟩ := e
        obtain ⟨a, vs, rfl, h, hs⟩ := r.tseq
        exact .tup h (ihs _ _ _ hs e)
      | lst xs =>
        simp only [snap, Option.map_eq_some_iff] at e
        obtain ⟨ds, e, rfl⟩ := e
        obtain ⟨a, vs, rfl, h, hs⟩ := r.seq
        exact .lst (.inl (.inl h)) (ihs _ _ _ hs e)
      | rol xs =>
        simp only [snap, Option.map_eq_some_iff] at e
        obtain ⟨ds, e, rfl⟩ := e
        obtain ⟨a, vs, rfl, h, hs⟩ := r.rseq
        exact .lst h (ihs _ _ _ hs e)
      | ref k =>
        simp only [snap] at e
        split at e
        · rename_i xs eg
          simp only [Option.map_eq_some_iff] at e
          obtain ⟨ds, e, rfl⟩ := e
          cases r with
          | ref ha =>
            obtain ⟨vs, h, hs⟩ := S.obj k _ _ ha eg
            exact .lst (.inl (.inl h)) (ihs _ _ _ hs e)
        · cases e
      | _ => simp only [snap] at e; cases e; cases r; first | exact .non | exact .bl _ | exact .int _ | exact .str _
    refine ⟨one, fun vs => ?_⟩
    induction vs with
    | nil => intro xs ds r e; cases r; simp only [snaps] at e; cases e; exact .nil
    | cons v vs ih =>
      intro xs ds r e
      cases r with
      | cons r rs =>
        simp only [snaps] at e
        split at e
        · rename_i d ds' e1 e2
          cases e
          exact .cons (one _ _ _ r e1) (ih _ _ rs e2)
        · cases e
def scEq : Vl → Vl → Option Bool
  | .int i, .int j => some (decide (i = j))
  | .str s, .str t => some (decide (s = t))
  | .bl a, .bl b => some (decide (a = b))
  | .non, .non => some true
  | .non, .int _ => some false
  | .int _, .non => some false
  | .non, .str _ => some false
  | .str _, .non => some false
  | .int _, .str _ => some false
  | .str _, .int _ => some false
  | _, _ => none
def cEqB (neg : Bool) (v w : Vl) (g : Gh) : Res Vl := match scEq v w with
  | some b => .ok (.bl (if neg then !b else b)) g
  | none => match snap 64 g v, snap 64 g w with
    | some d, some e => if SeqAt.shaped d = true ∧ SeqAt.shaped e = true then .ok (.bl (if neg then !PyData.eqv d e else PyData.eqv d e)) g else .stuck
    | _, _ => .stuck
def cEq := cEqB false
def cNe := cEqB true
def rEqA (K : PySem.W.Frag) : R2 := fun x y H Q => rEq x y H Q ∨ rEqD K x y H Q
def rNeA (K : PySem.W.Frag) : R2 := fun x y H Q => rNe x y H Q ∨ rNeD K x y H Q
theorem op_eqA {X : Cx} (hu : X.A.units + 64 < cLine) : OpR X (compareOp .Eq) (rEqA X.K) := op_eq.or (op_eqD hu)
theorem op_neA {X : Cx} (hu : X.A.units + 64 < cLine) : OpR X (compareOp .NotEq) (rNeA X.K) := op_ne.or (op_neD hu)
theorem scEq_rel {K : PySem.W.Frag} {H : Hp} {L : Addr → Prop} {β : List Addr} {v w : Vl} {x y : V} {b : Bool} (e : scEq v w = some b) (rv : VR K H L β v x) (rw' : VR K H L β w y) : scal x y = true ∧ decide (x = y) = b := by
  unfold scEq at e
  split at e <;> first | (cases e; done) | (cases rv; cases rw'; cases e; refine ⟨rfl, ?_⟩; first | rfl | simp)
theorem os_eq {Y : Cy} : OpS Y (rEqA Y.K) cEq := by
  intro B β g H v w x y Q E S rv rw' h
  simp only [cEq, cEqB] at h
  split at h
  · rename_i b e
    obtain ⟨h1, h2⟩ := scEq_rel e rv rw'
    refine .inl ⟨h1, ?_⟩
    rw [h2]
    exact h.here S (.bl _)
  · split at h
    · rename_i d e e1 e2
      split at h
      · rename_i hs
        exact .inr ⟨d, e, (snap_at S 64).1 _ _ _ rv e1, (snap_at S 64).1 _ _ _ rw' e2, hs.1, hs.2, h.here S (.bl _)⟩
      · exact h.elim
    · exact h.elim
theorem os_ne {Y : Cy} : OpS Y (rNeA Y.K) cNe := by
  intro B β g H v w x y Q E S rv rw' h
  simp only [cNe, cEqB] at h
  split at h
  · rename_i b e
    obtain ⟨h1, h2⟩ := scEq_rel e rv rw'
    refine .inl ⟨h1, ?_⟩
    rw [h2]
    exact h.here S (.bl _)
  · split at h
    · rename_i d e e1 e2
      split at h
      · rename_i hs
        exact .inr ⟨d, e, (snap_at S 64).1 _ _ _ rv e1, (snap_at S 64).1 _ _ _ rw' e2, hs.1, hs.2, h.here S (.bl _)⟩
      · exact h.elim
    · exact h.elim
/-- in, not in: a flat value among flat values -/
def flatC : Vl → Bool
  | .non => true
  | .bl _ => true
  | .int _ => true
  | .str _ => true
  | _ => false
def eqC : Vl → Vl → Bool
  | .non, .non => true
  | .bl a, .bl b => a == b
  | .bl a, .int b => (if a then 1 else 0) == b
  | .int a, .bl b => a == (if b then 1 else 0)
  | .int a, .int b => a == b
  | .str a, .str b => a == b
  | _, _ => false
def inC (x : Vl) (xs : List Vl) : Bool := xs.any fun y => eqC y x
def asS (g : Gh) (v : Vl) : Option (List Vl) := match v with
  | .tup xs => some xs
  | v => (asL g v).map (·.1)
def cInB (neg : Bool) (v w : Vl) (g : Gh) : Res Vl := match asS g w with
  | some xs => if flatC v = true ∧ xs.all flatC = true then .ok (.bl (if neg then !inC v xs else inC v xs)) g else .stuck
  | none => .stuck
def cIn := cInB false
def cNotIn := cInB true
section
variable {K : PySem.W.Frag} {H : Hp} {L : Addr → Prop} {β : List Addr}
theorem flat_rel {v : Vl} {x : V} (r : VR K H L β v x) : flatV x = flatC v := by cases r <;> rfl
theorem flats_rel : ∀ {vs : List Vl} {xs : List V}, VRs K H L β vs xs → xs.all flatV = vs.all flatC
  | _, _, .nil => rfl
  | _, _, .cons r rs => by simp [flat_rel r, flats_rel rs]
theorem eqC_rel {v w : Vl} {x y : V} (r : VR K H L β v x) (r' : VR K H L β w y) : eqV x y = eqC v w := by cases r <;> cases r' <;> rfl
theorem inC_rel {w : Vl} {y : V} (r : VR K H L β w y) : ∀ {vs : List Vl} {xs : List V}, VRs K H L β vs xs → inV y xs = inC w vs
  | _, _, .nil => rfl
  | _, _, .cons q qs => by
    have ih := inC_rel r qs
    simp only [inV, inC] at ih ⊢
    simp only [List.any_cons, eqC_rel q r, ih]
end
theorem asS_at {Y : Cy} {B : Bs} {β : List Addr} {g : Gh} {H : Hp} {v : Vl} {x : V} {xs : List Vl} (S : Sim Y B β g H) (e : asS g v = some xs) (r : VR Y.K H (Lv B β g) β v x) : ∃ a vs, x = .ref a ∧ (SqL Y.K H a vs ∨ SqT Y.K H a vs) ∧ VRs Y.K H (Lv B β g) β xs vs := by
  unfold asS at e
  split at e
  · cases e
    obtain ⟨a, vs, rfl, h, hs⟩ := r.tseq
    exact ⟨a, vs, rfl, .inr h, hs⟩
  · simp only [Option.map_eq_some_iff] at e
    obtain ⟨p, e, rfl⟩ := e
    obtain ⟨a, vs, rfl, h, hs⟩ := asL_now S e r
    exact ⟨a, vs, rfl, .inl h, hs⟩
theorem os_in {Y : Cy} (neg : Bool) : OpS Y (rIn Y.K neg) (cInB neg) := by
  intro B β g H v w x y Q E S rv rw' h
  unfold cInB at h
  split at h
  · rename_i xs e
    split at h
    · rename_i hf
      obtain ⟨a, vs, rfl, hq, hs⟩ := asS_at S e rw'
      refine ⟨a, vs, rfl, hq, (flat_rel rv).trans hf.1, (flats_rel hs).trans hf.2, ?_⟩
      rw [inC_rel rv hs]
      exact h.here S (.bl _)
    · exact h.elim
  · exact h.elim
end CS

set_option Elab.async false
set_option linter.all false
set_option maxRecDepth 100000
namespace CS
open PySem L2

/-! ### items, slices -/
def ixM (v w : Vl) (g : Gh) : Res Vl := match w with
  | .int i => match asS g v with
    | some xs => match atI xs i with
      | some y => .ok y g
      | none => .stuck
    | none => match v with
      | .str z => if z.length ≤ sizeLine then (match atI z.cps.toList i with | some c => .ok (.str ⟨#[c]⟩) g | none => .stuck) else .stuck
      | _ => .stuck
  | _ => .stuck
theorem VRs.atI {K : PySem.W.Frag} {H : Hp} {L : Addr → Prop} {β : List Addr} {xs : List Vl} {vs : List V} {i : Int} {y : Vl} (r : VRs K H L β xs vs) (e : atI xs i = some y) : ∃ v, L2.atI vs i = some v ∧ VR K H L β y v := by
  unfold L2.atI at e ⊢
  rw [← r.length]
  cases h : ixN xs.length i with
  | none => rw [h] at e; cases e
  | some j =>
    rw [h] at e
    exact r.get e
theorem os_ix {Y : Cy} : OpS Y (rIx Y.K) ixM := by
  intro B β g H v w x y Q E S rv rw' h
  unfold ixM at h
  split at h
  · cases rw'
    split at h
    · rename_i xs e
      split at h
      · rename_i y e2
        obtain ⟨a, vs, rfl, hq, hs⟩ := asS_at S e rv
        obtain ⟨u, eu, ru⟩ := hs.atI e2
        rcases hq with hq | hq
        · exact .inl ⟨a, vs, _, u, rfl, rfl, hq, eu, h.here S ru⟩
        · exact .inr (.inl ⟨a, vs, _, u, rfl, rfl, hq, eu, h.here S ru⟩)
      · exact h.elim
    · split at h
      · split at h
        · rename_i hz
          split at h
          · rename_i c ec
            cases rv
            exact .inr (.inr ⟨_, _, c, rfl, rfl, hz, ec, h.here S (.str _)⟩)
          · exact h.elim
        · exact h.elim
      · exact h.elim
  · exact h.elim
def cutC {α : Type} (xs : List α) (lo hi : Option Int) : List α :=
  let a := HT.sIx xs.length 0 lo
  (xs.drop a).take (HT.sIx xs.length xs.length hi - a)
theorem VRs.cut {K : PySem.W.Frag} {H : Hp} {L : Addr → Prop} {β : List Addr} {xs : List Vl} {vs : List V} (r : VRs K H L β xs vs) (lo hi : Option Int) : VRs K H L β (cutC xs lo hi) (cutV vs lo hi) := by
  unfold cutC cutV
  rw [← r.length]
  exact (r.drop _).take _
def slM (fz : Bool) (v : Vl) (lo hi : Option Int) (g : Gh) : Res Vl := match asL g v with
  | some p => mkL fz (cutC p.1 lo hi) g
  | none => match v with
    | .tup xs => .ok (.tup (cutC xs lo hi)) g
    | .str z => if z.length ≤ sizeLine then .ok (.str (cutS z lo hi)) g else .stuck
    | _ => .stuck
def rSlAll (K : PySem.W.Frag) : V → Option Int → Option Int → Hp → VK → Prop := fun x lo hi H Q => (rSlL K x lo hi H Q ∨ rSlA K x lo hi H Q) ∨ rSlS x lo hi H Q
theorem sl_all {X : Cx} : SlR X (rSlAll X.K) := (sl_list.or sl_tupA).or sl_str
theorem sIx_le {n d : Nat} {o : Option Int} : True := trivial
theorem cut_whole {α : Type} {xs : List α} {lo hi : Option Int} (h : HT.sIx xs.length 0 lo = 0 ∧ HT.sIx xs.length xs.length hi = xs.length) : cutC xs lo hi = xs := by
  simp only [cutC, h.1, h.2]
  simp
theorem os_sl {Y : Cy} (fz : Bool) : SlS Y (rSlAll Y.K) (slM fz) := by
  intro B β g H v x lo hi Q E S rv h
  unfold slM at h
  split at h
  · rename_i p e
    obtain ⟨a, vs, rfl, hq, hs⟩ := asL_now S e rv
    exact .inl (.inl ⟨a, vs, rfl, hq, (mkL_new S (hs.cut lo hi) h).2⟩)
  · split at h
    · rename_i xs
      obtain ⟨a, vs, rfl, hq, hs⟩ := rv.tseq
      refine .inl (.inr ⟨a, vs, rfl, hq, fun c => ?_, fun _ => tup_new S (hs.cut lo hi) h⟩)
      rw [← hs.length] at c
      rw [cut_whole c] at h
      exact h.here S (.tup hq hs)
    · split at h
      · rename_i hz
        cases rv
        exact .inr ⟨_, rfl, hz, h.here S (.str _)⟩
      · exact h.elim
    · exact h.elim

/-! ### builtins by values -/
def bLen (vs : List Vl) (g : Gh) : Res Vl := match vs with
  | [v] => match asS g v with
    | some xs => .ok (.int xs.length) g
    | none => match v with
      | .str z => if z.length ≤ sizeLine then .ok (.int z.length) g else .stuck
      | _ => .stuck
  | _ => .stuck
theorem bs_len {X : Cx} {cad : Nat → Addr} : CallS (yX X cad) (fun xs H Q => ∃ x n, xs = [x] ∧ LenV X.K x H n ∧ Q (.int n) H) bLen := by
  intro B β g H vs xs Q E S r h
  unfold bLen at h
  split at h
  · cases r with
    | cons r rs =>
      cases rs
      split at h
      · rename_i ys e
        obtain ⟨a, ws, rfl, hq, hs⟩ := asS_at S e r
        refine ⟨_, ys.length, rfl, ?_, h.here S (.int _)⟩
        rcases hq with hq | hq
        · exact .inl ⟨ws, hq, hs.length⟩
        · exact .inr ⟨ws, hq, hs.length⟩
      · split at h
        · split at h
          · rename_i hz
            cases r
            exact ⟨_, _, rfl, ⟨hz, rfl⟩, h.here S (.int _)⟩
          · exact h.elim
        · exact h.elim
  · exact h.elim
def bList (fz : Bool) (vs : List Vl) (g : Gh) : Res Vl := match vs with
  | [v] => match asS g v with
    | some xs => mkL fz xs g
    | none => .stuck
  | _ => .stuck
theorem bs_list {X : Cx} {cad : Nat → Addr} (fz : Bool) : CallS (yX X cad) (fun xs H Q => ∃ p ys, xs = [.ref p] ∧ (SqL X.K H p ys ∨ SqT X.K H p ys) ∧ ∀ l, H l = none → Q (.ref l) (upd H l (.lst ys))) (bList fz) := by
  intro B β g H vs xs Q E S r h
  unfold bList at h
  split at h
  · cases r with
    | cons r rs =>
      cases rs
      split at h
      · rename_i ys e
        obtain ⟨a, ws, rfl, hq, hs⟩ := asS_at S e r
        exact ⟨a, ws, rfl, hq, (mkL_new S hs h).2⟩
      · exact h.elim
  · exact h.elim
def bTuple (vs : List Vl) (g : Gh) : Res Vl := match vs with
  | [v] => match asS g v with
    | some xs => .ok (.tup xs) g
    | none => .stuck
  | _ => .stuck
theorem bs_tuple {X : Cx} {cad : Nat → Addr} : CallS (yX X cad) (fun xs H Q => ∃ p ys, xs = [.ref p] ∧ ((SqL X.K H p ys ∧ ∀ l, H l = none → Q (.ref l) (upd H l (.tup ys))) ∨ (SqT X.K H p ys ∧ Q (.ref p) H))) bTuple := by
  intro B β g H vs xs Q E S r h
  unfold bTuple at h
  split at h
  · cases r with
    | cons r rs =>
      cases rs
      split at h
      · rename_i ys e
        obtain ⟨a, ws, rfl, hq, hs⟩ := asS_at S e r
        rcases hq with hq | hq
        · exact ⟨a, ws, rfl, .inl ⟨hq, tup_new S hs h⟩⟩
        · exact ⟨a, ws, rfl, .inr ⟨hq, h.here S (.tup hq hs)⟩⟩
      · exact h.elim
  · exact h.elim
def bMin (vs : List Vl) (g : Gh) : Res Vl := match vs with
  | [.int i, .int j] => .ok (.int (min i j)) g
  | _ => .stuck
def bMax (vs : List Vl) (g : Gh) : Res Vl := match vs with
  | [.int i, .int j] => .ok (.int (max i j)) g
  | _ => .stuck
theorem bs_min {Y : Cy} : CallS Y (fun xs H Q => ∃ i j, xs = [.int i, .int j] ∧ Q (.int (if j < i then j else i)) H) bMin := by
  intro B β g H vs xs Q E S r h
  unfold bMin at h
  split at h
  · rename_i i j
    cases r with
    | cons r rs =>
      cases r
      cases rs with
      | cons r rs =>
        cases r
        cases rs
        refine ⟨i, j, rfl, ?_⟩
        rw [show (if j < i then j else i) = min i j by omega]
        exact h.here S (.int _)
  · exact h.elim
theorem bs_max {Y : Cy} : CallS Y (fun xs H Q => ∃ i j, xs = [.int i, .int j] ∧ Q (.int (if j > i then j else i)) H) bMax := by
  intro B β g H vs xs Q E S r h
  unfold bMax at h
  split at h
  · rename_i i j
    cases r with
    | cons r rs =>
      cases r
      cases rs with
      | cons r rs =>
        cases r
        cases rs
        refine ⟨i, j, rfl, ?_⟩
        rw [show (if j > i then j else i) = max i j by omega]
        exact h.here S (.int _)
  · exact h.elim
def bInt (vs : List Vl) (g : Gh) : Res Vl := match vs with
  | [.int i] => .ok (.int i) g
  | [.bl b] => .ok (.int (if b then 1 else 0)) g
  | _ => .stuck
theorem bs_int {Y : Cy} : CallS Y (fun xs H Q => (∃ i, xs = [.int i] ∧ Q (.int i) H) ∨ ∃ k, xs = [.bl k] ∧ Q (.int (if k then 1 else 0)) H) bInt := by
  intro B β g H vs xs Q E S r h
  unfold bInt at h
  split at h
  · cases r with
    | cons r rs =>
      cases r
      cases rs
      exact .inl ⟨_, rfl, h.here S (.int _)⟩
  · cases r with
    | cons r rs =>
      cases r
      cases rs
      exact .inr ⟨_, rfl, h.here S (.int _)⟩
  · exact h.elim
def intsOf : List Vl → Option (List Int)
  | [] => some []
  | .int i :: r => (intsOf r).map (i :: ·)
  | _ :: _ => none
theorem intsOf_rel {K : PySem.W.Frag} {H : Hp} {L : Addr → Prop} {β : List Addr} : ∀ {xs : List Vl} {vs : List V} {ns : List Int}, VRs K H L β xs vs → intsOf xs = some ns → vs = ns.map V.int
  | [], _, _, r, e => by cases r; cases e; rfl
  | x :: xs, _, _, r, e => by
    cases r with
    | cons r rs =>
      cases x with
      | int i =>
        cases r
        simp only [intsOf, Option.map_eq_some_iff] at e
        obtain ⟨ns, e, rfl⟩ := e
        rw [intsOf_rel rs e]
        rfl
      | _ => cases e
def bSum (vs : List Vl) (g : Gh) : Res Vl := match vs with
  | [v] => match asL g v with
    | some p => match intsOf p.1 with
      | some ns => .ok (.int ns.sum) g
      | none => .stuck
    | none => .stuck
  | _ => .stuck
theorem bs_sum {X : Cx} {cad : Nat → Addr} : CallS (yX X cad) (rSum X.K) bSum := by
  intro B β g H vs xs Q E S r h
  unfold bSum at h
  split at h
  · cases r with
    | cons r rs =>
      cases rs
      split at h
      · rename_i p e
        split at h
        · rename_i ns en
          obtain ⟨a, ws, rfl, hq, hs⟩ := asL_now S e r
          have := intsOf_rel hs en
          subst this
          exact ⟨a, ns, rfl, hq, h.here S (.int _)⟩
        · exact h.elim
      · exact h.elim
  · exact h.elim
/-- repr of data -/
def rRepr (K : PySem.W.Frag) : List V → Hp → VK → Prop := fun xs H Q => ∃ a d, xs = [.ref a] ∧ Dp K H (.ref a) d ∧ SeqAt.shaped d = true ∧ PyData.showable d = true ∧ d.shown.length ≤ sizeLine ∧ Q (.str d.shown) H
theorem call_reprD {X : Cx} (hg : X.A.guards = some []) (hu : X.A.units + 65 < cLine) : CallR X (.builtin "repr") (rRepr X.K) := by
  intro pins s σ H xs us Q I r h
  obtain ⟨a, d, rfl, hd, sh, sw, hl, q⟩ := h
  cases r with
  | cons r rs =>
    cases rs
    cases r
    obtain ⟨as, rd⟩ := Dp.reads I d _ (.ref a) hd rfl
    have dep := SeqAt.depth_of_shaped sh
    exact repr_of_reads' rd sw (PyData.noDict_hsm (PyData.hasDict_of_canLay d (SeqAt.canLay_of_shaped sh))) hg (by omega) (fun _ _ e => e) (fun h' u tk hk => ⟨V.str _, H, I.kept hk, ⟨u, rfl⟩, q⟩) hl
def bRepr (vs : List Vl) (g : Gh) : Res Vl := match vs with
  | [v] => match snap 64 g v with
    | some d => if SeqAt.shaped d = true ∧ PyData.showable d = true ∧ d.shown.length ≤ sizeLine then (match v with
      | .tup _ => .ok (.str d.shown) g
      | .lst _ => .ok (.str d.shown) g
      | .rol _ => .ok (.str d.shown) g
      | .ref _ => .ok (.str d.shown) g
      | _ => .stuck) else .stuck
    | none => .stuck
  | _ => .stuck
theorem bs_repr {X : Cx} {cad : Nat → Addr} : CallS (yX X cad) (rRepr X.K) bRepr := by
  intro B β g H vs xs Q E S r h
  unfold bRepr at h
  split at h
  · cases r with
    | cons r rs =>
      cases rs
      split at h
      · rename_i d e
        split at h
        · rename_i hs
          have dp := (snap_at S 64).1 _ _ _ r e
          split at h
          · cases r; exact ⟨_, d, rfl, dp, hs.1, hs.2.1, hs.2.2, h.here S (.str _)⟩
          · cases r; exact ⟨_, d, rfl, dp, hs.1, hs.2.1, hs.2.2, h.here S (.str _)⟩
          · cases r; exact ⟨_, d, rfl, dp, hs.1, hs.2.1, hs.2.2, h.here S (.str _)⟩
          · cases r; exact ⟨_, d, rfl, dp, hs.1, hs.2.1, hs.2.2, h.here S (.str _)⟩
          · exact h.elim
        · exact h.elim
      · exact h.elim
  · exact h.elim
def bDivmod (vs : List Vl) (g : Gh) : Res Vl := match vs with
  | [.int i, .int j] => if 0 < j ∧ j < 1073741824 then .ok (.tup [.int (i / j), .int (i % j)]) g else .stuck
  | _ => .stuck
theorem bs_divmod {Y : Cy} : CallS Y (fun xs H Q => ∃ i j, xs = [.int i, .int j] ∧ CDiv i j ∧ ∀ p, H p = none → Q (.ref p) (upd H p (.tup [.int (i / j), .int (i % j)]))) bDivmod := by
  intro B β g H vs xs Q E S r h
  unfold bDivmod at h
  split at h
  · rename_i i j
    split at h
    · rename_i hc
      cases r with
      | cons r rs =>
        cases r
        cases rs with
        | cons r rs =>
          cases r
          cases rs
          exact ⟨i, j, rfl, hc, tup_new S (.cons (.int _) (.cons (.int _) .nil)) h⟩
    · exact h.elim
  · exact h.elim

/-! ### isinstance -/
inductive TK where
  | tuple | list | int | str | bool
def TK.name : TK → String
  | .tuple => "tuple"
  | .list => "list"
  | .int => "int"
  | .str => "str"
  | .bool => "bool"
def TK.isB : TK → Bool
  | .bool => true | .int => true | _ => false
def TK.isI : TK → Bool
  | .int => true | _ => false
def TK.isS : TK → Bool
  | .str => true | _ => false
def TK.isT : TK → Bool
  | .tuple => true | _ => false
def TK.isL : TK → Bool
  | .list => true | _ => false
def isK (k : TK) (v : Vl) (g : Gh) : Option Bool := match v with
  | .non => some false
  | .bl _ => some k.isB
  | .int _ => some k.isI
  | .str _ => some k.isS
  | .tup _ => some k.isT
  | .lst _ => some k.isL
  | .rol _ => some k.isL
  | .ref n => match g[n]? with
    | some (.lst _) => some k.isL
    | _ => none
def mIsi (k : TK) (a : ME) : ME := fun ρ g => (a ρ g).bind fun v g1 => match isK k v g1 with | some b => .ok (.bl b) g1 | none => .stuck
theorem isK_rel {Y : Cy} {B : Bs} {β : List Addr} {g : Gh} {H : Hp} {k : TK} {v : Vl} {x : V} {b : Bool} (S : Sim Y B β g H) (r : VR Y.K H (Lv B β g) β v x) (e : isK k v g = some b) : ∃ t, TyX Y.K H x t ∧ PySem.W.kitOne Y.K t (.type k.name) = some b := by
  have lstK : ∀ {a : Addr}, (TyX Y.K H (.ref a) (.type "list")) → some k.isL = some b → ∃ t, TyX Y.K H (.ref a) t ∧ PySem.W.kitOne Y.K t (.type k.name) = some b := fun {a} h e => by
    cases e
    refine ⟨_, h, ?_⟩
    cases k <;> exact kit_ty (by decide +kernel)
  cases r with
  | non =>
    cases e
    refine ⟨_, .base .non, ?_⟩
    cases k <;> exact kit_ty (by decide +kernel)
  | bl _ =>
    cases e
    refine ⟨_, .base (.bl _), ?_⟩
    cases k <;> exact kit_ty (by decide +kernel)
  | int _ =>
    cases e
    refine ⟨_, .base (.int _), ?_⟩
    cases k <;> exact kit_ty (by decide +kernel)
  | str _ =>
    cases e
    refine ⟨_, .base (.str _), ?_⟩
    cases k <;> exact kit_ty (by decide +kernel)
  | tup h hs =>
    cases e
    rename_i a0 _ _
    have ty : TyX Y.K H (.ref a0) (.type "tuple") := by
      rcases h with (h | ⟨o, h⟩) | ⟨o, its, n, h1, h2, _⟩
      · exact .base (.tup h)
      · exact .fTuple h
      · exact .kTuple h1 h2
    refine ⟨_, ty, ?_⟩
    cases k <;> exact kit_ty (by decide +kernel)
  | lst h _ hs => exact lstK (.base (.lst h)) e
  | rol h hs =>
    refine lstK ?_ e
    rcases h with ⟨o, h⟩ | ⟨o, its, n, h1, h2, _⟩
    · exact .base (.frz h)
    · exact .kList h1 h2
  | ref ha =>
    simp only [isK] at e
    split at e
    · rename_i ys eg
      obtain ⟨vs, h, _⟩ := S.obj _ _ _ ha eg
      exact lstK (.base (.lst h)) e
    · cases e
section
variable {X : Cx} {cad : Nat → Addr} {W : WX} {a o i e : Expr} {es : List Expr} {ma mo mi : ME} {mas : MA} {pos p p2 apos cpos : Pos}
theorem se_isi {x : Str} (k : TK) (hg : Gl X "isinstance") (hm : X.mg "isinstance" = none) (hgx : Gl X x) (hmx : X.mg x = none) (hb : bootBuiltins x = some (.type k.name)) (hv : bootBuiltins "isinstance" = some (.builtin "isinstance")) (ha : PE X a (tE (yX X cad) ma W))
    (hs1 : starEach [a, .Name x p2] X.env = (false, eval a X.env) :: starEach [.Name x p2] X.env := by rfl) (hs2 : starEach [.Name x p2] X.env = (false, eval (.Name x p2) X.env) :: starEach [] X.env := by rfl) (hpl : (backTo pos (starEach [.Name x p2] X.env)).any (·.1) = false := by rfl)
    (hn : x ≠ "__name__" := by decide) (hd : (x == ("__debug__" : Str)) = false := by decide) : PE X (.Call (.Name "isinstance" p) [a, .Name x p2] [] pos) (tE (yX X cad) (mIsi k ma) W) := by
  have hx : PE X (.Name x p2) (tC (.ty k.name)) := pe_bltn hgx hmx hb rfl hn hd
  refine (pe_callB call_isi hg hm hv (pa_cons ha (pa_cons hx pa_nil hs2) hs1) (by decide) (by decide) hs1 hpl).imp fun σ H Q => ?_
  rintro ⟨B, β, g, ρ, S, V, h⟩
  refine tE_bind S V h fun β1 g1 H1 v x S1 l1 V1 r1 h1 => ?_
  cases q : isK k v g1 with
  | none => rw [q] at h1; exact h1.elim
  | some b =>
    rw [q] at h1
    obtain ⟨t, h2, h3⟩ := isK_rel S1 r1 q
    exact ⟨x, _, t, _, b, rfl, .ty _, h2, h3, h1.here S1 (.bl _)⟩

/-! ### methods of our lists -/
def ourL (g : Gh) : Vl → Option (Nat × List Vl)
  | .ref n => match g[n]? with | some (.lst xs) => some (n, xs) | _ => none
  | _ => none
theorem ourL_at {Y : Cy} {B : Bs} {β : List Addr} {g : Gh} {H : Hp} {v : Vl} {x : V} {q : Nat × List Vl} (S : Sim Y B β g H) (e : ourL g v = some q) (r : VR Y.K H (Lv B β g) β v x) :
    ∃ a vs, x = .ref a ∧ β[q.1]? = some a ∧ g[q.1]? = some (.lst q.2) ∧ H a = some (.lst vs) ∧ VRs Y.K H (Lv B β g) β q.2 vs := by
  cases v with
  | ref n =>
    simp only [ourL] at e
    split at e
    · rename_i xs eg
      cases e
      cases r with
      | ref ha =>
        obtain ⟨vs, h, hs⟩ := S.obj n _ _ ha eg
        exact ⟨_, vs, rfl, ha, eg, h, hs⟩
    · cases e
  | _ => cases e
/-- our list takes other items -/
theorem ourL_set {Y : Cy} {B : Bs} {β : List Addr} {g : Gh} {H : Hp} {n : Nat} {a : Addr} {xs ys : List Vl} {ws : List V} (S : Sim Y B β g H) (ha : β[n]? = some a) (eg : g[n]? = some (.lst xs)) (r : VRs Y.K H (Lv B β g) β ys ws) :
    Sim Y B β (g.set n (.lst ys)) (upd H a (.lst ws)) ∧ LeS B β g H β (g.set n (.lst ys)) (upd H a (.lst ws)) := by
  obtain ⟨vs, h, _⟩ := S.obj n _ _ ha eg
  exact S.write ha eg (by intro z; cases z) fun l => ⟨ws, upd_same, r.up l⟩
end
end CS

set_option Elab.async false
set_option linter.all false
set_option maxRecDepth 100000
namespace CS
open PySem L2

/-! ### methods -/
def tyC (k : TK) (g : Gh) (v : Vl) : Bool := match k with
  | .list => (asL g v).isSome
  | .str => match v with | .str _ => true | _ => false
  | _ => false
theorem tyC_at {Y : Cy} {B : Bs} {β : List Addr} {g : Gh} {H : Hp} {k : TK} {v : Vl} {x : V} (S : Sim Y B β g H) (e : tyC k g v = true) (r : VR Y.K H (Lv B β g) β v x) : tyV Y.K k.name x H := by
  cases k with
  | list =>
    simp only [tyC, Option.isSome_iff_exists] at e
    obtain ⟨p, e⟩ := e
    obtain ⟨a, vs, rfl, h, _⟩ := asL_now S e r
    exact .inl ⟨rfl, vs, h⟩
  | str =>
    simp only [tyC] at e
    split at e
    · cases r
      rfl
    · cases e
  | _ => cases e
def mBm (k : TK) (f : Vl → List Vl → Gh → Res Vl) (o : ME) (a : MA) : ME := fun ρ g => (o ρ g).bind fun v g1 => if tyC k g1 v then (a ρ g1).bind fun vs g2 => f v vs g2 else .stuck
def MtC (Y : Cy) (r : V → List V → Hp → VK → Prop) (f : Vl → List Vl → Gh → Res Vl) : Prop :=
  ∀ (B : Bs) (β : List Addr) (g : Gh) (H : Hp) (v : Vl) (x : V) (vs : List Vl) (xs : List V) (Q : VK) (E : XK), Sim Y B β g H → VR Y.K H (Lv B β g) β v x → VRs Y.K H (Lv B β g) β vs xs → Fin Y B (VR Y.K) β g H (f v vs g) Q E → r x xs H Q
section
variable {X : Cx} {cad : Nat → Addr} {W : WX} {o e i tg : Expr} {es : List Expr} {ma mo mi : ME} {mas : MA} {pos apos cpos : Pos} {name : Str} {id : String} {r : V → List V → Hp → VK → Prop} {f : Vl → List Vl → Gh → Res Vl}
theorem se_bm (k : TK) (pa : PlainAttrs k.name) (slot : Slot k.name name id) (hty : typeOf (.builtin id) = pure (.type "method_descriptor")) (hm : MtR X id r) (hs : MtC (yX X cad) r f) (ho : PE X o (tE (yX X cad) mo W)) (ha : PA X (e :: es) (tA (yX X cad) mas W))
    (hbase : attributeBase o name X.env (eval o X.env) = eval o X.env := by rfl)
    (hfew : ((backTo cpos (starEach (e :: es) X.env)).all (fun x => !x.1) && (backToKw cpos (keywordEach [] X.env)).all (fun x => x.1.isSome) && decide ((e :: es).length + ([] : List Keyword).length + (if ([] : List Keyword).isEmpty then 0 else 1) < 30)) = true := by rfl)
    (hline : (apos.endLine == cpos.line) = true := by rfl) (hst : starEach (e :: es) X.env = (false, eval e X.env) :: starEach es X.env := by rfl) (hplain : (backTo cpos (starEach es X.env)).any (·.1) = false := by rfl) :
    PE X (.Call (.Attribute o name apos) (e :: es) [] cpos) (tE (yX X cad) (mBm k f mo mas) W) := by
  refine (pe_bm pa slot hty hm ho ha hbase hfew hline hst hplain).imp fun σ H Q => ?_
  rintro ⟨B, β, g, ρ, S, V, h⟩
  refine tE_bind S V h fun β1 g1 H1 v x S1 l1 V1 r1 h1 => ?_
  cases q : tyC k g1 v with
  | false => rw [q] at h1; exact h1.elim
  | true =>
    rw [q] at h1
    refine ⟨tyC_at S1 q r1, ?_⟩
    refine tA_bind S1 V1 h1 fun β2 g2 H2 vs xs S2 l2 V2 r2 h2 => ?_
    exact hs B β2 g2 H2 v x vs xs Q _ S2 (r1.up l2) r2 h2
theorem se_bm0 (k : TK) (pa : PlainAttrs k.name) (slot : Slot k.name name id) (hty : typeOf (.builtin id) = pure (.type "method_descriptor")) (hm : MtR X id r) (hs : MtC (yX X cad) r f) (ho : PE X o (tE (yX X cad) mo W))
    (hbase : attributeBase o name X.env (eval o X.env) = eval o X.env := by rfl) (hline : (apos.endLine == cpos.line) = true := by rfl) : PE X (.Call (.Attribute o name apos) [] [] cpos) (tE (yX X cad) (mBm k f mo mNil) W) := by
  refine (pe_bm0 pa slot hty hm ho hbase hline).imp fun σ H Q => ?_
  rintro ⟨B, β, g, ρ, S, V, h⟩
  refine tE_bind S V h fun β1 g1 H1 v x S1 l1 V1 r1 h1 => ?_
  cases q : tyC k g1 v with
  | false => rw [q] at h1; exact h1.elim
  | true =>
    rw [q] at h1
    exact ⟨tyC_at S1 q r1, hs B β1 g1 H1 v x [] [] Q _ S1 r1 .nil h1⟩
end
/-- our list, changed -/
def chL (v : Vl) (g : Gh) (f : List Vl → Option (List Vl × Vl)) : Res Vl := match ourL g v with
  | some q => match f q.2 with
    | some (ys, y) => .ok y (g.set q.1 (.lst ys))
    | none => .stuck
  | none => .stuck
theorem chL_at {Y : Cy} {B : Bs} {β : List Addr} {g : Gh} {H : Hp} {v : Vl} {x : V} {f : List Vl → Option (List Vl × Vl)} {Q : VK} {E : XK} (S : Sim Y B β g H) (r : VR Y.K H (Lv B β g) β v x) (h : Fin Y B (VR Y.K) β g H (chL v g f) Q E) :
    ∃ a xs vs ys y, x = .ref a ∧ H a = some (.lst vs) ∧ VRs Y.K H (Lv B β g) β xs vs ∧ f xs = some (ys, y) ∧ ∀ ws w, VRs Y.K H (Lv B β g) β ys ws → VR Y.K H (Lv B β g) β y w → Q w (upd H a (.lst ws)) := by
  unfold chL at h
  split at h
  · rename_i q e
    split at h
    · rename_i ys y ef
      obtain ⟨a, vs, rfl, ha, eg, hh, hs⟩ := ourL_at S e r
      refine ⟨a, _, vs, ys, y, rfl, hh, hs, ef, fun ws w rs rw' => ?_⟩
      obtain ⟨S2, l2⟩ := ourL_set S ha eg rs
      exact h β _ w S2 l2 (rw'.up l2)
    · exact h.elim
  · exact h.elim
def mtAppend (v : Vl) (vs : List Vl) (g : Gh) : Res Vl := match vs with
  | [y] => chL v g fun xs => if xs.length < sizeLine then some (xs ++ [y], .non) else none
  | _ => .stuck
theorem ms_append {Y : Cy} : MtC Y rAppend mtAppend := by
  intro B β g H v x vs xs Q E S r rs h
  unfold mtAppend at h
  split at h
  · cases rs with
    | cons ry rs =>
      cases rs
      obtain ⟨a, ls, ws, ys, y, rfl, hh, hs, ef, k⟩ := chL_at S r h
      split at ef
      · rename_i hz
        cases ef
        exact ⟨a, ws, _, rfl, rfl, hh, by rw [← hs.length]; exact hz, k _ _ (hs.append (.cons ry .nil)) .non⟩
      · cases ef
  · exact h.elim
def mtExtend (v : Vl) (vs : List Vl) (g : Gh) : Res Vl := match vs with
  | [w] => match asT g w with
    | some zs => chL v g fun xs => if xs.length + zs.length ≤ sizeLine then some (xs ++ zs, .non) else none
    | none => .stuck
  | _ => .stuck
theorem ms_extend {Y : Cy} : MtC Y rExtend mtExtend := by
  intro B β g H v x vs xs Q E S r rs h
  unfold mtExtend at h
  split at h
  · cases rs with
    | cons ry rs =>
      cases rs
      split at h
      · rename_i zs ez
        obtain ⟨b, us, rfl, hb, hu⟩ := asT_at S ez ry
        obtain ⟨a, ls, ws, ys, y, rfl, hh, hs, ef, k⟩ := chL_at S r h
        split at ef
        · rename_i hz
          cases ef
          exact ⟨a, b, ws, us, rfl, rfl, hh, hb, by rw [← hs.length, ← hu.length]; exact hz, k _ _ (hs.append hu) .non⟩
        · cases ef
      · exact h.elim
  · exact h.elim
def mtPop (v : Vl) (vs : List Vl) (g : Gh) : Res Vl := match vs with
  | [] => chL v g fun xs => match xs[xs.length - 1]? with | some y => some (xs.dropLast, y) | none => none
  | _ => .stuck
theorem VRs.dropLast {K : PySem.W.Frag} {H : Hp} {L : Addr → Prop} {β : List Addr} {xs : List Vl} {vs : List V} (r : VRs K H L β xs vs) : VRs K H L β xs.dropLast vs.dropLast := by
  rw [List.dropLast_eq_take, List.dropLast_eq_take, r.length]
  exact r.take _
theorem ms_pop {Y : Cy} : MtC Y rPop mtPop := by
  intro B β g H v x vs xs Q E S r rs h
  unfold mtPop at h
  split at h
  · cases rs
    obtain ⟨a, ls, ws, ys, y, rfl, hh, hs, ef, k⟩ := chL_at S r h
    split at ef
    · rename_i y ey
      cases ef
      obtain ⟨u, eu, ru⟩ := hs.get ey
      exact ⟨a, ws, u, rfl, rfl, hh, by rw [← hs.length]; exact eu, k _ _ hs.dropLast ru⟩
    · cases ef
  · exact h.elim
def mtPopAt (v : Vl) (vs : List Vl) (g : Gh) : Res Vl := match vs with
  | [.int i] => if -(2 ^ 63) ≤ i ∧ i < 2 ^ 63 then chL v g fun xs => match seqIndex? i xs.length with
    | some k => match xs[k]? with | some y => some (xs.eraseIdx k, y) | none => none
    | none => none else .stuck
  | _ => .stuck
theorem VRs.erase {K : PySem.W.Frag} {H : Hp} {L : Addr → Prop} {β : List Addr} : ∀ {xs : List Vl} {vs : List V} (k : Nat), VRs K H L β xs vs → VRs K H L β (xs.eraseIdx k) (vs.eraseIdx k)
  | _, _, _, .nil => .nil
  | _, _, 0, .cons _ t => t
  | _, _, k + 1, .cons r t => .cons r (VRs.erase k t)
theorem ms_popAt {Y : Cy} : MtC Y rPopAt mtPopAt := by
  intro B β g H v x vs xs Q E S r rs h
  unfold mtPopAt at h
  split at h
  · split at h
    · rename_i hb
      cases rs with
      | cons ry rs =>
        cases rs
        cases ry
        obtain ⟨a, ls, ws, ys, y, rfl, hh, hs, ef, k⟩ := chL_at S r h
        split at ef
        · rename_i j ej
          split at ef
          · rename_i y ey
            cases ef
            obtain ⟨u, eu, ru⟩ := hs.get ey
            exact ⟨a, ws, _, j, u, rfl, rfl, hh, hb.1, hb.2, by rw [← hs.length]; exact ej, eu, k _ _ (hs.erase j) ru⟩
          · cases ef
        · cases ef
    · exact h.elim
  · exact h.elim
def mtReverse (v : Vl) (vs : List Vl) (g : Gh) : Res Vl := match vs with
  | [] => chL v g fun xs => some (xs.reverse, .non)
  | _ => .stuck
theorem VRs.reverse {K : PySem.W.Frag} {H : Hp} {L : Addr → Prop} {β : List Addr} : ∀ {xs : List Vl} {vs : List V}, VRs K H L β xs vs → VRs K H L β xs.reverse vs.reverse
  | _, _, .nil => .nil
  | _, _, .cons r t => by
    rw [List.reverse_cons, List.reverse_cons]
    exact (VRs.reverse t).append (.cons r .nil)
theorem ms_reverse {Y : Cy} : MtC Y rReverse mtReverse := by
  intro B β g H v x vs xs Q E S r rs h
  unfold mtReverse at h
  split at h
  · cases rs
    obtain ⟨a, ls, ws, ys, y, rfl, hh, hs, ef, k⟩ := chL_at S r h
    cases ef
    exact ⟨a, ws, rfl, rfl, hh, k _ _ hs.reverse .non⟩
  · exact h.elim
def mtClear (v : Vl) (vs : List Vl) (g : Gh) : Res Vl := match vs with
  | [] => chL v g fun xs => some ([], .non)
  | _ => .stuck
theorem ms_clear {Y : Cy} : MtC Y rClear mtClear := by
  intro B β g H v x vs xs Q E S r rs h
  unfold mtClear at h
  split at h
  · cases rs
    obtain ⟨a, ls, ws, ys, y, rfl, hh, hs, ef, k⟩ := chL_at S r h
    cases ef
    exact ⟨a, ws, rfl, rfl, hh, k _ _ .nil .non⟩
  · exact h.elim

/-! ### o[i] = v for lists, x += e for ints -/
def setLM (o i v : Vl) (ρ : Env) (g : Gh) : SR := match ourL g o, i with
  | some q, .int k => match ixN q.2.length k with
    | some j => .nx ρ (g.set q.1 (.lst (q.2.set j v)))
    | none => .stuck
  | _, _ => .stuck
def gtSub (mo mi : ME) : MG := fun v ρ g => (mo ρ g).lift ρ fun o g1 => (mi ρ g1).lift ρ fun i g2 => setLM o i v ρ g2
def mAug (f : Int → Int → Int) (i : Nat) (m : ME) : MS := fun ρ g => match ρ[i]? with
  | some (some (.int x)) => (m ρ g).lift ρ fun v g1 => match v with | .int y => .nx (ρ.set i (some (.int (f x y)))) g1 | _ => .stuck
  | _ => .stuck
section
variable {X : Cx} {cad : Nat → Addr} {W : WX} {o e i : Expr} {ma mo mi : ME} {pos : Pos}
theorem sg_sub (ho : PE X o (tE (yX X cad) mo W)) (hi : PE X i (tE (yX X cad) mi W))
    (ha : ∀ v, assign (.Subscript o i pos) X.env v = (do
      let a ← holding [v] (eval o X.env)
      let b ← holding [v, a] (eval i X.env)
      standAt pos
      holding [v, a, b] (setItem a b v)
      release [v, a, b] []) := by intro _; rfl) : PG X (.Subscript o i pos) (tG (yX X cad) (gtSub mo mi) W) := by
  refine (pg_sub ho hi set_list ha).imp fun x σ H Q => ?_
  rintro ⟨B, β, g, ρ, v, S, V, r, h⟩
  refine tE_lift S V h fun β1 g1 H1 ov x1 S1 l1 V1 r1 h1 => ?_
  refine tE_lift S1 V1 h1 fun β2 g2 H2 iv x2 S2 l2 V2 r2 h2 => ?_
  unfold setLM at h2
  split at h2
  · rename_i q k eq
    split at h2
    · rename_i j ej
      cases r2
      obtain ⟨a, vs, rfl, ha, eg, hh, hs⟩ := ourL_at S2 eq (r1.up l2)
      have rs := hs.set ((r.up l1).up l2) j
      obtain ⟨S3, l3⟩ := ourL_set S2 ha eg rs
      exact ⟨a, vs, _, j, rfl, rfl, hh, by rw [← hs.length]; exact ej, h2 β2 _ σ S3 l3 (V2.up l3)⟩
    · exact h2.elim
  · exact h2.elim
theorem gtSub_ok : ∀ v ρ g, (∃ ρ' g', gtSub mo mi v ρ g = .nx ρ' g') ∨ (∃ e ρ' g', gtSub mo mi v ρ g = .exc e ρ' g') ∨ gtSub mo mi v ρ g = .stuck := fun v ρ g => by
  unfold gtSub
  cases mo ρ g with
  | ok o g1 =>
    simp only [Res.lift]
    cases mi ρ g1 with
    | ok i g2 =>
      simp only [Res.lift, setLM]
      split
      · split
        · exact .inl ⟨_, _, rfl⟩
        · exact .inr (.inr rfl)
      · exact .inr (.inr rfl)
    | exc x g2 => exact .inr (.inl ⟨_, _, _, rfl⟩)
    | stuck => exact .inr (.inr rfl)
  | exc x g2 => exact .inr (.inl ⟨_, _, _, rfl⟩)
  | stuck => exact .inr (.inr rfl)
theorem gtTup_ok (t : MGs) (h : ∀ vs ρ g, (∃ ρ' g', t vs ρ g = .nx ρ' g') ∨ t vs ρ g = .stuck) : ∀ v ρ g, (∃ ρ' g', gtTup t v ρ g = .nx ρ' g') ∨ gtTup t v ρ g = .stuck := fun v ρ g => by
  cases v <;> first | exact h _ ρ g | exact .inr rfl
theorem gtNil_ok : ∀ vs ρ g, (∃ ρ' g', gtNil vs ρ g = .nx ρ' g') ∨ gtNil vs ρ g = .stuck := fun vs ρ g => by
  cases vs
  · exact .inl ⟨_, _, rfl⟩
  · exact .inr rfl
theorem gtCons_ok (t : MG) (r : MGs) (h : ∀ v ρ g, (∃ ρ' g', t v ρ g = .nx ρ' g') ∨ t v ρ g = .stuck) (hr : ∀ vs ρ g, (∃ ρ' g', r vs ρ g = .nx ρ' g') ∨ r vs ρ g = .stuck) : ∀ vs ρ g, (∃ ρ' g', gtCons t r vs ρ g = .nx ρ' g') ∨ gtCons t r vs ρ g = .stuck := fun vs ρ g => by
  cases vs with
  | nil => exact .inr rfl
  | cons v vs =>
    simp only [gtCons, mSeq]
    rcases h v ρ g with ⟨ρ', g', e⟩ | e
    · rw [e]
      exact hr vs ρ' g'
    · rw [e]
      exact .inr rfl
theorem ok3 {t : MG} (h : ∀ v ρ g, (∃ ρ' g', t v ρ g = .nx ρ' g') ∨ t v ρ g = .stuck) : ∀ v ρ g, (∃ ρ' g', t v ρ g = .nx ρ' g') ∨ (∃ e ρ' g', t v ρ g = .exc e ρ' g') ∨ t v ρ g = .stuck := fun v ρ g => (h v ρ g).elim .inl (fun z => .inr (.inr z))
theorem ss_aug {op} {f : Int → Int → Int} {k : Nat} {x : Str} {pos' : Pos} (hop : PIp X op (ipI f)) (hN : X.N.Nodup) (hi : X.N[k]? = some x) (hx : Loc X.env.scope x) (he : PE X e (tE (yX X cad) ma W)) (hf : X.fn x = true ∨ X.env.scope.names.lookup x = some .local := by first | exact .inl rfl | exact .inr rfl | assumption) :
    PS X (.AugAssign (.Name x pos') op e pos) (tS (yX X cad) (mAug f k ma) W) := by
  refine (ps_aug hN hi hx he hop hf).imp fun D σ H => ?_
  rintro ⟨B, β, g, ρ, S, V, h⟩
  unfold mAug at h
  split at h
  · rename_i y ey
    obtain ⟨xv, ex, rx⟩ := V.has k _ ey
    cases rx
    refine ⟨_, ex, ?_⟩
    refine tE_lift S V h fun β1 g1 H1 v x1 S1 l1 V1 r1 h1 => ?_
    cases v with
    | int j =>
      cases r1
      exact ⟨_, _, rfl, rfl, h1.nxt S1 (V1.put k (.int _))⟩
    | _ => exact h1.elim
  · exact h.elim
end
def uNeg (v : Vl) (g : Gh) : Res Vl := match v with | .int i => .ok (.int (-i)) g | _ => .stuck
theorem us_neg {Y : Cy} : UnS Y (rU fun i => .int (-i)) uNeg := by
  intro B β g H v x Q E S r h
  unfold uNeg at h
  split at h
  · cases r
    exact ⟨_, rfl, h.here S (.int _)⟩
  · exact h.elim
theorem fnG_zero {P : Program} {w : World} {K : PySem.W.Frag} {mg : Str → Option Value} {base : Heap} {C : CXT} {k : Nat} {f : Addr} {fd : FuncData} {ps : List Str} {Y : Cy} : FnG P w K mg base C k f fd ps (spR Y ps.length fun _ _ => .stuck) :=
  ⟨fun vs H Q E h => h.1, fun A fr s H ar us vs Q E _ _ _ _ h => by
    obtain ⟨_, B, β, g, ds, _, _, f⟩ := h
    exact f.elim⟩

/-! ### tests -/
section
variable {X : Cx} {cad : Nat → Addr} {W : WX} {a b c e : Expr} {rest : List Expr} {ma mb mc : ME} {mt mu : MT} {pos : Pos}
theorem test_reads {Y : Cy} {m : ME} {t : TE} (h : ∀ σ H Q, tE Y m W σ H Q → t σ H Q) : ∀ σ H Q, tT Y (mT m) W σ H Q → tTest t σ H Q := by
  rintro σ H Q ⟨B, β, g, ρ, S, V, q⟩
  refine h _ _ _ ⟨B, β, g, ρ, S, V, ?_⟩
  simp only [mT] at q
  cases e : m ρ g with
  | ok v g1 =>
    rw [e] at q
    simp only [Res.bind] at q
    intro β1 H1 x S1 l1 r1
    cases v with
    | bl k =>
      cases r1
      exact ⟨k, rfl, q β1 H1 k S1 l1 rfl⟩
    | _ => exact q.elim
  | exc x g1 => rw [e] at q; exact q
  | stuck => rw [e] at q; exact q
theorem op_reads {Y : Cy} {r : R2} {f : Vl → Vl → Gh → Res Vl} (hs : OpS Y r f) : ∀ σ H Q, tE Y (mOp f ma mb) W σ H Q → tOp r (tE Y ma W) (tE Y mb W) σ H Q := by
  rintro σ H Q ⟨B, β, g, ρ, S, V, h⟩
  refine tE_bind S V h fun β1 g1 H1 v x S1 l1 V1 r1 h1 => ?_
  refine tE_bind S1 V1 h1 fun β2 g2 H2 w y S2 l2 V2 r2 h2 => ?_
  exact hs B β2 g2 H2 v w x y Q _ S2 (r1.up l2) r2 h2
theorem chain_reads {Y : Cy} {r r' : R2} {f f' : Vl → Vl → Gh → Res Vl} (hs : OpS Y r f) (hs' : OpS Y r' f') : ∀ σ H Q, tE Y (mChain f f' ma mb mc) W σ H Q → tChain r r' (tE Y ma W) (tE Y mb W) (tE Y mc W) σ H Q := by
  rintro σ H Q ⟨B, β, g, ρ, S, V, h⟩
  refine tE_bind S V h fun β1 g1 H1 v x S1 l1 V1 r1 h1 => ?_
  refine tE_bind S1 V1 h1 fun β2 g2 H2 w y S2 l2 V2 r2 h2 => ?_
  have fin : Fin Y B (VR Y.K) β2 g2 H2 (f v w g2) (fun z H3 => ∃ k, z = .bl k ∧ (if k = true then tE Y mc W σ H3 fun w' H4 => r' y w' H4 Q else Q (.bl false) H3)) (fun c d H' => W c d σ H') := by
    revert h2
    cases f v w g2 with
    | ok z g3 =>
      intro h2 β3 H3 xz S3 l3 r3
      have h3 := Fin.later l3 h2
      cases z with
      | bl k =>
        cases r3
        refine ⟨k, rfl, ?_⟩
        cases k with
        | true =>
          refine iteT ?_
          refine tE_bind S3 (V2.up l3) h3 fun β4 g4 H4 u y4 S4 l4 V4 r4 h4 => ?_
          exact hs' B β4 g4 H4 w u y y4 Q _ S4 ((r2.up l3).up l4) r4 h4
        | false => exact iteF (Fin.here h3 S3 (.bl false))
      | _ => exact h3.elim
    | exc z g3 => exact fun h2 => h2
    | stuck => exact fun h2 => h2
  exact hs B β2 g2 H2 v w x y _ _ S2 (r1.up l2) r2 fin
theorem st_cmp {op : CmpOp} {r : R2} {f : Vl → Vl → Gh → Res Vl} (ho : OpR X (compareOp op) r) (hs : OpS (yX X cad) r f) (ha : PE X a (tE (yX X cad) ma W)) (hb : PE X b (tE (yX X cad) mb W)) (hm : behindInMarks op b = false) : PT X (.Compare a [op] [b] pos) (tT (yX X cad) (mT (mOp f ma mb)) W) :=
  (pt_cmpR ho ha hb hm).imp (test_reads (op_reads hs))
theorem st_chain {op op' : CmpOp} {r r' : R2} {f f' : Vl → Vl → Gh → Res Vl} (ho : OpR X (compareOp op) r) (hs : OpS (yX X cad) r f) (ho' : OpR X (compareOp op') r') (hs' : OpS (yX X cad) r' f') (ha : PE X a (tE (yX X cad) ma W)) (hb : PE X b (tE (yX X cad) mb W)) (hc : PE X c (tE (yX X cad) mc W))
    (hm : lastMarks [op, op'] [b, c] = false := by with_unfolding_all rfl) : PT X (.Compare a [op, op'] [b, c] pos) (tT (yX X cad) (mT (mChain f f' ma mb mc)) W) :=
  (pt_chain ho ho' ha hb hc hm).imp (test_reads (chain_reads hs hs'))
def tnNot (t : MT) : MT := fun ρ g => (t ρ g).bind fun c g1 => .ok (!c) g1
def tnAnd (t u : MT) : MT := fun ρ g => (t ρ g).bind fun c g1 => if c then u ρ g1 else .ok false g1
def tnOr (t u : MT) : MT := fun ρ g => (t ρ g).bind fun c g1 => if c then .ok true g1 else u ρ g1
theorem st_not (h : PT X a (tT (yX X cad) mt W)) : PT X (.UnaryOp .Not a pos) (tT (yX X cad) (tnNot mt) W) := by
  refine (pt_not h).imp fun σ H Q => ?_
  rintro ⟨B, β, g, ρ, S, V, h⟩
  refine tT_bind S V h fun β1 g1 H1 v S1 l1 V1 h1 => ?_
  exact h1.here S1 rfl
theorem _root_.L2.PW.imp {X : Cx} {e : Expr} {t t' : TT} (p : PW X e t) (h : ∀ σ H Q, t' σ H Q → t σ H Q) : PW X e t' := ⟨fun wh pins s σ H Q I q => p.run wh pins s σ H Q I (h _ _ _ q)⟩
theorem spw_and1 (h : PT X a (tT (yX X cad) mt W)) : PW X (.BoolOp .And [a] pos) (tT (yX X cad) mt W) := pw_and1 h
theorem spw_or1 (h : PT X a (tT (yX X cad) mt W)) : PW X (.BoolOp .Or [a] pos) (tT (yX X cad) mt W) := pw_or1 h
theorem spw_and (h : PT X a (tT (yX X cad) mt W)) (h2 : PW X (.BoolOp .And (b :: rest) pos) (tT (yX X cad) mu W)) : PW X (.BoolOp .And (a :: b :: rest) pos) (tT (yX X cad) (tnAnd mt mu) W) := by
  refine (pw_and h h2).imp fun σ H Q => ?_
  rintro ⟨B, β, g, ρ, S, V, h⟩
  refine tT_bind S V h fun β1 g1 H1 v S1 l1 V1 h1 => ?_
  cases v with
  | true => exact iteT ⟨B, β1, g1, ρ, S1, V1, h1⟩
  | false => exact iteF (h1.here S1 rfl)
theorem spw_or (h : PT X a (tT (yX X cad) mt W)) (h2 : PW X (.BoolOp .Or (b :: rest) pos) (tT (yX X cad) mu W)) : PW X (.BoolOp .Or (a :: b :: rest) pos) (tT (yX X cad) (tnOr mt mu) W) := by
  refine (pw_or h h2).imp fun σ H Q => ?_
  rintro ⟨B, β, g, ρ, S, V, h⟩
  refine tT_bind S V h fun β1 g1 H1 v S1 l1 V1 h1 => ?_
  cases v with
  | true => exact iteT (h1.here S1 rfl)
  | false => exact iteF ⟨B, β1, g1, ρ, S1, V1, h1⟩
end
end CS

set_option Elab.async false
set_option linter.all false
set_option maxRecDepth 100000
namespace CS
open PySem L2 PySem.Spec PyProof.Rows

/-! ### the end of a law -/
theorem cx_false {P : Program} {w : World} {H : Hp} {s s' : Shared} {e : Value} (h : L2.CX P w [] H s (fun _ _ _ => False) e s') : False := by
  obtain ⟨_, _, _, _, _, _, _, _, _, _, _, _, z⟩ := h
  exact z
abbrev lockedO (vs : List Value) : Obj := { cls := .type "list", data := .seq vs.toArray }
/-- the abstract heap at the law's entry: the script alone, locked (or nothing, where it stands in the written part) -/
noncomputable def entryH (K : PySem.W.Frag) (a : Addr) (vs : List Value) (ns : List Int) : Hp := fun b => if b = a ∧ K.lookup a = none then some (.frz (lockedO vs) (.lst (ns.map V.int))) else none
theorem law_callG {P : Program} {w : World} {K : PySem.W.Frag} {mg mb : Str → Option Value} {k : Nat} {fa a : Addr} {fd : FuncData} {x : Str} {sp : Sp} {s₁ : Shared} {vs : List Value} {ns : List Int} (KX : K.In s₁.heap) (hns : s₁.heap.Ns mainGlobals mg)
    (hb : s₁.heap.Ns builtinsNs mb) (hbb : ∀ y : Str, y ≠ "__name__" → mb y = bootBuiltins y) (hlim : s₁.heap.NoLimit) (hg : s₁.gens = #[]) (ha : s₁.heap.get? a = some (lockedO vs)) (hi : IntsAre vs ns) (hl : ns.length ≤ sizeLine) (hr : RoomG k callerA)
    (F : ∀ base : Heap, K.In base → base.Ns mainGlobals mg → FnG P w K mg base (L2.CX P w) k fa fd [x] sp) (hbind : ∀ (s : Shared) (u : Value), BindsTo s fd ⟨[u], []⟩ [(x, u)])
    (hsp : ∀ H : Hp, SqR K H a (ns.map V.int) → sp [.ref a] H (fun v _ => v = .bl true) fun _ _ _ => False) :
    codeAny (model P w) callerA (.call (.ref fa) ⟨[.ref a], []⟩) (fun r t => r = .ok (.ret (.bool true)) ∧ OldK s₁.heap t.heap ∧ t.os = s₁.os ∧ AllBare t.gens) s₁ := by
  generalize hH : entryH K a vs ns = H
  have only : ∀ b, H b ≠ none → b = a ∧ K.lookup a = none := fun b z => by
    rw [← hH] at z
    unfold entryH at z
    split at z
    · assumption
    · exact absurd rfl z
  have at' : ∀ b o, H b = some o → o = .frz (lockedO vs) (.lst (ns.map V.int)) := fun b o z => by
    rw [← hH] at z
    unfold entryH at z
    split at z
    · exact (Option.some.inj z).symm
    · cases z
  have rv := vals_ints hi
  have ln := hi.length
  have sq : SqR K H a (ns.map V.int) := by
    cases q : K.lookup a with
    | none => exact Or.inl ⟨lockedO vs, by rw [← hH]; exact if_pos ⟨rfl, q⟩⟩
    | some o =>
      have e := KX a o q
      rw [ha] at e
      cases e
      exact Or.inr ⟨_, vs.toArray, _, q, rfl, rfl, rfl, by rw [List.size_toArray, ln]; exact hl, by simpa using rv⟩
  have hok : HOk P w H s₁.heap := fun b o z => by
    obtain ⟨eb, _⟩ := only b (by rw [z]; simp)
    have eo := at' b o z
    subst eb
    subst eo
    exact ⟨ha, by rw [List.length_map]; exact hl, vs, _, rv, ha⟩
  have keepB : ∀ {b : Addr} {o : Obj}, s₁.heap.get? b = some o → H b = none → (hidT s₁.heap H).get? b = some o := fun e n => hidT_get e n
  have dictN : ∀ {b : Addr} {o : Obj} {es : Array DictEntry} {ep : Nat}, s₁.heap.get? b = some o → o.data = .dict es ep → H b = none := fun {b o es ep} e d => by
    by_cases q : H b = none
    · exact q
    · obtain ⟨eb, _⟩ := only b q
      rw [eb, ha] at e
      cases e
      exact nomatch (show Data.seq vs.toArray _ = Data.dict es ep from d)
  have nsN : ∀ {b : Addr} {m : Str → Option Value}, s₁.heap.Ns b m → (hidT s₁.heap H).Ns b m := fun {b m} z => by
    obtain ⟨o, es, ep, e, d, r⟩ := z
    exact ⟨o, es, ep, keepB e (dictN e d), d, r⟩
  have kin : K.In (hidT s₁.heap H) := fun b o e => keepB (KX b o e) (by
    by_cases q : H b = none
    · exact q
    · obtain ⟨eb, en⟩ := only b q
      rw [eb, en] at e
      cases e)
  have md : Mod K mg (hidT s₁.heap H) := by
    obtain ⟨mc, h1, h2⟩ := hlim
    exact ⟨kin, nsN hns, ⟨mb, nsN hb, hbb⟩, mc, nsN h1, h2⟩
  have e0 : Env0 P w K mg (hidT s₁.heap H) callerA [] s₁ H :=
    ⟨rfl, md, fun b o e => of_hidT e, Nat.le_of_eq (hidT_size _ _), trivial, fun b z => absurd (show b ∈ ([] : List Addr) from z) List.not_mem_nil, hok, .of_eq hg⟩
  have body := (F _ kin (nsN hns)).run callerA [] s₁ H ⟨[.ref a], []⟩ [.ref a] [.ref a] _ _ hr e0 (hbind s₁ (.ref a)) (.cons rfl .nil) (hsp H sq)
  refine codeAny_mono body fun r t h => ?_
  match r, h with
  | .error e, h => exact (cx_false h).elim
  | .ok .next, h => exact False.elim h
  | .ok .brk, h => exact False.elim h
  | .ok .cont, h => exact False.elim h
  | .ok (.ret u), h =>
    obtain ⟨v, H', os, bare, un, hok', rr, q⟩ := h
    obtain rfl : v = .bl true := q
    obtain rfl : u = Value.bool true := rr
    refine ⟨rfl, OldK.of_keep fun b o e => ?_, os, bare⟩
    cases q : H b with
    | none => exact un.keep b o e q (fun z => absurd (show b ∈ ([] : List Addr) from z) List.not_mem_nil) (by simp)
    | some u =>
      have eu := at' b u q
      subst eu
      obtain ⟨e1, _⟩ := hok b _ q
      obtain ⟨e2, _⟩ := hok' b _ (un.frzs b _ _ q)
      rw [e] at e1
      cases e1
      exact e2
theorem walkG {l : PySem.W.OpenLaw} {n k : Nat} {q : Program} {loose : List Str} {XP : (Str → Option Value) → Heap → Prop} {YP : World → Heap → Prop} {d : DefRec} {K : Params → PySem.W.Frag} {sp : World → Sp} {x : Str} (hn : l.most = some n) (hn2 : n ≤ sizeLine)
    (hdf : d.params.defaults = []) (hr : RoomG k callerA) (hY : ∀ (w : World) (h : Heap), YP w h → (K w.params).In h)
    (F : ∀ (w : World) (mg : Str → Option Value) (fa : Addr) (h : Heap), (K w.params).In h → h.Ns mainGlobals mg → mg d.name = some (.ref fa) →
      ∃ fd : FuncData, (∀ (s : Shared) (u : Value), BindsTo s fd ⟨[u], []⟩ [(x, u)]) ∧ ∀ base : Heap, (K w.params).In base → base.Ns mainGlobals mg → FnG l.prog w (K w.params) mg base (L2.CX l.prog w) k fa fd [x] (sp w))
    (hsp : ∀ (w : World) (H : Hp) (a : Addr) (ns : List Int), ns.length ≤ n → SqR (K w.params) H a (ns.map V.int) → sp w [.ref a] H (fun v _ => v = .bl true) fun _ _ _ => False) :
    PySem.W.WalkO q loose XP YP l.row.toRowW d [] (fun f vs => PySem.call f vs) := by
  refine Att.attach_call hn hdf fun w s₀ t mg mb fa o pm cd doc a vs ns G Y ho hd hcd hmg hobj hints hlen hg => ?_
  have kx := hY w _ Y
  obtain ⟨fd, bd, ff⟩ := F w mg fa _ kx G.T.g hmg
  exact law_callG kx G.T.g G.T.b G.T.builtins G.T.nolimit hg hobj hints (Nat.le_trans hlen hn2) hr ff bd fun H z => hsp w H a ns hlen z
/-- the law's promise from its clean run -/
theorem law_sp {K : PySem.W.Frag} {cad : Nat → Addr} {run : List Vl → Gh → Res Vl} {n : Nat} (clean : ∀ ns : List Int, ns.length ≤ n → ∃ g, run [.rol (ns.map Vl.int)] [] = .ok (.bl true) g) (H : Hp) (a : Addr) (ns : List Int) (hl : ns.length ≤ n) (h : SqR K H a (ns.map V.int)) :
    spR ⟨K, cad⟩ 1 run [.ref a] H (fun v _ => v = .bl true) fun _ _ _ => False := by
  obtain ⟨g, e⟩ := clean ns hl
  refine ⟨rfl, ⟨fun _ => False, H⟩, [], [], [.rol (ns.map Vl.int)], ⟨rfl, fun i j a h => by simp at h, fun n a o h => by simp at h, fun n a h => by simp at h, fun a o h => h, fun a h => h.elim, fun n a h => by simp at h⟩, .cons (.rol h (VRs.ints ns)) .nil, ?_⟩
  rw [e]
  intro β' H' v S l r
  cases r
  rfl
end CS

set_option Elab.async false
set_option linter.all false
namespace CS
open PySem L2

/-! ### clean programs, evaluated -/
section
variable {α β γ : Type} {g : Gh} {ρ : Env}
@[simp] theorem bind_ok (a : α) (f : α → Gh → Res β) : (Res.ok a g).bind f = f a g := (rfl)
@[simp] theorem bind_exc (e : Xn) (f : α → Gh → Res β) : (Res.exc e g).bind f = .exc e g := (rfl)
@[simp] theorem bind_stuck (f : α → Gh → Res β) : (Res.stuck).bind f = .stuck := (rfl)
@[simp] theorem lift_ok (a : α) (f : α → Gh → SR) : (Res.ok a g).lift ρ f = f a g := (rfl)
@[simp] theorem lift_exc (e : Xn) (f : α → Gh → SR) : (Res.exc e g).lift ρ f = .exc e ρ g := (rfl)
theorem mVar_eq (i : Nat) : mVar i ρ g = match ρ[i]? with | some (some v) => .ok v g | _ => .stuck := (rfl)
theorem mC_eq (v : Vl) : mC v ρ g = .ok v g := (rfl)
theorem mOp_eq (f : Vl → Vl → Gh → Res Vl) (a b : ME) : mOp f a b ρ g = (a ρ g).bind fun v g1 => (b ρ g1).bind fun w g2 => f v w g2 := (rfl)
theorem mUn_eq (f : Vl → Gh → Res Vl) (a : ME) : mUn f a ρ g = (a ρ g).bind fun v g1 => f v g1 := (rfl)
theorem mNil_eq : mNil ρ g = .ok [] g := (rfl)
theorem mCons_eq (a : ME) (r : MA) : mCons a r ρ g = (a ρ g).bind fun v g1 => (r ρ g1).bind fun vs g2 => .ok (v :: vs) g2 := (rfl)
theorem mArgs_eq (f : List Vl → Gh → Res Vl) (a : MA) : mArgs f a ρ g = (a ρ g).bind f := (rfl)
theorem mAnd_eq (a b : ME) : mAnd a b ρ g = (a ρ g).bind fun v g1 => match v with | .bl true => b ρ g1 | .bl false => .ok (.bl false) g1 | _ => .stuck := (rfl)
theorem mOr_eq (a b : ME) : mOr a b ρ g = (a ρ g).bind fun v g1 => match v with | .bl false => b ρ g1 | .bl true => .ok (.bl true) g1 | _ => .stuck := (rfl)
theorem mT_eq (a : ME) : mT a ρ g = (a ρ g).bind fun v g1 => match v with | .bl b => .ok b g1 | _ => .stuck := (rfl)
theorem tnNot_eq (t : MT) : tnNot t ρ g = (t ρ g).bind fun c g1 => .ok (!c) g1 := (rfl)
theorem tnAnd_eq (t u : MT) : tnAnd t u ρ g = (t ρ g).bind fun c g1 => if c then u ρ g1 else .ok false g1 := (rfl)
theorem tnOr_eq (t u : MT) : tnOr t u ρ g = (t ρ g).bind fun c g1 => if c then .ok true g1 else u ρ g1 := (rfl)
theorem mIf_eq (t : MT) (a b : ME) : mIf t a b ρ g = (t ρ g).bind fun c g1 => if c then a ρ g1 else b ρ g1 := (rfl)
theorem mNoPart_eq : mNoPart ρ g = .ok none g := (rfl)
theorem mPart_eq (a : ME) : mPart a ρ g = (a ρ g).bind fun v g1 => match v with | .int i => .ok (some i) g1 | _ => .stuck := (rfl)
theorem mSl_eq (f : Vl → Option Int → Option Int → Gh → Res Vl) (a : ME) (l h : MO) : mSl f a l h ρ g = (a ρ g).bind fun v g1 => (l ρ g1).bind fun i g2 => (h ρ g2).bind fun j g3 => f v i j g3 := (rfl)
theorem mChain_eq (f f' : Vl → Vl → Gh → Res Vl) (a b c : ME) : mChain f f' a b c ρ g = (a ρ g).bind fun v g1 => (b ρ g1).bind fun w g2 => (f v w g2).bind fun z g3 => match z with
  | .bl true => (c ρ g3).bind fun u g4 => f' w u g4
  | .bl false => .ok (.bl false) g3
  | _ => .stuck := (rfl)
theorem mIsi_eq (k : TK) (a : ME) : mIsi k a ρ g = (a ρ g).bind fun v g1 => match isK k v g1 with | some b => .ok (.bl b) g1 | none => .stuck := (rfl)
theorem mBm_eq (k : TK) (f : Vl → List Vl → Gh → Res Vl) (o : ME) (a : MA) : mBm k f o a ρ g = (o ρ g).bind fun v g1 => if tyC k g1 v then (a ρ g1).bind fun vs g2 => f v vs g2 else .stuck := (rfl)
theorem mNext_eq : mNext ρ g = .nx ρ g := (rfl)
def SR.andThen (r : SR) (b : MS) : SR := match r with | .nx ρ' g' => b ρ' g' | r => r
theorem mSeq_eq (a b : MS) : mSeq a b ρ g = (a ρ g).andThen b := (rfl)
theorem then_nx (b : MS) : (SR.nx ρ g).andThen b = b ρ g := (rfl)
theorem then_rt (v : Vl) (b : MS) : (SR.rt v g).andThen b = .rt v g := (rfl)
def brS (r : Res Bool) (ρ : Env) (a b : MS) : SR := r.lift ρ fun c g1 => if c then a ρ g1 else b ρ g1
theorem br_true (a b : MS) : brS (.ok true g) ρ a b = a ρ g := (rfl)
theorem br_false (a b : MS) : brS (.ok false g) ρ a b = b ρ g := (rfl)
theorem mPut_eq (i : Nat) (m : ME) : mPut i m ρ g = (m ρ g).lift ρ fun v g1 => .nx (ρ.set i (some v)) g1 := (rfl)
theorem mDrop_eq (m : ME) : mDrop m ρ g = (m ρ g).lift ρ fun _ g1 => .nx ρ g1 := (rfl)
theorem mRet_eq (m : ME) : mRet m ρ g = (m ρ g).lift ρ fun v g1 => .rt v g1 := (rfl)
theorem mRetN_eq : mRetN ρ g = .rt .non g := (rfl)
theorem mIfS_eq (t : MT) (a b : MS) : mIfS t a b ρ g = brS (t ρ g) ρ a b := (rfl)
theorem mAsg_eq (t : MG) (m : ME) : mAsg t m ρ g = (m ρ g).lift ρ fun v g1 => t v ρ g1 := (rfl)
theorem gtName_eq (i : Nat) (v : Vl) : gtName i v ρ g = .nx (ρ.set i (some v)) g := (rfl)
theorem gtTup_eq (t : MGs) (xs : List Vl) : gtTup t (.tup xs) ρ g = t xs ρ g := (rfl)
theorem gtNil_eq : gtNil [] ρ g = .nx ρ g := (rfl)
theorem gtCons_eq (t : MG) (r : MGs) (v : Vl) (vs : List Vl) : gtCons t r (v :: vs) ρ g = mSeq (t v) (r vs) ρ g := (rfl)
theorem mFor_eq (it : MI) (t : MG) (b : MS) : mFor it t b ρ g = (it ρ g).lift ρ fun p g1 => forF t b p.2 p.1 ρ g1 := (rfl)
theorem mIter_eq (a : ME) : mIter a ρ g = (a ρ g).bind iterM := (rfl)
theorem mRange1_eq (a : ME) : mRange1 a ρ g = (a ρ g).bind fun v g1 => rangeM [v] g1 := (rfl)
theorem mRange2_eq (a b : ME) : mRange2 a b ρ g = (a ρ g).bind fun v g1 => (b ρ g1).bind fun w g2 => rangeM [v, w] g2 := (rfl)
theorem mEnum_eq (a : ME) : mEnum a ρ g = (a ρ g).bind fun v g1 => enumM [v] g1 := (rfl)
theorem mZip_eq (a b : ME) : mZip a b ρ g = (a ρ g).bind fun v g1 => (b ρ g1).bind fun w g2 => zipM [v, w] g2 := (rfl)
theorem mComp_eq (mk : List Vl → Gh → Res Vl) (it : MI) (own : List Nat) (t : MG) (c : MT) (e : ME) : mComp mk it own t c e ρ g = (it ρ g).bind fun p g1 => (compF t c e p.2 (wipeC ρ own) p.1 g1).bind mk := (rfl)
theorem gtSub_eq (mo mi : ME) (v : Vl) : gtSub mo mi v ρ g = (mo ρ g).lift ρ fun o g1 => (mi ρ g1).lift ρ fun i g2 => setLM o i v ρ g2 := (rfl)
theorem mAug_eq (f : Int → Int → Int) (i : Nat) (m : ME) : mAug f i m ρ g = match ρ[i]? with
  | some (some (.int x)) => (m ρ g).lift ρ fun v g1 => match v with | .int y => .nx (ρ.set i (some (.int (f x y)))) g1 | _ => .stuck
  | _ => .stuck := (rfl)
theorem mFrz_eq (i : Nat) : mFrz i ρ g = match ρ[i]? with
  | some (some (.ref n)) => match g[n]? with
    | some (.lst xs) => .nx (ρ.set i (some (.lst xs))) (g.set n .dead)
    | _ => .stuck
  | _ => .stuck := (rfl)
theorem mYes_eq : mYes ρ g = .ok true g := (rfl)
theorem mBreak_eq : mBreak ρ g = .bk ρ g := (rfl)
theorem mCont_eq : mCont ρ g = .ct ρ g := (rfl)
-- operators on ints
theorem add_int (b : Bool) (i j : Int) : oAdd b (.int i) (.int j) g = .ok (.int (i + j)) g := (rfl)
theorem sub_int (i j : Int) : oSub (.int i) (.int j) g = .ok (.int (i - j)) g := (rfl)
theorem mul_int (b : Bool) (i j : Int) (h : CMul i j) : oMul b (.int i) (.int j) g = .ok (.int (i * j)) g := if_pos h
theorem mul_l (b : Bool) (i j : Int) (h1 : -18446744073709551616 < i) (h2 : i < 18446744073709551616) : oMul b (.int i) (.int j) g = .ok (.int (i * j)) g := mul_int b i j (.inl ⟨by omega, by omega⟩)
theorem mul_r (b : Bool) (i j : Int) (h1 : -18446744073709551616 < j) (h2 : j < 18446744073709551616) : oMul b (.int i) (.int j) g = .ok (.int (i * j)) g := mul_int b i j (.inr ⟨by omega, by omega⟩)
theorem div_int (i j : Int) (h : 0 < j) (h2 : j < 1073741824) : oDiv (.int i) (.int j) g = .ok (.int (i / j)) g := if_pos ⟨h, h2⟩
theorem mod_int (i j : Int) (h : 0 < j) : oMod (.int i) (.int j) g = .ok (.int (i % j)) g := if_pos h
theorem lt_int (i j : Int) : cLt (.int i) (.int j) g = .ok (.bl (decide (i < j))) g := (rfl)
theorem le_int (i j : Int) : cLe (.int i) (.int j) g = .ok (.bl (decide (i ≤ j))) g := (rfl)
theorem gt_int (i j : Int) : cGt (.int i) (.int j) g = .ok (.bl (decide (j < i))) g := (rfl)
theorem ge_int (i j : Int) : cGe (.int i) (.int j) g = .ok (.bl (decide (j ≤ i))) g := (rfl)
theorem eq_int (i j : Int) : cEq (.int i) (.int j) g = .ok (.bl (decide (i = j))) g := (rfl)
theorem ne_int (i j : Int) : cNe (.int i) (.int j) g = .ok (.bl (!decide (i = j))) g := (rfl)
theorem eq_str (i j : Str) : cEq (.str i) (.str j) g = .ok (.bl (decide (i = j))) g := (rfl)
theorem isN_eq (v : Vl) : cIsN v .non g = .ok (.bl (isNon v)) g := (rfl)
theorem notN_eq (v : Vl) : cNotN v .non g = .ok (.bl (!isNon v)) g := (rfl)
theorem min_int (i j : Int) : bMin [.int i, .int j] g = .ok (.int (min i j)) g := (rfl)
theorem max_int (i j : Int) : bMax [.int i, .int j] g = .ok (.int (max i j)) g := (rfl)
theorem int_int (i : Int) : bInt [.int i] g = .ok (.int i) g := (rfl)
theorem int_bl (b : Bool) : bInt [.bl b] g = .ok (.int (if b then 1 else 0)) g := (rfl)
end

/-! ### loops by what holds -/
theorem forF_inv {t : MG} {b : MS} {src : Option (Nat × List Vl)} (P : Nat → Env → Gh → Prop) : ∀ (xs : List Vl) (k : Nat) (ρ : Env) (g : Gh), (∀ i ρ g, P i ρ g → srcOk src g) → P k ρ g →
    (∀ i v ρ g, k ≤ i → xs[i - k]? = some v → P i ρ g → ∃ ρ1 g1, t v ρ g = .nx ρ1 g1 ∧ ∃ ρ2 g2, b ρ1 g1 = .nx ρ2 g2 ∧ P (i + 1) ρ2 g2) → ∃ ρ' g', forF t b src xs ρ g = .nx ρ' g' ∧ P (k + xs.length) ρ' g'
  | [], k, ρ, g, hs, h0, _ => ⟨ρ, g, by simp only [forF]; rw [if_pos (hs k ρ g h0)], h0⟩
  | v :: vs, k, ρ, g, hs, h0, st => by
    obtain ⟨ρ1, g1, e1, ρ2, g2, e2, h2⟩ := st k v ρ g (Nat.le_refl _) (by simp) h0
    obtain ⟨ρ', g', e3, h3⟩ := forF_inv P vs (k + 1) ρ2 g2 hs h2 fun i w ρ g hi hw hp => st i w ρ g (by omega) (by
      rw [show i - k = (i - (k + 1)) + 1 by omega]
      simpa using hw) hp
    refine ⟨ρ', g', ?_, ?_⟩
    · simp only [forF]
      rw [if_pos (hs k ρ g h0), e1]
      dsimp only
      rw [e2]
      exact e3
    · rw [List.length_cons, show k + (vs.length + 1) = k + 1 + vs.length by omega]
      exact h3
/-- over a list that stands by itself -/
theorem for_inv {t : MG} {b : MS} {xs : List Vl} {ρ : Env} {g : Gh} (P : Nat → Env → Gh → Prop) (h0 : P 0 ρ g)
    (st : ∀ i v ρ g, xs[i]? = some v → P i ρ g → ∃ ρ1 g1, t v ρ g = .nx ρ1 g1 ∧ ∃ ρ2 g2, b ρ1 g1 = .nx ρ2 g2 ∧ P (i + 1) ρ2 g2) : ∃ ρ' g', forF t b none xs ρ g = .nx ρ' g' ∧ P xs.length ρ' g' := by
  have := forF_inv (src := none) P xs 0 ρ g (fun _ _ _ _ => trivial) h0 (fun i v ρ g _ hv hp => st i v ρ g (by simpa using hv) hp)
  simpa using this
/-- a comprehension whose parts make nothing that changes -/
theorem comp_pure {t : MG} {e : ME} {ρ : Env} {g : Gh} {src : Option (Nat × List Vl)} (R : Vl → Vl → Prop) (hs : srcOk src g) : ∀ xs : List Vl, (∀ v ∈ xs, ∃ ρ1 y, t v ρ g = .nx ρ1 g ∧ e ρ1 g = .ok y g ∧ R v y) → ∃ ys, compF t mYes e src ρ xs g = .ok ys g ∧ ys.length = xs.length ∧ ∀ y ∈ ys, ∃ v ∈ xs, R v y
  | [], _ => ⟨[], by simp only [compF]; rw [if_pos hs], rfl, by simp⟩
  | v :: vs, h => by
    obtain ⟨ρ1, y, e1, e2, r⟩ := h v List.mem_cons_self
    obtain ⟨ys, e3, hl, hr⟩ := comp_pure R hs vs fun w hw => h w (List.mem_cons_of_mem _ hw)
    refine ⟨y :: ys, ?_, by simp [hl], fun z hz => ?_⟩
    · simp only [compF]
      rw [if_pos hs, e1]
      dsimp only [mYes]
      rw [e2]
      dsimp only
      rw [e3]
      rfl
    · rcases List.mem_cons.mp hz with rfl | hz
      · exact ⟨v, List.mem_cons_self, r⟩
      · obtain ⟨w, hw, q⟩ := hr z hz
        exact ⟨w, List.mem_cons_of_mem _ hw, q⟩
theorem rangeL_mem {lo : Int} {n : Nat} {v : Vl} : v ∈ rangeL lo n ↔ ∃ i : Nat, i < n ∧ v = .int (lo + (i : Int)) := by
  unfold rangeL
  rw [List.mem_map]
  constructor
  · rintro ⟨i, h, rfl⟩
    exact ⟨i, List.mem_range.mp h, rfl⟩
  · rintro ⟨i, h, rfl⟩
    exact ⟨i, List.mem_range.mpr h, rfl⟩
theorem rangeL_len {lo : Int} {n : Nat} : (rangeL lo n).length = n := by simp [rangeL]
theorem range1_eq {j : Int} {g : Gh} (h : j < 4611686018427387904) (h2 : -4611686018427387904 ≤ j) : rangeM [.int j] g = .ok (rangeL 0 j.toNat, none) g := if_pos ⟨by omega, by omega⟩
theorem range2_eq {i j : Int} {g : Gh} (h : j < 4611686018427387904) (h2 : -4611686018427387904 ≤ j) (h3 : i < 4611686018427387904) (h4 : -4611686018427387904 ≤ i) : rangeM [.int i, .int j] g = .ok (rangeL i (j - i).toNat, none) g := if_pos ⟨by omega, by omega, by omega, by omega⟩
theorem atI_nat {α : Type} {xs : List α} {i : Int} {k : Nat} (hi : i = (k : Int)) (h : k < xs.length) : atI xs i = some xs[k] := by
  subst hi
  unfold atI ixN
  rw [if_pos (by omega), if_pos (by omega)]
  simp [h]
theorem ix_lst {xs : List Vl} {i : Int} {g : Gh} {y : Vl} (h : atI xs i = some y) : ixM (.lst xs) (.int i) g = .ok y g := by
  simp only [ixM, asS, asL, Option.map, h]
theorem ix_rol {xs : List Vl} {i : Int} {g : Gh} {y : Vl} (h : atI xs i = some y) : ixM (.rol xs) (.int i) g = .ok y g := by
  simp only [ixM, asS, asL, Option.map, h]
theorem ix_tup {xs : List Vl} {i : Int} {g : Gh} {y : Vl} (h : atI xs i = some y) : ixM (.tup xs) (.int i) g = .ok y g := by
  simp only [ixM, asS, h]
theorem ix_ref {xs : List Vl} {i : Int} {g : Gh} {y : Vl} {n : Nat} (hg : g[n]? = some (.lst xs)) (h : atI xs i = some y) : ixM (.ref n) (.int i) g = .ok y g := by
  simp only [ixM, asS, asL, hg, Option.map, h]
theorem len_lst {xs : List Vl} {g : Gh} : bLen [.lst xs] g = .ok (.int xs.length) g := (rfl)
theorem len_rol {xs : List Vl} {g : Gh} : bLen [.rol xs] g = .ok (.int xs.length) g := (rfl)
theorem len_tup {xs : List Vl} {g : Gh} : bLen [.tup xs] g = .ok (.int xs.length) g := (rfl)
theorem len_ref {xs : List Vl} {g : Gh} {n : Nat} (hg : g[n]? = some (.lst xs)) : bLen [.ref n] g = .ok (.int xs.length) g := by
  simp only [bLen, asS, asL, hg, Option.map]
theorem tupM_eq {xs : List Vl} {g : Gh} (h : xs.length ≤ 16777216) : tupM xs g = .ok (.tup xs) g := if_pos h
theorem lstM_eq {xs : List Vl} {g : Gh} (h : xs.length ≤ 16777216) : lstM xs g = .ok (.lst xs) g := if_pos h
theorem newM_eq {xs : List Vl} {g : Gh} (h : xs.length ≤ 16777216) : newM xs g = .ok (.ref g.length) (g ++ [.lst xs]) := if_pos h
theorem run_ret {n : Nat} {m : MS} {ds : List Vl} {g g' : Gh} {v : Vl} (h : m (startC n ds) g = .rt v g') : runOf n m ds g = .ok v g' := by
  simp only [runOf, h]
theorem run_nx {n : Nat} {m : MS} {ds : List Vl} {g g' : Gh} {ρ : Env} (h : m (startC n ds) g = .nx ρ g') : runOf n m ds g = .ok .non g' := by
  simp only [runOf, h]
theorem pure_eq {run : List Vl → Gh → Res Vl} {ds : List Vl} {g g' : Gh} {v : Vl} (h : run ds [] = .ok v g') (h1 : noRefs ds = true) (h2 : noRef v = true) : pureM run ds g = .ok v g := by
  simp only [pureM, h1, h, h2, if_true]
theorem then_of {r : SR} {ρ : Env} {g : Gh} {b : MS} {q : SR} (h : r = .nx ρ g) (h2 : b ρ g = q) : r.andThen b = q := by rw [h]; exact h2
theorem app_ref {xs : List Vl} {n : Nat} {y : Vl} {g : Gh} (hg : g[n]? = some (.lst xs)) (h : xs.length < 16777216) : mtAppend (.ref n) [y] g = .ok .non (g.set n (.lst (xs ++ [y]))) := by
  simp only [mtAppend, chL, ourL, hg]
  rw [if_pos (show xs.length < sizeLine from h)]
theorem tyC_ref {xs : List Vl} {n : Nat} {g : Gh} (hg : g[n]? = some (.lst xs)) : tyC .list g (.ref n) = true := by
  simp only [tyC, asL, hg, Option.isSome]
theorem list_fz {v : Vl} {xs : List Vl} {g : Gh} (h : asS g v = some xs) (hl : xs.length ≤ 16777216) : bList true [v] g = .ok (.lst xs) g := by
  simp only [bList, h, mkL, if_true]
  exact if_pos hl
theorem list_new {v : Vl} {xs : List Vl} {g : Gh} (h : asS g v = some xs) (hl : xs.length ≤ 16777216) : bList false [v] g = .ok (.ref g.length) (g ++ [.lst xs]) := by
  simp only [bList, h, mkL]
  exact if_pos hl
theorem mul_ite {b c : Bool} {i : Int} {g : Gh} : oMul b (.int i) (.int (if c = true then 1 else 0)) g = .ok (.int (i * if c = true then 1 else 0)) g := by
  cases c
  · exact mul_r _ _ _ (by decide) (by decide)
  · exact mul_r _ _ _ (by decide) (by decide)
theorem iter_lst {xs : List Vl} {g : Gh} : iterM (.lst xs) g = .ok (xs, none) g := (rfl)
theorem iter_rol {xs : List Vl} {g : Gh} : iterM (.rol xs) g = .ok (xs, none) g := (rfl)
theorem iter_tup {xs : List Vl} {g : Gh} : iterM (.tup xs) g = .ok (xs, none) g := (rfl)
theorem iter_ref {xs : List Vl} {g : Gh} {n : Nat} (hg : g[n]? = some (.lst xs)) : iterM (.ref n) g = .ok (xs, some (n, xs)) g := by
  simp only [iterM, asL, hg]
theorem add_lst {xs ys : List Vl} {g : Gh} (h : xs.length + ys.length ≤ 16777216) : oAdd true (.lst xs) (.lst ys) g = .ok (.lst (xs ++ ys)) g := by
  show lstM (xs ++ ys) g = _
  exact lstM_eq (by simpa using h)
theorem add_lst_ref {xs ys : List Vl} {g : Gh} {n : Nat} (hg : g[n]? = some (.lst ys)) (h : xs.length + ys.length ≤ 16777216) : oAdd true (.lst xs) (.ref n) g = .ok (.lst (xs ++ ys)) g := by
  have e : asT g (.ref n) = some ys := by simp only [asT, hg]
  show (match asT g (.lst xs), asT g (.ref n) with | some xs, some ys => mkL true (xs ++ ys) g | _, _ => .stuck) = _
  rw [e]
  exact lstM_eq (by simpa using h)
theorem add_tup {b : Bool} {xs ys : List Vl} {g : Gh} (h : xs.length + ys.length ≤ 16777216) : oAdd b (.tup xs) (.tup ys) g = .ok (.tup (xs ++ ys)) g := if_pos h
theorem add_str {b : Bool} {s t : Str} {g : Gh} (h : s.length + t.length ≤ 16777216) : oAdd b (.str s) (.str t) g = .ok (.str (s ++ t)) g := if_pos h
theorem cut_take {α : Type} (xs : List α) (k : Nat) : cutC xs none (some (k : Int)) = xs.take k := by
  simp only [cutC, HT.sIx_none, HT.sIx_nat, List.drop_zero, Nat.sub_zero]
  by_cases h : k ≤ xs.length
  · rw [Nat.min_eq_left h]
  · rw [Nat.min_eq_right (by omega), List.take_of_length_le (Nat.le_refl _), List.take_of_length_le (by omega)]
theorem sl_rol {xs : List Vl} {g : Gh} (k : Nat) (h : xs.length ≤ 16777216) : slM true (.rol xs) none (some (k : Int)) g = .ok (.lst (xs.take k)) g := by
  show lstM (cutC xs none (some (k : Int))) g = _
  rw [cut_take]
  exact lstM_eq (by rw [List.length_take]; omega)
theorem sl_tup {b : Bool} {xs : List Vl} {g : Gh} (k : Nat) : slM b (.tup xs) none (some (k : Int)) g = .ok (.tup (xs.take k)) g := by
  show Res.ok (Vl.tup (cutC xs none (some (k : Int)))) g = _
  rw [cut_take]
theorem intsOf_map (ns : List Int) : intsOf (ns.map Vl.int) = some ns := by
  induction ns with
  | nil => rfl
  | cons n ns ih => simp [intsOf, ih]
theorem sum_lst {ns : List Int} {g : Gh} : bSum [.lst (ns.map Vl.int)] g = .ok (.int ns.sum) g := by
  simp only [bSum, asL, intsOf_map]
/-! texts that may be shown -/
theorem strOk_append (s t : Str) : PyData.strOk (s ++ t) = (PyData.strOk s && PyData.strOk t) := by
  unfold PyData.strOk
  rw [Str.cps_append, Array.all_append]
theorem strOk_cut {s : Str} {a b : Option Int} (h : PyData.strOk s = true) : PyData.strOk (cutS s a b) = true := by
  unfold PyData.strOk cutS at *
  simp only [Array.all_eq_true_iff_forall_mem, decide_eq_true_eq] at h ⊢
  intro c hc
  refine h c ?_
  have hc : c ∈ (List.take (HT.sIx s.length s.length b - HT.sIx s.length 0 a) (List.drop (HT.sIx s.length 0 a) s.cps.toList)) := by simpa using hc
  have := List.mem_of_mem_drop (List.mem_of_mem_take hc)
  simpa using this
theorem cut_len {s : Str} {a b : Option Int} : (cutS s a b).length ≤ s.length := by
  have : (cutS s a b).length = (List.take (HT.sIx s.length s.length b - HT.sIx s.length 0 a) (List.drop (HT.sIx s.length 0 a) s.cps.toList)).length := by
    show (List.toArray _).size = _
    simp [cutS]
  rw [this]
  have h1 : s.cps.toList.length = s.length := by show _ = s.cps.size; simp
  rw [List.length_take, List.length_drop, h1]
  omega
theorem sl_str {b : Bool} {s : Str} {g : Gh} {o : Option Int} (h : s.length ≤ 16777216) : slM b (.str s) none o g = .ok (.str (cutS s none o)) g := if_pos h
theorem ix_str {s : Str} {i : Int} {g : Gh} {c : Nat} (hl : s.length ≤ 16777216) (h : atI s.cps.toList i = some c) : ixM (.str s) (.int i) g = .ok (.str ⟨#[c]⟩) g := by
  simp only [ixM, asS, asL, Option.map]
  rw [if_pos (show s.length ≤ sizeLine from hl)]
  simp only [h]
theorem while_step {t : MT} {b : MS} {ρ ρ' : Env} {g g1 g' : Gh} (ht : t ρ g = .ok true g1) (hb : b ρ g1 = .nx ρ' g') : mWhile t b ρ g = mWhile t b ρ' g' := by
  rw [mWhile_eq, ht]
  simp only [lift_ok, if_true, hb]
theorem while_end {t : MT} {b : MS} {ρ : Env} {g g1 : Gh} (ht : t ρ g = .ok false g1) : mWhile t b ρ g = .nx ρ g1 := by
  rw [mWhile_eq, ht]
  simp only [lift_ok, Bool.false_eq_true, if_false]
theorem lstM_nil {g : Gh} : lstM [] g = .ok (.lst []) g := if_pos (Nat.zero_le _)
theorem newM_nil {g : Gh} : newM [] g = .ok (.ref g.length) (g ++ [.lst []]) := if_pos (Nat.zero_le _)
/-! our lists in a heap that stands written -/
theorem app_at {n : Nat} {y : Vl} {g : Gh} : mtAppend (.ref n) [y] g = (match g[n]? with | some (.lst xs) => (if xs.length < 16777216 then .ok .non (g.set n (.lst (xs ++ [y]))) else .stuck) | _ => .stuck) := by
  simp only [mtAppend, chL, ourL]
  cases h : g[n]? with
  | none => rfl
  | some o =>
    cases o with
    | lst xs =>
      dsimp only
      by_cases z : xs.length < 16777216
      · rw [if_pos z, if_pos (show xs.length < sizeLine from z)]
      · rw [if_neg z, if_neg (show ¬ xs.length < sizeLine from z)]
    | _ => rfl
theorem ty_at {n : Nat} {g : Gh} : tyC .list g (.ref n) = (match g[n]? with | some (.lst xs) => true | _ => false) := by
  simp only [tyC, asL]
  cases h : g[n]? with
  | none => rfl
  | some o => cases o <;> rfl
theorem ixr_at {n : Nat} {i : Int} {g : Gh} : ixM (.ref n) (.int i) g = (match g[n]? with | some (.lst xs) => (match atI xs i with | some y => .ok y g | none => .stuck) | _ => .stuck) := by
  simp only [ixM, asS, asL]
  cases h : g[n]? with
  | none => rfl
  | some o => cases o <;> rfl
theorem lenr_at {n : Nat} {g : Gh} : bLen [.ref n] g = (match g[n]? with | some (.lst xs) => .ok (.int xs.length) g | _ => .stuck) := by
  simp only [bLen, asS, asL]
  cases h : g[n]? with
  | none => rfl
  | some o => cases o <;> rfl
theorem ite_len {α : Type} {a b : α} {xs : List Vl} (h : xs.length < 16777216) : (if xs.length < 16777216 then a else b) = a := if_pos h
end CS

set_option Elab.async false
set_option linter.all false
set_option maxRecDepth 100000
namespace CS
open PySem L2

/-! ### fixed data as data: what repr and == tell of it -/
mutual
def py : Vl → PyData
  | .non => .none
  | .bl b => .bool b
  | .int i => .int i
  | .str s => .str s
  | .tup xs => .tuple (pys xs)
  | .lst xs => .list (pys xs)
  | .rol xs => .list (pys xs)
  | .ref _ => .none
def pys : List Vl → List PyData
  | [] => []
  | x :: xs => py x :: pys xs
end
mutual
def fine : Vl → Bool
  | .non => true
  | .bl _ => true
  | .int i => decide (i.natAbs < 2 ^ 64)
  | .str s => PyData.strOk s && decide (s.length ≤ 1000)
  | .tup xs => fines xs
  | .lst xs => fines xs
  | .rol _ => false
  | .ref _ => false
def fines : List Vl → Bool
  | [] => true
  | x :: xs => fine x && fines xs
end
mutual
def wt : Vl → Nat
  | .str s => 10 * s.length + 2
  | .tup xs => 3 + wts xs
  | .lst xs => 2 + wts xs
  | _ => 21
def wts : List Vl → Nat
  | [] => 0
  | x :: xs => wt x + 2 + wts xs
end
mutual
def dpt : Vl → Nat
  | .tup xs => dpts xs + 1
  | .lst xs => dpts xs + 1
  | _ => 0
def dpts : List Vl → Nat
  | [] => 0
  | x :: xs => max (dpt x) (dpts xs)
end
theorem fines_cons {x : Vl} {xs : List Vl} : fines (x :: xs) = true ↔ fine x = true ∧ fines xs = true := by simp [fines]
theorem fines_append : ∀ {xs ys : List Vl}, fines (xs ++ ys) = true ↔ fines xs = true ∧ fines ys = true
  | [], ys => by simp [fines]
  | x :: xs, ys => by
    rw [List.cons_append, fines_cons, fines_cons, fines_append, and_assoc]
theorem fines_all {xs : List Vl} : fines xs = true ↔ ∀ x ∈ xs, fine x = true := by
  induction xs with
  | nil => simp [fines]
  | cons x xs ih => rw [fines_cons, ih]; simp
theorem wts_append : ∀ {xs ys : List Vl}, wts (xs ++ ys) = wts xs + wts ys
  | [], ys => by simp [wts]
  | x :: xs, ys => by simp only [List.cons_append, wts, wts_append]; omega
theorem wts_le {xs : List Vl} {b : Nat} (h : ∀ x ∈ xs, wt x ≤ b) : wts xs ≤ xs.length * (b + 2) := by
  induction xs with
  | nil => simp [wts]
  | cons x xs ih =>
    have h1 := h x List.mem_cons_self
    have h2 := ih fun y hy => h y (List.mem_cons_of_mem _ hy)
    simp only [wts, List.length_cons, Nat.add_mul]
    omega
theorem dpts_le {xs : List Vl} {b : Nat} : dpts xs ≤ b ↔ ∀ x ∈ xs, dpt x ≤ b := by
  induction xs with
  | nil => simp [dpts]
  | cons x xs ih => simp [dpts, Nat.max_le, ih]
mutual
theorem fine_noRef : ∀ v : Vl, fine v = true → noRef v = true
  | .non, _ => rfl
  | .bl _, _ => rfl
  | .int _, _ => rfl
  | .str _, _ => rfl
  | .tup xs, h => fines_noRef xs h
  | .lst xs, h => fines_noRef xs h
  | .rol _, h => by cases h
  | .ref _, h => by cases h
theorem fines_noRef : ∀ xs : List Vl, fines xs = true → noRefs xs = true
  | [], _ => rfl
  | x :: xs, h => by
    obtain ⟨h1, h2⟩ := fines_cons.mp h
    simp [noRefs, fine_noRef x h1, fines_noRef xs h2]
end
mutual
theorem snap_fine : ∀ (v : Vl) (n : Nat) (g : Gh), fine v = true → dpt v ≤ n → snap n g v = some (py v)
  | .non, n, g, _, _ => by cases n <;> simp only [snap, py]
  | .bl _, n, g, _, _ => by cases n <;> simp only [snap, py]
  | .int _, n, g, _, _ => by cases n <;> simp only [snap, py]
  | .str _, n, g, _, _ => by cases n <;> simp only [snap, py]
  | .tup xs, n, g, h, hd => by
    cases n with
    | zero => simp [dpt] at hd
    | succ n =>
      simp only [snap, py]
      rw [snaps_fine xs n g h (by simp only [dpt] at hd; omega)]
      rfl
  | .lst xs, n, g, h, hd => by
    cases n with
    | zero => simp [dpt] at hd
    | succ n =>
      simp only [snap, py]
      rw [snaps_fine xs n g h (by simp only [dpt] at hd; omega)]
      rfl
  | .rol _, _, _, h, _ => by cases h
  | .ref _, _, _, h, _ => by cases h
theorem snaps_fine : ∀ (xs : List Vl) (n : Nat) (g : Gh), fines xs = true → dpts xs ≤ n → snaps n g xs = some (pys xs)
  | [], n, g, _, _ => by simp only [snaps, pys]
  | x :: xs, n, g, h, hd => by
    obtain ⟨h1, h2⟩ := fines_cons.mp h
    have hd' : max (dpt x) (dpts xs) ≤ n := hd
    simp only [snaps, pys]
    rw [snap_fine x n g h1 (by omega), snaps_fine xs n g h2 (by omega)]
end
mutual
theorem py_lay : ∀ v : Vl, fine v = true → (py v).canLay0 = true ∧ (py v).depth ≤ dpt v ∧ PyData.showable (py v) = true
  | .non, _ => by simp [py, PyData.canLay0, PyData.depth, PyData.showable]
  | .bl _, _ => by simp [py, PyData.canLay0, PyData.depth, PyData.showable]
  | .int i, h => by
    have h' : i.natAbs < 2 ^ 64 := of_decide_eq_true h
    have : i.natAbs.log2 < 1920 := by
      by_cases z : i.natAbs = 0
      · rw [z]; decide
      · have := (Nat.log2_lt z (k := 64)).mpr h'
        omega
    simp [py, PyData.canLay0, PyData.depth, PyData.showable, this]
  | .str s, h => by
    simp only [fine, Bool.and_eq_true] at h
    simp [py, PyData.canLay0, PyData.depth, PyData.showable, h.1]
  | .tup xs, h => by
    obtain ⟨h1, h2, h3⟩ := pys_lay xs h
    exact ⟨by simpa only [py, PyData.canLay0] using h1, by simp only [py, PyData.depth, dpt]; omega, by simpa only [py, PyData.showable] using h3⟩
  | .lst xs, h => by
    obtain ⟨h1, h2, h3⟩ := pys_lay xs h
    exact ⟨by simpa only [py, PyData.canLay0] using h1, by simp only [py, PyData.depth, dpt]; omega, by simpa only [py, PyData.showable] using h3⟩
  | .rol _, h => by cases h
  | .ref _, h => by cases h
theorem pys_lay : ∀ xs : List Vl, fines xs = true → PyData.canLayAll0 (pys xs) = true ∧ PyData.depthAll (pys xs) ≤ dpts xs ∧ PyData.showableAll (pys xs) = true
  | [], _ => by simp [pys, PyData.canLayAll0, PyData.depthAll, PyData.showableAll]
  | x :: xs, h => by
    obtain ⟨h1, h2⟩ := fines_cons.mp h
    obtain ⟨a1, a2, a3⟩ := py_lay x h1
    obtain ⟨b1, b2, b3⟩ := pys_lay xs h2
    refine ⟨by simp [pys, PyData.canLayAll0, a1, b1], ?_, by simp [pys, PyData.showableAll, a3, b3]⟩
    simp only [pys, PyData.depthAll, dpts]
    omega
end
theorem piled_eq : ∀ ts : List Str, (listText ts).length ≤ 2 + piled ts ∧ (tupleText ts).length ≤ 3 + piled ts
  | [] => by decide
  | t :: r => by
    constructor
    · have h := textFrom_length_pos r 1 (("[" : Str) ++ (if (0 : Nat) > 0 then ", " else "" : String) ++ t) (Nat.succ_pos 0)
      have e : ((("[" : Str) ++ (if (0 : Nat) > 0 then ", " else "" : String) ++ t)).length = 1 + t.length := by
        rw [strLen_append, strLen_append]; rfl
      have q : (listText (t :: r)).length = (textFrom 1 (("[" : Str) ++ (if (0 : Nat) > 0 then ", " else "" : String) ++ t) r).length + 1 := by
        show (textFrom 0 "[" (t :: r) ++ "]").length = _
        rw [strLen_append]
        rfl
      rw [q, h, e, piled_cons]
      omega
    · have h := join_length_add (t :: r) (by simp)
      have q : (tupleText (t :: r)).length = 1 + (Str.join ", " (t :: r)).length + (if (t :: r).length == 1 then ",)" else ")" : Str).length := by
        unfold tupleText
        rw [strLen_append, strLen_append]
        split <;> rfl
      have z : (if (t :: r).length == 1 then ",)" else ")" : Str).length ≤ 2 := by split <;> decide
      rw [q]
      omega
mutual
theorem py_len : ∀ v : Vl, fine v = true → (py v).shown.length ≤ wt v
  | .non, _ => by simp only [py, PyData.shown, wt]; decide
  | .bl b, _ => by cases b <;> simp only [py, PyData.shown, wt] <;> decide
  | .int i, h => by
    have h' : i.natAbs < 2 ^ 64 := of_decide_eq_true h
    have := int_text_length_le10 (a := i) (k := 20) (by decide) (Nat.lt_of_lt_of_le h' (by decide))
    show (PySem.PyData.shown (.int i)).length ≤ 21
    simp only [PyData.shown]
    rw [PySem.ofString_length]
    exact this
  | .str s, h => by
    simp only [fine, Bool.and_eq_true] at h
    have ok : ∀ c ∈ s.cps.toList, c < 16 ^ 8 := fun c hc => by
      have := h.1
      simp only [PyData.strOk, Array.all_eq_true_iff_forall_mem] at this
      have := of_decide_eq_true (this c (by simpa using hc))
      exact Nat.lt_trans this (by decide)
    have := StrLaws.reprText_len s ok
    simpa only [py, PyData.shown, wt] using this
  | .tup xs, h => by
    have h1 := pys_len xs h
    have h2 := (piled_eq (PyData.shownAll (pys xs))).2
    simp only [py, PyData.shown, wt]
    omega
  | .lst xs, h => by
    have h1 := pys_len xs h
    have h2 := (piled_eq (PyData.shownAll (pys xs))).1
    simp only [py, PyData.shown, wt]
    omega
  | .rol _, h => by cases h
  | .ref _, h => by cases h
theorem pys_len : ∀ xs : List Vl, fines xs = true → piled (PyData.shownAll (pys xs)) ≤ wts xs
  | [], _ => by simp [pys, PyData.shownAll, piled, wts]
  | x :: xs, h => by
    obtain ⟨h1, h2⟩ := fines_cons.mp h
    have a := py_len x h1
    have b := pys_len xs h2
    simp only [pys, PyData.shownAll, piled_cons, wts]
    omega
end
theorem fine_shaped {v : Vl} (h : fine v = true) (hd : dpt v ≤ 64) : SeqAt.shaped (py v) = true := by
  obtain ⟨h1, h2, _⟩ := py_lay v h
  unfold SeqAt.shaped
  simp [h1]
  omega
theorem fine_refl {v : Vl} (h : fine v = true) : PyData.eqv (py v) (py v) = true := SeqAt.eqv_refl _ (py_lay v h).1
/-- repr of what snaps as fine data -/
theorem repr_snap {v u : Vl} {g : Gh} (hs : snap 64 g v = some (py u)) (h : fine u = true) (hd : dpt u ≤ 64) (hw : wt u ≤ sizeLine) (hq : ∃ xs n, v = .tup xs ∨ v = .lst xs ∨ v = .ref n) : bRepr [v] g = .ok (.str (py u).shown) g := by
  have q : SeqAt.shaped (py u) = true ∧ PyData.showable (py u) = true ∧ (py u).shown.length ≤ sizeLine := ⟨fine_shaped h hd, (py_lay u h).2.2, Nat.le_trans (py_len u h) hw⟩
  unfold bRepr
  simp only [hs]
  rw [if_pos q]
  obtain ⟨xs, n, rfl | rfl | rfl⟩ := hq <;> rfl
theorem repr_fine {v : Vl} {g : Gh} (h : fine v = true) (hd : dpt v ≤ 64) (hw : wt v ≤ sizeLine) (hq : ∃ xs n, v = .tup xs ∨ v = .lst xs ∨ v = .ref n) : bRepr [v] g = .ok (.str (py v).shown) g :=
  repr_snap (snap_fine v 64 g h hd) h hd hw hq
theorem ne_snap {v w u : Vl} {g : Gh} (hsc : scEq v w = none) (hv : snap 64 g v = some (py u)) (hw : snap 64 g w = some (py u)) (h : fine u = true) (hd : dpt u ≤ 64) : cNe v w g = .ok (.bl false) g := by
  unfold cNe cEqB
  simp only [hsc, hv, hw]
  rw [if_pos ⟨fine_shaped h hd, fine_shaped h hd⟩, fine_refl h]
  rfl
theorem eq_snap {v w u : Vl} {g : Gh} (hsc : scEq v w = none) (hv : snap 64 g v = some (py u)) (hw : snap 64 g w = some (py u)) (h : fine u = true) (hd : dpt u ≤ 64) : cEq v w g = .ok (.bl true) g := by
  unfold cEq cEqB
  simp only [hsc, hv, hw]
  rw [if_pos ⟨fine_shaped h hd, fine_shaped h hd⟩, fine_refl h]
  rfl
end CS

set_option Elab.async false
set_option linter.all false
namespace CS
open PySem L2
/-! ### more clean equations -/
theorem mul_rep {xs : List Vl} {k : Nat} {g : Gh} (h : xs.length * k ≤ 16777216) (hk : k < 1000000) : oMul true (.lst xs) (.int (k : Int)) g = .ok (.lst (List.replicate k xs).flatten) g := by
  show (match asT g (.lst xs) with | some xs => if -(2 ^ 63) ≤ (k : Int) ∧ (k : Int) < 2 ^ 63 ∧ xs.length * (k : Int).toNat ≤ sizeLine then mkL true (List.replicate (k : Int).toNat xs).flatten g else .stuck | none => .stuck) = _
  have e : asT g (.lst xs) = some xs := rfl
  rw [e]
  dsimp only
  have hs : xs.length * k ≤ sizeLine := h
  rw [Int.toNat_natCast, if_pos ⟨by omega, by omega, hs⟩]
  simp only [mkL, if_true]
  refine lstM_eq ?_
  have : (List.replicate k xs).flatten.length = k * xs.length := by simp
  rw [this, Nat.mul_comm]
  exact h
theorem in_of {v w : Vl} {g : Gh} {xs : List Vl} (h : asS g w = some xs) (hv : flatC v = true) (hx : xs.all flatC = true) : cIn v w g = .ok (.bl (inC v xs)) g := by
  unfold cIn cInB
  rw [h]
  dsimp only
  rw [if_pos ⟨hv, hx⟩]
  rfl
theorem notin_of {v w : Vl} {g : Gh} {xs : List Vl} (h : asS g w = some xs) (hv : flatC v = true) (hx : xs.all flatC = true) : cNotIn v w g = .ok (.bl (!inC v xs)) g := by
  unfold cNotIn cInB
  rw [h]
  dsimp only
  rw [if_pos ⟨hv, hx⟩]
  rfl
theorem setLM_ref {n : Nat} {xs : List Vl} {k : Nat} {v : Vl} {ρ : Env} {g : Gh} (hg : g[n]? = some (.lst xs)) (h : k < xs.length) : setLM (.ref n) (.int (k : Int)) v ρ g = .nx ρ (g.set n (.lst (xs.set k v))) := by
  simp only [setLM, ourL, hg, ixN]
  rw [if_pos (by omega), if_pos (by omega)]
  simp
end CS

set_option Elab.async false
set_option linter.all false
namespace CS
open PySem L2
/-! ### clean runs that make lists -/
section
variable {g : Gh}
theorem list_newl {xs : List Vl} (h : xs.length ≤ 16777216) : bList false [.lst xs] g = .ok (.ref g.length) (g ++ [.lst xs]) := list_new rfl h
theorem list_newr {xs : List Vl} (h : xs.length ≤ 16777216) : bList false [.rol xs] g = .ok (.ref g.length) (g ++ [.lst xs]) := list_new rfl h
theorem list_newt {xs : List Vl} (h : xs.length ≤ 16777216) : bList false [.tup xs] g = .ok (.ref g.length) (g ++ [.lst xs]) := list_new rfl h
theorem list_fzl {xs : List Vl} (h : xs.length ≤ 16777216) : bList true [.lst xs] g = .ok (.lst xs) g := list_fz rfl h
theorem list_fzr {xs : List Vl} (h : xs.length ≤ 16777216) : bList true [.rol xs] g = .ok (.lst xs) g := list_fz rfl h
theorem list_fzt {xs : List Vl} (h : xs.length ≤ 16777216) : bList true [.tup xs] g = .ok (.lst xs) g := list_fz rfl h
theorem ne_str (i j : Str) : cNe (.str i) (.str j) g = .ok (.bl (!decide (i = j))) g := (rfl)
theorem enum_lst {xs : List Vl} : enumM [.lst xs] g = .ok (enumL xs, none) g := (rfl)
theorem isK_tup {k : TK} {xs : List Vl} : isK k (.tup xs) g = some k.isT := (rfl)
end
theorem enumL_len {xs : List Vl} : (enumL xs).length = xs.length := by simp [enumL]
theorem enumL_at {xs : List Vl} {i : Nat} {v : Vl} (h : (enumL xs)[i]? = some v) : ∃ x, xs[i]? = some x ∧ v = .tup [.int i, x] := by
  unfold enumL at h
  rw [List.getElem?_map, List.getElem?_zipIdx] at h
  cases e : xs[i]? with
  | none => rw [e] at h; cases h
  | some x =>
    rw [e] at h
    refine ⟨x, rfl, ?_⟩
    simp at h
    exact h.symm
theorem get_more {g : Gh} {os : List Ob} {k : Nat} {o : Ob} (h : g[k]? = some o) : (g ++ os)[k]? = some o := by
  have : k < g.length := (List.getElem?_eq_some_iff.mp h).1
  rw [List.getElem?_append_left this]
  exact h
/-- a comprehension whose parts make new lists -/
theorem comp_grow {t : MG} {e : ME} {ρ : Env} (P : Ob → Prop) (R : Gh → Vl → Vl → Prop) (hR : ∀ h os v y, R h v y → R (h ++ os) v y) : ∀ (xs : List Vl) (g : Gh),
    (∀ v ∈ xs, ∀ g', g.length ≤ g'.length → ∃ ρ1 y os, t v ρ g' = .nx ρ1 g' ∧ e ρ1 g' = .ok y (g' ++ os) ∧ (∀ o ∈ os, P o) ∧ R (g' ++ os) v y) →
    ∃ ys os, compF t mYes e none ρ xs g = .ok ys (g ++ os) ∧ (∀ o ∈ os, P o) ∧ ys.length = xs.length ∧ ∀ (i : Nat) (v y : Vl), xs[i]? = some v → ys[i]? = some y → R (g ++ os) v y
  | [], g, _ => ⟨[], [], by simp only [compF]; rw [if_pos (show srcOk none g from trivial), List.append_nil], by simp, rfl, by simp⟩
  | v :: vs, g, h => by
    obtain ⟨ρ1, y, os, e1, e2, hp, r⟩ := h v List.mem_cons_self g (Nat.le_refl _)
    obtain ⟨ys, os2, e3, hp2, hl, hr⟩ := comp_grow P R hR vs (g ++ os) fun w hw g' hg => h w (List.mem_cons_of_mem _ hw) g' (by rw [List.length_append] at hg; omega)
    refine ⟨y :: ys, os ++ os2, ?_, ?_, by simp [hl], ?_⟩
    · simp only [compF]
      rw [if_pos (show srcOk none g from trivial), e1]
      dsimp only [mYes]
      rw [e2]
      dsimp only
      rw [e3, List.append_assoc]
      rfl
    · intro o ho
      rcases List.mem_append.mp ho with ho | ho
      · exact hp o ho
      · exact hp2 o ho
    · intro i w z hw hz
      rw [← List.append_assoc]
      cases i with
      | zero =>
        cases hw
        cases hz
        exact hR _ _ _ _ r
      | succ i => exact hr i w z hw hz
theorem snaps_idx {n : Nat} {h : Gh} : ∀ (A ms : List Vl), A.length = ms.length → (∀ (j : Nat) (a m : Vl), A[j]? = some a → ms[j]? = some m → snap n h a = some (py m)) → snaps n h A = some (pys ms)
  | [], [], _, _ => by simp only [snaps, pys]
  | a :: A, m :: ms, hl, hs => by
    have h1 := hs 0 a m rfl rfl
    have h2 := snaps_idx A ms (by simpa using hl) fun j a' m' ha hm => hs (j + 1) a' m' ha hm
    simp only [snaps, pys, h1, h2]
  | [], _ :: _, hl, _ => by simp at hl
  | _ :: _, [], hl, _ => by simp at hl
end CS

set_option Elab.async false
set_option linter.all false
set_option maxRecDepth 100000
namespace K81
open PySem L2 CS

/-! ### the clean program (printed by gen.py) -/
inductive F where
  | part_of | book_of | mixed | cell | fields | kind | makes | sizes | part | word | names | make_names | part_names | body | law
abbrev Calls := F → List Vl → Gh → Res Vl
def g_STAND_IN : Vl := .rol [.tup [.str (Str.ofString "push"), .int (0)], .tup [.str (Str.ofString "toss")]]
noncomputable def b_part_of (C : Calls) : MS :=
  (mSeq (mAsg (gtTup (gtCons (gtName 1) (gtCons (gtName 2) (gtCons (gtName 3) (gtCons (gtName 4) gtNil))))) (mVar 0))
  (mSeq (mIfS (mT (mOp cIsN (mVar 4) (mC .non))) (mRet (mArgs tupM (mCons (mArgs (bList false) (mCons (mVar 2) mNil)) (mCons (mVar 3) (mCons (mArgs bLen (mCons (mVar 2) mNil)) (mCons (mC (.int 1)) (mCons (mArgs (bList false) (mCons (mC g_STAND_IN) mNil)) (mCons (mArgs newM mNil) mNil)))))))) mNext)
  (mSeq (mAsg (gtTup (gtCons (gtName 5) (gtCons (gtName 6) (gtCons (gtName 7) (gtCons (gtName 8) gtNil))))) (mVar 4))
  (mRet (mArgs tupM (mCons (mArgs (bList false) (mCons (mVar 2) mNil)) (mCons (mVar 3) (mCons (mVar 5) (mCons (mVar 6) (mCons (mArgs (bList false) (mCons (mVar 7) mNil)) (mCons (mArgs (bList false) (mCons (mVar 8) mNil)) mNil)))))))))))
noncomputable def b_book_of (C : Calls) : MS :=
  (mSeq (mPut 1 (mComp newM (mIter (mOp ixM (mVar 0) (mC (.int 0)))) [2, 3, 4, 5] (gtTup (gtCons (gtName 2) (gtCons (gtName 3) (gtCons (gtName 4) (gtCons (gtName 5) gtNil))))) mYes (mArgs tupM (mCons (mVar 3) (mCons (mArgs (bList false) (mCons (mVar 4) mNil)) mNil)))))
  (mRet (mArgs tupM (mCons (mVar 1) (mCons (mComp newM (mIter (mOp ixM (mVar 0) (mC (.int 1)))) [6] (gtName 6) mYes (mArgs (C .part_of) (mCons (mVar 6) mNil))) mNil)))))
noncomputable def b_mixed (C : Calls) : MS :=
  (mSeq (mPut 2 (mOp oMod (mOp (oMul true) (mOp (oAdd true) (mOp (oAdd true) (mOp oMod (mVar 0) (mC (.int 1000000000039))) (mOp (oMul true) (mC (.int 7919)) (mVar 1))) (mC (.int 12))) (mC (.int 48271))) (mC (.int 1000000000061))))
  (mSeq (mPut 2 (mOp oMod (mOp (oMul true) (mOp (oAdd true) (mOp (oAdd true) (mOp oMod (mOp oDiv (mVar 2) (mC (.int 3))) (mC (.int 1000003))) (mOp (oMul true) (mC (.int 31)) (mVar 1))) (mC (.int 1))) (mOp (oAdd true) (mOp oMod (mVar 2) (mC (.int 999983))) (mC (.int 7)))) (mC (.int 999999999989))))
  (mRet (mOp oDiv (mOp oMod (mOp (oMul true) (mOp oDiv (mVar 2) (mC (.int 5))) (mOp (oAdd true) (mOp oMod (mVar 2) (mC (.int 1009))) (mC (.int 48271)))) (mC (.int 1000000000039))) (mC (.int 8))))))
noncomputable def b_cell (C : Calls) : MS :=
  (mSeq (mIfS (mT (mOp cLt (mVar 1) (mArgs bLen (mCons (mVar 0) mNil)))) (mRet (mOp ixM (mVar 0) (mVar 1))) mNext)
  (mRet (mArgs (pureM (C .mixed)) (mCons (mArgs bSum (mCons (mSl (slM true) (mVar 0) mNoPart (mPart (mC (.int 4)))) mNil)) (mCons (mOp (oAdd true) (mC (.int 100)) (mVar 1)) mNil)))))
noncomputable def b_fields (C : Calls) : MS :=
  (mSeq (mPut 2 (mArgs lstM mNil))
  (mSeq (mWhile (mT (mOp cNotN (mVar 1) (mC .non))) (mSeq (mPut 2 (mOp (oAdd true) (mOp ixM (mOp ixM (mVar 0) (mVar 1)) (mC (.int 1))) (mVar 2)))
    (mPut 1 (mOp ixM (mOp ixM (mVar 0) (mVar 1)) (mC (.int 0))))))
  (mRet (mVar 2))))
noncomputable def b_kind (C : Calls) : MS :=
  (mSeq (mPut 2 (mOp oMod (mOp oDiv (mVar 0) (mC (.int 8))) (mArgs bLen (mCons (mVar 1) mNil))))
  (mSeq (mPut 3 (mOp oMod (mVar 0) (mC (.int 8))))
  (mSeq (mIfS (mT (mOp cLt (mVar 3) (mC (.int 3)))) (mRet (mArgs tupM (mCons (mC (.str (Str.ofString "number"))) mNil))) mNext)
  (mSeq (mIfS (mT (mOp cLt (mVar 3) (mC (.int 5)))) (mRet (mArgs tupM (mCons (mC (.str (Str.ofString "whole"))) (mCons (mVar 2) mNil)))) mNext)
  (mSeq (mIfS (mT (mOp cLt (mVar 3) (mC (.int 7)))) (mRet (mArgs tupM (mCons (mC (.str (Str.ofString "raw"))) (mCons (mVar 2) (mCons (mOp oMod (mOp oDiv (mVar 0) (mC (.int 64))) (mOp oShl (mC (.int 1)) (mOp ixM (mVar 1) (mVar 2)))) mNil))))) mNext)
  (mRet (mArgs tupM (mCons (mC (.str (Str.ofString "any"))) mNil))))))))
noncomputable def b_makes (C : Calls) : MS :=
  (mSeq (mPut 1 (mOp (oAdd true) (mC (.int 1)) (mOp oMod (mVar 0) (mC (.int 8)))))
  (mSeq (mPut 2 (mArgs newM (mCons (mC .non) mNil)))
  (mSeq (mPut 3 (mArgs newM (mCons (mC (.int 0)) mNil)))
  (mSeq (mFor (mRange2 (mC (.int 1)) (mVar 1)) (gtName 4) (mSeq (mDrop (mBm .list mtAppend (mVar 2) (mCons (mOp oMod (mArgs (pureM (C .mixed)) (mCons (mVar 0) (mCons (mVar 4) mNil))) (mVar 4)) mNil)))
    (mDrop (mBm .list mtAppend (mVar 3) (mCons (mArgs bMin (mCons (mC (.int 6)) (mCons (mOp (oAdd true) (mOp ixM (mVar 3) (mOp ixM (mVar 2) (mVar 4))) (mOp oMod (mArgs (pureM (C .mixed)) (mCons (mVar 0) (mCons (mOp (oAdd true) (mC (.int 10)) (mVar 4)) mNil))) (mC (.int 4)))) mNil))) mNil)))))
  (mSeq (mFrz 2)
  (mSeq (mFrz 3)
  (mSeq (mPut 5 (mArgs newM (mCons (mArgs tupM (mCons (mC .non) (mCons (mArgs lstM mNil) mNil))) mNil)))
  (mSeq (mFor (mRange2 (mC (.int 1)) (mVar 1)) (gtName 4) (mSeq (mPut 6 (mOp oSub (mOp ixM (mVar 3) (mVar 4)) (mOp ixM (mVar 3) (mOp ixM (mVar 2) (mVar 4)))))
    (mDrop (mBm .list mtAppend (mVar 5) (mCons (mArgs tupM (mCons (mOp ixM (mVar 2) (mVar 4)) (mCons (mComp lstM (mRange1 (mVar 6)) [7] (gtName 7) mYes (mArgs (pureM (C .kind)) (mCons (mArgs (pureM (C .mixed)) (mCons (mVar 0) (mCons (mOp (oAdd true) (mOp (oAdd true) (mC (.int 20)) (mOp (oMul true) (mC (.int 7)) (mVar 4))) (mVar 7)) mNil))) (mCons (mVar 3) mNil)))) mNil))) mNil)))))
  (mSeq (mFrz 5)
  (mRet (mVar 5)))))))))))
noncomputable def b_sizes (C : Calls) : MS :=
  (mRet (mComp lstM (mRange1 (mArgs bLen (mCons (mVar 0) mNil))) [1] (gtName 1) mYes (mArgs bLen (mCons (mArgs (pureM (C .fields)) (mCons (mVar 0) (mCons (mVar 1) mNil))) mNil))))
noncomputable def b_part (C : Calls) : MS :=
  (mSeq (mPut 2 (mArgs (pureM (C .sizes)) (mCons (mVar 0) mNil)))
  (mSeq (mPut 3 (mComp lstM (mRange1 (mOp oMod (mArgs (pureM (C .mixed)) (mCons (mVar 1) (mCons (mC (.int 50)) mNil))) (mC (.int 5)))) [6] (gtName 6) mYes (mArgs (pureM (C .kind)) (mCons (mArgs (pureM (C .mixed)) (mCons (mVar 1) (mCons (mVar 6) mNil))) (mCons (mVar 2) mNil)))))
  (mSeq (mPut 4 (mArgs (pureM (C .kind)) (mCons (mArgs (pureM (C .mixed)) (mCons (mVar 1) (mCons (mC (.int 9)) mNil))) (mCons (mVar 2) mNil))))
  (mSeq (mIfS (mT (mOp cGt (mOp oMod (mArgs (pureM (C .mixed)) (mCons (mVar 1) (mCons (mC (.int 51)) mNil))) (mC (.int 3))) (mC (.int 0)))) (mPut 4 (mArgs tupM (mCons (mC (.str (Str.ofString "number"))) mNil))) mNext)
  (mSeq (mPut 5 (mOp (oAdd true) (mArgs bLen (mCons (mVar 3) mNil)) (mOp oMod (mArgs (pureM (C .mixed)) (mCons (mVar 1) (mCons (mC (.int 52)) mNil))) (mC (.int 5)))))
  (mRet (mArgs tupM (mCons (mVar 3) (mCons (mVar 4) (mCons (mVar 5) (mCons (mOp (oAdd true) (mC (.int 1)) (mOp oMod (mArgs (pureM (C .mixed)) (mCons (mVar 1) (mCons (mC (.int 53)) mNil))) (mC (.int 8)))) (mCons (mArgs lstM (mCons (mArgs tupM (mCons (mC (.str (Str.ofString "push"))) (mCons (mC (.int 0)) mNil))) (mCons (mArgs tupM (mCons (mC (.str (Str.ofString "toss"))) mNil)) mNil))) (mCons (mArgs lstM mNil) mNil)))))))))))))
noncomputable def b_word (C : Calls) : MS :=
  (mRet (mOp ixM (mArgs lstM (mCons (mOp oSub (mOp oMod (mOp oDiv (mVar 0) (mC (.int 3))) (mC (.int 9))) (mC (.int 4))) (mCons (mOp oSub (mOp oMod (mOp oDiv (mVar 0) (mC (.int 3))) (mC (.int 4294967296))) (mC (.int 2147483648))) mNil))) (mArgs bInt (mCons (mOp cGt (mOp oMod (mVar 0) (mC (.int 3))) (mC (.int 0))) mNil))))
noncomputable def b_names (C : Calls) : MS :=
  (mSeq (mPut 2 (mC (.str (Str.ofString "abcdefghijklmnopqrstuvwxyz"))))
  (mSeq (mPut 3 (mOp (oAdd true) (mC (.int 1)) (mOp oMod (mArgs (pureM (C .mixed)) (mCons (mVar 0) (mCons (mC (.int 1)) mNil))) (mC (.int 8)))))
  (mSeq (mPut 4 (mOp oMod (mArgs (pureM (C .mixed)) (mCons (mVar 0) (mCons (mC (.int 2)) mNil))) (mVar 3)))
  (mSeq (mPut 5 (mArgs newM mNil))
  (mSeq (mFor (mRange1 (mVar 1)) (gtName 6) (mSeq (mPut 7 (mC (.str (Str.ofString ""))))
    (mSeq (mFor (mRange1 (mVar 3)) (gtName 8) (mPut 7 (mOp (oAdd true) (mVar 7) (mOp ixM (mVar 2) (mOp oMod (mOp (oAdd true) (mArgs (pureM (C .mixed)) (mCons (mVar 0) (mCons (mOp (oAdd true) (mC (.int 3)) (mVar 8)) mNil))) (mOp (oMul true) (mOp (oMul true) (mC (.int 7)) (mVar 6)) (mArgs bInt (mCons (mOp cEq (mVar 8) (mVar 4)) mNil)))) (mC (.int 26)))))))
    (mDrop (mBm .list mtAppend (mVar 5) (mCons (mSl (slM true) (mVar 7) mNoPart (mPart (mArgs bMax (mCons (mOp (oAdd true) (mVar 4) (mC (.int 1))) (mCons (mOp oSub (mVar 3) (mOp (oMul true) (mOp oMod (mVar 6) (mC (.int 3))) (mOp oMod (mArgs (pureM (C .mixed)) (mCons (mVar 0) (mCons (mC (.int 12)) mNil))) (mC (.int 2))))) mNil))))) mNil))))))
  (mRet (mVar 5)))))))
noncomputable def b_make_names (C : Calls) : MS :=
  (mSeq (mPut 2 (mArgs (C .names) (mCons (mVar 0) (mCons (mOp oSub (mVar 1) (mC (.int 1))) mNil))))
  (mSeq (mIfS (mT (mOp cIn (mC (.str (Str.ofString "thing"))) (mVar 2))) (mPut 2 (mComp lstM (mIter (mVar 2)) [3] (gtName 3) mYes (mOp (oAdd true) (mVar 3) (mC (.str (Str.ofString "x")))))) mNext)
  (mRet (mOp (oAdd true) (mArgs lstM (mCons (mC (.str (Str.ofString "thing"))) mNil)) (mVar 2)))))
noncomputable def b_part_names (C : Calls) : MS :=
  (mSeq (mPut 2 (mArgs (C .names) (mCons (mArgs (pureM (C .mixed)) (mCons (mVar 0) (mCons (mC (.int 20)) mNil))) (mCons (mVar 1) mNil))))
  (mSeq (mIfS (tnAnd (mT (mOp cEq (mOp oMod (mArgs (pureM (C .mixed)) (mCons (mVar 0) (mCons (mC (.int 21)) mNil))) (mC (.int 4))) (mC (.int 1)))) (mT (mOp cNotIn (mC (.str (Str.ofString "thing"))) (mVar 2)))) (mAsg (gtSub (mVar 2) (mOp oMod (mArgs (pureM (C .mixed)) (mCons (mVar 0) (mCons (mC (.int 22)) mNil))) (mVar 1))) (mC (.str (Str.ofString "thing")))) mNext)
  (mSeq (mFrz 2)
  (mRet (mVar 2)))))
noncomputable def b_body (C : Calls) : MS :=
  (mSeq (mPut 3 (mOp (oMul true) (mArgs lstM (mCons (mArgs tupM (mCons (mC (.str (Str.ofString "push"))) (mCons (mArgs (pureM (C .word)) (mCons (mArgs (pureM (C .mixed)) (mCons (mVar 0) (mCons (mC (.int 1)) mNil))) mNil)) mNil))) (mCons (mArgs tupM (mCons (mC (.str (Str.ofString "drop"))) mNil)) mNil))) (mOp oMod (mArgs (pureM (C .mixed)) (mCons (mVar 0) (mCons (mC (.int 2)) mNil))) (mC (.int 4)))))
  (mSeq (mPut 3 (mOp (oAdd true) (mVar 3) (mArgs lstM (mCons (mArgs tupM (mCons (mC (.str (Str.ofString "push"))) (mCons (mArgs (pureM (C .word)) (mCons (mArgs (pureM (C .mixed)) (mCons (mVar 0) (mCons (mC (.int 3)) mNil))) mNil)) mNil))) (mCons (mArgs tupM (mCons (mC (.str (Str.ofString "toss"))) mNil)) mNil)))))
  (mSeq (mPut 4 (mComp lstM (mRange1 (mOp oMod (mArgs (pureM (C .mixed)) (mCons (mVar 0) (mCons (mC (.int 4)) mNil))) (mC (.int 3)))) [5] (gtName 5) mYes (mArgs tupM (mCons (mC (.int 0)) (mCons (mOp oSub (mArgs bLen (mCons (mVar 3) mNil)) (mVar 5)) (mCons (mC (.int 1)) mNil))))))
  (mRet (mArgs tupM (mCons (mVar 1) (mCons (mVar 2) (mCons (mVar 3) (mCons (mVar 4) mNil)))))))))
noncomputable def b_law (C : Calls) : MS :=
  (mSeq (mPut 1 (mArgs (pureM (C .makes)) (mCons (mArgs (pureM (C .cell)) (mCons (mVar 0) (mCons (mC (.int 0)) mNil))) mNil)))
  (mSeq (mPut 2 (mArgs (pureM (C .make_names)) (mCons (mArgs (pureM (C .cell)) (mCons (mVar 0) (mCons (mC (.int 2)) mNil))) (mCons (mArgs bLen (mCons (mVar 1) mNil)) mNil))))
  (mSeq (mPut 3 (mArgs (pureM (C .cell)) (mCons (mVar 0) (mCons (mC (.int 1)) mNil))))
  (mSeq (mPut 4 (mArgs newM mNil))
  (mSeq (mFor (mEnum (mVar 1)) (gtTup (gtCons (gtName 13) (gtCons (gtName 14) gtNil))) (mDrop (mBm .list mtAppend (mVar 4) (mCons (mArgs tupM (mCons (mOp ixM (mVar 2) (mVar 13)) (mCons (mOp ixM (mVar 14) (mC (.int 0))) (mCons (mArgs (bList true) (mCons (mOp ixM (mVar 14) (mC (.int 1))) mNil)) (mCons (mAnd (mOp cGt (mVar 13) (mC (.int 0))) (mOp cEq (mOp oMod (mArgs (pureM (C .mixed)) (mCons (mVar 3) (mCons (mOp (oAdd true) (mC (.int 30)) (mVar 13)) mNil))) (mC (.int 2))) (mC (.int 1)))) mNil))))) mNil))))
  (mSeq (mPut 2 (mArgs (pureM (C .part_names)) (mCons (mArgs (pureM (C .cell)) (mCons (mVar 0) (mCons (mC (.int 3)) mNil))) (mCons (mOp (oAdd true) (mC (.int 1)) (mOp oMod (mVar 3) (mC (.int 8)))) mNil))))
  (mSeq (mPut 5 (mArgs newM mNil))
  (mSeq (mPut 6 (mArgs newM mNil))
  (mSeq (mFor (mRange1 (mArgs bLen (mCons (mVar 2) mNil))) (gtName 7) (mSeq (mPut 15 (mArgs (pureM (C .mixed)) (mCons (mArgs (pureM (C .cell)) (mCons (mVar 0) (mCons (mOp (oAdd true) (mC (.int 4)) (mVar 7)) mNil))) (mCons (mVar 7) mNil))))
    (mSeq (mAsg (gtTup (gtCons (gtName 18) (gtCons (gtName 19) (gtCons (gtName 20) (gtCons (gtName 21) gtNil))))) (mSl (slM true) (mArgs (pureM (C .part)) (mCons (mVar 1) (mCons (mVar 15) mNil))) mNoPart (mPart (mC (.int 4)))))
    (mSeq (mPut 16 (mC .non))
    (mSeq (mPut 17 (mArgs tupM (mCons (mArgs bLen (mCons (mVar 18) mNil)) (mCons (mC (.int 1)) (mCons (mArgs lstM (mCons (mArgs tupM (mCons (mC (.str (Str.ofString "push"))) (mCons (mC (.int 0)) mNil))) (mCons (mArgs tupM (mCons (mC (.str (Str.ofString "toss"))) mNil)) mNil))) (mCons (mArgs lstM mNil) mNil))))))
    (mSeq (mIfS (mT (mOp cGt (mOp oMod (mArgs (pureM (C .mixed)) (mCons (mVar 15) (mCons (mC (.int 5)) mNil))) (mC (.int 3))) (mC (.int 0)))) (mSeq (mPut 16 (mArgs (pureM (C .body)) (mCons (mVar 15) (mCons (mVar 20) (mCons (mVar 21) mNil)))))
      (mPut 17 (mVar 16))) mNext)
    (mSeq (mDrop (mBm .list mtAppend (mVar 5) (mCons (mArgs tupM (mCons (mOp ixM (mVar 2) (mVar 7)) (mCons (mArgs (bList true) (mCons (mVar 18) mNil)) (mCons (mVar 19) (mCons (mVar 16) mNil))))) mNil)))
    (mDrop (mBm .list mtAppend (mVar 6) (mCons (mOp (oAdd true) (mArgs tupM (mCons (mVar 18) (mCons (mVar 19) mNil))) (mVar 17)) mNil))))))))))
  (mSeq (mFrz 4)
  (mSeq (mFrz 5)
  (mSeq (mPut 8 (mArgs tupM (mCons (mVar 4) (mCons (mVar 5) mNil))))
  (mSeq (mPut 9 (mArgs bRepr (mCons (mVar 8) mNil)))
  (mSeq (mFrz 6)
  (mSeq (mPut 6 (mArgs tupM (mCons (mVar 1) (mCons (mVar 6) mNil))))
  (mSeq (mPut 10 (mArgs bRepr (mCons (mVar 6) mNil)))
  (mSeq (mPut 11 (mArgs (C .book_of) (mCons (mVar 8) mNil)))
  (mSeq (mIfS (tnOr (tnNot (mT (mIsi .tuple (mVar 11)))) (tnOr (mT (mOp cNe (mVar 11) (mVar 6))) (mT (mOp cNe (mArgs bRepr (mCons (mVar 11) mNil)) (mVar 10))))) (mRet (mC (.bl false))) mNext)
  (mSeq (mFor (mIter (mOp ixM (mVar 11) (mC (.int 1)))) (gtName 12) (mSeq (mDrop (mBm .list mtAppend (mOp ixM (mVar 12) (mC (.int 0))) (mCons (mC (.int 7)) mNil)))
    (mSeq (mDrop (mBm .list mtAppend (mOp ixM (mVar 12) (mC (.int 4))) (mCons (mArgs tupM (mCons (mC (.str (Str.ofString "drop"))) mNil)) mNil)))
    (mDrop (mBm .list mtAppend (mOp ixM (mVar 12) (mC (.int 5))) (mCons (mC (.int 7)) mNil))))))
  (mSeq (mDrop (mBm .list mtAppend (mOp ixM (mOp ixM (mOp ixM (mVar 11) (mC (.int 0))) (mC (.int 0))) (mC (.int 1))) (mCons (mC (.int 7)) mNil)))
  (mSeq (mDrop (mBm .list mtAppend (mOp ixM (mVar 11) (mC (.int 1))) (mCons (mC (.int 7)) mNil)))
  (mRet (mAnd (mOp cEq (mArgs bRepr (mCons (mVar 8) mNil)) (mVar 9)) (mOp cEq (mArgs bRepr (mCons (mArgs (C .book_of) (mCons (mVar 8) mNil)) mNil)) (mVar 10)))))))))))))))))))))))))
noncomputable def body (C : Calls) : F → List Vl → Gh → Res Vl
  | .part_of => runOf 9 (b_part_of C)
  | .book_of => runOf 7 (b_book_of C)
  | .mixed => runOf 3 (b_mixed C)
  | .cell => runOf 2 (b_cell C)
  | .fields => runOf 3 (b_fields C)
  | .kind => runOf 4 (b_kind C)
  | .makes => runOf 8 (b_makes C)
  | .sizes => runOf 2 (b_sizes C)
  | .part => runOf 7 (b_part C)
  | .word => runOf 1 (b_word C)
  | .names => runOf 9 (b_names C)
  | .make_names => runOf 4 (b_make_names C)
  | .part_names => runOf 3 (b_part_names C)
  | .body => runOf 6 (b_body C)
  | .law => runOf 22 (b_law C)
noncomputable def run : Nat → Calls
  | 0 => fun _ _ _ => .stuck
  | n + 1 => body (run n)
end K81

set_option Elab.async false
set_option linter.all false
set_option maxRecDepth 100000
set_option maxHeartbeats 4000000
namespace K81
open PySem L2 CS

/-! ### the text and its derivation (printed by gen.py) -/
def top (i : Nat) : Stmt := PySem.Challenge.pw_stackwarden_k81_a_units_book.main.body.getD i (.Pass ⟨0, 0, 0, 0⟩)
abbrev st_part_of : Stmt := top 2
abbrev n_part_of : List Str := [Str.ofString "part", Str.ofString "name", Str.ofString "takes", Str.ofString "gives", Str.ofString "body", Str.ofString "boxes", Str.ofString "height", Str.ofString "rows", Str.ofString "stretches"]
abbrev p_part_of : List Str := [Str.ofString "part"]
theorem sc_part_of : FnScope n_part_of p_part_of (defScope st_part_of) := ⟨rfl, rfl, rfl, by decide +kernel, rfl, by decide +kernel, by decide +kernel⟩
abbrev st_book_of : Stmt := top 3
abbrev n_book_of : List Str := [Str.ofString "unit", Str.ofString "makes", Str.ofString "name", Str.ofString "elder", Str.ofString "kinds", Str.ofString "own", Str.ofString "part"]
abbrev p_book_of : List Str := [Str.ofString "unit"]
theorem sc_book_of : FnScope n_book_of p_book_of (defScope st_book_of) := ⟨rfl, rfl, rfl, by decide +kernel, rfl, by decide +kernel, by decide +kernel⟩
abbrev st_mixed : Stmt := top 5
abbrev n_mixed : List Str := [Str.ofString "_law_cell_here", Str.ofString "_law_k", Str.ofString "_law_number"]
abbrev p_mixed : List Str := [Str.ofString "_law_cell_here", Str.ofString "_law_k"]
theorem sc_mixed : FnScope n_mixed p_mixed (defScope st_mixed) := ⟨rfl, rfl, rfl, by decide +kernel, rfl, by decide +kernel, by decide +kernel⟩
abbrev st_cell : Stmt := top 6
abbrev n_cell : List Str := [Str.ofString "_law_script", Str.ofString "_law_k"]
abbrev p_cell : List Str := [Str.ofString "_law_script", Str.ofString "_law_k"]
theorem sc_cell : FnScope n_cell p_cell (defScope st_cell) := ⟨rfl, rfl, rfl, by decide +kernel, rfl, by decide +kernel, by decide +kernel⟩
abbrev st_fields : Stmt := top 7
abbrev n_fields : List Str := [Str.ofString "_law_makes_here", Str.ofString "_law_c", Str.ofString "_law_found"]
abbrev p_fields : List Str := [Str.ofString "_law_makes_here", Str.ofString "_law_c"]
theorem sc_fields : FnScope n_fields p_fields (defScope st_fields) := ⟨rfl, rfl, rfl, by decide +kernel, rfl, by decide +kernel, by decide +kernel⟩
abbrev st_kind : Stmt := top 8
abbrev n_kind : List Str := [Str.ofString "_law_number", Str.ofString "_law_sizes_here", Str.ofString "_law_c", Str.ofString "_law_way"]
abbrev p_kind : List Str := [Str.ofString "_law_number", Str.ofString "_law_sizes_here"]
theorem sc_kind : FnScope n_kind p_kind (defScope st_kind) := ⟨rfl, rfl, rfl, by decide +kernel, rfl, by decide +kernel, by decide +kernel⟩
abbrev st_makes : Stmt := top 9
abbrev n_makes : List Str := [Str.ofString "_law_cell_here", Str.ofString "_law_many", Str.ofString "_law_elders", Str.ofString "_law_sizes_here", Str.ofString "_law_k", Str.ofString "_law_makes_here", Str.ofString "_law_own", Str.ofString "_law_j"]
abbrev p_makes : List Str := [Str.ofString "_law_cell_here"]
theorem sc_makes : FnScope n_makes p_makes (defScope st_makes) := ⟨rfl, rfl, rfl, by decide +kernel, rfl, by decide +kernel, by decide +kernel⟩
abbrev st_sizes : Stmt := top 10
abbrev n_sizes : List Str := [Str.ofString "_law_makes_here", Str.ofString "_law_c"]
abbrev p_sizes : List Str := [Str.ofString "_law_makes_here"]
theorem sc_sizes : FnScope n_sizes p_sizes (defScope st_sizes) := ⟨rfl, rfl, rfl, by decide +kernel, rfl, by decide +kernel, by decide +kernel⟩
abbrev st_part : Stmt := top 11
abbrev n_part : List Str := [Str.ofString "_law_makes_here", Str.ofString "_law_cell_here", Str.ofString "_law_sizes_here", Str.ofString "_law_takes", Str.ofString "_law_gives", Str.ofString "_law_boxes", Str.ofString "_law_k"]
abbrev p_part : List Str := [Str.ofString "_law_makes_here", Str.ofString "_law_cell_here"]
theorem sc_part : FnScope n_part p_part (defScope st_part) := ⟨rfl, rfl, rfl, by decide +kernel, rfl, by decide +kernel, by decide +kernel⟩
abbrev st_word : Stmt := top 12
abbrev n_word : List Str := [Str.ofString "_law_number"]
abbrev p_word : List Str := [Str.ofString "_law_number"]
theorem sc_word : FnScope n_word p_word (defScope st_word) := ⟨rfl, rfl, rfl, by decide +kernel, rfl, by decide +kernel, by decide +kernel⟩
abbrev st_names : Stmt := top 13
abbrev n_names : List Str := [Str.ofString "_law_cell_here", Str.ofString "_law_many", Str.ofString "_law_letters", Str.ofString "_law_size", Str.ofString "_law_spot", Str.ofString "_law_names_here", Str.ofString "_law_k", Str.ofString "_law_name", Str.ofString "_law_j"]
abbrev p_names : List Str := [Str.ofString "_law_cell_here", Str.ofString "_law_many"]
theorem sc_names : FnScope n_names p_names (defScope st_names) := ⟨rfl, rfl, rfl, by decide +kernel, rfl, by decide +kernel, by decide +kernel⟩
abbrev st_make_names : Stmt := top 14
abbrev n_make_names : List Str := [Str.ofString "_law_cell_here", Str.ofString "_law_many", Str.ofString "_law_names_here", Str.ofString "_law_name"]
abbrev p_make_names : List Str := [Str.ofString "_law_cell_here", Str.ofString "_law_many"]
theorem sc_make_names : FnScope n_make_names p_make_names (defScope st_make_names) := ⟨rfl, rfl, rfl, by decide +kernel, rfl, by decide +kernel, by decide +kernel⟩
abbrev st_part_names : Stmt := top 15
abbrev n_part_names : List Str := [Str.ofString "_law_cell_here", Str.ofString "_law_many", Str.ofString "_law_names_here"]
abbrev p_part_names : List Str := [Str.ofString "_law_cell_here", Str.ofString "_law_many"]
theorem sc_part_names : FnScope n_part_names p_part_names (defScope st_part_names) := ⟨rfl, rfl, rfl, by decide +kernel, rfl, by decide +kernel, by decide +kernel⟩
abbrev st_body : Stmt := top 16
abbrev n_body : List Str := [Str.ofString "_law_cell_here", Str.ofString "_law_boxes", Str.ofString "_law_height", Str.ofString "_law_rows", Str.ofString "_law_some", Str.ofString "_law_k"]
abbrev p_body : List Str := [Str.ofString "_law_cell_here", Str.ofString "_law_boxes", Str.ofString "_law_height"]
theorem sc_body : FnScope n_body p_body (defScope st_body) := ⟨rfl, rfl, rfl, by decide +kernel, rfl, by decide +kernel, by decide +kernel⟩
abbrev st_law : Stmt := top 17
abbrev n_law : List Str := [Str.ofString "_law_script", Str.ofString "_law_makes_here", Str.ofString "_law_names_here", Str.ofString "_law_cell_here", Str.ofString "_law_listed", Str.ofString "_law_parts", Str.ofString "_law_due", Str.ofString "_law_k", Str.ofString "_law_unit", Str.ofString "_law_kept", Str.ofString "_law_text", Str.ofString "_law_found", Str.ofString "_law_part_here", Str.ofString "_law_c", Str.ofString "_law_make", Str.ofString "_law_number", Str.ofString "_law_body_here", Str.ofString "_law_there", Str.ofString "_law_takes", Str.ofString "_law_gives", Str.ofString "_law_boxes", Str.ofString "_law_height"]
abbrev p_law : List Str := [Str.ofString "_law_script"]
theorem sc_law : FnScope n_law p_law (defScope st_law) := ⟨rfl, rfl, rfl, by decide +kernel, rfl, by decide +kernel, by decide +kernel⟩
structure Ad where
  a_part_of : Addr
  d_part_of : FuncData
  a_book_of : Addr
  d_book_of : FuncData
  a_mixed : Addr
  d_mixed : FuncData
  a_cell : Addr
  d_cell : FuncData
  a_fields : Addr
  d_fields : FuncData
  a_kind : Addr
  d_kind : FuncData
  a_makes : Addr
  d_makes : FuncData
  a_sizes : Addr
  d_sizes : FuncData
  a_part : Addr
  d_part : FuncData
  a_word : Addr
  d_word : FuncData
  a_names : Addr
  d_names : FuncData
  a_make_names : Addr
  d_make_names : FuncData
  a_part_names : Addr
  d_part_names : FuncData
  a_body : Addr
  d_body : FuncData
  a_law : Addr
  d_law : FuncData
  v_STAND_IN : V
  u_STAND_IN : Value
structure Txt (Z : Ad) (K : PySem.W.Frag) (mg : Str → Option Value) : Prop where
  b_enumerate : mg (Str.ofString "enumerate") = none
  b_int : mg (Str.ofString "int") = none
  b_isinstance : mg (Str.ofString "isinstance") = none
  b_len : mg (Str.ofString "len") = none
  b_list : mg (Str.ofString "list") = none
  b_max : mg (Str.ofString "max") = none
  b_min : mg (Str.ofString "min") = none
  b_range : mg (Str.ofString "range") = none
  b_repr : mg (Str.ofString "repr") = none
  b_sum : mg (Str.ofString "sum") = none
  b_tuple : mg (Str.ofString "tuple") = none
  f_part_of : Fun K (Str.ofString "part_of") (Str.ofString "part_of") st_part_of Z.a_part_of Z.d_part_of
  m_part_of : mg (Str.ofString "part_of") = some (.ref Z.a_part_of)
  b_part_of : Binds K Z.d_part_of p_part_of []
  f_book_of : Fun K (Str.ofString "book_of") (Str.ofString "book_of") st_book_of Z.a_book_of Z.d_book_of
  m_book_of : mg (Str.ofString "book_of") = some (.ref Z.a_book_of)
  b_book_of : Binds K Z.d_book_of p_book_of []
  f_mixed : Fun K (Str.ofString "_law_mixed") (Str.ofString "_law_mixed") st_mixed Z.a_mixed Z.d_mixed
  m_mixed : mg (Str.ofString "_law_mixed") = some (.ref Z.a_mixed)
  b_mixed : Binds K Z.d_mixed p_mixed []
  f_cell : Fun K (Str.ofString "_law_cell") (Str.ofString "_law_cell") st_cell Z.a_cell Z.d_cell
  m_cell : mg (Str.ofString "_law_cell") = some (.ref Z.a_cell)
  b_cell : Binds K Z.d_cell p_cell []
  f_fields : Fun K (Str.ofString "_law_fields") (Str.ofString "_law_fields") st_fields Z.a_fields Z.d_fields
  m_fields : mg (Str.ofString "_law_fields") = some (.ref Z.a_fields)
  b_fields : Binds K Z.d_fields p_fields []
  f_kind : Fun K (Str.ofString "_law_kind") (Str.ofString "_law_kind") st_kind Z.a_kind Z.d_kind
  m_kind : mg (Str.ofString "_law_kind") = some (.ref Z.a_kind)
  b_kind : Binds K Z.d_kind p_kind []
  f_makes : Fun K (Str.ofString "_law_makes") (Str.ofString "_law_makes") st_makes Z.a_makes Z.d_makes
  m_makes : mg (Str.ofString "_law_makes") = some (.ref Z.a_makes)
  b_makes : Binds K Z.d_makes p_makes []
  f_sizes : Fun K (Str.ofString "_law_sizes") (Str.ofString "_law_sizes") st_sizes Z.a_sizes Z.d_sizes
  m_sizes : mg (Str.ofString "_law_sizes") = some (.ref Z.a_sizes)
  b_sizes : Binds K Z.d_sizes p_sizes []
  f_part : Fun K (Str.ofString "_law_part") (Str.ofString "_law_part") st_part Z.a_part Z.d_part
  m_part : mg (Str.ofString "_law_part") = some (.ref Z.a_part)
  b_part : Binds K Z.d_part p_part []
  f_word : Fun K (Str.ofString "_law_word") (Str.ofString "_law_word") st_word Z.a_word Z.d_word
  m_word : mg (Str.ofString "_law_word") = some (.ref Z.a_word)
  b_word : Binds K Z.d_word p_word []
  f_names : Fun K (Str.ofString "_law_names") (Str.ofString "_law_names") st_names Z.a_names Z.d_names
  m_names : mg (Str.ofString "_law_names") = some (.ref Z.a_names)
  b_names : Binds K Z.d_names p_names []
  f_make_names : Fun K (Str.ofString "_law_make_names") (Str.ofString "_law_make_names") st_make_names Z.a_make_names Z.d_make_names
  m_make_names : mg (Str.ofString "_law_make_names") = some (.ref Z.a_make_names)
  b_make_names : Binds K Z.d_make_names p_make_names []
  f_part_names : Fun K (Str.ofString "_law_part_names") (Str.ofString "_law_part_names") st_part_names Z.a_part_names Z.d_part_names
  m_part_names : mg (Str.ofString "_law_part_names") = some (.ref Z.a_part_names)
  b_part_names : Binds K Z.d_part_names p_part_names []
  f_body : Fun K (Str.ofString "_law_body") (Str.ofString "_law_body") st_body Z.a_body Z.d_body
  m_body : mg (Str.ofString "_law_body") = some (.ref Z.a_body)
  b_body : Binds K Z.d_body p_body []
  f_law : Fun K (Str.ofString "law") (Str.ofString "law") st_law Z.a_law Z.d_law
  m_law : mg (Str.ofString "law") = some (.ref Z.a_law)
  b_law : Binds K Z.d_law p_law []
  g_STAND_IN : mg (Str.ofString "STAND_IN") = some Z.u_STAND_IN ∧ RelV Z.v_STAND_IN Z.u_STAND_IN ∧ ∀ H L β, VR K H L β g_STAND_IN Z.v_STAND_IN
structure Ok (P : Program) (w : World) (K : PySem.W.Frag) (mg : Str → Option Value) (base : Heap) (Z : Ad) (cad : Nat → Addr) (n : Nat) : Prop where
  part_of : FnG P w K mg base (L2.CX P w) n Z.a_part_of Z.d_part_of p_part_of (spR ⟨K, cad⟩ (p_part_of).length (run n .part_of))
  book_of : FnG P w K mg base (L2.CX P w) n Z.a_book_of Z.d_book_of p_book_of (spR ⟨K, cad⟩ (p_book_of).length (run n .book_of))
  mixed : FnG P w K mg base (L2.CX P w) n Z.a_mixed Z.d_mixed p_mixed (spR ⟨K, cad⟩ (p_mixed).length (run n .mixed))
  cell : FnG P w K mg base (L2.CX P w) n Z.a_cell Z.d_cell p_cell (spR ⟨K, cad⟩ (p_cell).length (run n .cell))
  fields : FnG P w K mg base (L2.CX P w) n Z.a_fields Z.d_fields p_fields (spR ⟨K, cad⟩ (p_fields).length (run n .fields))
  kind : FnG P w K mg base (L2.CX P w) n Z.a_kind Z.d_kind p_kind (spR ⟨K, cad⟩ (p_kind).length (run n .kind))
  makes : FnG P w K mg base (L2.CX P w) n Z.a_makes Z.d_makes p_makes (spR ⟨K, cad⟩ (p_makes).length (run n .makes))
  sizes : FnG P w K mg base (L2.CX P w) n Z.a_sizes Z.d_sizes p_sizes (spR ⟨K, cad⟩ (p_sizes).length (run n .sizes))
  part : FnG P w K mg base (L2.CX P w) n Z.a_part Z.d_part p_part (spR ⟨K, cad⟩ (p_part).length (run n .part))
  word : FnG P w K mg base (L2.CX P w) n Z.a_word Z.d_word p_word (spR ⟨K, cad⟩ (p_word).length (run n .word))
  names : FnG P w K mg base (L2.CX P w) n Z.a_names Z.d_names p_names (spR ⟨K, cad⟩ (p_names).length (run n .names))
  make_names : FnG P w K mg base (L2.CX P w) n Z.a_make_names Z.d_make_names p_make_names (spR ⟨K, cad⟩ (p_make_names).length (run n .make_names))
  part_names : FnG P w K mg base (L2.CX P w) n Z.a_part_names Z.d_part_names p_part_names (spR ⟨K, cad⟩ (p_part_names).length (run n .part_names))
  body : FnG P w K mg base (L2.CX P w) n Z.a_body Z.d_body p_body (spR ⟨K, cad⟩ (p_body).length (run n .body))
  law : FnG P w K mg base (L2.CX P w) n Z.a_law Z.d_law p_law (spR ⟨K, cad⟩ (p_law).length (run n .law))
theorem run_part_of (n : Nat) : run (n + 1) .part_of = runOf (n_part_of).length (b_part_of (run n)) := rfl
theorem run_book_of (n : Nat) : run (n + 1) .book_of = runOf (n_book_of).length (b_book_of (run n)) := rfl
theorem run_mixed (n : Nat) : run (n + 1) .mixed = runOf (n_mixed).length (b_mixed (run n)) := rfl
theorem run_cell (n : Nat) : run (n + 1) .cell = runOf (n_cell).length (b_cell (run n)) := rfl
theorem run_fields (n : Nat) : run (n + 1) .fields = runOf (n_fields).length (b_fields (run n)) := rfl
theorem run_kind (n : Nat) : run (n + 1) .kind = runOf (n_kind).length (b_kind (run n)) := rfl
theorem run_makes (n : Nat) : run (n + 1) .makes = runOf (n_makes).length (b_makes (run n)) := rfl
theorem run_sizes (n : Nat) : run (n + 1) .sizes = runOf (n_sizes).length (b_sizes (run n)) := rfl
theorem run_part (n : Nat) : run (n + 1) .part = runOf (n_part).length (b_part (run n)) := rfl
theorem run_word (n : Nat) : run (n + 1) .word = runOf (n_word).length (b_word (run n)) := rfl
theorem run_names (n : Nat) : run (n + 1) .names = runOf (n_names).length (b_names (run n)) := rfl
theorem run_make_names (n : Nat) : run (n + 1) .make_names = runOf (n_make_names).length (b_make_names (run n)) := rfl
theorem run_part_names (n : Nat) : run (n + 1) .part_names = runOf (n_part_names).length (b_part_names (run n)) := rfl
theorem run_body (n : Nat) : run (n + 1) .body = runOf (n_body).length (b_body (run n)) := rfl
theorem run_law (n : Nat) : run (n + 1) .law = runOf (n_law).length (b_law (run n)) := rfl
section
variable {P : Program} {w : World} {K : PySem.W.Frag} {mg : Str → Option Value} {base : Heap} {Z : Ad} {cad : Nat → Addr} {n : Nat}
theorem ok_part_of (T : Txt Z K mg) (I : Ok P w K mg base Z cad n) : FnG P w K mg base (L2.CX P w) (n + 1) Z.a_part_of Z.d_part_of p_part_of (spR ⟨K, cad⟩ (p_part_of).length (run (n + 1) .part_of)) := by
  have nd := sc_part_of.nd
  rw [run_part_of]
  refine fnG_run (m := b_part_of (run n)) T.f_part_of sc_part_of fun cdv A fr s H E hr => ?_
  have hp := passes_of (X := cxOf (L2.CX P w) P w K mg base n_part_of (Str.ofString "part_of") (defScope st_part_of) Z.a_part_of cdv A fr s H E) rfl
  exact (ss_cons (ss_asg (se_var 0) (sg_tup rfl (sgs_cons (sg_name (i := 1) nd rfl (Or.inl rfl)) (sgs_cons (sg_name (i := 2) nd rfl (Or.inl rfl)) (sgs_cons (sg_name (i := 3) nd rfl (Or.inl rfl)) (sgs_cons (sg_name (i := 4) nd rfl (Or.inl rfl)) sgs_nil)))) (gtCons_len (gtCons_len (gtCons_len (gtCons_len gtNil_len (gtName_ok 4)) (gtName_ok 3)) (gtName_ok 2)) (gtName_ok 1))) (ok3 (gtTup_ok _ (gtCons_ok _ _ (gtName_ok 1) (gtCons_ok _ _ (gtName_ok 2) (gtCons_ok _ _ (gtName_ok 3) (gtCons_ok _ _ (gtName_ok 4) gtNil_ok)))))))
  (ss_cons (ss_if (st_cmp op_isN os_isN (se_var 4) se_non (nomark _)) (ss_one (ss_ret (se_tup (sa_cons (se_callTy call_list_of (bs_list false) (by rfl) T.b_list (by decide +kernel) (sa_cons (se_var 2) sa_nil)) (sa_cons (se_var 3) (sa_cons (se_callB call_len bs_len (by rfl) T.b_len PySem.boot_len (sa_cons (se_var 2) sa_nil)) (sa_cons se_int (sa_cons (se_callTy call_list_of (bs_list false) (by rfl) T.b_list (by decide +kernel) (sa_cons (se_glob (by rfl) T.g_STAND_IN.1 T.g_STAND_IN.2.1 T.g_STAND_IN.2.2) sa_nil)) (sa_cons (se_new sa_nil) sa_nil))))))))) ss_nil)
  (ss_cons (ss_asg (se_var 4) (sg_tup rfl (sgs_cons (sg_name (i := 5) nd rfl (Or.inl rfl)) (sgs_cons (sg_name (i := 6) nd rfl (Or.inl rfl)) (sgs_cons (sg_name (i := 7) nd rfl (Or.inl rfl)) (sgs_cons (sg_name (i := 8) nd rfl (Or.inl rfl)) sgs_nil)))) (gtCons_len (gtCons_len (gtCons_len (gtCons_len gtNil_len (gtName_ok 8)) (gtName_ok 7)) (gtName_ok 6)) (gtName_ok 5))) (ok3 (gtTup_ok _ (gtCons_ok _ _ (gtName_ok 5) (gtCons_ok _ _ (gtName_ok 6) (gtCons_ok _ _ (gtName_ok 7) (gtCons_ok _ _ (gtName_ok 8) gtNil_ok)))))))
  (ss_one (ss_ret (se_tup (sa_cons (se_callTy call_list_of (bs_list false) (by rfl) T.b_list (by decide +kernel) (sa_cons (se_var 2) sa_nil)) (sa_cons (se_var 3) (sa_cons (se_var 5) (sa_cons (se_var 6) (sa_cons (se_callTy call_list_of (bs_list false) (by rfl) T.b_list (by decide +kernel) (sa_cons (se_var 7) sa_nil)) (sa_cons (se_callTy call_list_of (bs_list false) (by rfl) T.b_list (by decide +kernel) (sa_cons (se_var 8) sa_nil)) sa_nil))))))))))))
theorem ok_book_of (T : Txt Z K mg) (I : Ok P w K mg base Z cad n) : FnG P w K mg base (L2.CX P w) (n + 1) Z.a_book_of Z.d_book_of p_book_of (spR ⟨K, cad⟩ (p_book_of).length (run (n + 1) .book_of)) := by
  have nd := sc_book_of.nd
  rw [run_book_of]
  refine fnG_run (m := b_book_of (run n)) T.f_book_of sc_book_of fun cdv A fr s H E hr => ?_
  have hp := passes_of (X := cxOf (L2.CX P w) P w K mg base n_book_of (Str.ofString "book_of") (defScope st_book_of) Z.a_book_of cdv A fr s H E) rfl
  exact (ss_cons (ss_setComp (i := 1) (own := [((Str.ofString "name"), 2), ((Str.ofString "elder"), 3), ((Str.ofString "kinds"), 4), ((Str.ofString "own"), 5)]) (Or.inr rfl) rfl nd rfl rfl (sw_true rfl rfl rfl (by decide +kernel)) (si_seq (se_ix ix_seq os_ix (se_var 0) se_int (fun _ _ => rfl))) (blkOk_by (N := n_book_of) (sc := defScope st_book_of) (by decide +kernel)) (fun _ _ _ _ _ => (sgw_tup rfl (sgsw_cons (sgw_name (i := 2) nd rfl (Or.inl rfl) (by decide)) (sgsw_cons (sgw_name (i := 3) nd rfl (Or.inl rfl) (by decide)) (sgsw_cons (sgw_name (i := 4) nd rfl (Or.inl rfl) (by decide)) (sgsw_cons (sgw_name (i := 5) nd rfl (Or.inl rfl) (by decide)) sgsw_nil)))) (gtCons_len (gtCons_len (gtCons_len (gtCons_len gtNil_len (gtName_ok 5)) (gtName_ok 4)) (gtName_ok 3)) (gtName_ok 2)))) (fun _ _ _ _ _ => sts_nil) (fun _ _ _ _ _ => (se_tup (sa_cons (se_var 3) (sa_cons (se_callTy call_list_of (bs_list false) (by rfl) T.b_list (by decide +kernel) (sa_cons (se_var 4) sa_nil)) sa_nil)))))
  (ss_one (ss_ret (se_tup (sa_cons (se_var 1) (sa_cons (se_comp (own := [((Str.ofString "part"), 6)]) (Or.inr rfl) rfl nd (si_seq (se_ix ix_seq os_ix (se_var 0) se_int (fun _ _ => rfl))) (blkOk_by (N := n_book_of) (sc := defScope st_book_of) (by decide +kernel)) (fun _ _ _ _ _ => (sgw_name (i := 6) nd rfl (Or.inl rfl) (by decide))) (fun _ _ _ _ _ => sts_nil) (fun _ _ _ _ _ => (se_call I.part_of hr (by rfl) T.m_part_of T.f_part_of.kp T.b_part_of takes0 (sa_cons (se_var 6) sa_nil) rfl (mCons_len mNil_len)))) sa_nil))))))
theorem ok_mixed (T : Txt Z K mg) (I : Ok P w K mg base Z cad n) : FnG P w K mg base (L2.CX P w) (n + 1) Z.a_mixed Z.d_mixed p_mixed (spR ⟨K, cad⟩ (p_mixed).length (run (n + 1) .mixed)) := by
  have nd := sc_mixed.nd
  rw [run_mixed]
  refine fnG_run (m := b_mixed (run n)) T.f_mixed sc_mixed fun cdv A fr s H E hr => ?_
  have hp := passes_of (X := cxOf (L2.CX P w) P w K mg base n_mixed (Str.ofString "_law_mixed") (defScope st_mixed) Z.a_mixed cdv A fr s H E) rfl
  exact (ss_cons (ss_set (i := 2) nd rfl (Or.inl rfl) (se_op op_mod os_mod (se_op op_mulA (os_mul true) (se_op op_addA (os_add true) (se_op op_addA (os_add true) (se_op op_mod os_mod (se_var 0) se_int) (se_op op_mulA (os_mul true) se_int (se_var 1))) se_int) se_int) se_int))
  (ss_cons (ss_set (i := 2) nd rfl (Or.inl rfl) (se_op op_mod os_mod (se_op op_mulA (os_mul true) (se_op op_addA (os_add true) (se_op op_addA (os_add true) (se_op op_mod os_mod (se_op op_fdiv os_div (se_var 2) se_int) se_int) (se_op op_mulA (os_mul true) se_int (se_var 1))) se_int) (se_op op_addA (os_add true) (se_op op_mod os_mod (se_var 2) se_int) se_int)) se_int))
  (ss_one (ss_ret (se_op op_fdiv os_div (se_op op_mod os_mod (se_op op_mulA (os_mul true) (se_op op_fdiv os_div (se_var 2) se_int) (se_op op_addA (os_add true) (se_op op_mod os_mod (se_var 2) se_int) se_int)) se_int) se_int)))))
theorem ok_cell (T : Txt Z K mg) (I : Ok P w K mg base Z cad n) : FnG P w K mg base (L2.CX P w) (n + 1) Z.a_cell Z.d_cell p_cell (spR ⟨K, cad⟩ (p_cell).length (run (n + 1) .cell)) := by
  have nd := sc_cell.nd
  rw [run_cell]
  refine fnG_run (m := b_cell (run n)) T.f_cell sc_cell fun cdv A fr s H E hr => ?_
  have hp := passes_of (X := cxOf (L2.CX P w) P w K mg base n_cell (Str.ofString "_law_cell") (defScope st_cell) Z.a_cell cdv A fr s H E) rfl
  exact (ss_cons (ss_if (st_cmp op_lt os_lt (se_var 1) (se_callB call_len bs_len (by rfl) T.b_len PySem.boot_len (sa_cons (se_var 0) sa_nil)) (nomark _)) (ss_one (ss_ret (se_ix ix_seq os_ix (se_var 0) (se_var 1) (fun _ _ => rfl)))) ss_nil)
  (ss_one (ss_ret (se_pcall I.mixed hr (by rfl) T.m_mixed T.f_mixed.kp T.b_mixed (takes_of rfl rfl rfl rfl) (sa_cons (se_callB (cr_sum rfl) bs_sum (by rfl) T.b_sum (by decide +kernel) (sa_cons (se_slice sl_all (os_sl true) (se_var 0) so_none (so_some se_int)) sa_nil)) (sa_cons (se_op op_addA (os_add true) se_int (se_var 1)) sa_nil)) rfl (mCons_len (mCons_len mNil_len))))))
theorem ok_fields (T : Txt Z K mg) (I : Ok P w K mg base Z cad n) : FnG P w K mg base (L2.CX P w) (n + 1) Z.a_fields Z.d_fields p_fields (spR ⟨K, cad⟩ (p_fields).length (run (n + 1) .fields)) := by
  have nd := sc_fields.nd
  rw [run_fields]
  refine fnG_run (m := b_fields (run n)) T.f_fields sc_fields fun cdv A fr s H E hr => ?_
  have hp := passes_of (X := cxOf (L2.CX P w) P w K mg base n_fields (Str.ofString "_law_fields") (defScope st_fields) Z.a_fields cdv A fr s H E) rfl
  exact (ss_cons (ss_set (i := 2) nd rfl (Or.inl rfl) (se_lst sa_nil))
  (ss_cons (ss_while hp (st_cmp op_notN os_notN (se_var 1) se_non (nomark _)) (ss_cons (ss_set (i := 2) nd rfl (Or.inl rfl) (se_op op_addA (os_add true) (se_ix ix_seq os_ix (se_ix ix_seq os_ix (se_var 0) (se_var 1) (fun _ _ => rfl)) se_int (fun _ _ => rfl)) (se_var 2)))
    (ss_one (ss_set (i := 1) nd rfl (Or.inl rfl) (se_ix ix_seq os_ix (se_ix ix_seq os_ix (se_var 0) (se_var 1) (fun _ _ => rfl)) se_int (fun _ _ => rfl))))))
  (ss_one (ss_ret (se_var 2)))))
theorem ok_kind (T : Txt Z K mg) (I : Ok P w K mg base Z cad n) : FnG P w K mg base (L2.CX P w) (n + 1) Z.a_kind Z.d_kind p_kind (spR ⟨K, cad⟩ (p_kind).length (run (n + 1) .kind)) := by
  have nd := sc_kind.nd
  rw [run_kind]
  refine fnG_run (m := b_kind (run n)) T.f_kind sc_kind fun cdv A fr s H E hr => ?_
  have hp := passes_of (X := cxOf (L2.CX P w) P w K mg base n_kind (Str.ofString "_law_kind") (defScope st_kind) Z.a_kind cdv A fr s H E) rfl
  exact (ss_cons (ss_set (i := 2) nd rfl (Or.inl rfl) (se_op op_mod os_mod (se_op op_fdiv os_div (se_var 0) se_int) (se_callB call_len bs_len (by rfl) T.b_len PySem.boot_len (sa_cons (se_var 1) sa_nil))))
  (ss_cons (ss_set (i := 3) nd rfl (Or.inl rfl) (se_op op_mod os_mod (se_var 0) se_int))
  (ss_cons (ss_if (st_cmp op_lt os_lt (se_var 3) se_int (nomark _)) (ss_one (ss_ret (se_tup (sa_cons se_str sa_nil)))) ss_nil)
  (ss_cons (ss_if (st_cmp op_lt os_lt (se_var 3) se_int (nomark _)) (ss_one (ss_ret (se_tup (sa_cons se_str (sa_cons (se_var 2) sa_nil))))) ss_nil)
  (ss_cons (ss_if (st_cmp op_lt os_lt (se_var 3) se_int (nomark _)) (ss_one (ss_ret (se_tup (sa_cons se_str (sa_cons (se_var 2) (sa_cons (se_op op_mod os_mod (se_op op_fdiv os_div (se_var 0) se_int) (se_op op_shl os_shl se_int (se_ix ix_seq os_ix (se_var 1) (se_var 2) (fun _ _ => rfl)))) sa_nil)))))) ss_nil)
  (ss_one (ss_ret (se_tup (sa_cons se_str sa_nil)))))))))
theorem ok_makes (T : Txt Z K mg) (I : Ok P w K mg base Z cad n) : FnG P w K mg base (L2.CX P w) (n + 1) Z.a_makes Z.d_makes p_makes (spR ⟨K, cad⟩ (p_makes).length (run (n + 1) .makes)) := by
  have nd := sc_makes.nd
  rw [run_makes]
  refine fnG_run (m := b_makes (run n)) T.f_makes sc_makes fun cdv A fr s H E hr => ?_
  have hp := passes_of (X := cxOf (L2.CX P w) P w K mg base n_makes (Str.ofString "_law_makes") (defScope st_makes) Z.a_makes cdv A fr s H E) rfl
  exact (ss_cons (ss_set (i := 1) nd rfl (Or.inl rfl) (se_op op_addA (os_add true) se_int (se_op op_mod os_mod (se_var 0) se_int)))
  (ss_cons (ss_set (i := 2) nd rfl (Or.inl rfl) (se_new (sa_cons se_non sa_nil)))
  (ss_cons (ss_set (i := 3) nd rfl (Or.inr rfl) (se_new (sa_cons se_int sa_nil)))
  (ss_cons (ss_for hp rfl (si_range2 (by rfl) T.b_range se_int (se_var 1)) (sg_name (i := 4) nd rfl (Or.inr rfl)) (ss_cons (ss_expr (se_bm .list PySem.F.plainAttrs_list PySem.F.slot_list_append PySem.F.type_list_append mt_append ms_append (se_var 2) (sa_cons (se_op op_mod os_mod (se_pcall I.mixed hr (by rfl) T.m_mixed T.f_mixed.kp T.b_mixed (takes_of rfl rfl rfl rfl) (sa_cons (se_var 0) (sa_cons (se_var 4) sa_nil)) rfl (mCons_len (mCons_len mNil_len))) (se_var 4)) sa_nil)))
    (ss_one (ss_expr (se_bm .list PySem.F.plainAttrs_list PySem.F.slot_list_append PySem.F.type_list_append mt_append ms_append (se_var 3) (sa_cons (se_callB (call_min2 rfl) bs_min (by rfl) T.b_min (by decide +kernel) (sa_cons se_int (sa_cons (se_op op_addA (os_add true) (se_ix ix_seq os_ix (se_var 3) (se_ix ix_seq os_ix (se_var 2) (se_var 4) (fun _ _ => rfl)) (fun _ _ => rfl)) (se_op op_mod os_mod (se_pcall I.mixed hr (by rfl) T.m_mixed T.f_mixed.kp T.b_mixed (takes_of rfl rfl rfl rfl) (sa_cons (se_var 0) (sa_cons (se_op op_addA (os_add true) se_int (se_var 4)) sa_nil)) rfl (mCons_len (mCons_len mNil_len))) se_int)) sa_nil))) sa_nil))))))
  (ss_frz 2
  (ss_frz 3
  (ss_cons (ss_set (i := 5) nd rfl (Or.inl rfl) (se_new (sa_cons (se_tup (sa_cons se_non (sa_cons (se_lst sa_nil) sa_nil))) sa_nil)))
  (ss_cons (ss_for hp rfl (si_range2 (by rfl) T.b_range se_int (se_var 1)) (sg_name (i := 4) nd rfl (Or.inr rfl)) (ss_cons (ss_set (i := 6) nd rfl (Or.inl rfl) (se_op op_sub os_sub (se_ix ix_seq os_ix (se_var 3) (se_var 4) (fun _ _ => rfl)) (se_ix ix_seq os_ix (se_var 3) (se_ix ix_seq os_ix (se_var 2) (se_var 4) (fun _ _ => rfl)) (fun _ _ => rfl))))
    (ss_one (ss_expr (se_bm .list PySem.F.plainAttrs_list PySem.F.slot_list_append PySem.F.type_list_append mt_append ms_append (se_var 5) (sa_cons (se_tup (sa_cons (se_ix ix_seq os_ix (se_var 2) (se_var 4) (fun _ _ => rfl)) (sa_cons (se_comp (own := [((Str.ofString "_law_j"), 7)]) (Or.inl rfl) rfl nd (si_range1 (by rfl) T.b_range (se_var 6)) (blkOk_by (N := n_makes) (sc := defScope st_makes) (by decide +kernel)) (fun _ _ _ _ _ => (sgw_name (i := 7) nd rfl (Or.inl rfl) (by decide))) (fun _ _ _ _ _ => sts_nil) (fun _ _ _ _ _ => (se_pcall I.kind hr (by rfl) T.m_kind T.f_kind.kp T.b_kind takes0 (sa_cons (se_pcall I.mixed hr (by rfl) T.m_mixed T.f_mixed.kp T.b_mixed takes0 (sa_cons (se_var 0) (sa_cons (se_op op_addA (os_add true) (se_op op_addA (os_add true) se_int (se_op op_mulA (os_mul true) se_int (se_var 4))) (se_var 7)) sa_nil)) rfl (mCons_len (mCons_len mNil_len))) (sa_cons (se_var 3) sa_nil)) rfl (mCons_len (mCons_len mNil_len))))) sa_nil))) sa_nil))))))
  (ss_frz 5
  (ss_one (ss_ret (se_var 5))))))))))))
theorem ok_sizes (T : Txt Z K mg) (I : Ok P w K mg base Z cad n) : FnG P w K mg base (L2.CX P w) (n + 1) Z.a_sizes Z.d_sizes p_sizes (spR ⟨K, cad⟩ (p_sizes).length (run (n + 1) .sizes)) := by
  have nd := sc_sizes.nd
  rw [run_sizes]
  refine fnG_run (m := b_sizes (run n)) T.f_sizes sc_sizes fun cdv A fr s H E hr => ?_
  have hp := passes_of (X := cxOf (L2.CX P w) P w K mg base n_sizes (Str.ofString "_law_sizes") (defScope st_sizes) Z.a_sizes cdv A fr s H E) rfl
  exact (ss_one (ss_ret (se_comp (own := [((Str.ofString "_law_c"), 1)]) (Or.inl rfl) rfl nd (si_range1 (by rfl) T.b_range (se_callB call_len bs_len (by rfl) T.b_len PySem.boot_len (sa_cons (se_var 0) sa_nil))) (blkOk_by (N := n_sizes) (sc := defScope st_sizes) (by decide +kernel)) (fun _ _ _ _ _ => (sgw_name (i := 1) nd rfl (Or.inl rfl) (by decide))) (fun _ _ _ _ _ => sts_nil) (fun _ _ _ _ _ => (se_callB call_len bs_len (by rfl) T.b_len PySem.boot_len (sa_cons (se_pcall I.fields hr (by rfl) T.m_fields T.f_fields.kp T.b_fields takes0 (sa_cons (se_var 0) (sa_cons (se_var 1) sa_nil)) rfl (mCons_len (mCons_len mNil_len))) sa_nil))))))
theorem ok_part (T : Txt Z K mg) (I : Ok P w K mg base Z cad n) : FnG P w K mg base (L2.CX P w) (n + 1) Z.a_part Z.d_part p_part (spR ⟨K, cad⟩ (p_part).length (run (n + 1) .part)) := by
  have nd := sc_part.nd
  rw [run_part]
  refine fnG_run (m := b_part (run n)) T.f_part sc_part fun cdv A fr s H E hr => ?_
  have hp := passes_of (X := cxOf (L2.CX P w) P w K mg base n_part (Str.ofString "_law_part") (defScope st_part) Z.a_part cdv A fr s H E) rfl
  exact (ss_cons (ss_set (i := 2) nd rfl (Or.inr rfl) (se_pcall I.sizes hr (by rfl) T.m_sizes T.f_sizes.kp T.b_sizes (takes_of rfl rfl rfl rfl) (sa_cons (se_var 0) sa_nil) rfl (mCons_len mNil_len)))
  (ss_cons (ss_setComp (i := 3) (own := [((Str.ofString "_law_k"), 6)]) (Or.inl rfl) rfl nd rfl rfl (sw_true rfl rfl rfl (by decide +kernel)) (si_range1 (by rfl) T.b_range (se_op op_mod os_mod (se_pcall I.mixed hr (by rfl) T.m_mixed T.f_mixed.kp T.b_mixed (takes_of rfl rfl rfl rfl) (sa_cons (se_var 1) (sa_cons se_int sa_nil)) rfl (mCons_len (mCons_len mNil_len))) se_int)) (blkOk_by (N := n_part) (sc := defScope st_part) (by decide +kernel)) (fun _ _ _ _ _ => (sgw_name (i := 6) nd rfl (Or.inl rfl) (by decide))) (fun _ _ _ _ _ => sts_nil) (fun _ _ _ _ _ => (se_pcall I.kind hr (by rfl) T.m_kind T.f_kind.kp T.b_kind takes0 (sa_cons (se_pcall I.mixed hr (by rfl) T.m_mixed T.f_mixed.kp T.b_mixed takes0 (sa_cons (se_var 1) (sa_cons (se_var 6) sa_nil)) rfl (mCons_len (mCons_len mNil_len))) (sa_cons (se_var 2) sa_nil)) rfl (mCons_len (mCons_len mNil_len)))))
  (ss_cons (ss_set (i := 4) nd rfl (Or.inl rfl) (se_pcall I.kind hr (by rfl) T.m_kind T.f_kind.kp T.b_kind (takes_of rfl rfl rfl rfl) (sa_cons (se_pcall I.mixed hr (by rfl) T.m_mixed T.f_mixed.kp T.b_mixed (takes_of rfl rfl rfl rfl) (sa_cons (se_var 1) (sa_cons se_int sa_nil)) rfl (mCons_len (mCons_len mNil_len))) (sa_cons (se_var 2) sa_nil)) rfl (mCons_len (mCons_len mNil_len))))
  (ss_cons (ss_if (st_cmp op_gt os_gt (se_op op_mod os_mod (se_pcall I.mixed hr (by rfl) T.m_mixed T.f_mixed.kp T.b_mixed (takes_of rfl rfl rfl rfl) (sa_cons (se_var 1) (sa_cons se_int sa_nil)) rfl (mCons_len (mCons_len mNil_len))) se_int) se_int (nomark _)) (ss_one (ss_set (i := 4) nd rfl (Or.inl rfl) (se_tup (sa_cons se_str sa_nil)))) ss_nil)
  (ss_cons (ss_set (i := 5) nd rfl (Or.inl rfl) (se_op op_addA (os_add true) (se_callB call_len bs_len (by rfl) T.b_len PySem.boot_len (sa_cons (se_var 3) sa_nil)) (se_op op_mod os_mod (se_pcall I.mixed hr (by rfl) T.m_mixed T.f_mixed.kp T.b_mixed (takes_of rfl rfl rfl rfl) (sa_cons (se_var 1) (sa_cons se_int sa_nil)) rfl (mCons_len (mCons_len mNil_len))) se_int)))
  (ss_one (ss_ret (se_tup (sa_cons (se_var 3) (sa_cons (se_var 4) (sa_cons (se_var 5) (sa_cons (se_op op_addA (os_add true) se_int (se_op op_mod os_mod (se_pcall I.mixed hr (by rfl) T.m_mixed T.f_mixed.kp T.b_mixed (takes_of rfl rfl rfl rfl) (sa_cons (se_var 1) (sa_cons se_int sa_nil)) rfl (mCons_len (mCons_len mNil_len))) se_int)) (sa_cons (se_lst (sa_cons (se_tup (sa_cons se_str (sa_cons se_int sa_nil))) (sa_cons (se_tup (sa_cons se_str sa_nil)) sa_nil))) (sa_cons (se_lst sa_nil) sa_nil))))))))))))))
theorem ok_word (T : Txt Z K mg) (I : Ok P w K mg base Z cad n) : FnG P w K mg base (L2.CX P w) (n + 1) Z.a_word Z.d_word p_word (spR ⟨K, cad⟩ (p_word).length (run (n + 1) .word)) := by
  have nd := sc_word.nd
  rw [run_word]
  refine fnG_run (m := b_word (run n)) T.f_word sc_word fun cdv A fr s H E hr => ?_
  have hp := passes_of (X := cxOf (L2.CX P w) P w K mg base n_word (Str.ofString "_law_word") (defScope st_word) Z.a_word cdv A fr s H E) rfl
  exact (ss_one (ss_ret (se_ix ix_seq os_ix (se_lst (sa_cons (se_op op_sub os_sub (se_op op_mod os_mod (se_op op_fdiv os_div (se_var 0) se_int) se_int) se_int) (sa_cons (se_op op_sub os_sub (se_op op_mod os_mod (se_op op_fdiv os_div (se_var 0) se_int) se_int) se_int) sa_nil))) (se_callTy call_int1 bs_int (by rfl) T.b_int (by decide +kernel) (sa_cons (se_cmp op_gt os_gt (se_op op_mod os_mod (se_var 0) se_int) se_int (nomark _)) sa_nil)) (fun _ _ => rfl))))
theorem ok_names (T : Txt Z K mg) (I : Ok P w K mg base Z cad n) : FnG P w K mg base (L2.CX P w) (n + 1) Z.a_names Z.d_names p_names (spR ⟨K, cad⟩ (p_names).length (run (n + 1) .names)) := by
  have nd := sc_names.nd
  rw [run_names]
  refine fnG_run (m := b_names (run n)) T.f_names sc_names fun cdv A fr s H E hr => ?_
  have hp := passes_of (X := cxOf (L2.CX P w) P w K mg base n_names (Str.ofString "_law_names") (defScope st_names) Z.a_names cdv A fr s H E) rfl
  exact (ss_cons (ss_set (i := 2) nd rfl (Or.inl rfl) se_str)
  (ss_cons (ss_set (i := 3) nd rfl (Or.inl rfl) (se_op op_addA (os_add true) se_int (se_op op_mod os_mod (se_pcall I.mixed hr (by rfl) T.m_mixed T.f_mixed.kp T.b_mixed (takes_of rfl rfl rfl rfl) (sa_cons (se_var 0) (sa_cons se_int sa_nil)) rfl (mCons_len (mCons_len mNil_len))) se_int)))
  (ss_cons (ss_set (i := 4) nd rfl (Or.inl rfl) (se_op op_mod os_mod (se_pcall I.mixed hr (by rfl) T.m_mixed T.f_mixed.kp T.b_mixed (takes_of rfl rfl rfl rfl) (sa_cons (se_var 0) (sa_cons se_int sa_nil)) rfl (mCons_len (mCons_len mNil_len))) (se_var 3)))
  (ss_cons (ss_set (i := 5) nd rfl (Or.inl rfl) (se_new sa_nil))
  (ss_cons (ss_for hp rfl (si_range1 (by rfl) T.b_range (se_var 1)) (sg_name (i := 6) nd rfl (Or.inl rfl)) (ss_cons (ss_set (i := 7) nd rfl (Or.inl rfl) se_str)
    (ss_cons (ss_for hp rfl (si_range1 (by rfl) T.b_range (se_var 3)) (sg_name (i := 8) nd rfl (Or.inl rfl)) (ss_one (ss_set (i := 7) nd rfl (Or.inl rfl) (se_op op_addA (os_add true) (se_var 7) (se_ix ix_seq os_ix (se_var 2) (se_op op_mod os_mod (se_op op_addA (os_add true) (se_pcall I.mixed hr (by rfl) T.m_mixed T.f_mixed.kp T.b_mixed (takes_of rfl rfl rfl rfl) (sa_cons (se_var 0) (sa_cons (se_op op_addA (os_add true) se_int (se_var 8)) sa_nil)) rfl (mCons_len (mCons_len mNil_len))) (se_op op_mulA (os_mul true) (se_op op_mulA (os_mul true) se_int (se_var 6)) (se_callTy call_int1 bs_int (by rfl) T.b_int (by decide +kernel) (sa_cons (se_cmp (op_eqA hr.u64) os_eq (se_var 8) (se_var 4) (nomark _)) sa_nil)))) se_int) (fun _ _ => rfl))))))
    (ss_one (ss_expr (se_bm .list PySem.F.plainAttrs_list PySem.F.slot_list_append PySem.F.type_list_append mt_append ms_append (se_var 5) (sa_cons (se_slice sl_all (os_sl true) (se_var 7) so_none (so_some (se_callB (call_max2 rfl) bs_max (by rfl) T.b_max (by decide +kernel) (sa_cons (se_op op_addA (os_add true) (se_var 4) se_int) (sa_cons (se_op op_sub os_sub (se_var 3) (se_op op_mulA (os_mul true) (se_op op_mod os_mod (se_var 6) se_int) (se_op op_mod os_mod (se_pcall I.mixed hr (by rfl) T.m_mixed T.f_mixed.kp T.b_mixed (takes_of rfl rfl rfl rfl) (sa_cons (se_var 0) (sa_cons se_int sa_nil)) rfl (mCons_len (mCons_len mNil_len))) se_int))) sa_nil))))) sa_nil)))))))
  (ss_one (ss_ret (se_var 5))))))))
theorem ok_make_names (T : Txt Z K mg) (I : Ok P w K mg base Z cad n) : FnG P w K mg base (L2.CX P w) (n + 1) Z.a_make_names Z.d_make_names p_make_names (spR ⟨K, cad⟩ (p_make_names).length (run (n + 1) .make_names)) := by
  have nd := sc_make_names.nd
  rw [run_make_names]
  refine fnG_run (m := b_make_names (run n)) T.f_make_names sc_make_names fun cdv A fr s H E hr => ?_
  have hp := passes_of (X := cxOf (L2.CX P w) P w K mg base n_make_names (Str.ofString "_law_make_names") (defScope st_make_names) Z.a_make_names cdv A fr s H E) rfl
  exact (ss_cons (ss_set (i := 2) nd rfl (Or.inl rfl) (se_call I.names hr (by rfl) T.m_names T.f_names.kp T.b_names (takes_of rfl rfl rfl rfl) (sa_cons (se_var 0) (sa_cons (se_op op_sub os_sub (se_var 1) se_int) sa_nil)) rfl (mCons_len (mCons_len mNil_len))))
  (ss_cons (ss_if (st_cmp op_in_seq (os_in false) se_str (se_var 2) (by rfl)) (ss_one (ss_setComp (i := 2) (own := [((Str.ofString "_law_name"), 3)]) (Or.inl rfl) rfl nd rfl rfl (sw_true rfl rfl rfl (by decide +kernel)) (si_seq (se_var 2)) (blkOk_by (N := n_make_names) (sc := defScope st_make_names) (by decide +kernel)) (fun _ _ _ _ _ => (sgw_name (i := 3) nd rfl (Or.inl rfl) (by decide))) (fun _ _ _ _ _ => sts_nil) (fun _ _ _ _ _ => (se_op op_addA (os_add true) (se_var 3) se_str)))) ss_nil)
  (ss_one (ss_ret (se_op op_addA (os_add true) (se_lst (sa_cons se_str sa_nil)) (se_var 2))))))
theorem ok_part_names (T : Txt Z K mg) (I : Ok P w K mg base Z cad n) : FnG P w K mg base (L2.CX P w) (n + 1) Z.a_part_names Z.d_part_names p_part_names (spR ⟨K, cad⟩ (p_part_names).length (run (n + 1) .part_names)) := by
  have nd := sc_part_names.nd
  rw [run_part_names]
  refine fnG_run (m := b_part_names (run n)) T.f_part_names sc_part_names fun cdv A fr s H E hr => ?_
  have hp := passes_of (X := cxOf (L2.CX P w) P w K mg base n_part_names (Str.ofString "_law_part_names") (defScope st_part_names) Z.a_part_names cdv A fr s H E) rfl
  exact (ss_cons (ss_set (i := 2) nd rfl (Or.inl rfl) (se_call I.names hr (by rfl) T.m_names T.f_names.kp T.b_names (takes_of rfl rfl rfl rfl) (sa_cons (se_pcall I.mixed hr (by rfl) T.m_mixed T.f_mixed.kp T.b_mixed (takes_of rfl rfl rfl rfl) (sa_cons (se_var 0) (sa_cons se_int sa_nil)) rfl (mCons_len (mCons_len mNil_len))) (sa_cons (se_var 1) sa_nil)) rfl (mCons_len (mCons_len mNil_len))))
  (ss_cons (ss_if (PW.pt (spw_and (st_cmp (op_eqA hr.u64) os_eq (se_op op_mod os_mod (se_pcall I.mixed hr (by rfl) T.m_mixed T.f_mixed.kp T.b_mixed (takes_of rfl rfl rfl rfl) (sa_cons (se_var 0) (sa_cons se_int sa_nil)) rfl (mCons_len (mCons_len mNil_len))) se_int) se_int (nomark _)) (spw_and1 (st_cmp op_notIn_seq (os_in true) se_str (se_var 2) (by rfl))))) (ss_one (ss_asg se_str (sg_sub (se_var 2) (se_op op_mod os_mod (se_pcall I.mixed hr (by rfl) T.m_mixed T.f_mixed.kp T.b_mixed (takes_of rfl rfl rfl rfl) (sa_cons (se_var 0) (sa_cons se_int sa_nil)) rfl (mCons_len (mCons_len mNil_len))) (se_var 1))) gtSub_ok)) ss_nil)
  (ss_frz 2
  (ss_one (ss_ret (se_var 2))))))
theorem ok_body (T : Txt Z K mg) (I : Ok P w K mg base Z cad n) : FnG P w K mg base (L2.CX P w) (n + 1) Z.a_body Z.d_body p_body (spR ⟨K, cad⟩ (p_body).length (run (n + 1) .body)) := by
  have nd := sc_body.nd
  rw [run_body]
  refine fnG_run (m := b_body (run n)) T.f_body sc_body fun cdv A fr s H E hr => ?_
  have hp := passes_of (X := cxOf (L2.CX P w) P w K mg base n_body (Str.ofString "_law_body") (defScope st_body) Z.a_body cdv A fr s H E) rfl
  exact (ss_cons (ss_set (i := 3) nd rfl (Or.inr rfl) (se_op op_mulA (os_mul true) (se_lst (sa_cons (se_tup (sa_cons se_str (sa_cons (se_pcall I.word hr (by rfl) T.m_word T.f_word.kp T.b_word (takes_of rfl rfl rfl rfl) (sa_cons (se_pcall I.mixed hr (by rfl) T.m_mixed T.f_mixed.kp T.b_mixed (takes_of rfl rfl rfl rfl) (sa_cons (se_var 0) (sa_cons se_int sa_nil)) rfl (mCons_len (mCons_len mNil_len))) sa_nil) rfl (mCons_len mNil_len)) sa_nil))) (sa_cons (se_tup (sa_cons se_str sa_nil)) sa_nil))) (se_op op_mod os_mod (se_pcall I.mixed hr (by rfl) T.m_mixed T.f_mixed.kp T.b_mixed (takes_of rfl rfl rfl rfl) (sa_cons (se_var 0) (sa_cons se_int sa_nil)) rfl (mCons_len (mCons_len mNil_len))) se_int)))
  (ss_cons (ss_set (i := 3) nd rfl (Or.inr rfl) (se_op op_addA (os_add true) (se_var 3) (se_lst (sa_cons (se_tup (sa_cons se_str (sa_cons (se_pcall I.word hr (by rfl) T.m_word T.f_word.kp T.b_word (takes_of rfl rfl rfl rfl) (sa_cons (se_pcall I.mixed hr (by rfl) T.m_mixed T.f_mixed.kp T.b_mixed (takes_of rfl rfl rfl rfl) (sa_cons (se_var 0) (sa_cons se_int sa_nil)) rfl (mCons_len (mCons_len mNil_len))) sa_nil) rfl (mCons_len mNil_len)) sa_nil))) (sa_cons (se_tup (sa_cons se_str sa_nil)) sa_nil)))))
  (ss_cons (ss_setComp (i := 4) (own := [((Str.ofString "_law_k"), 5)]) (Or.inl rfl) rfl nd rfl rfl (sw_true rfl rfl rfl (by decide +kernel)) (si_range1 (by rfl) T.b_range (se_op op_mod os_mod (se_pcall I.mixed hr (by rfl) T.m_mixed T.f_mixed.kp T.b_mixed (takes_of rfl rfl rfl rfl) (sa_cons (se_var 0) (sa_cons se_int sa_nil)) rfl (mCons_len (mCons_len mNil_len))) se_int)) (blkOk_by (N := n_body) (sc := defScope st_body) (by decide +kernel)) (fun _ _ _ _ _ => (sgw_name (i := 5) nd rfl (Or.inl rfl) (by decide))) (fun _ _ _ _ _ => sts_nil) (fun _ _ _ _ _ => (se_tup (sa_cons se_int (sa_cons (se_op op_sub os_sub (se_callB call_len bs_len (by rfl) T.b_len PySem.boot_len (sa_cons (se_var 3) sa_nil)) (se_var 5)) (sa_cons se_int sa_nil))))))
  (ss_one (ss_ret (se_tup (sa_cons (se_var 1) (sa_cons (se_var 2) (sa_cons (se_var 3) (sa_cons (se_var 4) sa_nil))))))))))
theorem ok_law (T : Txt Z K mg) (I : Ok P w K mg base Z cad n) : FnG P w K mg base (L2.CX P w) (n + 1) Z.a_law Z.d_law p_law (spR ⟨K, cad⟩ (p_law).length (run (n + 1) .law)) := by
  have nd := sc_law.nd
  rw [run_law]
  refine fnG_run (m := b_law (run n)) T.f_law sc_law fun cdv A fr s H E hr => ?_
  have hp := passes_of (X := cxOf (L2.CX P w) P w K mg base n_law (Str.ofString "law") (defScope st_law) Z.a_law cdv A fr s H E) rfl
  exact (ss_cons (ss_set (i := 1) nd rfl (Or.inl rfl) (se_pcall I.makes hr (by rfl) T.m_makes T.f_makes.kp T.b_makes (takes_of rfl rfl rfl rfl) (sa_cons (se_pcall I.cell hr (by rfl) T.m_cell T.f_cell.kp T.b_cell (takes_of rfl rfl rfl rfl) (sa_cons (se_var 0) (sa_cons se_int sa_nil)) rfl (mCons_len (mCons_len mNil_len))) sa_nil) rfl (mCons_len mNil_len)))
  (ss_cons (ss_set (i := 2) nd rfl (Or.inl rfl) (se_pcall I.make_names hr (by rfl) T.m_make_names T.f_make_names.kp T.b_make_names (takes_of rfl rfl rfl rfl) (sa_cons (se_pcall I.cell hr (by rfl) T.m_cell T.f_cell.kp T.b_cell (takes_of rfl rfl rfl rfl) (sa_cons (se_var 0) (sa_cons se_int sa_nil)) rfl (mCons_len (mCons_len mNil_len))) (sa_cons (se_callB call_len bs_len (by rfl) T.b_len PySem.boot_len (sa_cons (se_var 1) sa_nil)) sa_nil)) rfl (mCons_len (mCons_len mNil_len))))
  (ss_cons (ss_set (i := 3) nd rfl (Or.inl rfl) (se_pcall I.cell hr (by rfl) T.m_cell T.f_cell.kp T.b_cell (takes_of rfl rfl rfl rfl) (sa_cons (se_var 0) (sa_cons se_int sa_nil)) rfl (mCons_len (mCons_len mNil_len))))
  (ss_cons (ss_set (i := 4) nd rfl (Or.inl rfl) (se_new sa_nil))
  (ss_cons (ss_for hp rfl (si_enum (by rfl) T.b_enumerate (se_var 1)) (sg_tup rfl (sgs_cons (sg_name (i := 13) nd rfl (Or.inl rfl)) (sgs_cons (sg_name (i := 14) nd rfl (Or.inl rfl)) sgs_nil)) (gtCons_len (gtCons_len gtNil_len (gtName_ok 14)) (gtName_ok 13))) (ss_one (ss_expr (se_bm .list PySem.F.plainAttrs_list PySem.F.slot_list_append PySem.F.type_list_append mt_append ms_append (se_var 4) (sa_cons (se_tup (sa_cons (se_ix ix_seq os_ix (se_var 2) (se_var 13) (fun _ _ => rfl)) (sa_cons (se_ix ix_seq os_ix (se_var 14) se_int (fun _ _ => rfl)) (sa_cons (se_callTy call_list_of (bs_list true) (by rfl) T.b_list (by decide +kernel) (sa_cons (se_ix ix_seq os_ix (se_var 14) se_int (fun _ _ => rfl)) sa_nil)) (sa_cons (se_and (se_cmp op_gt os_gt (se_var 13) se_int (nomark _)) (se_one (se_cmp (op_eqA hr.u64) os_eq (se_op op_mod os_mod (se_pcall I.mixed hr (by rfl) T.m_mixed T.f_mixed.kp T.b_mixed (takes_of rfl rfl rfl rfl) (sa_cons (se_var 3) (sa_cons (se_op op_addA (os_add true) se_int (se_var 13)) sa_nil)) rfl (mCons_len (mCons_len mNil_len))) se_int) se_int (nomark _)))) sa_nil))))) sa_nil)))))
  (ss_cons (ss_set (i := 2) nd rfl (Or.inl rfl) (se_pcall I.part_names hr (by rfl) T.m_part_names T.f_part_names.kp T.b_part_names (takes_of rfl rfl rfl rfl) (sa_cons (se_pcall I.cell hr (by rfl) T.m_cell T.f_cell.kp T.b_cell (takes_of rfl rfl rfl rfl) (sa_cons (se_var 0) (sa_cons se_int sa_nil)) rfl (mCons_len (mCons_len mNil_len))) (sa_cons (se_op op_addA (os_add true) se_int (se_op op_mod os_mod (se_var 3) se_int)) sa_nil)) rfl (mCons_len (mCons_len mNil_len))))
  (ss_cons (ss_set (i := 5) nd rfl (Or.inl rfl) (se_new sa_nil))
  (ss_cons (ss_set (i := 6) nd rfl (Or.inl rfl) (se_new sa_nil))
  (ss_cons (ss_for hp rfl (si_range1 (by rfl) T.b_range (se_callB call_len bs_len (by rfl) T.b_len PySem.boot_len (sa_cons (se_var 2) sa_nil))) (sg_name (i := 7) nd rfl (Or.inl rfl)) (ss_cons (ss_set (i := 15) nd rfl (Or.inl rfl) (se_pcall I.mixed hr (by rfl) T.m_mixed T.f_mixed.kp T.b_mixed (takes_of rfl rfl rfl rfl) (sa_cons (se_pcall I.cell hr (by rfl) T.m_cell T.f_cell.kp T.b_cell (takes_of rfl rfl rfl rfl) (sa_cons (se_var 0) (sa_cons (se_op op_addA (os_add true) se_int (se_var 7)) sa_nil)) rfl (mCons_len (mCons_len mNil_len))) (sa_cons (se_var 7) sa_nil)) rfl (mCons_len (mCons_len mNil_len))))
    (ss_cons (ss_asg (se_slice sl_all (os_sl true) (se_pcall I.part hr (by rfl) T.m_part T.f_part.kp T.b_part (takes_of rfl rfl rfl rfl) (sa_cons (se_var 1) (sa_cons (se_var 15) sa_nil)) rfl (mCons_len (mCons_len mNil_len))) so_none (so_some se_int)) (sg_tup rfl (sgs_cons (sg_name (i := 18) nd rfl (Or.inl rfl)) (sgs_cons (sg_name (i := 19) nd rfl (Or.inl rfl)) (sgs_cons (sg_name (i := 20) nd rfl (Or.inl rfl)) (sgs_cons (sg_name (i := 21) nd rfl (Or.inl rfl)) sgs_nil)))) (gtCons_len (gtCons_len (gtCons_len (gtCons_len gtNil_len (gtName_ok 21)) (gtName_ok 20)) (gtName_ok 19)) (gtName_ok 18))) (ok3 (gtTup_ok _ (gtCons_ok _ _ (gtName_ok 18) (gtCons_ok _ _ (gtName_ok 19) (gtCons_ok _ _ (gtName_ok 20) (gtCons_ok _ _ (gtName_ok 21) gtNil_ok)))))))
    (ss_cons (ss_set (i := 16) nd rfl (Or.inl rfl) se_non)
    (ss_cons (ss_set (i := 17) nd rfl (Or.inl rfl) (se_tup (sa_cons (se_callB call_len bs_len (by rfl) T.b_len PySem.boot_len (sa_cons (se_var 18) sa_nil)) (sa_cons se_int (sa_cons (se_lst (sa_cons (se_tup (sa_cons se_str (sa_cons se_int sa_nil))) (sa_cons (se_tup (sa_cons se_str sa_nil)) sa_nil))) (sa_cons (se_lst sa_nil) sa_nil))))))
    (ss_cons (ss_if (st_cmp op_gt os_gt (se_op op_mod os_mod (se_pcall I.mixed hr (by rfl) T.m_mixed T.f_mixed.kp T.b_mixed (takes_of rfl rfl rfl rfl) (sa_cons (se_var 15) (sa_cons se_int sa_nil)) rfl (mCons_len (mCons_len mNil_len))) se_int) se_int (nomark _)) (ss_cons (ss_set (i := 16) nd rfl (Or.inl rfl) (se_pcall I.body hr (by rfl) T.m_body T.f_body.kp T.b_body (takes_of rfl rfl rfl rfl) (sa_cons (se_var 15) (sa_cons (se_var 20) (sa_cons (se_var 21) sa_nil))) rfl (mCons_len (mCons_len (mCons_len mNil_len)))))
      (ss_one (ss_set (i := 17) nd rfl (Or.inl rfl) (se_var 16)))) ss_nil)
    (ss_cons (ss_expr (se_bm .list PySem.F.plainAttrs_list PySem.F.slot_list_append PySem.F.type_list_append mt_append ms_append (se_var 5) (sa_cons (se_tup (sa_cons (se_ix ix_seq os_ix (se_var 2) (se_var 7) (fun _ _ => rfl)) (sa_cons (se_callTy call_list_of (bs_list true) (by rfl) T.b_list (by decide +kernel) (sa_cons (se_var 18) sa_nil)) (sa_cons (se_var 19) (sa_cons (se_var 16) sa_nil))))) sa_nil)))
    (ss_one (ss_expr (se_bm .list PySem.F.plainAttrs_list PySem.F.slot_list_append PySem.F.type_list_append mt_append ms_append (se_var 6) (sa_cons (se_op op_addA (os_add true) (se_tup (sa_cons (se_var 18) (sa_cons (se_var 19) sa_nil))) (se_var 17)) sa_nil)))))))))))
  (ss_frz 4
  (ss_frz 5
  (ss_cons (ss_set (i := 8) nd rfl (Or.inl rfl) (se_tup (sa_cons (se_var 4) (sa_cons (se_var 5) sa_nil))))
  (ss_cons (ss_set (i := 9) nd rfl (Or.inl rfl) (se_callB (call_reprD hr.gd hr.u65) bs_repr (by rfl) T.b_repr (by decide +kernel) (sa_cons (se_var 8) sa_nil)))
  (ss_frz 6
  (ss_cons (ss_set (i := 6) nd rfl (Or.inl rfl) (se_tup (sa_cons (se_var 1) (sa_cons (se_var 6) sa_nil))))
  (ss_cons (ss_set (i := 10) nd rfl (Or.inl rfl) (se_callB (call_reprD hr.gd hr.u65) bs_repr (by rfl) T.b_repr (by decide +kernel) (sa_cons (se_var 6) sa_nil)))
  (ss_cons (ss_set (i := 11) nd rfl (Or.inl rfl) (se_call I.book_of hr (by rfl) T.m_book_of T.f_book_of.kp T.b_book_of (takes_of rfl rfl rfl rfl) (sa_cons (se_var 8) sa_nil) rfl (mCons_len mNil_len)))
  (ss_cons (ss_if (PW.pt (spw_or (st_not (st_val (se_isi .tuple (by rfl) T.b_isinstance (by rfl) T.b_tuple (by decide +kernel) (by decide +kernel) (se_var 11)))) (spw_or (st_cmp (op_neA hr.u64) os_ne (se_var 11) (se_var 6) (nomark _)) (spw_or1 (st_cmp (op_neA hr.u64) os_ne (se_callB (call_reprD hr.gd hr.u65) bs_repr (by rfl) T.b_repr (by decide +kernel) (sa_cons (se_var 11) sa_nil)) (se_var 10) (nomark _)))))) (ss_one (ss_ret se_bl)) ss_nil)
  (ss_cons (ss_for hp rfl (si_seq (se_ix ix_seq os_ix (se_var 11) se_int (fun _ _ => rfl))) (sg_name (i := 12) nd rfl (Or.inl rfl)) (ss_cons (ss_expr (se_bm .list PySem.F.plainAttrs_list PySem.F.slot_list_append PySem.F.type_list_append mt_append ms_append (se_ix ix_seq os_ix (se_var 12) se_int (fun _ _ => rfl)) (sa_cons se_int sa_nil)))
    (ss_cons (ss_expr (se_bm .list PySem.F.plainAttrs_list PySem.F.slot_list_append PySem.F.type_list_append mt_append ms_append (se_ix ix_seq os_ix (se_var 12) se_int (fun _ _ => rfl)) (sa_cons (se_tup (sa_cons se_str sa_nil)) sa_nil)))
    (ss_one (ss_expr (se_bm .list PySem.F.plainAttrs_list PySem.F.slot_list_append PySem.F.type_list_append mt_append ms_append (se_ix ix_seq os_ix (se_var 12) se_int (fun _ _ => rfl)) (sa_cons se_int sa_nil)))))))
  (ss_cons (ss_expr (se_bm .list PySem.F.plainAttrs_list PySem.F.slot_list_append PySem.F.type_list_append mt_append ms_append (se_ix ix_seq os_ix (se_ix ix_seq os_ix (se_ix ix_seq os_ix (se_var 11) se_int (fun _ _ => rfl)) se_int (fun _ _ => rfl)) se_int (fun _ _ => rfl)) (sa_cons se_int sa_nil)))
  (ss_cons (ss_expr (se_bm .list PySem.F.plainAttrs_list PySem.F.slot_list_append PySem.F.type_list_append mt_append ms_append (se_ix ix_seq os_ix (se_var 11) se_int (fun _ _ => rfl)) (sa_cons se_int sa_nil)))
  (ss_one (ss_ret (se_and (se_cmp (op_eqA hr.u64) os_eq (se_callB (call_reprD hr.gd hr.u65) bs_repr (by rfl) T.b_repr (by decide +kernel) (sa_cons (se_var 8) sa_nil)) (se_var 9) (nomark _)) (se_one (se_cmp (op_eqA hr.u64) os_eq (se_callB (call_reprD hr.gd hr.u65) bs_repr (by rfl) T.b_repr (by decide +kernel) (sa_cons (se_call I.book_of hr (by rfl) T.m_book_of T.f_book_of.kp T.b_book_of (takes_of rfl rfl rfl rfl) (sa_cons (se_var 8) sa_nil) rfl (mCons_len mNil_len)) sa_nil)) (se_var 10) (nomark _)))))))))))))))))))))))))))
theorem all_ok (T : Txt Z K mg) : ∀ n, Ok P w K mg base Z cad n
  | 0 => ⟨fnG_zero, fnG_zero, fnG_zero, fnG_zero, fnG_zero, fnG_zero, fnG_zero, fnG_zero, fnG_zero, fnG_zero, fnG_zero, fnG_zero, fnG_zero, fnG_zero, fnG_zero⟩
  | n + 1 => have I := all_ok T n; ⟨ok_part_of T I, ok_book_of T I, ok_mixed T I, ok_cell T I, ok_fields T I, ok_kind T I, ok_makes T I, ok_sizes T I, ok_part T I, ok_word T I, ok_names T I, ok_make_names T I, ok_part_names T I, ok_body T I, ok_law T I⟩
end
end K81

set_option Elab.async false
set_option linter.all false
set_option maxRecDepth 100000
set_option maxHeartbeats 2000000
namespace K81
open PySem L2 CS

/-! ### the mathematics of k81 -/
def mixedF (c k : Int) : Int :=
  let a := (c % 1000000000039 + 7919 * k + 12) * 48271 % 1000000000061
  let b := (a / 3 % 1000003 + 31 * k + 1) * (a % 999983 + 7) % 999999999989
  b / 5 * (b % 1009 + 48271) % 1000000000039 / 8
theorem mixedF_ge (c k : Int) : 0 ≤ mixedF c k := by
  show 0 ≤ _ % (1000000000039 : Int) / 8
  omega
theorem mixed_run (n : Nat) (c k : Int) (g : Gh) : run (n + 1) .mixed [.int c, .int k] g = .ok (.int (mixedF c k)) g := by
  rw [show run (n + 1) .mixed = runOf 3 (b_mixed (run n)) from rfl]
  refine run_ret ?_
  simp (disch := first | omega | (simp only [List.length_cons, List.length_nil] <;> omega)) only [bind_ok, lift_ok, mVar_eq, mC_eq, mOp_eq, mUn_eq, mNil_eq, mCons_eq, mArgs_eq, mAnd_eq, mOr_eq, mT_eq, tnNot_eq, tnAnd_eq, tnOr_eq, mIf_eq, mNoPart_eq, mPart_eq, mSl_eq, mChain_eq, mIsi_eq, mBm_eq, mNext_eq, mSeq_eq, then_nx, then_rt, br_true, br_false, mPut_eq, mDrop_eq, mRet_eq, mRetN_eq, mIfS_eq, mAsg_eq, gtName_eq, gtTup_eq, gtNil_eq, gtCons_eq, mFor_eq, mIter_eq, mRange1_eq, mRange2_eq, mEnum_eq, mZip_eq, mComp_eq, gtSub_eq, mAug_eq, mFrz_eq, mYes_eq, mBreak_eq, mCont_eq, add_int, sub_int, mul_l, mul_r, div_int, mod_int, lt_int, le_int, gt_int, ge_int, eq_int, ne_int, eq_str, isN_eq, notN_eq, min_int, max_int, int_int, int_bl, startC, List.map_cons, List.map_nil, List.length_cons, List.length_nil, List.replicate, List.cons_append, List.nil_append, List.getElem?_cons_zero, List.getElem?_cons_succ, List.set_cons_zero, List.set_cons_succ, decide_true, decide_false, Bool.false_eq_true, if_true, if_false, Bool.not_true, Bool.not_false, reduceIte, Nat.reduceAdd, Nat.reduceSub, CS.isNon, wipeC, app_at, ty_at, ixr_at, lenr_at, ite_len, lstM_nil, newM_nil, tupM_eq, lstM_eq, newM_eq, len_lst, len_rol, len_tup, range1_eq, range2_eq, iter_lst, iter_rol, iter_tup, b_mixed, mixedF]
theorem mixed_pure (n : Nat) (c k : Int) (g : Gh) : pureM (run (n + 1) .mixed) [.int c, .int k] g = .ok (.int (mixedF c k)) g :=
  pure_eq (mixed_run n c k []) rfl rfl

/-- a kind, as far as it is asked here -/
def KindV (v : Vl) : Prop := fine v = true ∧ dpt v ≤ 1 ∧ wt v ≤ 200
theorem strF (s : Str) (h : PyData.strOk s = true) (h2 : s.length ≤ 1000) : fine (.str s) = true := by simp [fine, h, h2]
theorem kind_run (n : Nat) {ss : List Int} {num : Int} (g : Gh) (hn : 0 ≤ num) (h0 : ss ≠ []) (hl : ss.length ≤ 8) (hb : ∀ s ∈ ss, 0 ≤ s ∧ s ≤ 48) : ∃ v, run (n + 1) .kind [.int num, .lst (ss.map Vl.int)] g = .ok v g ∧ KindV v := by
  rw [show run (n + 1) .kind = runOf 4 (b_kind (run n)) from rfl]
  have hlen : 0 < ss.length := List.length_pos_iff.mpr h0
  have e0 : ((ss.map Vl.int).length : Int) = (ss.length : Int) := by simp
  generalize hc : num / 8 % (ss.length : Int) = c
  have c0 : 0 ≤ c := by rw [← hc]; exact Int.emod_nonneg _ (by omega)
  have c1 : c < ss.length := by rw [← hc]; exact Int.emod_lt_of_pos _ (by omega)
  by_cases h3 : num % 8 < 3
  · refine ⟨.tup [.str (Str.ofString "number")], run_ret ?_, by decide +kernel, by decide, by decide +kernel⟩
    simp (disch := first | omega | (simp only [List.length_cons, List.length_nil] <;> omega)) only [bind_ok, lift_ok, mVar_eq, mC_eq, mOp_eq, mUn_eq, mNil_eq, mCons_eq, mArgs_eq, mAnd_eq, mOr_eq, mT_eq, tnNot_eq, tnAnd_eq, tnOr_eq, mIf_eq, mNoPart_eq, mPart_eq, mSl_eq, mChain_eq, mIsi_eq, mBm_eq, mNext_eq, mSeq_eq, then_nx, then_rt, br_true, br_false, mPut_eq, mDrop_eq, mRet_eq, mRetN_eq, mIfS_eq, mAsg_eq, gtName_eq, gtTup_eq, gtNil_eq, gtCons_eq, mFor_eq, mIter_eq, mRange1_eq, mRange2_eq, mEnum_eq, mZip_eq, mComp_eq, gtSub_eq, mAug_eq, mFrz_eq, mYes_eq, mBreak_eq, mCont_eq, add_int, sub_int, mul_l, mul_r, div_int, mod_int, lt_int, le_int, gt_int, ge_int, eq_int, ne_int, eq_str, isN_eq, notN_eq, min_int, max_int, int_int, int_bl, startC, List.map_cons, List.map_nil, List.length_cons, List.length_nil, List.replicate, List.cons_append, List.nil_append, List.getElem?_cons_zero, List.getElem?_cons_succ, List.set_cons_zero, List.set_cons_succ, decide_true, decide_false, Bool.false_eq_true, if_true, if_false, Bool.not_true, Bool.not_false, reduceIte, Nat.reduceAdd, Nat.reduceSub, CS.isNon, wipeC, app_at, ty_at, ixr_at, lenr_at, ite_len, lstM_nil, newM_nil, tupM_eq, lstM_eq, newM_eq, len_lst, len_rol, len_tup, range1_eq, range2_eq, iter_lst, iter_rol, iter_tup, b_kind, e0, hc, h3]
  · by_cases h5 : num % 8 < 5
    · refine ⟨.tup [.str (Str.ofString "whole"), .int c], run_ret ?_, ?_, by simp [dpt, dpts], by simp [wt, wts]; decide +kernel⟩
      · simp (disch := first | omega | (simp only [List.length_cons, List.length_nil] <;> omega)) only [bind_ok, lift_ok, mVar_eq, mC_eq, mOp_eq, mUn_eq, mNil_eq, mCons_eq, mArgs_eq, mAnd_eq, mOr_eq, mT_eq, tnNot_eq, tnAnd_eq, tnOr_eq, mIf_eq, mNoPart_eq, mPart_eq, mSl_eq, mChain_eq, mIsi_eq, mBm_eq, mNext_eq, mSeq_eq, then_nx, then_rt, br_true, br_false, mPut_eq, mDrop_eq, mRet_eq, mRetN_eq, mIfS_eq, mAsg_eq, gtName_eq, gtTup_eq, gtNil_eq, gtCons_eq, mFor_eq, mIter_eq, mRange1_eq, mRange2_eq, mEnum_eq, mZip_eq, mComp_eq, gtSub_eq, mAug_eq, mFrz_eq, mYes_eq, mBreak_eq, mCont_eq, add_int, sub_int, mul_l, mul_r, div_int, mod_int, lt_int, le_int, gt_int, ge_int, eq_int, ne_int, eq_str, isN_eq, notN_eq, min_int, max_int, int_int, int_bl, startC, List.map_cons, List.map_nil, List.length_cons, List.length_nil, List.replicate, List.cons_append, List.nil_append, List.getElem?_cons_zero, List.getElem?_cons_succ, List.set_cons_zero, List.set_cons_succ, decide_true, decide_false, Bool.false_eq_true, if_true, if_false, Bool.not_true, Bool.not_false, reduceIte, Nat.reduceAdd, Nat.reduceSub, CS.isNon, wipeC, app_at, ty_at, ixr_at, lenr_at, ite_len, lstM_nil, newM_nil, tupM_eq, lstM_eq, newM_eq, len_lst, len_rol, len_tup, range1_eq, range2_eq, iter_lst, iter_rol, iter_tup, b_kind, e0, hc, h3, h5]
      · simp only [fine, fines, Bool.and_true, Bool.and_eq_true, decide_eq_true_eq]
        exact ⟨by decide +kernel, by omega⟩
    · by_cases h7 : num % 8 < 7
      · obtain ⟨k, rfl⟩ : ∃ k : Nat, c = (k : Int) := ⟨c.toNat, by omega⟩
        have hk : k < ss.length := by omega
        have hs := hb ss[k] (List.getElem_mem hk)
        have ea : atI (ss.map Vl.int) (k : Int) = some (.int ss[k]) := by
          rw [atI_nat rfl (by simpa using hk)]
          simp
        have es : oShl (.int 1) (.int ss[k]) g = .ok (.int (1 * 2 ^ ss[k].toNat)) g := if_pos ⟨by omega, by omega, by decide⟩
        have pw : (0 : Int) < 1 * 2 ^ ss[k].toNat := by
          have : (0 : Int) < 2 ^ ss[k].toNat := Int.pow_pos (by decide)
          omega
        have pw2 : (1 : Int) * 2 ^ ss[k].toNat ≤ 2 ^ 48 := by
          rw [Int.one_mul]
          have := Nat.pow_le_pow_right (n := 2) (by decide) (show ss[k].toNat ≤ 48 by omega)
          exact_mod_cast this
        refine ⟨.tup [.str (Str.ofString "raw"), .int k, .int (num / 64 % (1 * 2 ^ ss[k].toNat))], run_ret ?_, ?_, by simp [dpt, dpts], by simp [wt, wts]; decide +kernel⟩
        · simp (disch := first | omega | (simp only [List.length_cons, List.length_nil] <;> omega)) only [bind_ok, lift_ok, mVar_eq, mC_eq, mOp_eq, mUn_eq, mNil_eq, mCons_eq, mArgs_eq, mAnd_eq, mOr_eq, mT_eq, tnNot_eq, tnAnd_eq, tnOr_eq, mIf_eq, mNoPart_eq, mPart_eq, mSl_eq, mChain_eq, mIsi_eq, mBm_eq, mNext_eq, mSeq_eq, then_nx, then_rt, br_true, br_false, mPut_eq, mDrop_eq, mRet_eq, mRetN_eq, mIfS_eq, mAsg_eq, gtName_eq, gtTup_eq, gtNil_eq, gtCons_eq, mFor_eq, mIter_eq, mRange1_eq, mRange2_eq, mEnum_eq, mZip_eq, mComp_eq, gtSub_eq, mAug_eq, mFrz_eq, mYes_eq, mBreak_eq, mCont_eq, add_int, sub_int, mul_l, mul_r, div_int, mod_int, lt_int, le_int, gt_int, ge_int, eq_int, ne_int, eq_str, isN_eq, notN_eq, min_int, max_int, int_int, int_bl, startC, List.map_cons, List.map_nil, List.length_cons, List.length_nil, List.replicate, List.cons_append, List.nil_append, List.getElem?_cons_zero, List.getElem?_cons_succ, List.set_cons_zero, List.set_cons_succ, decide_true, decide_false, Bool.false_eq_true, if_true, if_false, Bool.not_true, Bool.not_false, reduceIte, Nat.reduceAdd, Nat.reduceSub, CS.isNon, wipeC, app_at, ty_at, ixr_at, lenr_at, ite_len, lstM_nil, newM_nil, tupM_eq, lstM_eq, newM_eq, len_lst, len_rol, len_tup, range1_eq, range2_eq, iter_lst, iter_rol, iter_tup, b_kind, e0, hc, h3, h5, h7, ix_lst ea, es, mod_int _ _ pw]
        · simp only [fine, fines, Bool.and_true, Bool.and_eq_true, decide_eq_true_eq]
          have a1 := Int.emod_nonneg (num / 64) (show (1 : Int) * 2 ^ ss[k].toNat ≠ 0 by omega)
          have a2 := Int.emod_lt_of_pos (num / 64) pw
          exact ⟨by decide +kernel, by omega, by omega⟩
      · refine ⟨.tup [.str (Str.ofString "any")], run_ret ?_, by decide +kernel, by decide, by decide +kernel⟩
        simp (disch := first | omega | (simp only [List.length_cons, List.length_nil] <;> omega)) only [bind_ok, lift_ok, mVar_eq, mC_eq, mOp_eq, mUn_eq, mNil_eq, mCons_eq, mArgs_eq, mAnd_eq, mOr_eq, mT_eq, tnNot_eq, tnAnd_eq, tnOr_eq, mIf_eq, mNoPart_eq, mPart_eq, mSl_eq, mChain_eq, mIsi_eq, mBm_eq, mNext_eq, mSeq_eq, then_nx, then_rt, br_true, br_false, mPut_eq, mDrop_eq, mRet_eq, mRetN_eq, mIfS_eq, mAsg_eq, gtName_eq, gtTup_eq, gtNil_eq, gtCons_eq, mFor_eq, mIter_eq, mRange1_eq, mRange2_eq, mEnum_eq, mZip_eq, mComp_eq, gtSub_eq, mAug_eq, mFrz_eq, mYes_eq, mBreak_eq, mCont_eq, add_int, sub_int, mul_l, mul_r, div_int, mod_int, lt_int, le_int, gt_int, ge_int, eq_int, ne_int, eq_str, isN_eq, notN_eq, min_int, max_int, int_int, int_bl, startC, List.map_cons, List.map_nil, List.length_cons, List.length_nil, List.replicate, List.cons_append, List.nil_append, List.getElem?_cons_zero, List.getElem?_cons_succ, List.set_cons_zero, List.set_cons_succ, decide_true, decide_false, Bool.false_eq_true, if_true, if_false, Bool.not_true, Bool.not_false, reduceIte, Nat.reduceAdd, Nat.reduceSub, CS.isNon, wipeC, app_at, ty_at, ixr_at, lenr_at, ite_len, lstM_nil, newM_nil, tupM_eq, lstM_eq, newM_eq, len_lst, len_rol, len_tup, range1_eq, range2_eq, iter_lst, iter_rol, iter_tup, b_kind, e0, hc, h3, h5, h7]
theorem kind_pure (n : Nat) {ss : List Int} {num : Int} (g : Gh) (hn : 0 ≤ num) (h0 : ss ≠ []) (hl : ss.length ≤ 8) (hb : ∀ s ∈ ss, 0 ≤ s ∧ s ≤ 48) : ∃ v, pureM (run (n + 1) .kind) [.int num, .lst (ss.map Vl.int)] g = .ok v g ∧ KindV v := by
  obtain ⟨v, e, h⟩ := kind_run n [] hn h0 hl hb
  refine ⟨v, pure_eq e ?_ (fine_noRef v h.1), h⟩
  have : ∀ l : List Int, noRefs (l.map Vl.int) = true := fun l => by induction l with
    | nil => rfl
    | cons a l ih => simpa [noRefs, noRef] using ih
  simp [noRefs, noRef, this]
theorem ints_noRef (l : List Int) : noRefs (l.map Vl.int) = true := by
  induction l with
  | nil => rfl
  | cons a l ih => simpa [noRefs, noRef] using ih
theorem cell_run (n : Nat) (ns : List Int) (hl : ns.length ≤ 63) (k : Nat) (g : Gh) : ∃ c, pureM (run (n + 2) .cell) [.rol (ns.map Vl.int), .int k] g = .ok (.int c) g := by
  have e0 : ((ns.map Vl.int).length : Int) = (ns.length : Int) := by simp
  have key : ∃ c, run (n + 2) .cell [.rol (ns.map Vl.int), .int k] [] = .ok (.int c) [] := by
    rw [show run (n + 2) .cell = runOf 2 (b_cell (run (n + 1))) from rfl]
    by_cases h : (k : Int) < ns.length
    · have hk : k < ns.length := by omega
      have ea : atI (ns.map Vl.int) (k : Int) = some (.int ns[k]) := by
        rw [atI_nat rfl (by simpa using hk)]
        simp
      refine ⟨ns[k], run_ret ?_⟩
      simp (disch := first | omega | (simp only [List.length_cons, List.length_nil] <;> omega)) only [bind_ok, lift_ok, mVar_eq, mC_eq, mOp_eq, mUn_eq, mNil_eq, mCons_eq, mArgs_eq, mAnd_eq, mOr_eq, mT_eq, tnNot_eq, tnAnd_eq, tnOr_eq, mIf_eq, mNoPart_eq, mPart_eq, mSl_eq, mChain_eq, mIsi_eq, mBm_eq, mNext_eq, mSeq_eq, then_nx, then_rt, br_true, br_false, mPut_eq, mDrop_eq, mRet_eq, mRetN_eq, mIfS_eq, mAsg_eq, gtName_eq, gtTup_eq, gtNil_eq, gtCons_eq, mFor_eq, mIter_eq, mRange1_eq, mRange2_eq, mEnum_eq, mZip_eq, mComp_eq, gtSub_eq, mAug_eq, mFrz_eq, mYes_eq, mBreak_eq, mCont_eq, add_int, sub_int, mul_l, mul_r, div_int, mod_int, lt_int, le_int, gt_int, ge_int, eq_int, ne_int, eq_str, isN_eq, notN_eq, min_int, max_int, int_int, int_bl, startC, List.map_cons, List.map_nil, List.length_cons, List.length_nil, List.replicate, List.cons_append, List.nil_append, List.getElem?_cons_zero, List.getElem?_cons_succ, List.set_cons_zero, List.set_cons_succ, decide_true, decide_false, Bool.false_eq_true, if_true, if_false, Bool.not_true, Bool.not_false, reduceIte, Nat.reduceAdd, Nat.reduceSub, CS.isNon, wipeC, app_at, ty_at, ixr_at, lenr_at, ite_len, lstM_nil, newM_nil, tupM_eq, lstM_eq, newM_eq, len_lst, len_rol, len_tup, range1_eq, range2_eq, iter_lst, iter_rol, iter_tup, b_cell, e0, h, ix_rol ea]
    · have e4 := sl_rol (xs := ns.map Vl.int) (g := []) 4 (by simp; omega)
      have e5 : (ns.map Vl.int).take 4 = (ns.take 4).map Vl.int := List.map_take.symm
      rw [e5] at e4
      refine ⟨mixedF (ns.take 4).sum (100 + k), run_ret ?_⟩
      · simp (disch := first | omega | (simp only [List.length_cons, List.length_nil] <;> omega)) only [bind_ok, lift_ok, mVar_eq, mC_eq, mOp_eq, mUn_eq, mNil_eq, mCons_eq, mArgs_eq, mAnd_eq, mOr_eq, mT_eq, tnNot_eq, tnAnd_eq, tnOr_eq, mIf_eq, mNoPart_eq, mPart_eq, mSl_eq, mChain_eq, mIsi_eq, mBm_eq, mNext_eq, mSeq_eq, then_nx, then_rt, br_true, br_false, mPut_eq, mDrop_eq, mRet_eq, mRetN_eq, mIfS_eq, mAsg_eq, gtName_eq, gtTup_eq, gtNil_eq, gtCons_eq, mFor_eq, mIter_eq, mRange1_eq, mRange2_eq, mEnum_eq, mZip_eq, mComp_eq, gtSub_eq, mAug_eq, mFrz_eq, mYes_eq, mBreak_eq, mCont_eq, add_int, sub_int, mul_l, mul_r, div_int, mod_int, lt_int, le_int, gt_int, ge_int, eq_int, ne_int, eq_str, isN_eq, notN_eq, min_int, max_int, int_int, int_bl, startC, List.map_cons, List.map_nil, List.length_cons, List.length_nil, List.replicate, List.cons_append, List.nil_append, List.getElem?_cons_zero, List.getElem?_cons_succ, List.set_cons_zero, List.set_cons_succ, decide_true, decide_false, Bool.false_eq_true, if_true, if_false, Bool.not_true, Bool.not_false, reduceIte, Nat.reduceAdd, Nat.reduceSub, CS.isNon, wipeC, app_at, ty_at, ixr_at, lenr_at, ite_len, lstM_nil, newM_nil, tupM_eq, lstM_eq, newM_eq, len_lst, len_rol, len_tup, range1_eq, range2_eq, iter_lst, iter_rol, iter_tup, b_cell, e0, h, show ((4 : Int)) = ((4 : Nat) : Int) from rfl, e4, sum_lst, mixed_pure]
  obtain ⟨c, e⟩ := key
  exact ⟨c, pure_eq e (by simp [noRefs, noRef, ints_noRef]) rfl⟩

/-- the makes, as far as they are asked here -/
def MakeV (i : Nat) (v : Vl) : Prop := ∃ e ks, v = .tup [e, .lst ks] ∧ ks.length ≤ 3 ∧ (∀ k ∈ ks, KindV k) ∧ (i = 0 → e = .non) ∧ (0 < i → ∃ j : Nat, j < i ∧ e = .int j)
def MakesV (ms : List Vl) : Prop := 1 ≤ ms.length ∧ ms.length ≤ 8 ∧ ∀ i v, ms[i]? = some v → MakeV i v
theorem kindV_noRefs {ks : List Vl} (h : ∀ k ∈ ks, KindV k) : noRefs ks = true := fines_noRef ks (fines_all.mpr fun k hk => (h k hk).1)
theorem makes_noRef {ms : List Vl} (h : MakesV ms) : noRefs ms = true := by
  have : ∀ v ∈ ms, noRef v = true := fun v hv => by
    obtain ⟨i, hi⟩ := List.getElem?_of_mem hv
    obtain ⟨e, ks, rfl, _, hk, h0, h1⟩ := h.2.2 i v hi
    have : noRef e = true := by
      by_cases z : i = 0
      · rw [h0 z]; rfl
      · obtain ⟨j, _, rfl⟩ := h1 (by omega)
        rfl
    simp [noRef, noRefs, this, kindV_noRefs hk]
  revert this
  generalize ms = l
  intro q
  induction l with
  | nil => rfl
  | cons a l ih => simp [noRefs, q a List.mem_cons_self, ih fun v hv => q v (List.mem_cons_of_mem _ hv)]
theorem fields_loop {ms : List Vl} (h : MakesV ms) (g : Gh) : ∀ (c : Nat) (hc : c < ms.length) (fs : List Vl), (∀ k ∈ fs, KindV k) → fs.length + 3 * (c + 1) ≤ 24 →
    ∃ fs', (∀ k ∈ fs', KindV k) ∧ fs'.length ≤ 24 ∧ mWhile (mT (mOp cNotN (mVar 1) (mC .non))) (mSeq (mPut 2 (mOp (oAdd true) (mOp ixM (mOp ixM (mVar 0) (mVar 1)) (mC (.int 1))) (mVar 2))) (mPut 1 (mOp ixM (mOp ixM (mVar 0) (mVar 1)) (mC (.int 0)))))
      [some (.lst ms), some (.int c), some (.lst fs)] g = .nx [some (.lst ms), some .non, some (.lst fs')] g := by
  intro c
  induction c using Nat.strongRecOn with
  | ind c ih =>
    intro hc fs hf hl
    obtain ⟨e, ks, em, hk, hks, h0, h1⟩ := h.2.2 c ms[c] (List.getElem?_eq_getElem hc)
    have ea : atI ms (c : Int) = some (.tup [e, .lst ks]) := by rw [atI_nat rfl hc, em]
    have e1 : atI [e, .lst ks] 1 = some (.lst ks) := rfl
    have e2 : atI [e, .lst ks] 0 = some e := rfl
    have hf' : ∀ k ∈ ks ++ fs, KindV k := fun k hk' => (List.mem_append.mp hk').elim (hks k) (hf k)
    have hl' : (ks ++ fs).length ≤ 3 + fs.length := by rw [List.length_append]; omega
    have step : (mSeq (mPut 2 (mOp (oAdd true) (mOp ixM (mOp ixM (mVar 0) (mVar 1)) (mC (.int 1))) (mVar 2))) (mPut 1 (mOp ixM (mOp ixM (mVar 0) (mVar 1)) (mC (.int 0)))))
      [some (.lst ms), some (.int c), some (.lst fs)] g = .nx [some (.lst ms), some e, some (.lst (ks ++ fs))] g := by
      simp (disch := first | omega | (simp only [List.length_cons, List.length_nil] <;> omega)) only [bind_ok, lift_ok, mVar_eq, mC_eq, mOp_eq, mUn_eq, mNil_eq, mCons_eq, mArgs_eq, mAnd_eq, mOr_eq, mT_eq, tnNot_eq, tnAnd_eq, tnOr_eq, mIf_eq, mNoPart_eq, mPart_eq, mSl_eq, mChain_eq, mIsi_eq, mBm_eq, mNext_eq, mSeq_eq, then_nx, then_rt, br_true, br_false, mPut_eq, mDrop_eq, mRet_eq, mRetN_eq, mIfS_eq, mAsg_eq, gtName_eq, gtTup_eq, gtNil_eq, gtCons_eq, mFor_eq, mIter_eq, mRange1_eq, mRange2_eq, mEnum_eq, mZip_eq, mComp_eq, gtSub_eq, mAug_eq, mFrz_eq, mYes_eq, mBreak_eq, mCont_eq, add_int, sub_int, mul_l, mul_r, div_int, mod_int, lt_int, le_int, gt_int, ge_int, eq_int, ne_int, eq_str, isN_eq, notN_eq, min_int, max_int, int_int, int_bl, startC, List.map_cons, List.map_nil, List.length_cons, List.length_nil, List.replicate, List.cons_append, List.nil_append, List.getElem?_cons_zero, List.getElem?_cons_succ, List.set_cons_zero, List.set_cons_succ, decide_true, decide_false, Bool.false_eq_true, if_true, if_false, Bool.not_true, Bool.not_false, reduceIte, Nat.reduceAdd, Nat.reduceSub, CS.isNon, wipeC, app_at, ty_at, ixr_at, lenr_at, ite_len, lstM_nil, newM_nil, tupM_eq, lstM_eq, newM_eq, len_lst, len_rol, len_tup, range1_eq, range2_eq, iter_lst, iter_rol, iter_tup, ix_lst ea, ix_tup e1, ix_tup e2, add_lst (xs := ks) (ys := fs) (g := g) (by omega)]
    have test : mT (mOp cNotN (mVar 1) (mC .non)) [some (.lst ms), some (.int c), some (.lst fs)] g = .ok true g := by simp (disch := first | omega | (simp only [List.length_cons, List.length_nil] <;> omega)) only [bind_ok, lift_ok, mVar_eq, mC_eq, mOp_eq, mUn_eq, mNil_eq, mCons_eq, mArgs_eq, mAnd_eq, mOr_eq, mT_eq, tnNot_eq, tnAnd_eq, tnOr_eq, mIf_eq, mNoPart_eq, mPart_eq, mSl_eq, mChain_eq, mIsi_eq, mBm_eq, mNext_eq, mSeq_eq, then_nx, then_rt, br_true, br_false, mPut_eq, mDrop_eq, mRet_eq, mRetN_eq, mIfS_eq, mAsg_eq, gtName_eq, gtTup_eq, gtNil_eq, gtCons_eq, mFor_eq, mIter_eq, mRange1_eq, mRange2_eq, mEnum_eq, mZip_eq, mComp_eq, gtSub_eq, mAug_eq, mFrz_eq, mYes_eq, mBreak_eq, mCont_eq, add_int, sub_int, mul_l, mul_r, div_int, mod_int, lt_int, le_int, gt_int, ge_int, eq_int, ne_int, eq_str, isN_eq, notN_eq, min_int, max_int, int_int, int_bl, startC, List.map_cons, List.map_nil, List.length_cons, List.length_nil, List.replicate, List.cons_append, List.nil_append, List.getElem?_cons_zero, List.getElem?_cons_succ, List.set_cons_zero, List.set_cons_succ, decide_true, decide_false, Bool.false_eq_true, if_true, if_false, Bool.not_true, Bool.not_false, reduceIte, Nat.reduceAdd, Nat.reduceSub, CS.isNon, wipeC, app_at, ty_at, ixr_at, lenr_at, ite_len, lstM_nil, newM_nil, tupM_eq, lstM_eq, newM_eq, len_lst, len_rol, len_tup, range1_eq, range2_eq, iter_lst, iter_rol, iter_tup]
    rw [while_step test step]
    by_cases z : c = 0
    · rw [h0 z]
      exact ⟨ks ++ fs, hf', by omega, while_end (by simp (disch := first | omega | (simp only [List.length_cons, List.length_nil] <;> omega)) only [bind_ok, lift_ok, mVar_eq, mC_eq, mOp_eq, mUn_eq, mNil_eq, mCons_eq, mArgs_eq, mAnd_eq, mOr_eq, mT_eq, tnNot_eq, tnAnd_eq, tnOr_eq, mIf_eq, mNoPart_eq, mPart_eq, mSl_eq, mChain_eq, mIsi_eq, mBm_eq, mNext_eq, mSeq_eq, then_nx, then_rt, br_true, br_false, mPut_eq, mDrop_eq, mRet_eq, mRetN_eq, mIfS_eq, mAsg_eq, gtName_eq, gtTup_eq, gtNil_eq, gtCons_eq, mFor_eq, mIter_eq, mRange1_eq, mRange2_eq, mEnum_eq, mZip_eq, mComp_eq, gtSub_eq, mAug_eq, mFrz_eq, mYes_eq, mBreak_eq, mCont_eq, add_int, sub_int, mul_l, mul_r, div_int, mod_int, lt_int, le_int, gt_int, ge_int, eq_int, ne_int, eq_str, isN_eq, notN_eq, min_int, max_int, int_int, int_bl, startC, List.map_cons, List.map_nil, List.length_cons, List.length_nil, List.replicate, List.cons_append, List.nil_append, List.getElem?_cons_zero, List.getElem?_cons_succ, List.set_cons_zero, List.set_cons_succ, decide_true, decide_false, Bool.false_eq_true, if_true, if_false, Bool.not_true, Bool.not_false, reduceIte, Nat.reduceAdd, Nat.reduceSub, CS.isNon, wipeC, app_at, ty_at, ixr_at, lenr_at, ite_len, lstM_nil, newM_nil, tupM_eq, lstM_eq, newM_eq, len_lst, len_rol, len_tup, range1_eq, range2_eq, iter_lst, iter_rol, iter_tup])⟩
    · obtain ⟨j, hj, rfl⟩ := h1 (by omega)
      exact ih j hj (by omega) (ks ++ fs) hf' (by omega)
theorem fields_body (n : Nat) {ms : List Vl} (c : Nat) (fs : List Vl) (e : mWhile (mT (mOp cNotN (mVar 1) (mC .non))) (mSeq (mPut 2 (mOp (oAdd true) (mOp ixM (mOp ixM (mVar 0) (mVar 1)) (mC (.int 1))) (mVar 2))) (mPut 1 (mOp ixM (mOp ixM (mVar 0) (mVar 1)) (mC (.int 0)))))
      [some (.lst ms), some (.int c), some (.lst [])] [] = .nx [some (.lst ms), some .non, some (.lst fs)] []) : b_fields (run n) (startC 3 [.lst ms, .int c]) [] = .rt (.lst fs) [] := by
  simp (disch := first | omega | (simp only [List.length_cons, List.length_nil] <;> omega)) only [bind_ok, lift_ok, mVar_eq, mC_eq, mOp_eq, mUn_eq, mNil_eq, mCons_eq, mArgs_eq, mAnd_eq, mOr_eq, mT_eq, tnNot_eq, tnAnd_eq, tnOr_eq, mIf_eq, mNoPart_eq, mPart_eq, mSl_eq, mChain_eq, mIsi_eq, mBm_eq, mNext_eq, mSeq_eq, then_nx, then_rt, br_true, br_false, mPut_eq, mDrop_eq, mRet_eq, mRetN_eq, mIfS_eq, mAsg_eq, gtName_eq, gtTup_eq, gtNil_eq, gtCons_eq, mFor_eq, mIter_eq, mRange1_eq, mRange2_eq, mEnum_eq, mZip_eq, mComp_eq, gtSub_eq, mAug_eq, mFrz_eq, mYes_eq, mBreak_eq, mCont_eq, add_int, sub_int, mul_l, mul_r, div_int, mod_int, lt_int, le_int, gt_int, ge_int, eq_int, ne_int, eq_str, isN_eq, notN_eq, min_int, max_int, int_int, int_bl, startC, List.map_cons, List.map_nil, List.length_cons, List.length_nil, List.replicate, List.cons_append, List.nil_append, List.getElem?_cons_zero, List.getElem?_cons_succ, List.set_cons_zero, List.set_cons_succ, decide_true, decide_false, Bool.false_eq_true, if_true, if_false, Bool.not_true, Bool.not_false, reduceIte, Nat.reduceAdd, Nat.reduceSub, CS.isNon, wipeC, app_at, ty_at, ixr_at, lenr_at, ite_len, lstM_nil, newM_nil, tupM_eq, lstM_eq, newM_eq, len_lst, len_rol, len_tup, range1_eq, range2_eq, iter_lst, iter_rol, iter_tup, b_fields, e]
theorem fields_q {ms : List Vl} (h : MakesV ms) (c : Nat) (hc : c < ms.length) : ∃ fs', (∀ k ∈ fs', KindV k) ∧ fs'.length ≤ 24 ∧ mWhile (mT (mOp cNotN (mVar 1) (mC .non))) (mSeq (mPut 2 (mOp (oAdd true) (mOp ixM (mOp ixM (mVar 0) (mVar 1)) (mC (.int 1))) (mVar 2))) (mPut 1 (mOp ixM (mOp ixM (mVar 0) (mVar 1)) (mC (.int 0)))))
      [some (.lst ms), some (.int c), some (.lst [])] [] = .nx [some (.lst ms), some .non, some (.lst fs')] [] := by
   have := h.2.1
   exact fields_loop h [] c hc [] (fun _ z => absurd z List.not_mem_nil) (by show 0 + 3 * (c + 1) ≤ 24; omega)
theorem fields_pure (n : Nat) {ms : List Vl} (h : MakesV ms) (c : Nat) (hc : c < ms.length) (g : Gh) : ∃ fs : List Vl, pureM (run (n + 1) .fields) [.lst ms, .int c] g = .ok (.lst fs) g ∧ fs.length ≤ 24  := by
  obtain ⟨fs, hf, hl, e⟩ := fields_q h c hc
  have e1 : run (n + 1) .fields [.lst ms, .int c] [] = .ok (.lst fs) [] := run_ret (fields_body n c fs e)
  have n1 : noRefs [.lst ms, .int c] = true := by simp [noRefs, noRef, makes_noRef h]
  have n2 : noRef (.lst fs) = true := by simp [noRef, kindV_noRefs hf]
  exact ⟨fs, pure_eq e1 n1 n2, hl⟩
theorem sizes_pure (n : Nat) {ms : List Vl} (h : MakesV ms) (g : Gh) : ∃ ss : List Int, pureM (run (n + 2) .sizes) [.lst ms] g = .ok (.lst (ss.map Vl.int)) g ∧ ss.length = ms.length ∧ ∀ s ∈ ss, 0 ≤ s ∧ s ≤ 48 := by
  have e0 := h.2.1
  obtain ⟨ys, e, hl, hr⟩ := comp_pure (t := gtName 1) (e := mArgs bLen (mCons (mArgs (pureM (run (n + 1) .fields)) (mCons (mVar 0) (mCons (mVar 1) mNil))) mNil)) (ρ := [some (.lst ms), none]) (g := []) (src := none) (fun _ y => ∃ s : Int, y = .int s ∧ 0 ≤ s ∧ s ≤ 48) trivial (rangeL 0 ms.length) fun v hv => by
    obtain ⟨i, hi, rfl⟩ := rangeL_mem.mp hv
    obtain ⟨fs, ef, hf⟩ := fields_pure n h i hi []
    refine ⟨_, .int fs.length, rfl, ?_, fs.length, rfl, by omega, by omega⟩
    simp (disch := first | omega | (simp only [List.length_cons, List.length_nil] <;> omega)) only [bind_ok, lift_ok, mVar_eq, mC_eq, mOp_eq, mUn_eq, mNil_eq, mCons_eq, mArgs_eq, mAnd_eq, mOr_eq, mT_eq, tnNot_eq, tnAnd_eq, tnOr_eq, mIf_eq, mNoPart_eq, mPart_eq, mSl_eq, mChain_eq, mIsi_eq, mBm_eq, mNext_eq, mSeq_eq, then_nx, then_rt, br_true, br_false, mPut_eq, mDrop_eq, mRet_eq, mRetN_eq, mIfS_eq, mAsg_eq, gtName_eq, gtTup_eq, gtNil_eq, gtCons_eq, mFor_eq, mIter_eq, mRange1_eq, mRange2_eq, mEnum_eq, mZip_eq, mComp_eq, gtSub_eq, mAug_eq, mFrz_eq, mYes_eq, mBreak_eq, mCont_eq, add_int, sub_int, mul_l, mul_r, div_int, mod_int, lt_int, le_int, gt_int, ge_int, eq_int, ne_int, eq_str, isN_eq, notN_eq, min_int, max_int, int_int, int_bl, startC, List.map_cons, List.map_nil, List.length_cons, List.length_nil, List.replicate, List.cons_append, List.nil_append, List.getElem?_cons_zero, List.getElem?_cons_succ, List.set_cons_zero, List.set_cons_succ, decide_true, decide_false, Bool.false_eq_true, if_true, if_false, Bool.not_true, Bool.not_false, reduceIte, Nat.reduceAdd, Nat.reduceSub, CS.isNon, wipeC, app_at, ty_at, ixr_at, lenr_at, ite_len, lstM_nil, newM_nil, tupM_eq, lstM_eq, newM_eq, len_lst, len_rol, len_tup, range1_eq, range2_eq, iter_lst, iter_rol, iter_tup, Int.zero_add, ef]
  have : ∃ ss : List Int, ys = ss.map Vl.int ∧ ∀ s ∈ ss, 0 ≤ s ∧ s ≤ 48 := by
    have q : ∀ y ∈ ys, ∃ s : Int, y = .int s ∧ 0 ≤ s ∧ s ≤ 48 := fun y hy => let ⟨_, _, z⟩ := hr y hy; z
    clear hr hl e
    induction ys with
    | nil => exact ⟨[], rfl, by simp⟩
    | cons y ys ih =>
      obtain ⟨s, rfl, hs⟩ := q y List.mem_cons_self
      obtain ⟨ss, rfl, hss⟩ := ih fun z hz => q z (List.mem_cons_of_mem _ hz)
      exact ⟨s :: ss, rfl, fun t ht => by
        rcases List.mem_cons.mp ht with rfl | ht
        · exact hs
        · exact hss t ht⟩
  obtain ⟨ss, rfl, hss⟩ := this
  have hlen : ss.length = ms.length := by simpa [rangeL_len] using hl
  refine ⟨ss, pure_eq (g' := []) ?_ (by simp [noRefs, noRef, makes_noRef h]) (by simp [noRef, ints_noRef]), hlen, hss⟩
  rw [show run (n + 2) .sizes = runOf 2 (b_sizes (run (n + 1))) from rfl]
  refine run_ret ?_
  have el : lstM (ss.map Vl.int) [] = .ok (.lst (ss.map Vl.int)) [] := lstM_eq (by simp; omega)
  simp (disch := first | omega | (simp only [List.length_cons, List.length_nil] <;> omega)) only [bind_ok, lift_ok, mVar_eq, mC_eq, mOp_eq, mUn_eq, mNil_eq, mCons_eq, mArgs_eq, mAnd_eq, mOr_eq, mT_eq, tnNot_eq, tnAnd_eq, tnOr_eq, mIf_eq, mNoPart_eq, mPart_eq, mSl_eq, mChain_eq, mIsi_eq, mBm_eq, mNext_eq, mSeq_eq, then_nx, then_rt, br_true, br_false, mPut_eq, mDrop_eq, mRet_eq, mRetN_eq, mIfS_eq, mAsg_eq, gtName_eq, gtTup_eq, gtNil_eq, gtCons_eq, mFor_eq, mIter_eq, mRange1_eq, mRange2_eq, mEnum_eq, mZip_eq, mComp_eq, gtSub_eq, mAug_eq, mFrz_eq, mYes_eq, mBreak_eq, mCont_eq, add_int, sub_int, mul_l, mul_r, div_int, mod_int, lt_int, le_int, gt_int, ge_int, eq_int, ne_int, eq_str, isN_eq, notN_eq, min_int, max_int, int_int, int_bl, startC, List.map_cons, List.map_nil, List.length_cons, List.length_nil, List.replicate, List.cons_append, List.nil_append, List.getElem?_cons_zero, List.getElem?_cons_succ, List.set_cons_zero, List.set_cons_succ, decide_true, decide_false, Bool.false_eq_true, if_true, if_false, Bool.not_true, Bool.not_false, reduceIte, Nat.reduceAdd, Nat.reduceSub, CS.isNon, wipeC, app_at, ty_at, ixr_at, lenr_at, ite_len, lstM_nil, newM_nil, tupM_eq, lstM_eq, newM_eq, len_lst, len_rol, len_tup, range1_eq, range2_eq, iter_lst, iter_rol, iter_tup, b_sizes, Int.toNat_natCast, e, el]
/-- what the first loop keeps: elders, sizes -/
def ElSz (es ss : List Nat) (i : Nat) : Prop := es.length = i ∧ ss.length = i + 1 ∧ (∀ s ∈ ss, s ≤ 6) ∧ ∀ j, j < i → es.getD j 0 ≤ j ∧ ss.getD (es.getD j 0) 0 ≤ ss.getD (j + 1) 0 ∧ ss.getD (j + 1) 0 ≤ ss.getD (es.getD j 0) 0 + 3
def vE (es : List Nat) : List Vl := .non :: es.map fun n : Nat => Vl.int (n : Int)
def vS (ss : List Nat) : List Vl := ss.map fun n : Nat => Vl.int (n : Int)
theorem vS_at {ss : List Nat} {k : Nat} (h : k < ss.length) : atI (vS ss) (k : Int) = some (.int (ss.getD k 0 : Nat)) := by
  rw [atI_nat rfl (by simpa [vS] using h)]
  simp [vS, List.getD_eq_getElem?_getD, h]
theorem vE_at {es : List Nat} {k : Nat} (h : k < es.length) : atI (vE es) ((k + 1 : Nat) : Int) = some (.int (es.getD k 0 : Nat)) := by
  rw [atI_nat rfl (by simpa [vE] using h)]
  simp [vE, List.getD_eq_getElem?_getD, h]
theorem getD_app {l : List Nat} {a : Nat} {k : Nat} (h : k < l.length) : (l ++ [a]).getD k 0 = l.getD k 0 := by
  simp [List.getD_eq_getElem?_getD, List.getElem?_append_left h]
theorem getD_last {l : List Nat} {a : Nat} : (l ++ [a]).getD l.length 0 = a := by
  simp [List.getD_eq_getElem?_getD]
theorem makes_loop1 (n : Nat) (c : Int) (m : Nat) (hm : m ≤ 7) : ∃ es ss x, ElSz es ss m ∧ forF (gtName 4) (mSeq (mDrop (mBm .list mtAppend (mVar 2) (mCons (mOp oMod (mArgs (pureM (run (n + 1) .mixed)) (mCons (mVar 0) (mCons (mVar 4) mNil))) (mVar 4)) mNil)))
    (mDrop (mBm .list mtAppend (mVar 3) (mCons (mArgs bMin (mCons (mC (.int 6)) (mCons (mOp (oAdd true) (mOp ixM (mVar 3) (mOp ixM (mVar 2) (mVar 4))) (mOp oMod (mArgs (pureM (run (n + 1) .mixed)) (mCons (mVar 0) (mCons (mOp (oAdd true) (mC (.int 10)) (mVar 4)) mNil))) (mC (.int 4)))) mNil))) mNil))))
    none (rangeL 1 m) [some (.int c), some (.int (1 + (m : Int))), some (.ref 0), some (.ref 1), none, none, none, none] [.lst [.non], .lst [.int 0]]
    = .nx [some (.int c), some (.int (1 + (m : Int))), some (.ref 0), some (.ref 1), x, none, none, none] [.lst (vE es), .lst (vS ss)] := by
  obtain ⟨ρ', g', e, es, ss, x, hE, rfl, rfl⟩ := for_inv (t := gtName 4) (b := mSeq (mDrop (mBm .list mtAppend (mVar 2) (mCons (mOp oMod (mArgs (pureM (run (n + 1) .mixed)) (mCons (mVar 0) (mCons (mVar 4) mNil))) (mVar 4)) mNil)))
    (mDrop (mBm .list mtAppend (mVar 3) (mCons (mArgs bMin (mCons (mC (.int 6)) (mCons (mOp (oAdd true) (mOp ixM (mVar 3) (mOp ixM (mVar 2) (mVar 4))) (mOp oMod (mArgs (pureM (run (n + 1) .mixed)) (mCons (mVar 0) (mCons (mOp (oAdd true) (mC (.int 10)) (mVar 4)) mNil))) (mC (.int 4)))) mNil))) mNil)))) (xs := rangeL 1 m)
    (ρ := [some (.int c), some (.int (1 + (m : Int))), some (.ref 0), some (.ref 1), none, none, none, none]) (g := [.lst [.non], .lst [.int 0]])
    (fun i ρ g => ∃ es ss x, ElSz es ss i ∧ ρ = [some (.int c), some (.int (1 + (m : Int))), some (.ref 0), some (.ref 1), x, none, none, none] ∧ g = [.lst (vE es), .lst (vS ss)])
    ⟨[], [0], none, ⟨rfl, rfl, by simp, by simp⟩, rfl, rfl⟩ fun i v ρ g hv => by
    rintro ⟨es, ss, x, ⟨h1, h2, h3, h4⟩, rfl, rfl⟩
    obtain ⟨hi, rfl⟩ := rangeL_get _ _ _ _ hv
    have em := Int.emod_nonneg (mixedF c (1 + (i : Int))) (show (1 + (i : Int)) ≠ 0 by omega)
    have em2 := Int.emod_lt_of_pos (mixedF c (1 + (i : Int))) (show 0 < (1 + (i : Int)) by omega)
    obtain ⟨e, he⟩ : ∃ e : Nat, mixedF c (1 + (i : Int)) % (1 + (i : Int)) = (e : Int) := ⟨_, (Int.toNat_of_nonneg em).symm⟩
    have he2 : e ≤ i := by omega
    have d0 : 0 ≤ mixedF c (10 + (1 + (i : Int))) % 4 ∧ mixedF c (10 + (1 + (i : Int))) % 4 < 4 := by omega
    obtain ⟨d, hd⟩ : ∃ d : Nat, mixedF c (10 + (1 + (i : Int))) % 4 = (d : Int) := ⟨_, (Int.toNat_of_nonneg d0.1).symm⟩
    have hd2 : d ≤ 3 := by omega
    have q1 : vE es ++ [.int (e : Int)] = vE (es ++ [e]) := by simp [vE]
    have q2 : ∀ z : Nat, vS ss ++ [.int (z : Int)] = vS (ss ++ [z]) := fun z => by simp [vS]
    have a1 : atI (vE (es ++ [e])) (1 + (i : Int)) = some (.int (e : Int)) := by
      have := vE_at (es := es ++ [e]) (k := i) (by simp [h1])
      rw [show ((i + 1 : Nat) : Int) = 1 + (i : Int) by omega] at this
      rw [this, ← h1, getD_last]
    have a2 : atI (vS ss) (e : Int) = some (.int (ss.getD e 0 : Nat)) := vS_at (by omega)
    have mn : min (6 : Int) (((ss.getD e 0 : Nat) : Int) + (d : Int)) = ((min 6 (ss.getD e 0 + d) : Nat) : Int) := by omega
    have hs6 : ss.getD e 0 ≤ 6 := by
      have : e < ss.length := by omega
      rw [List.getD_eq_getElem?_getD, List.getElem?_eq_getElem this]
      exact h3 _ (List.getElem_mem this)
    have l1 : (vE es).length = i + 1 := by simp [vE, h1]
    have l2 : (vS ss).length = i + 1 := by simp [vS, h2]
    refine ⟨_, _, rfl, [some (.int c), some (.int (1 + (m : Int))), some (.ref 0), some (.ref 1), some (.int (1 + (i : Int))), none, none, none], [.lst (vE (es ++ [e])), .lst (vS (ss ++ [min 6 (ss.getD e 0 + d)]))], ?_, es ++ [e], ss ++ [min 6 (ss.getD e 0 + d)], _, ⟨by simp [h1], by simp [h2], ?_, ?_⟩, rfl, rfl⟩
    · simp (disch := first | omega | (simp only [List.length_cons, List.length_nil] <;> omega)) only [bind_ok, lift_ok, mVar_eq, mC_eq, mOp_eq, mUn_eq, mNil_eq, mCons_eq, mArgs_eq, mAnd_eq, mOr_eq, mT_eq, tnNot_eq, tnAnd_eq, tnOr_eq, mIf_eq, mNoPart_eq, mPart_eq, mSl_eq, mChain_eq, mIsi_eq, mBm_eq, mNext_eq, mSeq_eq, then_nx, then_rt, br_true, br_false, mPut_eq, mDrop_eq, mRet_eq, mRetN_eq, mIfS_eq, mAsg_eq, gtName_eq, gtTup_eq, gtNil_eq, gtCons_eq, mFor_eq, mIter_eq, mRange1_eq, mRange2_eq, mEnum_eq, mZip_eq, mComp_eq, gtSub_eq, mAug_eq, mFrz_eq, mYes_eq, mBreak_eq, mCont_eq, add_int, sub_int, mul_l, mul_r, div_int, mod_int, lt_int, le_int, gt_int, ge_int, eq_int, ne_int, eq_str, isN_eq, notN_eq, min_int, max_int, int_int, int_bl, startC, List.map_cons, List.map_nil, List.length_cons, List.length_nil, List.replicate, List.cons_append, List.nil_append, List.getElem?_cons_zero, List.getElem?_cons_succ, List.set_cons_zero, List.set_cons_succ, decide_true, decide_false, Bool.false_eq_true, if_true, if_false, Bool.not_true, Bool.not_false, reduceIte, Nat.reduceAdd, Nat.reduceSub, CS.isNon, wipeC, app_at, ty_at, ixr_at, lenr_at, ite_len, lstM_nil, newM_nil, tupM_eq, lstM_eq, newM_eq, len_lst, len_rol, len_tup, range1_eq, range2_eq, iter_lst, iter_rol, iter_tup, mixed_pure, he, hd, q1, q2, a1, a2, mn]
    · intro s hs
      rcases List.mem_append.mp hs with hs | hs
      · exact h3 s hs
      · have : s = min 6 (ss.getD e 0 + d) := by simpa using hs
        omega
    · intro j hj
      by_cases hji : j < i
      · rw [getD_app (by omega), getD_app (by have := (h4 j hji).1; omega), getD_app (by omega)]
        exact h4 j hji
      · have : j = i := by omega
        subst this
        have w1 : (es ++ [e]).getD j 0 = e := by rw [← h1]; exact getD_last
        have w2 : (ss ++ [min 6 (ss.getD e 0 + d)]).getD (j + 1) 0 = min 6 (ss.getD e 0 + d) := by rw [← h2]; exact getD_last
        rw [w1, w2, getD_app (by omega)]
        omega
  refine ⟨es, ss, x, ?_, e⟩
  simpa [rangeL_len] using hE
end K81

set_option Elab.async false
set_option linter.all false
set_option maxRecDepth 100000
set_option maxHeartbeats 2000000
namespace K81
open PySem L2 CS

theorem vS_int (ss : List Nat) : vS ss = (ss.map fun n : Nat => (n : Int)).map Vl.int := by simp [vS]
theorem getD_le {l : List Nat} {b : Nat} (h : ∀ s ∈ l, s ≤ b) (j : Nat) : l.getD j 0 ≤ b := by
  rw [List.getD_eq_getElem?_getD]
  cases e : l[j]? with
  | none => simp
  | some s => exact h s (List.mem_of_getElem? e)
noncomputable def kindsE (n : Nat) : ME := mArgs (pureM (run (n + 1) .kind)) (mCons (mArgs (pureM (run (n + 1) .mixed)) (mCons (mVar 0) (mCons (mOp (oAdd true) (mOp (oAdd true) (mC (.int 20)) (mOp (oMul true) (mC (.int 7)) (mVar 4))) (mVar 7)) mNil))) (mCons (mVar 3) mNil))
theorem makes_loop2 (n : Nat) (c : Int) (m : Nat) (hm : m ≤ 7) (x0 : Option Vl) {es ss : List Nat} (hE : ElSz es ss m) : ∃ ms x y, ms.length = m + 1 ∧ (∀ i v, ms[i]? = some v → MakeV i v) ∧ forF (gtName 4) (mSeq (mPut 6 (mOp oSub (mOp ixM (mVar 3) (mVar 4)) (mOp ixM (mVar 3) (mOp ixM (mVar 2) (mVar 4)))))
    (mDrop (mBm .list mtAppend (mVar 5) (mCons (mArgs tupM (mCons (mOp ixM (mVar 2) (mVar 4)) (mCons (mComp lstM (mRange1 (mVar 6)) [7] (gtName 7) mYes (kindsE n)) mNil))) mNil))))
    none (rangeL 1 m) [some (.int c), some (.int (1 + (m : Int))), some (.lst (vE es)), some (.lst (vS ss)), x0, some (.ref 2), none, none] [.dead, .dead, .lst [.tup [.non, .lst []]]]
    = .nx [some (.int c), some (.int (1 + (m : Int))), some (.lst (vE es)), some (.lst (vS ss)), x, some (.ref 2), y, none] [.dead, .dead, .lst ms] := by
  obtain ⟨h1, h2, h3, h4⟩ := hE
  obtain ⟨ρ', g', e, ms, x, y, hl, hM, rfl, rfl⟩ := for_inv (t := gtName 4) (b := mSeq (mPut 6 (mOp oSub (mOp ixM (mVar 3) (mVar 4)) (mOp ixM (mVar 3) (mOp ixM (mVar 2) (mVar 4)))))
    (mDrop (mBm .list mtAppend (mVar 5) (mCons (mArgs tupM (mCons (mOp ixM (mVar 2) (mVar 4)) (mCons (mComp lstM (mRange1 (mVar 6)) [7] (gtName 7) mYes (kindsE n)) mNil))) mNil)))) (xs := rangeL 1 m)
    (ρ := [some (.int c), some (.int (1 + (m : Int))), some (.lst (vE es)), some (.lst (vS ss)), x0, some (.ref 2), none, none]) (g := [.dead, .dead, .lst [.tup [.non, .lst []]]])
    (fun i ρ g => ∃ ms x y, ms.length = i + 1 ∧ (∀ i v, ms[i]? = some v → MakeV i v) ∧ ρ = [some (.int c), some (.int (1 + (m : Int))), some (.lst (vE es)), some (.lst (vS ss)), x, some (.ref 2), y, none] ∧ g = [.dead, .dead, .lst ms])
    ⟨[.tup [.non, .lst []]], x0, none, rfl, fun i v hv => by
      cases i with
      | zero => cases hv; exact ⟨.non, [], rfl, by simp, by simp, fun _ => rfl, by omega⟩
      | succ i => simp at hv, rfl, rfl⟩ fun i v ρ g hv => by
    rintro ⟨ms, x, y, hl, hM, rfl, rfl⟩
    obtain ⟨hi, rfl⟩ := rangeL_get _ _ _ _ hv
    obtain ⟨q1, q2, q3⟩ := h4 i hi
    generalize he : es.getD i 0 = e at *
    have a1 : atI (vE es) (1 + (i : Int)) = some (.int (e : Int)) := by
      have := vE_at (es := es) (k := i) (by omega)
      rw [show ((i + 1 : Nat) : Int) = 1 + (i : Int) by omega] at this
      rw [this, he]
    have a2 : atI (vS ss) (e : Int) = some (.int (ss.getD e 0 : Nat)) := vS_at (by omega)
    have a3 : atI (vS ss) (1 + (i : Int)) = some (.int (ss.getD (i + 1) 0 : Nat)) := by
      have := vS_at (ss := ss) (k := i + 1) (by omega)
      rw [show ((i + 1 : Nat) : Int) = 1 + (i : Int) by omega] at this
      exact this
    have b1 := getD_le h3 (i + 1)
    generalize hd : ((ss.getD (i + 1) 0 : Nat) : Int) - ((ss.getD e 0 : Nat) : Int) = d
    obtain ⟨ys, ec, hlen, hr⟩ := comp_pure (t := gtName 7) (e := kindsE n) (ρ := [some (.int c), some (.int (1 + (m : Int))), some (.lst (vE es)), some (.lst (vS ss)), some (.int (1 + (i : Int))), some (.ref 2), some (.int d), none]) (g := [.dead, .dead, .lst ms]) (src := none) (fun _ y => KindV y) trivial (rangeL 0 d.toNat) fun v hv => by
      obtain ⟨k, hk, rfl⟩ := rangeL_mem.mp hv
      obtain ⟨kv, ek, hk⟩ := kind_pure n (ss := ss.map fun n : Nat => (n : Int)) (num := mixedF c (20 + 7 * (1 + (i : Int)) + (k : Int))) [.dead, .dead, .lst ms] (mixedF_ge _ _) (by intro z; simp at z; rw [z] at h2; cases h2) (by simp; omega) (by
        intro s hs
        obtain ⟨t, ht, rfl⟩ := List.mem_map.mp hs
        have := h3 t ht
        omega)
      rw [← vS_int] at ek
      refine ⟨_, kv, rfl, ?_, hk⟩
      simp (disch := first | omega | (simp only [List.length_cons, List.length_nil] <;> omega)) only [bind_ok, lift_ok, mVar_eq, mC_eq, mOp_eq, mUn_eq, mNil_eq, mCons_eq, mArgs_eq, mAnd_eq, mOr_eq, mT_eq, tnNot_eq, tnAnd_eq, tnOr_eq, mIf_eq, mNoPart_eq, mPart_eq, mSl_eq, mChain_eq, mIsi_eq, mBm_eq, mNext_eq, mSeq_eq, then_nx, then_rt, br_true, br_false, mPut_eq, mDrop_eq, mRet_eq, mRetN_eq, mIfS_eq, mAsg_eq, gtName_eq, gtTup_eq, gtNil_eq, gtCons_eq, mFor_eq, mIter_eq, mRange1_eq, mRange2_eq, mEnum_eq, mZip_eq, mComp_eq, gtSub_eq, mAug_eq, mFrz_eq, mYes_eq, mBreak_eq, mCont_eq, add_int, sub_int, mul_l, mul_r, div_int, mod_int, lt_int, le_int, gt_int, ge_int, eq_int, ne_int, eq_str, isN_eq, notN_eq, min_int, max_int, int_int, int_bl, startC, List.map_cons, List.map_nil, List.length_cons, List.length_nil, List.replicate, List.cons_append, List.nil_append, List.getElem?_cons_zero, List.getElem?_cons_succ, List.set_cons_zero, List.set_cons_succ, decide_true, decide_false, Bool.false_eq_true, if_true, if_false, Bool.not_true, Bool.not_false, reduceIte, Nat.reduceAdd, Nat.reduceSub, CS.isNon, wipeC, app_at, ty_at, ixr_at, lenr_at, ite_len, lstM_nil, newM_nil, tupM_eq, lstM_eq, newM_eq, len_lst, len_rol, len_tup, range1_eq, range2_eq, iter_lst, iter_rol, iter_tup, kindsE, mixed_pure, Int.zero_add, ek]
    have hys : ys.length ≤ 3 := by rw [hlen, rangeL_len]; omega
    have el : lstM ys [.dead, .dead, .lst ms] = .ok (.lst ys) [.dead, .dead, .lst ms] := lstM_eq (by omega)
    refine ⟨_, _, rfl, [some (.int c), some (.int (1 + (m : Int))), some (.lst (vE es)), some (.lst (vS ss)), some (.int (1 + (i : Int))), some (.ref 2), some (.int d), none], [.dead, .dead, .lst (ms ++ [.tup [.int e, .lst ys]])], ?_, _, _, _, by simp [hl], ?_, rfl, rfl⟩
    · simp (disch := first | omega | (simp only [List.length_cons, List.length_nil] <;> omega)) only [bind_ok, lift_ok, mVar_eq, mC_eq, mOp_eq, mUn_eq, mNil_eq, mCons_eq, mArgs_eq, mAnd_eq, mOr_eq, mT_eq, tnNot_eq, tnAnd_eq, tnOr_eq, mIf_eq, mNoPart_eq, mPart_eq, mSl_eq, mChain_eq, mIsi_eq, mBm_eq, mNext_eq, mSeq_eq, then_nx, then_rt, br_true, br_false, mPut_eq, mDrop_eq, mRet_eq, mRetN_eq, mIfS_eq, mAsg_eq, gtName_eq, gtTup_eq, gtNil_eq, gtCons_eq, mFor_eq, mIter_eq, mRange1_eq, mRange2_eq, mEnum_eq, mZip_eq, mComp_eq, gtSub_eq, mAug_eq, mFrz_eq, mYes_eq, mBreak_eq, mCont_eq, add_int, sub_int, mul_l, mul_r, div_int, mod_int, lt_int, le_int, gt_int, ge_int, eq_int, ne_int, eq_str, isN_eq, notN_eq, min_int, max_int, int_int, int_bl, startC, List.map_cons, List.map_nil, List.length_cons, List.length_nil, List.replicate, List.cons_append, List.nil_append, List.getElem?_cons_zero, List.getElem?_cons_succ, List.set_cons_zero, List.set_cons_succ, decide_true, decide_false, Bool.false_eq_true, if_true, if_false, Bool.not_true, Bool.not_false, reduceIte, Nat.reduceAdd, Nat.reduceSub, CS.isNon, wipeC, app_at, ty_at, ixr_at, lenr_at, ite_len, lstM_nil, newM_nil, tupM_eq, lstM_eq, newM_eq, len_lst, len_rol, len_tup, range1_eq, range2_eq, iter_lst, iter_rol, iter_tup, ix_lst a1, ix_lst a2, ix_lst a3, hd, ec, el]
    · intro j v hv
      by_cases hj : j < ms.length
      · rw [List.getElem?_append_left hj] at hv
        exact hM j v hv
      · rw [List.getElem?_append_right (by omega)] at hv
        cases hz : j - ms.length with
        | zero =>
          rw [hz] at hv
          cases hv
          exact ⟨.int e, ys, rfl, hys, fun k hk => let ⟨_, _, r⟩ := hr k hk; r, by omega, fun _ => ⟨e, by omega, rfl⟩⟩
        | succ z => rw [hz] at hv; simp at hv
  refine ⟨ms, x, y, ?_, hM, e⟩
  simpa [rangeL_len] using hl
theorem makes_pure (n : Nat) (c : Int) (g : Gh) : ∃ ms, pureM (run (n + 2) .makes) [.int c] g = .ok (.lst ms) g ∧ MakesV ms := by
  have c0 : 0 ≤ c % 8 ∧ c % 8 < 8 := by omega
  obtain ⟨m, hm⟩ : ∃ m : Nat, c % 8 = (m : Int) := ⟨_, (Int.toNat_of_nonneg c0.1).symm⟩
  obtain ⟨es, ss, x, hE, e1⟩ := makes_loop1 n c m (by omega)
  obtain ⟨ms, x2, y, hl, hM, e2⟩ := makes_loop2 n c m (by omega) x hE
  have hms : MakesV ms := ⟨by omega, by omega, hM⟩
  refine ⟨ms, pure_eq (g' := [.dead, .dead, .dead]) ?_ rfl (by simp [noRef, makes_noRef hms]), hms⟩
  rw [show run (n + 2) .makes = runOf 8 (b_makes (run (n + 1))) from rfl]
  refine run_ret ?_
  have er : (1 + (m : Int) - 1).toNat = m := by omega
  unfold kindsE at e2
  simp (disch := first | omega | (simp only [List.length_cons, List.length_nil] <;> omega)) only [bind_ok, lift_ok, mVar_eq, mC_eq, mOp_eq, mUn_eq, mNil_eq, mCons_eq, mArgs_eq, mAnd_eq, mOr_eq, mT_eq, tnNot_eq, tnAnd_eq, tnOr_eq, mIf_eq, mNoPart_eq, mPart_eq, mSl_eq, mChain_eq, mIsi_eq, mBm_eq, mNext_eq, mSeq_eq, then_nx, then_rt, br_true, br_false, mPut_eq, mDrop_eq, mRet_eq, mRetN_eq, mIfS_eq, mAsg_eq, gtName_eq, gtTup_eq, gtNil_eq, gtCons_eq, mFor_eq, mIter_eq, mRange1_eq, mRange2_eq, mEnum_eq, mZip_eq, mComp_eq, gtSub_eq, mAug_eq, mFrz_eq, mYes_eq, mBreak_eq, mCont_eq, add_int, sub_int, mul_l, mul_r, div_int, mod_int, lt_int, le_int, gt_int, ge_int, eq_int, ne_int, eq_str, isN_eq, notN_eq, min_int, max_int, int_int, int_bl, startC, List.map_cons, List.map_nil, List.length_cons, List.length_nil, List.replicate, List.cons_append, List.nil_append, List.getElem?_cons_zero, List.getElem?_cons_succ, List.set_cons_zero, List.set_cons_succ, decide_true, decide_false, Bool.false_eq_true, if_true, if_false, Bool.not_true, Bool.not_false, reduceIte, Nat.reduceAdd, Nat.reduceSub, CS.isNon, wipeC, app_at, ty_at, ixr_at, lenr_at, ite_len, lstM_nil, newM_nil, tupM_eq, lstM_eq, newM_eq, len_lst, len_rol, len_tup, range1_eq, range2_eq, iter_lst, iter_rol, iter_tup, b_makes, hm, er, e1, e2, then_of e1]
end K81

set_option Elab.async false
set_option linter.all false
set_option maxRecDepth 100000
set_option maxHeartbeats 2000000
namespace K81
open PySem L2 CS

def letters : Str := Str.ofString "abcdefghijklmnopqrstuvwxyz"
theorem letter_ix (X : Int) : ∃ ch, PyData.strOk ⟨#[ch]⟩ = true ∧ ∀ g, ixM (.str letters) (.int (X % 26)) g = .ok (.str ⟨#[ch]⟩) g := by
  obtain ⟨k, hk⟩ : ∃ k : Nat, X % 26 = (k : Int) := ⟨_, (Int.toNat_of_nonneg (by omega)).symm⟩
  rw [hk]
  have hk2 : k < 26 := by omega
  have hl : letters.cps.toList.length = 26 := by decide +kernel
  have h : k < letters.cps.toList.length := by omega
  refine ⟨letters.cps.toList[k], ?_, fun g => ix_str (by show letters.cps.size ≤ _; decide +kernel) (atI_nat rfl h)⟩
  have all : ∀ c ∈ letters.cps.toList, PyData.strOk ⟨#[c]⟩ = true := by decide +kernel
  exact all _ (List.getElem_mem h)
/-- a short name -/
def StrV (v : Vl) : Prop := ∃ s : Str, v = .str s ∧ PyData.strOk s = true ∧ s.length ≤ 9
noncomputable def innerB (n : Nat) : MS := mPut 7 (mOp (oAdd true) (mVar 7) (mOp ixM (mVar 2) (mOp oMod (mOp (oAdd true) (mArgs (pureM (run (n + 1) .mixed)) (mCons (mVar 0) (mCons (mOp (oAdd true) (mC (.int 3)) (mVar 8)) mNil))) (mOp (oMul true) (mOp (oMul true) (mC (.int 7)) (mVar 6)) (mArgs bInt (mCons (mOp cEq (mVar 8) (mVar 4)) mNil)))) (mC (.int 26)))))
theorem names_inner (n : Nat) (c many size spot : Int) (k m : Nat) (hk : k < 20) (hm : m ≤ 8) (r : Vl) (x : Option Vl) (g : Gh) : ∃ s y, PyData.strOk s = true ∧ s.length = m ∧ forF (gtName 8) (innerB n) none (rangeL 0 m)
    [some (.int c), some (.int many), some (.str letters), some (.int size), some (.int spot), some r, some (.int (k : Int)), some (.str (Str.ofString "")), x] g
    = .nx [some (.int c), some (.int many), some (.str letters), some (.int size), some (.int spot), some r, some (.int (k : Int)), some (.str s), y] g := by
  obtain ⟨ρ', g', e, s, y, hs, hl, rfl, rfl⟩ := for_inv (t := gtName 8) (b := innerB n) (xs := rangeL 0 m) (ρ := [some (.int c), some (.int many), some (.str letters), some (.int size), some (.int spot), some r, some (.int (k : Int)), some (.str (Str.ofString "")), x]) (g := g)
    (fun i ρ g' => ∃ s y, PyData.strOk s = true ∧ s.length = i ∧ ρ = [some (.int c), some (.int many), some (.str letters), some (.int size), some (.int spot), some r, some (.int (k : Int)), some (.str s), y] ∧ g' = g)
    ⟨Str.ofString "", x, by decide +kernel, by decide +kernel, rfl, rfl⟩ fun i v ρ g' hv => by
    rintro ⟨s, y, hs, hl, rfl, rfl⟩
    obtain ⟨hi, rfl⟩ := rangeL_get _ _ _ _ hv
    obtain ⟨b, hb⟩ : ∃ b, decide ((i : Int) = spot) = b := ⟨_, rfl⟩
    obtain ⟨ch, hc, ei⟩ := letter_ix (mixedF c (3 + (i : Int)) + 7 * (k : Int) * if b = true then 1 else 0)
    refine ⟨_, _, rfl, [some (.int c), some (.int many), some (.str letters), some (.int size), some (.int spot), some r, some (.int (k : Int)), some (.str (s ++ ⟨#[ch]⟩)), some (.int (i : Int))], g', ?_, _, _, ?_, ?_, rfl, rfl⟩
    · have ea : oAdd true (.str s) (.str ⟨#[ch]⟩) g' = .ok (.str (s ++ ⟨#[ch]⟩)) g' := add_str (by show s.length + 1 ≤ _; omega)
      simp (disch := first | omega | (simp only [List.length_cons, List.length_nil] <;> omega)) only [bind_ok, lift_ok, mVar_eq, mC_eq, mOp_eq, mUn_eq, mNil_eq, mCons_eq, mArgs_eq, mAnd_eq, mOr_eq, mT_eq, tnNot_eq, tnAnd_eq, tnOr_eq, mIf_eq, mNoPart_eq, mPart_eq, mSl_eq, mChain_eq, mIsi_eq, mBm_eq, mNext_eq, mSeq_eq, then_nx, then_rt, br_true, br_false, mPut_eq, mDrop_eq, mRet_eq, mRetN_eq, mIfS_eq, mAsg_eq, gtName_eq, gtTup_eq, gtNil_eq, gtCons_eq, mFor_eq, mIter_eq, mRange1_eq, mRange2_eq, mEnum_eq, mZip_eq, mComp_eq, gtSub_eq, mAug_eq, mFrz_eq, mYes_eq, mBreak_eq, mCont_eq, add_int, sub_int, mul_l, mul_r, div_int, mod_int, lt_int, le_int, gt_int, ge_int, eq_int, ne_int, eq_str, isN_eq, notN_eq, min_int, max_int, int_int, int_bl, startC, List.map_cons, List.map_nil, List.length_cons, List.length_nil, List.replicate, List.cons_append, List.nil_append, List.getElem?_cons_zero, List.getElem?_cons_succ, List.set_cons_zero, List.set_cons_succ, decide_true, decide_false, Bool.false_eq_true, if_true, if_false, Bool.not_true, Bool.not_false, reduceIte, Nat.reduceAdd, Nat.reduceSub, CS.isNon, wipeC, app_at, ty_at, ixr_at, lenr_at, ite_len, lstM_nil, newM_nil, tupM_eq, lstM_eq, newM_eq, len_lst, len_rol, len_tup, range1_eq, range2_eq, iter_lst, iter_rol, iter_tup, innerB, mixed_pure, Int.zero_add, hb, mul_ite, ei, ea]
    · rw [strOk_append, hs, hc]; rfl
    · rw [strLen_append, hl]; rfl
  exact ⟨s, y, hs, by simpa [rangeL_len] using hl, e⟩
theorem names_body (n : Nat) (c : Int) (many : Nat) (hm : many ≤ 8) : ∃ xs, run (n + 2) .names [.int c, .int many] [] = .ok (.ref 0) [.lst xs] ∧ xs.length = many ∧ ∀ x ∈ xs, StrV x ∧ ∃ s, x = .str s ∧ s.length ≤ 8 := by
  have s0 : 0 ≤ mixedF c 1 % 8 ∧ mixedF c 1 % 8 < 8 := by omega
  obtain ⟨m, hm1⟩ : ∃ m : Nat, 1 + mixedF c 1 % 8 = (m : Int) := ⟨_, (Int.toNat_of_nonneg (by omega)).symm⟩
  have hm2 : 1 ≤ m ∧ m ≤ 8 := by omega
  have sp := Int.emod_lt_of_pos (mixedF c 2) (show (0 : Int) < m by omega)
  generalize hsp : mixedF c 2 % (m : Int) = spot at sp
  have key : ∃ ρ', ∃ xs : List Vl, (xs.length = many ∧ ∀ x ∈ xs, StrV x ∧ ∃ s, x = .str s ∧ s.length ≤ 8) ∧ ∃ x6 x7 x8, ρ' = [some (.int c), some (.int many), some (.str letters), some (.int (m : Int)), some (.int spot), some (.ref 0), x6, x7, x8] ∧
      forF (gtName 6) (mSeq (mPut 7 (mC (.str (Str.ofString "")))) (mSeq (mFor (mRange1 (mVar 3)) (gtName 8) (innerB n))
    (mDrop (mBm .list mtAppend (mVar 5) (mCons (mSl (slM true) (mVar 7) mNoPart (mPart (mArgs bMax (mCons (mOp (oAdd true) (mVar 4) (mC (.int 1))) (mCons (mOp oSub (mVar 3) (mOp (oMul true) (mOp oMod (mVar 6) (mC (.int 3))) (mOp oMod (mArgs (pureM (run (n + 1) .mixed)) (mCons (mVar 0) (mCons (mC (.int 12)) mNil))) (mC (.int 2))))) mNil))))) mNil)))))
      none (rangeL 0 many) [some (.int c), some (.int many), some (.str letters), some (.int (m : Int)), some (.int spot), some (.ref 0), none, none, none] [.lst []] = .nx ρ' [.lst xs] := by
    obtain ⟨ρ', g', e, xs, x6, x7, x8, hl, hx, rfl, rfl⟩ := for_inv (t := gtName 6) (b := mSeq (mPut 7 (mC (.str (Str.ofString "")))) (mSeq (mFor (mRange1 (mVar 3)) (gtName 8) (innerB n))
    (mDrop (mBm .list mtAppend (mVar 5) (mCons (mSl (slM true) (mVar 7) mNoPart (mPart (mArgs bMax (mCons (mOp (oAdd true) (mVar 4) (mC (.int 1))) (mCons (mOp oSub (mVar 3) (mOp (oMul true) (mOp oMod (mVar 6) (mC (.int 3))) (mOp oMod (mArgs (pureM (run (n + 1) .mixed)) (mCons (mVar 0) (mCons (mC (.int 12)) mNil))) (mC (.int 2))))) mNil))))) mNil))))) (xs := rangeL 0 many) (ρ := [some (.int c), some (.int many), some (.str letters), some (.int (m : Int)), some (.int spot), some (.ref 0), none, none, none]) (g := [.lst []])
      (fun i ρ g => ∃ xs x6 x7 x8, xs.length = i ∧ (∀ x ∈ xs, StrV x ∧ ∃ s, x = .str s ∧ s.length ≤ 8) ∧ ρ = [some (.int c), some (.int many), some (.str letters), some (.int (m : Int)), some (.int spot), some (.ref 0), x6, x7, x8] ∧ g = [.lst xs])
      ⟨[], none, none, none, rfl, by simp, rfl, rfl⟩ fun i v ρ g hv => by
      rintro ⟨xs, x6, x7, x8, hl, hx, rfl, rfl⟩
      obtain ⟨hi, rfl⟩ := rangeL_get _ _ _ _ hv
      obtain ⟨s, y, hs, hsl, ei⟩ := names_inner n c many m spot i m (by omega) hm2.2 (.ref 0) x8 [.lst xs]
      generalize hcut : max (spot + 1) ((m : Int) - (i : Int) % 3 * (mixedF c 12 % 2)) = cut
      have esl : slM true (.str s) none (some cut) [.lst xs] = .ok (.str (cutS s none (some cut))) [.lst xs] := sl_str (by omega)
      have hcl : (cutS s none (some cut)).length ≤ 8 := Nat.le_trans cut_len (by omega)
      refine ⟨_, _, rfl, [some (.int c), some (.int many), some (.str letters), some (.int (m : Int)), some (.int spot), some (.ref 0), some (.int (i : Int)), some (.str s), y], [.lst (xs ++ [.str (cutS s none (some cut))])], ?_, _, _, _, _, by simp [hl], ?_, rfl, rfl⟩
      · simp (disch := first | omega | (simp only [List.length_cons, List.length_nil] <;> omega)) only [bind_ok, lift_ok, mVar_eq, mC_eq, mOp_eq, mUn_eq, mNil_eq, mCons_eq, mArgs_eq, mAnd_eq, mOr_eq, mT_eq, tnNot_eq, tnAnd_eq, tnOr_eq, mIf_eq, mNoPart_eq, mPart_eq, mSl_eq, mChain_eq, mIsi_eq, mBm_eq, mNext_eq, mSeq_eq, then_nx, then_rt, br_true, br_false, mPut_eq, mDrop_eq, mRet_eq, mRetN_eq, mIfS_eq, mAsg_eq, gtName_eq, gtTup_eq, gtNil_eq, gtCons_eq, mFor_eq, mIter_eq, mRange1_eq, mRange2_eq, mEnum_eq, mZip_eq, mComp_eq, gtSub_eq, mAug_eq, mFrz_eq, mYes_eq, mBreak_eq, mCont_eq, add_int, sub_int, mul_l, mul_r, div_int, mod_int, lt_int, le_int, gt_int, ge_int, eq_int, ne_int, eq_str, isN_eq, notN_eq, min_int, max_int, int_int, int_bl, startC, List.map_cons, List.map_nil, List.length_cons, List.length_nil, List.replicate, List.cons_append, List.nil_append, List.getElem?_cons_zero, List.getElem?_cons_succ, List.set_cons_zero, List.set_cons_succ, decide_true, decide_false, Bool.false_eq_true, if_true, if_false, Bool.not_true, Bool.not_false, reduceIte, Nat.reduceAdd, Nat.reduceSub, CS.isNon, wipeC, app_at, ty_at, ixr_at, lenr_at, ite_len, lstM_nil, newM_nil, tupM_eq, lstM_eq, newM_eq, len_lst, len_rol, len_tup, range1_eq, range2_eq, iter_lst, iter_rol, iter_tup, Int.zero_add, Int.toNat_natCast, ei, mixed_pure, hcut, esl, then_of ei]
      · intro x hx'
        rcases List.mem_append.mp hx' with hx' | hx'
        · exact hx x hx'
        · have : x = .str (cutS s none (some cut)) := by simpa using hx'
          exact ⟨⟨_, this, strOk_cut hs, by omega⟩, _, this, hcl⟩
    exact ⟨_, xs, ⟨by simpa [rangeL_len] using hl, hx⟩, _, _, _, rfl, e⟩
  obtain ⟨ρ', xs, h, x6, x7, x8, rfl, e⟩ := key
  refine ⟨xs, ?_, h⟩
  rw [show run (n + 2) .names = runOf 9 (b_names (run (n + 1))) from rfl]
  refine run_ret ?_
  unfold innerB letters at e

  simp (disch := first | omega | (simp only [List.length_cons, List.length_nil] <;> omega)) only [bind_ok, lift_ok, mVar_eq, mC_eq, mOp_eq, mUn_eq, mNil_eq, mCons_eq, mArgs_eq, mAnd_eq, mOr_eq, mT_eq, tnNot_eq, tnAnd_eq, tnOr_eq, mIf_eq, mNoPart_eq, mPart_eq, mSl_eq, mChain_eq, mIsi_eq, mBm_eq, mNext_eq, mSeq_eq, then_nx, then_rt, br_true, br_false, mPut_eq, mDrop_eq, mRet_eq, mRetN_eq, mIfS_eq, mAsg_eq, gtName_eq, gtTup_eq, gtNil_eq, gtCons_eq, mFor_eq, mIter_eq, mRange1_eq, mRange2_eq, mEnum_eq, mZip_eq, mComp_eq, gtSub_eq, mAug_eq, mFrz_eq, mYes_eq, mBreak_eq, mCont_eq, add_int, sub_int, mul_l, mul_r, div_int, mod_int, lt_int, le_int, gt_int, ge_int, eq_int, ne_int, eq_str, isN_eq, notN_eq, min_int, max_int, int_int, int_bl, startC, List.map_cons, List.map_nil, List.length_cons, List.length_nil, List.replicate, List.cons_append, List.nil_append, List.getElem?_cons_zero, List.getElem?_cons_succ, List.set_cons_zero, List.set_cons_succ, decide_true, decide_false, Bool.false_eq_true, if_true, if_false, Bool.not_true, Bool.not_false, reduceIte, Nat.reduceAdd, Nat.reduceSub, CS.isNon, wipeC, app_at, ty_at, ixr_at, lenr_at, ite_len, lstM_nil, newM_nil, tupM_eq, lstM_eq, newM_eq, len_lst, len_rol, len_tup, range1_eq, range2_eq, iter_lst, iter_rol, iter_tup, b_names, mixed_pure, hm1, hsp, Int.toNat_natCast, e, then_of e]
end K81

set_option Elab.async false
set_option linter.all false
set_option maxRecDepth 100000
set_option maxHeartbeats 2000000
namespace K81
open PySem L2 CS

theorem strV_flat {xs : List Vl} (h : ∀ x ∈ xs, StrV x) : xs.all flatC = true := by
  simp only [List.all_eq_true]
  intro x hx
  obtain ⟨s, rfl, _⟩ := h x hx
  rfl
theorem strV_fine {x : Vl} (h : StrV x) : fine x = true ∧ dpt x = 0 ∧ wt x ≤ 92 := by
  obtain ⟨s, rfl, h1, h2⟩ := h
  exact ⟨strF s h1 (by omega), rfl, by simp only [wt]; omega⟩
theorem strs_noRef {xs : List Vl} (h : ∀ x ∈ xs, StrV x) : noRefs xs = true := fines_noRef xs (fines_all.mpr fun x hx => (strV_fine (h x hx)).1)
theorem thingV : StrV (.str (Str.ofString "thing")) := ⟨_, rfl, by decide +kernel, by decide +kernel⟩
theorem make_names_pure (n : Nat) (c : Int) (many : Nat) (h1 : 1 ≤ many) (h8 : many ≤ 8) (g : Gh) : ∃ ns, pureM (run (n + 3) .make_names) [.int c, .int many] g = .ok (.lst ns) g ∧ ns.length = many ∧ ∀ x ∈ ns, StrV x := by
  obtain ⟨xs, e, hl, hx⟩ := names_body n c (many - 1) (by omega)
  rw [show ((many - 1 : Nat) : Int) = (many : Int) - 1 by omega] at e
  have hx1 : ∀ x ∈ xs, StrV x := fun x h => (hx x h).1
  have ein := in_of (v := .str (Str.ofString "thing")) (w := .ref 0) (g := [.lst xs]) (xs := xs) rfl rfl (strV_flat hx1)
  generalize inC (.str (Str.ofString "thing")) xs = b at ein
  have key : ∃ ns g', run (n + 3) .make_names [.int c, .int many] [] = .ok (.lst ns) g' ∧ ns.length = many ∧ ∀ x ∈ ns, StrV x := by
    cases b with
    | true =>
      obtain ⟨ys, ec, hlen, hr⟩ := comp_pure (t := gtName 3) (e := mOp (oAdd true) (mVar 3) (mC (.str (Str.ofString "x")))) (ρ := [some (.int c), some (.int many), some (.ref 0), none]) (g := [.lst xs]) (src := some (0, xs)) (fun _ y => StrV y) rfl xs fun v hv => by
        obtain ⟨_, s, rfl, hsl⟩ := hx v hv
        obtain ⟨s', es, hs, _⟩ := hx1 _ hv
        cases es
        refine ⟨_, .str (s ++ Str.ofString "x"), rfl, ?_, _, rfl, ?_, ?_⟩
        · have ea : oAdd true (.str s) (.str (Str.ofString "x")) [.lst xs] = .ok (.str (s ++ Str.ofString "x")) [.lst xs] := add_str (by rw [show (Str.ofString "x").length = 1 by decide +kernel]; omega)
          simp (disch := first | omega | (simp only [List.length_cons, List.length_nil] <;> omega)) only [bind_ok, lift_ok, mVar_eq, mC_eq, mOp_eq, mUn_eq, mNil_eq, mCons_eq, mArgs_eq, mAnd_eq, mOr_eq, mT_eq, tnNot_eq, tnAnd_eq, tnOr_eq, mIf_eq, mNoPart_eq, mPart_eq, mSl_eq, mChain_eq, mIsi_eq, mBm_eq, mNext_eq, mSeq_eq, then_nx, then_rt, br_true, br_false, mPut_eq, mDrop_eq, mRet_eq, mRetN_eq, mIfS_eq, mAsg_eq, gtName_eq, gtTup_eq, gtNil_eq, gtCons_eq, mFor_eq, mIter_eq, mRange1_eq, mRange2_eq, mEnum_eq, mZip_eq, mComp_eq, gtSub_eq, mAug_eq, mFrz_eq, mYes_eq, mBreak_eq, mCont_eq, add_int, sub_int, mul_l, mul_r, div_int, mod_int, lt_int, le_int, gt_int, ge_int, eq_int, ne_int, eq_str, isN_eq, notN_eq, min_int, max_int, int_int, int_bl, startC, List.map_cons, List.map_nil, List.length_cons, List.length_nil, List.replicate, List.cons_append, List.nil_append, List.getElem?_cons_zero, List.getElem?_cons_succ, List.set_cons_zero, List.set_cons_succ, decide_true, decide_false, Bool.false_eq_true, if_true, if_false, Bool.not_true, Bool.not_false, reduceIte, Nat.reduceAdd, Nat.reduceSub, CS.isNon, wipeC, app_at, ty_at, ixr_at, lenr_at, ite_len, lstM_nil, newM_nil, tupM_eq, lstM_eq, newM_eq, len_lst, len_rol, len_tup, range1_eq, range2_eq, iter_lst, iter_rol, iter_tup, ea]
        · rw [strOk_append, hs, show PyData.strOk (Str.ofString "x") = true by decide +kernel]; rfl
        · rw [strLen_append, show (Str.ofString "x").length = 1 by decide +kernel]; omega
      have el : lstM ys [.lst xs] = .ok (.lst ys) [.lst xs] := lstM_eq (by omega)
      have ea : oAdd true (.lst [.str (Str.ofString "thing")]) (.lst ys) [.lst xs] = .ok (.lst (.str (Str.ofString "thing") :: ys)) [.lst xs] := add_lst (by simp; omega)
      refine ⟨.str (Str.ofString "thing") :: ys, [.lst xs], ?_, by simp; omega, ?_⟩
      · rw [show run (n + 3) .make_names = runOf 4 (b_make_names (run (n + 2))) from rfl]
        refine run_ret ?_
        have ei : iterM (.ref 0) [.lst xs] = .ok (xs, some (0, xs)) [.lst xs] := iter_ref rfl
        simp (disch := first | omega | (simp only [List.length_cons, List.length_nil] <;> omega)) only [bind_ok, lift_ok, mVar_eq, mC_eq, mOp_eq, mUn_eq, mNil_eq, mCons_eq, mArgs_eq, mAnd_eq, mOr_eq, mT_eq, tnNot_eq, tnAnd_eq, tnOr_eq, mIf_eq, mNoPart_eq, mPart_eq, mSl_eq, mChain_eq, mIsi_eq, mBm_eq, mNext_eq, mSeq_eq, then_nx, then_rt, br_true, br_false, mPut_eq, mDrop_eq, mRet_eq, mRetN_eq, mIfS_eq, mAsg_eq, gtName_eq, gtTup_eq, gtNil_eq, gtCons_eq, mFor_eq, mIter_eq, mRange1_eq, mRange2_eq, mEnum_eq, mZip_eq, mComp_eq, gtSub_eq, mAug_eq, mFrz_eq, mYes_eq, mBreak_eq, mCont_eq, add_int, sub_int, mul_l, mul_r, div_int, mod_int, lt_int, le_int, gt_int, ge_int, eq_int, ne_int, eq_str, isN_eq, notN_eq, min_int, max_int, int_int, int_bl, startC, List.map_cons, List.map_nil, List.length_cons, List.length_nil, List.replicate, List.cons_append, List.nil_append, List.getElem?_cons_zero, List.getElem?_cons_succ, List.set_cons_zero, List.set_cons_succ, decide_true, decide_false, Bool.false_eq_true, if_true, if_false, Bool.not_true, Bool.not_false, reduceIte, Nat.reduceAdd, Nat.reduceSub, CS.isNon, wipeC, app_at, ty_at, ixr_at, lenr_at, ite_len, lstM_nil, newM_nil, tupM_eq, lstM_eq, newM_eq, len_lst, len_rol, len_tup, range1_eq, range2_eq, iter_lst, iter_rol, iter_tup, b_make_names, e, ein, ei, ec, el, ea]
      · intro x hx'
        rcases List.mem_cons.mp hx' with rfl | hx'
        · exact thingV
        · obtain ⟨_, _, z⟩ := hr x hx'
          exact z
    | false =>
      have ea : oAdd true (.lst [.str (Str.ofString "thing")]) (.ref 0) [.lst xs] = .ok (.lst (.str (Str.ofString "thing") :: xs)) [.lst xs] := add_lst_ref rfl (by simp; omega)
      refine ⟨.str (Str.ofString "thing") :: xs, [.lst xs], ?_, by simp; omega, ?_⟩
      · rw [show run (n + 3) .make_names = runOf 4 (b_make_names (run (n + 2))) from rfl]
        refine run_ret ?_
        simp (disch := first | omega | (simp only [List.length_cons, List.length_nil] <;> omega)) only [bind_ok, lift_ok, mVar_eq, mC_eq, mOp_eq, mUn_eq, mNil_eq, mCons_eq, mArgs_eq, mAnd_eq, mOr_eq, mT_eq, tnNot_eq, tnAnd_eq, tnOr_eq, mIf_eq, mNoPart_eq, mPart_eq, mSl_eq, mChain_eq, mIsi_eq, mBm_eq, mNext_eq, mSeq_eq, then_nx, then_rt, br_true, br_false, mPut_eq, mDrop_eq, mRet_eq, mRetN_eq, mIfS_eq, mAsg_eq, gtName_eq, gtTup_eq, gtNil_eq, gtCons_eq, mFor_eq, mIter_eq, mRange1_eq, mRange2_eq, mEnum_eq, mZip_eq, mComp_eq, gtSub_eq, mAug_eq, mFrz_eq, mYes_eq, mBreak_eq, mCont_eq, add_int, sub_int, mul_l, mul_r, div_int, mod_int, lt_int, le_int, gt_int, ge_int, eq_int, ne_int, eq_str, isN_eq, notN_eq, min_int, max_int, int_int, int_bl, startC, List.map_cons, List.map_nil, List.length_cons, List.length_nil, List.replicate, List.cons_append, List.nil_append, List.getElem?_cons_zero, List.getElem?_cons_succ, List.set_cons_zero, List.set_cons_succ, decide_true, decide_false, Bool.false_eq_true, if_true, if_false, Bool.not_true, Bool.not_false, reduceIte, Nat.reduceAdd, Nat.reduceSub, CS.isNon, wipeC, app_at, ty_at, ixr_at, lenr_at, ite_len, lstM_nil, newM_nil, tupM_eq, lstM_eq, newM_eq, len_lst, len_rol, len_tup, range1_eq, range2_eq, iter_lst, iter_rol, iter_tup, b_make_names, e, ein, ea]
      · intro x hx'
        rcases List.mem_cons.mp hx' with rfl | hx'
        · exact thingV
        · exact hx1 x hx'
  obtain ⟨ns, g', e, hl, hx⟩ := key
  exact ⟨ns, pure_eq e rfl (by simp [noRef, strs_noRef hx]), hl, hx⟩
theorem part_names_pure (n : Nat) (c : Int) (many : Nat) (h1 : 1 ≤ many) (h8 : many ≤ 8) (g : Gh) : ∃ ns, pureM (run (n + 3) .part_names) [.int c, .int many] g = .ok (.lst ns) g ∧ ns.length = many ∧ ∀ x ∈ ns, StrV x := by
  obtain ⟨xs, e, hl, hx⟩ := names_body n (mixedF c 20) many (by omega)
  have hx1 : ∀ x ∈ xs, StrV x := fun x h => (hx x h).1
  have ein := notin_of (v := .str (Str.ofString "thing")) (w := .ref 0) (g := [.lst xs]) (xs := xs) rfl rfl (strV_flat hx1)
  generalize inC (.str (Str.ofString "thing")) xs = b at ein
  obtain ⟨d, hd⟩ : ∃ d, decide (mixedF c 21 % 4 = 1) = d := ⟨_, rfl⟩
  have key : ∃ ns g', run (n + 3) .part_names [.int c, .int many] [] = .ok (.lst ns) g' ∧ ns.length = many ∧ ∀ x ∈ ns, StrV x := by
    rw [show run (n + 3) .part_names = runOf 3 (b_part_names (run (n + 2))) from rfl]
    cases d with
    | false =>
      refine ⟨xs, [.dead], run_ret ?_, hl, hx1⟩
      simp (disch := first | omega | (simp only [List.length_cons, List.length_nil] <;> omega)) only [bind_ok, lift_ok, mVar_eq, mC_eq, mOp_eq, mUn_eq, mNil_eq, mCons_eq, mArgs_eq, mAnd_eq, mOr_eq, mT_eq, tnNot_eq, tnAnd_eq, tnOr_eq, mIf_eq, mNoPart_eq, mPart_eq, mSl_eq, mChain_eq, mIsi_eq, mBm_eq, mNext_eq, mSeq_eq, then_nx, then_rt, br_true, br_false, mPut_eq, mDrop_eq, mRet_eq, mRetN_eq, mIfS_eq, mAsg_eq, gtName_eq, gtTup_eq, gtNil_eq, gtCons_eq, mFor_eq, mIter_eq, mRange1_eq, mRange2_eq, mEnum_eq, mZip_eq, mComp_eq, gtSub_eq, mAug_eq, mFrz_eq, mYes_eq, mBreak_eq, mCont_eq, add_int, sub_int, mul_l, mul_r, div_int, mod_int, lt_int, le_int, gt_int, ge_int, eq_int, ne_int, eq_str, isN_eq, notN_eq, min_int, max_int, int_int, int_bl, startC, List.map_cons, List.map_nil, List.length_cons, List.length_nil, List.replicate, List.cons_append, List.nil_append, List.getElem?_cons_zero, List.getElem?_cons_succ, List.set_cons_zero, List.set_cons_succ, decide_true, decide_false, Bool.false_eq_true, if_true, if_false, Bool.not_true, Bool.not_false, reduceIte, Nat.reduceAdd, Nat.reduceSub, CS.isNon, wipeC, app_at, ty_at, ixr_at, lenr_at, ite_len, lstM_nil, newM_nil, tupM_eq, lstM_eq, newM_eq, len_lst, len_rol, len_tup, range1_eq, range2_eq, iter_lst, iter_rol, iter_tup, b_part_names, mixed_pure, e, hd]
    | true =>
      cases b with
      | true =>
        refine ⟨xs, [.dead], run_ret ?_, hl, hx1⟩
        simp (disch := first | omega | (simp only [List.length_cons, List.length_nil] <;> omega)) only [bind_ok, lift_ok, mVar_eq, mC_eq, mOp_eq, mUn_eq, mNil_eq, mCons_eq, mArgs_eq, mAnd_eq, mOr_eq, mT_eq, tnNot_eq, tnAnd_eq, tnOr_eq, mIf_eq, mNoPart_eq, mPart_eq, mSl_eq, mChain_eq, mIsi_eq, mBm_eq, mNext_eq, mSeq_eq, then_nx, then_rt, br_true, br_false, mPut_eq, mDrop_eq, mRet_eq, mRetN_eq, mIfS_eq, mAsg_eq, gtName_eq, gtTup_eq, gtNil_eq, gtCons_eq, mFor_eq, mIter_eq, mRange1_eq, mRange2_eq, mEnum_eq, mZip_eq, mComp_eq, gtSub_eq, mAug_eq, mFrz_eq, mYes_eq, mBreak_eq, mCont_eq, add_int, sub_int, mul_l, mul_r, div_int, mod_int, lt_int, le_int, gt_int, ge_int, eq_int, ne_int, eq_str, isN_eq, notN_eq, min_int, max_int, int_int, int_bl, startC, List.map_cons, List.map_nil, List.length_cons, List.length_nil, List.replicate, List.cons_append, List.nil_append, List.getElem?_cons_zero, List.getElem?_cons_succ, List.set_cons_zero, List.set_cons_succ, decide_true, decide_false, Bool.false_eq_true, if_true, if_false, Bool.not_true, Bool.not_false, reduceIte, Nat.reduceAdd, Nat.reduceSub, CS.isNon, wipeC, app_at, ty_at, ixr_at, lenr_at, ite_len, lstM_nil, newM_nil, tupM_eq, lstM_eq, newM_eq, len_lst, len_rol, len_tup, range1_eq, range2_eq, iter_lst, iter_rol, iter_tup, b_part_names, mixed_pure, e, hd, ein]
      | false =>
        have k0 := Int.emod_nonneg (mixedF c 22) (show (many : Int) ≠ 0 by omega)
        have k1 := Int.emod_lt_of_pos (mixedF c 22) (show (0 : Int) < (many : Int) by omega)
        obtain ⟨k, hk⟩ : ∃ k : Nat, mixedF c 22 % (many : Int) = (k : Int) := ⟨_, (Int.toNat_of_nonneg k0).symm⟩
        have es : ∀ ρ, setLM (.ref 0) (.int (k : Int)) (.str (Str.ofString "thing")) ρ [.lst xs] = .nx ρ [.lst (xs.set k (.str (Str.ofString "thing")))] := fun ρ => setLM_ref rfl (by omega)
        refine ⟨xs.set k (.str (Str.ofString "thing")), [.dead], run_ret ?_, by simp [hl], fun x hx' => ?_⟩
        · simp (disch := first | omega | (simp only [List.length_cons, List.length_nil] <;> omega)) only [bind_ok, lift_ok, mVar_eq, mC_eq, mOp_eq, mUn_eq, mNil_eq, mCons_eq, mArgs_eq, mAnd_eq, mOr_eq, mT_eq, tnNot_eq, tnAnd_eq, tnOr_eq, mIf_eq, mNoPart_eq, mPart_eq, mSl_eq, mChain_eq, mIsi_eq, mBm_eq, mNext_eq, mSeq_eq, then_nx, then_rt, br_true, br_false, mPut_eq, mDrop_eq, mRet_eq, mRetN_eq, mIfS_eq, mAsg_eq, gtName_eq, gtTup_eq, gtNil_eq, gtCons_eq, mFor_eq, mIter_eq, mRange1_eq, mRange2_eq, mEnum_eq, mZip_eq, mComp_eq, gtSub_eq, mAug_eq, mFrz_eq, mYes_eq, mBreak_eq, mCont_eq, add_int, sub_int, mul_l, mul_r, div_int, mod_int, lt_int, le_int, gt_int, ge_int, eq_int, ne_int, eq_str, isN_eq, notN_eq, min_int, max_int, int_int, int_bl, startC, List.map_cons, List.map_nil, List.length_cons, List.length_nil, List.replicate, List.cons_append, List.nil_append, List.getElem?_cons_zero, List.getElem?_cons_succ, List.set_cons_zero, List.set_cons_succ, decide_true, decide_false, Bool.false_eq_true, if_true, if_false, Bool.not_true, Bool.not_false, reduceIte, Nat.reduceAdd, Nat.reduceSub, CS.isNon, wipeC, app_at, ty_at, ixr_at, lenr_at, ite_len, lstM_nil, newM_nil, tupM_eq, lstM_eq, newM_eq, len_lst, len_rol, len_tup, range1_eq, range2_eq, iter_lst, iter_rol, iter_tup, b_part_names, mixed_pure, e, hd, ein, hk, es]
        · rcases List.mem_or_eq_of_mem_set hx' with h | rfl
          · exact hx1 x h
          · exact thingV
  obtain ⟨ns, g', e, hl, hx⟩ := key
  exact ⟨ns, pure_eq e rfl (by simp [noRef, strs_noRef hx]), hl, hx⟩
theorem word_pure (n : Nat) (k : Int) (hk : 0 ≤ k) (g : Gh) : ∃ w : Int, pureM (run (n + 1) .word) [.int k] g = .ok (.int w) g ∧ w.natAbs < 2 ^ 64 := by
  have key : ∃ w : Int, run (n + 1) .word [.int k] [] = .ok (.int w) [] ∧ w.natAbs < 2 ^ 64 := by
    rw [show run (n + 1) .word = runOf 1 (b_word (run n)) from rfl]
    by_cases h : 0 < k % 3
    · refine ⟨k / 3 % 4294967296 - 2147483648, run_ret ?_, by omega⟩
      have ea : ∀ a b : Vl, atI [a, b] 1 = some b := fun _ _ => rfl
      simp (disch := first | omega | (simp only [List.length_cons, List.length_nil] <;> omega)) only [bind_ok, lift_ok, mVar_eq, mC_eq, mOp_eq, mUn_eq, mNil_eq, mCons_eq, mArgs_eq, mAnd_eq, mOr_eq, mT_eq, tnNot_eq, tnAnd_eq, tnOr_eq, mIf_eq, mNoPart_eq, mPart_eq, mSl_eq, mChain_eq, mIsi_eq, mBm_eq, mNext_eq, mSeq_eq, then_nx, then_rt, br_true, br_false, mPut_eq, mDrop_eq, mRet_eq, mRetN_eq, mIfS_eq, mAsg_eq, gtName_eq, gtTup_eq, gtNil_eq, gtCons_eq, mFor_eq, mIter_eq, mRange1_eq, mRange2_eq, mEnum_eq, mZip_eq, mComp_eq, gtSub_eq, mAug_eq, mFrz_eq, mYes_eq, mBreak_eq, mCont_eq, add_int, sub_int, mul_l, mul_r, div_int, mod_int, lt_int, le_int, gt_int, ge_int, eq_int, ne_int, eq_str, isN_eq, notN_eq, min_int, max_int, int_int, int_bl, startC, List.map_cons, List.map_nil, List.length_cons, List.length_nil, List.replicate, List.cons_append, List.nil_append, List.getElem?_cons_zero, List.getElem?_cons_succ, List.set_cons_zero, List.set_cons_succ, decide_true, decide_false, Bool.false_eq_true, if_true, if_false, Bool.not_true, Bool.not_false, reduceIte, Nat.reduceAdd, Nat.reduceSub, CS.isNon, wipeC, app_at, ty_at, ixr_at, lenr_at, ite_len, lstM_nil, newM_nil, tupM_eq, lstM_eq, newM_eq, len_lst, len_rol, len_tup, range1_eq, range2_eq, iter_lst, iter_rol, iter_tup, b_word, h, ix_lst (ea _ _)]
    · refine ⟨k / 3 % 9 - 4, run_ret ?_, by omega⟩
      have ea : ∀ a b : Vl, atI [a, b] 0 = some a := fun _ _ => rfl
      simp (disch := first | omega | (simp only [List.length_cons, List.length_nil] <;> omega)) only [bind_ok, lift_ok, mVar_eq, mC_eq, mOp_eq, mUn_eq, mNil_eq, mCons_eq, mArgs_eq, mAnd_eq, mOr_eq, mT_eq, tnNot_eq, tnAnd_eq, tnOr_eq, mIf_eq, mNoPart_eq, mPart_eq, mSl_eq, mChain_eq, mIsi_eq, mBm_eq, mNext_eq, mSeq_eq, then_nx, then_rt, br_true, br_false, mPut_eq, mDrop_eq, mRet_eq, mRetN_eq, mIfS_eq, mAsg_eq, gtName_eq, gtTup_eq, gtNil_eq, gtCons_eq, mFor_eq, mIter_eq, mRange1_eq, mRange2_eq, mEnum_eq, mZip_eq, mComp_eq, gtSub_eq, mAug_eq, mFrz_eq, mYes_eq, mBreak_eq, mCont_eq, add_int, sub_int, mul_l, mul_r, div_int, mod_int, lt_int, le_int, gt_int, ge_int, eq_int, ne_int, eq_str, isN_eq, notN_eq, min_int, max_int, int_int, int_bl, startC, List.map_cons, List.map_nil, List.length_cons, List.length_nil, List.replicate, List.cons_append, List.nil_append, List.getElem?_cons_zero, List.getElem?_cons_succ, List.set_cons_zero, List.set_cons_succ, decide_true, decide_false, Bool.false_eq_true, if_true, if_false, Bool.not_true, Bool.not_false, reduceIte, Nat.reduceAdd, Nat.reduceSub, CS.isNon, wipeC, app_at, ty_at, ixr_at, lenr_at, ite_len, lstM_nil, newM_nil, tupM_eq, lstM_eq, newM_eq, len_lst, len_rol, len_tup, range1_eq, range2_eq, iter_lst, iter_rol, iter_tup, b_word, h, ix_lst (ea _ _)]
  obtain ⟨w, e, h⟩ := key
  exact ⟨w, pure_eq e rfl rfl, h⟩
theorem numberV : KindV (.tup [.str (Str.ofString "number")]) := ⟨by decide +kernel, by decide, by decide +kernel⟩
theorem part_pure (n : Nat) {ms : List Vl} (hm : MakesV ms) (num : Int) (g : Gh) : ∃ (takes : List Vl) (gives : Vl) (boxes height : Int) (r : Vl), pureM (run (n + 3) .part) [.lst ms, .int num] g = .ok (.tup [.lst takes, gives, .int boxes, .int height, r, .lst []]) g ∧
    takes.length ≤ 4 ∧ (∀ k ∈ takes, KindV k) ∧ KindV gives ∧ 0 ≤ boxes ∧ boxes ≤ 8 ∧ 1 ≤ height ∧ height ≤ 8 := by
  obtain ⟨ss, es, hsl, hss⟩ := sizes_pure n hm []
  have hm1 := hm.1
  have hm8 := hm.2.1
  have hs0 : ss ≠ [] := by intro z; rw [z] at hsl; simp at hsl; omega
  have kp : ∀ j : Int, ∃ v, pureM (run (n + 2) .kind) [.int (mixedF num j), .lst (ss.map Vl.int)] [] = .ok v [] ∧ KindV v := fun j => kind_pure (n + 1) [] (mixedF_ge _ _) hs0 (by omega) hss
  obtain ⟨ys, ec, hlen, hr⟩ := comp_pure (t := gtName 6) (e := mArgs (pureM (run (n + 2) .kind)) (mCons (mArgs (pureM (run (n + 2) .mixed)) (mCons (mVar 1) (mCons (mVar 6) mNil))) (mCons (mVar 2) mNil))) (ρ := [some (.lst ms), some (.int num), some (.lst (ss.map Vl.int)), none, none, none, none]) (g := []) (src := none) (fun _ y => KindV y) trivial (rangeL 0 (mixedF num 50 % 5).toNat) fun v hv => by
    obtain ⟨k, hk, rfl⟩ := rangeL_mem.mp hv
    obtain ⟨kv, ek, hkv⟩ := kp (k : Int)
    refine ⟨_, kv, rfl, ?_, hkv⟩
    simp (disch := first | omega | (simp only [List.length_cons, List.length_nil] <;> omega)) only [bind_ok, lift_ok, mVar_eq, mC_eq, mOp_eq, mUn_eq, mNil_eq, mCons_eq, mArgs_eq, mAnd_eq, mOr_eq, mT_eq, tnNot_eq, tnAnd_eq, tnOr_eq, mIf_eq, mNoPart_eq, mPart_eq, mSl_eq, mChain_eq, mIsi_eq, mBm_eq, mNext_eq, mSeq_eq, then_nx, then_rt, br_true, br_false, mPut_eq, mDrop_eq, mRet_eq, mRetN_eq, mIfS_eq, mAsg_eq, gtName_eq, gtTup_eq, gtNil_eq, gtCons_eq, mFor_eq, mIter_eq, mRange1_eq, mRange2_eq, mEnum_eq, mZip_eq, mComp_eq, gtSub_eq, mAug_eq, mFrz_eq, mYes_eq, mBreak_eq, mCont_eq, add_int, sub_int, mul_l, mul_r, div_int, mod_int, lt_int, le_int, gt_int, ge_int, eq_int, ne_int, eq_str, isN_eq, notN_eq, min_int, max_int, int_int, int_bl, startC, List.map_cons, List.map_nil, List.length_cons, List.length_nil, List.replicate, List.cons_append, List.nil_append, List.getElem?_cons_zero, List.getElem?_cons_succ, List.set_cons_zero, List.set_cons_succ, decide_true, decide_false, Bool.false_eq_true, if_true, if_false, Bool.not_true, Bool.not_false, reduceIte, Nat.reduceAdd, Nat.reduceSub, CS.isNon, wipeC, app_at, ty_at, ixr_at, lenr_at, ite_len, lstM_nil, newM_nil, tupM_eq, lstM_eq, newM_eq, len_lst, len_rol, len_tup, range1_eq, range2_eq, iter_lst, iter_rol, iter_tup, mixed_pure, Int.zero_add, ek]
  have hys : ys.length ≤ 4 := by rw [hlen, rangeL_len]; omega
  have hK : ∀ k ∈ ys, KindV k := fun k hk => let ⟨_, _, z⟩ := hr k hk; z
  obtain ⟨gv, eg, hg⟩ := kp 9
  have el : lstM ys [] = .ok (.lst ys) [] := lstM_eq (by omega)
  let r : Vl := .lst [.tup [.str (Str.ofString "push"), .int 0], .tup [.str (Str.ofString "toss")]]
  have key : ∃ gives, KindV gives ∧ run (n + 3) .part [.lst ms, .int num] [] = .ok (.tup [.lst ys, gives, .int (ys.length + mixedF num 52 % 5), .int (1 + mixedF num 53 % 8), r, .lst []]) [] := by
    rw [show run (n + 3) .part = runOf 7 (b_part (run (n + 2))) from rfl]
    by_cases h : 0 < mixedF num 51 % 3
    · refine ⟨_, numberV, run_ret ?_⟩
      simp (disch := first | omega | (simp only [List.length_cons, List.length_nil] <;> omega)) only [bind_ok, lift_ok, mVar_eq, mC_eq, mOp_eq, mUn_eq, mNil_eq, mCons_eq, mArgs_eq, mAnd_eq, mOr_eq, mT_eq, tnNot_eq, tnAnd_eq, tnOr_eq, mIf_eq, mNoPart_eq, mPart_eq, mSl_eq, mChain_eq, mIsi_eq, mBm_eq, mNext_eq, mSeq_eq, then_nx, then_rt, br_true, br_false, mPut_eq, mDrop_eq, mRet_eq, mRetN_eq, mIfS_eq, mAsg_eq, gtName_eq, gtTup_eq, gtNil_eq, gtCons_eq, mFor_eq, mIter_eq, mRange1_eq, mRange2_eq, mEnum_eq, mZip_eq, mComp_eq, gtSub_eq, mAug_eq, mFrz_eq, mYes_eq, mBreak_eq, mCont_eq, add_int, sub_int, mul_l, mul_r, div_int, mod_int, lt_int, le_int, gt_int, ge_int, eq_int, ne_int, eq_str, isN_eq, notN_eq, min_int, max_int, int_int, int_bl, startC, List.map_cons, List.map_nil, List.length_cons, List.length_nil, List.replicate, List.cons_append, List.nil_append, List.getElem?_cons_zero, List.getElem?_cons_succ, List.set_cons_zero, List.set_cons_succ, decide_true, decide_false, Bool.false_eq_true, if_true, if_false, Bool.not_true, Bool.not_false, reduceIte, Nat.reduceAdd, Nat.reduceSub, CS.isNon, wipeC, app_at, ty_at, ixr_at, lenr_at, ite_len, lstM_nil, newM_nil, tupM_eq, lstM_eq, newM_eq, len_lst, len_rol, len_tup, range1_eq, range2_eq, iter_lst, iter_rol, iter_tup, b_part, es, mixed_pure, ec, el, eg, h]
      rfl
    · refine ⟨gv, hg, run_ret ?_⟩
      simp (disch := first | omega | (simp only [List.length_cons, List.length_nil] <;> omega)) only [bind_ok, lift_ok, mVar_eq, mC_eq, mOp_eq, mUn_eq, mNil_eq, mCons_eq, mArgs_eq, mAnd_eq, mOr_eq, mT_eq, tnNot_eq, tnAnd_eq, tnOr_eq, mIf_eq, mNoPart_eq, mPart_eq, mSl_eq, mChain_eq, mIsi_eq, mBm_eq, mNext_eq, mSeq_eq, then_nx, then_rt, br_true, br_false, mPut_eq, mDrop_eq, mRet_eq, mRetN_eq, mIfS_eq, mAsg_eq, gtName_eq, gtTup_eq, gtNil_eq, gtCons_eq, mFor_eq, mIter_eq, mRange1_eq, mRange2_eq, mEnum_eq, mZip_eq, mComp_eq, gtSub_eq, mAug_eq, mFrz_eq, mYes_eq, mBreak_eq, mCont_eq, add_int, sub_int, mul_l, mul_r, div_int, mod_int, lt_int, le_int, gt_int, ge_int, eq_int, ne_int, eq_str, isN_eq, notN_eq, min_int, max_int, int_int, int_bl, startC, List.map_cons, List.map_nil, List.length_cons, List.length_nil, List.replicate, List.cons_append, List.nil_append, List.getElem?_cons_zero, List.getElem?_cons_succ, List.set_cons_zero, List.set_cons_succ, decide_true, decide_false, Bool.false_eq_true, if_true, if_false, Bool.not_true, Bool.not_false, reduceIte, Nat.reduceAdd, Nat.reduceSub, CS.isNon, wipeC, app_at, ty_at, ixr_at, lenr_at, ite_len, lstM_nil, newM_nil, tupM_eq, lstM_eq, newM_eq, len_lst, len_rol, len_tup, range1_eq, range2_eq, iter_lst, iter_rol, iter_tup, b_part, es, mixed_pure, ec, el, eg, h]
      rfl
  obtain ⟨gives, hgv, e⟩ := key
  refine ⟨ys, gives, _, _, r, pure_eq e ?_ ?_, hys, hK, hgv, by omega, by omega, by omega, by omega⟩
  · simp [noRefs, noRef, makes_noRef hm]
  · have := kindV_noRefs hK
    have := fine_noRef gives hgv.1
    simp [noRefs, noRef, r, *]
theorem body_pure (n : Nat) (c bx ht : Int) (g : Gh) : ∃ rows st : List Vl, pureM (run (n + 2) .body) [.int c, .int bx, .int ht] g = .ok (.tup [.int bx, .int ht, .lst rows, .lst st]) g ∧ rows.length ≤ 8 ∧ (∀ r ∈ rows, KindV r) ∧ st.length ≤ 2 ∧ ∀ s ∈ st, KindV s := by
  obtain ⟨w1, e1, hw1⟩ := word_pure n (mixedF c 1) (mixedF_ge _ _) []
  obtain ⟨w2, e2, hw2⟩ := word_pure n (mixedF c 3) (mixedF_ge _ _) []
  have pv : ∀ w : Int, w.natAbs < 2 ^ 64 → KindV (.tup [.str (Str.ofString "push"), .int w]) := fun w hw => by
    refine ⟨?_, by simp [dpt, dpts], by simp only [wt, wts]; decide +kernel⟩
    simp only [fine, fines, Bool.and_true, Bool.and_eq_true, decide_eq_true_eq]
    exact ⟨by decide +kernel, hw⟩
  have dv : KindV (.tup [.str (Str.ofString "drop")]) := ⟨by decide +kernel, by decide, by decide +kernel⟩
  have tv : KindV (.tup [.str (Str.ofString "toss")]) := ⟨by decide +kernel, by decide, by decide +kernel⟩
  obtain ⟨k, hk⟩ : ∃ k : Nat, mixedF c 2 % 4 = (k : Int) := ⟨_, (Int.toNat_of_nonneg (by omega)).symm⟩
  have hk3 : k ≤ 3 := by omega
  have er := mul_rep (xs := [.tup [.str (Str.ofString "push"), .int w1], .tup [.str (Str.ofString "drop")]]) (k := k) (g := []) (by simp; omega) (by omega)
  generalize hR : (List.replicate k [Vl.tup [.str (Str.ofString "push"), .int w1], .tup [.str (Str.ofString "drop")]]).flatten = R at er
  have hRl : R.length ≤ 6 := by rw [← hR]; simp; omega
  have hRk : ∀ r ∈ R, KindV r := fun r hr => by
    rw [← hR] at hr
    obtain ⟨l, hl, hr⟩ := List.mem_flatten.mp hr
    obtain ⟨_, rfl⟩ := List.mem_replicate.mp hl
    rcases List.mem_cons.mp hr with rfl | hr
    · exact pv _ hw1
    · have : r = .tup [.str (Str.ofString "drop")] := by simpa using hr
      rw [this]; exact dv
  have ea : oAdd true (.lst R) (.lst [.tup [.str (Str.ofString "push"), .int w2], .tup [.str (Str.ofString "toss")]]) [] = .ok (.lst (R ++ [.tup [.str (Str.ofString "push"), .int w2], .tup [.str (Str.ofString "toss")]])) [] := add_lst (by simp; omega)
  have hR2 : ∀ r ∈ R ++ [Vl.tup [.str (Str.ofString "push"), .int w2], .tup [.str (Str.ofString "toss")]], KindV r := fun r hr => by
    rcases List.mem_append.mp hr with hr | hr
    · exact hRk r hr
    · rcases List.mem_cons.mp hr with rfl | hr
      · exact pv _ hw2
      · have : r = .tup [.str (Str.ofString "toss")] := by simpa using hr
        rw [this]; exact tv
  have hR2l : (R ++ [Vl.tup [.str (Str.ofString "push"), .int w2], .tup [.str (Str.ofString "toss")]]).length ≤ 8 := by simp; omega
  generalize R ++ [Vl.tup [.str (Str.ofString "push"), .int w2], .tup [.str (Str.ofString "toss")]] = rows at ea hR2 hR2l
  obtain ⟨ys, ec, hlen, hr⟩ := comp_pure (t := gtName 5) (e := mArgs tupM (mCons (mC (.int 0)) (mCons (mOp oSub (mArgs bLen (mCons (mVar 3) mNil)) (mVar 5)) (mCons (mC (.int 1)) mNil)))) (ρ := [some (.int c), some (.int bx), some (.int ht), some (.lst rows), none, none]) (g := []) (src := none) (fun _ y => KindV y) trivial (rangeL 0 (mixedF c 4 % 3).toNat) fun v hv => by
    obtain ⟨k, hk, rfl⟩ := rangeL_mem.mp hv
    refine ⟨_, .tup [.int 0, .int ((rows.length : Int) - (k : Int)), .int 1], rfl, ?_, ?_, by simp [dpt, dpts], by simp only [wt, wts]; decide⟩
    · simp (disch := first | omega | (simp only [List.length_cons, List.length_nil] <;> omega)) only [bind_ok, lift_ok, mVar_eq, mC_eq, mOp_eq, mUn_eq, mNil_eq, mCons_eq, mArgs_eq, mAnd_eq, mOr_eq, mT_eq, tnNot_eq, tnAnd_eq, tnOr_eq, mIf_eq, mNoPart_eq, mPart_eq, mSl_eq, mChain_eq, mIsi_eq, mBm_eq, mNext_eq, mSeq_eq, then_nx, then_rt, br_true, br_false, mPut_eq, mDrop_eq, mRet_eq, mRetN_eq, mIfS_eq, mAsg_eq, gtName_eq, gtTup_eq, gtNil_eq, gtCons_eq, mFor_eq, mIter_eq, mRange1_eq, mRange2_eq, mEnum_eq, mZip_eq, mComp_eq, gtSub_eq, mAug_eq, mFrz_eq, mYes_eq, mBreak_eq, mCont_eq, add_int, sub_int, mul_l, mul_r, div_int, mod_int, lt_int, le_int, gt_int, ge_int, eq_int, ne_int, eq_str, isN_eq, notN_eq, min_int, max_int, int_int, int_bl, startC, List.map_cons, List.map_nil, List.length_cons, List.length_nil, List.replicate, List.cons_append, List.nil_append, List.getElem?_cons_zero, List.getElem?_cons_succ, List.set_cons_zero, List.set_cons_succ, decide_true, decide_false, Bool.false_eq_true, if_true, if_false, Bool.not_true, Bool.not_false, reduceIte, Nat.reduceAdd, Nat.reduceSub, CS.isNon, wipeC, app_at, ty_at, ixr_at, lenr_at, ite_len, lstM_nil, newM_nil, tupM_eq, lstM_eq, newM_eq, len_lst, len_rol, len_tup, range1_eq, range2_eq, iter_lst, iter_rol, iter_tup, Int.zero_add]
    · simp only [fine, fines, Bool.and_true, Bool.and_eq_true, decide_eq_true_eq]
      exact ⟨by decide, by omega, by decide⟩
  have hys : ys.length ≤ 2 := by rw [hlen, rangeL_len]; omega
  have hK : ∀ k ∈ ys, KindV k := fun k hk => let ⟨_, _, z⟩ := hr k hk; z
  have el : lstM ys [] = .ok (.lst ys) [] := lstM_eq (by omega)
  refine ⟨rows, ys, pure_eq (g' := []) ?_ rfl ?_, hR2l, hR2, hys, hK⟩
  · rw [show run (n + 2) .body = runOf 6 (b_body (run (n + 1))) from rfl]
    refine run_ret ?_
    simp (disch := first | omega | (simp only [List.length_cons, List.length_nil] <;> omega)) only [bind_ok, lift_ok, mVar_eq, mC_eq, mOp_eq, mUn_eq, mNil_eq, mCons_eq, mArgs_eq, mAnd_eq, mOr_eq, mT_eq, tnNot_eq, tnAnd_eq, tnOr_eq, mIf_eq, mNoPart_eq, mPart_eq, mSl_eq, mChain_eq, mIsi_eq, mBm_eq, mNext_eq, mSeq_eq, then_nx, then_rt, br_true, br_false, mPut_eq, mDrop_eq, mRet_eq, mRetN_eq, mIfS_eq, mAsg_eq, gtName_eq, gtTup_eq, gtNil_eq, gtCons_eq, mFor_eq, mIter_eq, mRange1_eq, mRange2_eq, mEnum_eq, mZip_eq, mComp_eq, gtSub_eq, mAug_eq, mFrz_eq, mYes_eq, mBreak_eq, mCont_eq, add_int, sub_int, mul_l, mul_r, div_int, mod_int, lt_int, le_int, gt_int, ge_int, eq_int, ne_int, eq_str, isN_eq, notN_eq, min_int, max_int, int_int, int_bl, startC, List.map_cons, List.map_nil, List.length_cons, List.length_nil, List.replicate, List.cons_append, List.nil_append, List.getElem?_cons_zero, List.getElem?_cons_succ, List.set_cons_zero, List.set_cons_succ, decide_true, decide_false, Bool.false_eq_true, if_true, if_false, Bool.not_true, Bool.not_false, reduceIte, Nat.reduceAdd, Nat.reduceSub, CS.isNon, wipeC, app_at, ty_at, ixr_at, lenr_at, ite_len, lstM_nil, newM_nil, tupM_eq, lstM_eq, newM_eq, len_lst, len_rol, len_tup, range1_eq, range2_eq, iter_lst, iter_rol, iter_tup, b_body, mixed_pure, e1, e2, hk, er, ea, ec, el]
  · simp [noRef, noRefs, kindV_noRefs hR2, kindV_noRefs hK]
end K81

set_option Elab.async false
set_option linter.all false
set_option maxRecDepth 100000
set_option maxHeartbeats 2000000
namespace K81
open PySem L2 CS

def standRows : List Vl := [.tup [.str (Str.ofString "push"), .int 0], .tup [.str (Str.ofString "toss")]]
theorem standRows_V : ∀ r ∈ standRows, KindV r := by
  have : KindV (.tup [.str (Str.ofString "push"), .int 0]) := ⟨by decide +kernel, by decide, by decide +kernel⟩
  have : KindV (.tup [.str (Str.ofString "toss")]) := ⟨by decide +kernel, by decide, by decide +kernel⟩
  intro r hr
  simp only [standRows, List.mem_cons, List.not_mem_nil, or_false] at hr
  rcases hr with rfl | rfl <;> assumption
def PartR (p d : Vl) : Prop := ∃ nm takes gives bx ht rows st bodyv, d = .tup [.lst takes, gives, .int bx, .int ht, .lst rows, .lst st] ∧ p = .tup [nm, .lst takes, gives, bodyv] ∧ StrV nm ∧
  (bodyv = .non ∧ bx = (takes.length : Int) ∧ ht = 1 ∧ rows = standRows ∧ st = [] ∨ bodyv = .tup [.int bx, .int ht, .lst rows, .lst st]) ∧
  takes.length ≤ 4 ∧ (∀ k ∈ takes, KindV k) ∧ KindV gives ∧ 0 ≤ bx ∧ bx ≤ 8 ∧ 0 ≤ ht ∧ ht ≤ 8 ∧ rows.length ≤ 8 ∧ (∀ k ∈ rows, KindV k) ∧ st.length ≤ 2 ∧ (∀ k ∈ st, KindV k)
def ShortL (o : Ob) : Prop := ∃ l, o = .lst l ∧ l.length ≤ 10
def PartH (base : Nat) (h : Gh) (d y : Vl) : Prop := ∃ t r s takes gives bx ht rows st, base ≤ t ∧ base ≤ r ∧ base ≤ s ∧ d = .tup [.lst takes, gives, .int bx, .int ht, .lst rows, .lst st] ∧ y = .tup [.ref t, gives, .int bx, .int ht, .ref r, .ref s] ∧
  h[t]? = some (.lst takes) ∧ h[r]? = some (.lst rows) ∧ h[s]? = some (.lst st)
theorem part_of_run (n : Nat) {p d : Vl} (h : PartR p d) (g : Gh) : ∃ y os, run (n + 1) .part_of [p] g = .ok y (g ++ os) ∧ (∀ o ∈ os, ShortL o) ∧ PartH g.length (g ++ os) d y := by
  obtain ⟨nm, takes, gives, bx, ht, rows, st, bodyv, rfl, rfl, _, hb, h1, _, _, _, _, _, _, h2, _, h3, _⟩ := h
  refine ⟨.tup [.ref g.length, gives, .int bx, .int ht, .ref (g.length + 1), .ref (g.length + 2)], [.lst takes, .lst rows, .lst st], ?_, ?_, g.length, g.length + 1, g.length + 2, takes, gives, bx, ht, rows, st, by omega, by omega, by omega, rfl, rfl, ?_, ?_, ?_⟩
  · rw [show run (n + 1) .part_of = runOf 9 (b_part_of (run n)) from rfl]
    refine run_ret ?_
    rcases hb with ⟨rfl, rfl, rfl, rfl, rfl⟩ | rfl
    · simp (disch := first | omega | (simp only [List.length_cons, List.length_nil] <;> omega)) only [bind_ok, lift_ok, mVar_eq, mC_eq, mOp_eq, mUn_eq, mNil_eq, mCons_eq, mArgs_eq, mAnd_eq, mOr_eq, mT_eq, tnNot_eq, tnAnd_eq, tnOr_eq, mIf_eq, mNoPart_eq, mPart_eq, mSl_eq, mChain_eq, mIsi_eq, mBm_eq, mNext_eq, mSeq_eq, then_nx, then_rt, br_true, br_false, mPut_eq, mDrop_eq, mRet_eq, mRetN_eq, mIfS_eq, mAsg_eq, gtName_eq, gtTup_eq, gtNil_eq, gtCons_eq, mFor_eq, mIter_eq, mRange1_eq, mRange2_eq, mEnum_eq, mZip_eq, mComp_eq, gtSub_eq, mAug_eq, mFrz_eq, mYes_eq, mBreak_eq, mCont_eq, add_int, sub_int, mul_l, mul_r, div_int, mod_int, lt_int, le_int, gt_int, ge_int, eq_int, ne_int, eq_str, isN_eq, notN_eq, min_int, max_int, int_int, int_bl, startC, List.map_cons, List.map_nil, List.length_cons, List.length_nil, List.replicate, List.cons_append, List.nil_append, List.getElem?_cons_zero, List.getElem?_cons_succ, List.set_cons_zero, List.set_cons_succ, decide_true, decide_false, Bool.false_eq_true, if_true, if_false, Bool.not_true, Bool.not_false, reduceIte, Nat.reduceAdd, Nat.reduceSub, CS.isNon, wipeC, app_at, ty_at, ixr_at, lenr_at, ite_len, lstM_nil, newM_nil, tupM_eq, lstM_eq, newM_eq, len_lst, len_rol, len_tup, range1_eq, range2_eq, iter_lst, iter_rol, iter_tup, b_part_of, list_newl, g_STAND_IN, list_newr, newM_nil, List.append_assoc, List.length_append, standRows]
    · simp (disch := first | omega | (simp only [List.length_cons, List.length_nil] <;> omega)) only [bind_ok, lift_ok, mVar_eq, mC_eq, mOp_eq, mUn_eq, mNil_eq, mCons_eq, mArgs_eq, mAnd_eq, mOr_eq, mT_eq, tnNot_eq, tnAnd_eq, tnOr_eq, mIf_eq, mNoPart_eq, mPart_eq, mSl_eq, mChain_eq, mIsi_eq, mBm_eq, mNext_eq, mSeq_eq, then_nx, then_rt, br_true, br_false, mPut_eq, mDrop_eq, mRet_eq, mRetN_eq, mIfS_eq, mAsg_eq, gtName_eq, gtTup_eq, gtNil_eq, gtCons_eq, mFor_eq, mIter_eq, mRange1_eq, mRange2_eq, mEnum_eq, mZip_eq, mComp_eq, gtSub_eq, mAug_eq, mFrz_eq, mYes_eq, mBreak_eq, mCont_eq, add_int, sub_int, mul_l, mul_r, div_int, mod_int, lt_int, le_int, gt_int, ge_int, eq_int, ne_int, eq_str, isN_eq, notN_eq, min_int, max_int, int_int, int_bl, startC, List.map_cons, List.map_nil, List.length_cons, List.length_nil, List.replicate, List.cons_append, List.nil_append, List.getElem?_cons_zero, List.getElem?_cons_succ, List.set_cons_zero, List.set_cons_succ, decide_true, decide_false, Bool.false_eq_true, if_true, if_false, Bool.not_true, Bool.not_false, reduceIte, Nat.reduceAdd, Nat.reduceSub, CS.isNon, wipeC, app_at, ty_at, ixr_at, lenr_at, ite_len, lstM_nil, newM_nil, tupM_eq, lstM_eq, newM_eq, len_lst, len_rol, len_tup, range1_eq, range2_eq, iter_lst, iter_rol, iter_tup, b_part_of, list_newl, List.append_assoc, List.length_append]
  · intro o ho
    simp only [List.mem_cons, List.not_mem_nil, or_false] at ho
    rcases ho with rfl | rfl | rfl
    · exact ⟨_, rfl, by omega⟩
    · exact ⟨_, rfl, by omega⟩
    · exact ⟨_, rfl, by omega⟩
  · simp
  · simp
  · simp
def ListR (l m : Vl) : Prop := ∃ nm e ks b, l = .tup [nm, e, .lst ks, .bl b] ∧ m = .tup [e, .lst ks] ∧ StrV nm ∧ (e = .non ∨ ∃ j : Nat, j < 8 ∧ e = .int j) ∧ ks.length ≤ 3 ∧ ∀ k ∈ ks, KindV k
def MakeH (h : Gh) (m y : Vl) : Prop := ∃ k e ks, m = .tup [e, .lst ks] ∧ y = .tup [e, .ref k] ∧ h[k]? = some (.lst ks)
/-- what book_of gives -/
def BookH (ms due : List Vl) (base : Nat) (h : Gh) (v : Vl) : Prop := ∃ a h1 A B base2, h = h1 ++ [Ob.lst B] ∧ v = .tup [.ref a, .ref h1.length] ∧ h1[a]? = some (.lst A) ∧ A.length = ms.length ∧ B.length = due.length ∧
  base ≤ base2 ∧ a < base2 ∧ (∀ (j : Nat) (m y : Vl), ms[j]? = some m → A[j]? = some y → MakeH h1 m y) ∧ (∀ (j : Nat) (d y : Vl), due[j]? = some d → B[j]? = some y → PartH base2 h1 d y)
theorem book_of_run (n : Nat) {listed ms parts due : List Vl} (hl : listed.length = ms.length) (hl8 : ms.length ≤ 8) (hL : ∀ (j : Nat) (l m : Vl), listed[j]? = some l → ms[j]? = some m → ListR l m)
    (hp : parts.length = due.length) (hp8 : due.length ≤ 8) (hP : ∀ (j : Nat) (p d : Vl), parts[j]? = some p → due[j]? = some d → PartR p d) (g : Gh) :
    ∃ v os, run (n + 2) .book_of [.tup [.lst listed, .lst parts]] g = .ok v (g ++ os) ∧ (∀ o ∈ os, ShortL o) ∧ BookH ms due g.length (g ++ os) v := by
  have dueOf : ∀ p ∈ parts, ∃ d ∈ due, PartR p d := fun p hp' => by
    obtain ⟨j, hj⟩ := List.getElem?_of_mem hp'
    have : j < due.length := by rw [← hp]; exact (List.getElem?_eq_some_iff.mp hj).1
    exact ⟨due[j], List.getElem_mem this, hP j p _ hj (List.getElem?_eq_getElem this)⟩
  obtain ⟨A, os1, e1, p1, l1, r1⟩ := comp_grow (t := gtTup (gtCons (gtName 2) (gtCons (gtName 3) (gtCons (gtName 4) (gtCons (gtName 5) gtNil))))) (e := mArgs tupM (mCons (mVar 3) (mCons (mArgs (bList false) (mCons (mVar 4) mNil)) mNil)))
    (ρ := [some (.tup [.lst listed, .lst parts]), none, none, none, none, none, none]) ShortL (fun h l y => ∃ nm e ks b k, l = .tup [nm, e, .lst ks, .bl b] ∧ y = .tup [e, .ref k] ∧ h[k]? = some (.lst ks))
    (by rintro h os v y ⟨nm, e, ks, b, k, h1, h2, h3⟩; exact ⟨nm, e, ks, b, k, h1, h2, get_more h3⟩) listed g fun l hl' g' _ => by
    obtain ⟨j, hj⟩ := List.getElem?_of_mem hl'
    have hj2 : j < ms.length := by rw [← hl]; exact (List.getElem?_eq_some_iff.mp hj).1
    obtain ⟨nm, e, ks, b, rfl, _, _, _, hks, _⟩ := hL j l _ hj (List.getElem?_eq_getElem hj2)
    refine ⟨[some (.tup [.lst listed, .lst parts]), none, some nm, some e, some (.lst ks), some (.bl b), none], .tup [e, .ref g'.length], [.lst ks], ?_, ?_, ?_, nm, e, ks, b, g'.length, rfl, rfl, by simp⟩
    · simp (disch := first | omega | (simp only [List.length_cons, List.length_nil] <;> omega)) only [bind_ok, lift_ok, mVar_eq, mC_eq, mOp_eq, mUn_eq, mNil_eq, mCons_eq, mArgs_eq, mAnd_eq, mOr_eq, mT_eq, tnNot_eq, tnAnd_eq, tnOr_eq, mIf_eq, mNoPart_eq, mPart_eq, mSl_eq, mChain_eq, mIsi_eq, mBm_eq, mNext_eq, mSeq_eq, then_nx, then_rt, br_true, br_false, mPut_eq, mDrop_eq, mRet_eq, mRetN_eq, mIfS_eq, mAsg_eq, gtName_eq, gtTup_eq, gtNil_eq, gtCons_eq, mFor_eq, mIter_eq, mRange1_eq, mRange2_eq, mEnum_eq, mZip_eq, mComp_eq, gtSub_eq, mAug_eq, mFrz_eq, mYes_eq, mBreak_eq, mCont_eq, add_int, sub_int, mul_l, mul_r, div_int, mod_int, lt_int, le_int, gt_int, ge_int, eq_int, ne_int, eq_str, isN_eq, notN_eq, min_int, max_int, int_int, int_bl, startC, List.map_cons, List.map_nil, List.length_cons, List.length_nil, List.replicate, List.cons_append, List.nil_append, List.getElem?_cons_zero, List.getElem?_cons_succ, List.set_cons_zero, List.set_cons_succ, decide_true, decide_false, Bool.false_eq_true, if_true, if_false, Bool.not_true, Bool.not_false, reduceIte, Nat.reduceAdd, Nat.reduceSub, CS.isNon, wipeC, app_at, ty_at, ixr_at, lenr_at, ite_len, lstM_nil, newM_nil, tupM_eq, lstM_eq, newM_eq, len_lst, len_rol, len_tup, range1_eq, range2_eq, iter_lst, iter_rol, iter_tup]
    · simp (disch := first | omega | (simp only [List.length_cons, List.length_nil] <;> omega)) only [bind_ok, lift_ok, mVar_eq, mC_eq, mOp_eq, mUn_eq, mNil_eq, mCons_eq, mArgs_eq, mAnd_eq, mOr_eq, mT_eq, tnNot_eq, tnAnd_eq, tnOr_eq, mIf_eq, mNoPart_eq, mPart_eq, mSl_eq, mChain_eq, mIsi_eq, mBm_eq, mNext_eq, mSeq_eq, then_nx, then_rt, br_true, br_false, mPut_eq, mDrop_eq, mRet_eq, mRetN_eq, mIfS_eq, mAsg_eq, gtName_eq, gtTup_eq, gtNil_eq, gtCons_eq, mFor_eq, mIter_eq, mRange1_eq, mRange2_eq, mEnum_eq, mZip_eq, mComp_eq, gtSub_eq, mAug_eq, mFrz_eq, mYes_eq, mBreak_eq, mCont_eq, add_int, sub_int, mul_l, mul_r, div_int, mod_int, lt_int, le_int, gt_int, ge_int, eq_int, ne_int, eq_str, isN_eq, notN_eq, min_int, max_int, int_int, int_bl, startC, List.map_cons, List.map_nil, List.length_cons, List.length_nil, List.replicate, List.cons_append, List.nil_append, List.getElem?_cons_zero, List.getElem?_cons_succ, List.set_cons_zero, List.set_cons_succ, decide_true, decide_false, Bool.false_eq_true, if_true, if_false, Bool.not_true, Bool.not_false, reduceIte, Nat.reduceAdd, Nat.reduceSub, CS.isNon, wipeC, app_at, ty_at, ixr_at, lenr_at, ite_len, lstM_nil, newM_nil, tupM_eq, lstM_eq, newM_eq, len_lst, len_rol, len_tup, range1_eq, range2_eq, iter_lst, iter_rol, iter_tup, list_newl]
    · intro o ho
      have : o = .lst ks := by simpa using ho
      exact ⟨ks, this, by omega⟩
  have e2 : newM A (g ++ os1) = .ok (.ref (g ++ os1).length) (g ++ os1 ++ [Ob.lst A]) := newM_eq (by omega)
  obtain ⟨B, os2, e3, p2, l2, r2⟩ := comp_grow (t := gtName 6) (e := mArgs (run (n + 1) .part_of) (mCons (mVar 6) mNil))
    (ρ := [some (.tup [.lst listed, .lst parts]), some (.ref (g ++ os1).length), none, none, none, none, none]) ShortL (fun h p y => ∀ d, PartR p d → PartH (g ++ os1 ++ [Ob.lst A]).length h d y ∧ ∀ t, y ≠ .ref t)
    (by
      intro h os v y H d hd
      obtain ⟨⟨t, r, s, takes, gives, bx, ht, rows, st, b1, b2, b3, h1, h2, h3, h4, h5⟩, H2⟩ := H d hd
      exact ⟨⟨t, r, s, takes, gives, bx, ht, rows, st, b1, b2, b3, h1, h2, get_more h3, get_more h4, get_more h5⟩, H2⟩) parts (g ++ os1 ++ [Ob.lst A]) fun p hp' g' hg' => by
    obtain ⟨d, _, hd⟩ := dueOf p hp'
    obtain ⟨y, os, e, hs, hH⟩ := part_of_run n hd g'
    refine ⟨_, y, os, rfl, ?_, hs, ?_⟩
    · simp (disch := first | omega | (simp only [List.length_cons, List.length_nil] <;> omega)) only [bind_ok, lift_ok, mVar_eq, mC_eq, mOp_eq, mUn_eq, mNil_eq, mCons_eq, mArgs_eq, mAnd_eq, mOr_eq, mT_eq, tnNot_eq, tnAnd_eq, tnOr_eq, mIf_eq, mNoPart_eq, mPart_eq, mSl_eq, mChain_eq, mIsi_eq, mBm_eq, mNext_eq, mSeq_eq, then_nx, then_rt, br_true, br_false, mPut_eq, mDrop_eq, mRet_eq, mRetN_eq, mIfS_eq, mAsg_eq, gtName_eq, gtTup_eq, gtNil_eq, gtCons_eq, mFor_eq, mIter_eq, mRange1_eq, mRange2_eq, mEnum_eq, mZip_eq, mComp_eq, gtSub_eq, mAug_eq, mFrz_eq, mYes_eq, mBreak_eq, mCont_eq, add_int, sub_int, mul_l, mul_r, div_int, mod_int, lt_int, le_int, gt_int, ge_int, eq_int, ne_int, eq_str, isN_eq, notN_eq, min_int, max_int, int_int, int_bl, startC, List.map_cons, List.map_nil, List.length_cons, List.length_nil, List.replicate, List.cons_append, List.nil_append, List.getElem?_cons_zero, List.getElem?_cons_succ, List.set_cons_zero, List.set_cons_succ, decide_true, decide_false, Bool.false_eq_true, if_true, if_false, Bool.not_true, Bool.not_false, reduceIte, Nat.reduceAdd, Nat.reduceSub, CS.isNon, wipeC, app_at, ty_at, ixr_at, lenr_at, ite_len, lstM_nil, newM_nil, tupM_eq, lstM_eq, newM_eq, len_lst, len_rol, len_tup, range1_eq, range2_eq, iter_lst, iter_rol, iter_tup, e]
    · intro d' hd'
      have : d' = d := by
        obtain ⟨nm, takes, gives, bx, ht, rows, st, bodyv, rfl, rfl, _, hb, _⟩ := hd
        obtain ⟨nm', takes', gives', bx', ht', rows', st', bodyv', rfl, e', _, hb', _⟩ := hd'
        cases e'
        rcases hb with ⟨rfl, rfl, rfl, rfl, rfl⟩ | rfl <;> rcases hb' with ⟨z, rfl, rfl, rfl, rfl⟩ | z <;> first | rfl | cases z
        rfl
      subst this
      obtain ⟨t, r, s, takes, gives, bx, ht, rows, st, b1, b2, b3, h1, h2, h3⟩ := hH
      exact ⟨⟨t, r, s, takes, gives, bx, ht, rows, st, by omega, by omega, by omega, h1, h2, h3⟩, by rw [h2]; intro t z; cases z⟩
  have e4 : newM B (g ++ os1 ++ [Ob.lst A] ++ os2) = .ok (.ref (g ++ os1 ++ [Ob.lst A] ++ os2).length) (g ++ os1 ++ [Ob.lst A] ++ os2 ++ [Ob.lst B]) := newM_eq (by omega)
  have hh : g ++ os1 ++ [Ob.lst A] ++ os2 ++ [Ob.lst B] = g ++ (os1 ++ .lst A :: (os2 ++ [Ob.lst B])) := by simp
  refine ⟨.tup [.ref (g ++ os1).length, .ref (g ++ os1 ++ [Ob.lst A] ++ os2).length], os1 ++ .lst A :: (os2 ++ [Ob.lst B]), ?_, ?_, (g ++ os1).length, g ++ os1 ++ [Ob.lst A] ++ os2, A, B, (g ++ os1 ++ [Ob.lst A]).length, ?_, rfl, ?_, by omega, by omega, ?_, ?_, ?_, ?_⟩
  · rw [show run (n + 2) .book_of = runOf 7 (b_book_of (run (n + 1))) from rfl]
    refine run_ret ?_
    have a0 : atI [Vl.lst listed, .lst parts] 0 = some (.lst listed) := rfl
    have a1 : atI [Vl.lst listed, .lst parts] 1 = some (.lst parts) := rfl
    rw [← hh]
    simp (disch := first | omega | (simp only [List.length_cons, List.length_nil] <;> omega)) only [bind_ok, lift_ok, mVar_eq, mC_eq, mOp_eq, mUn_eq, mNil_eq, mCons_eq, mArgs_eq, mAnd_eq, mOr_eq, mT_eq, tnNot_eq, tnAnd_eq, tnOr_eq, mIf_eq, mNoPart_eq, mPart_eq, mSl_eq, mChain_eq, mIsi_eq, mBm_eq, mNext_eq, mSeq_eq, then_nx, then_rt, br_true, br_false, mPut_eq, mDrop_eq, mRet_eq, mRetN_eq, mIfS_eq, mAsg_eq, gtName_eq, gtTup_eq, gtNil_eq, gtCons_eq, mFor_eq, mIter_eq, mRange1_eq, mRange2_eq, mEnum_eq, mZip_eq, mComp_eq, gtSub_eq, mAug_eq, mFrz_eq, mYes_eq, mBreak_eq, mCont_eq, add_int, sub_int, mul_l, mul_r, div_int, mod_int, lt_int, le_int, gt_int, ge_int, eq_int, ne_int, eq_str, isN_eq, notN_eq, min_int, max_int, int_int, int_bl, startC, List.map_cons, List.map_nil, List.length_cons, List.length_nil, List.replicate, List.cons_append, List.nil_append, List.getElem?_cons_zero, List.getElem?_cons_succ, List.set_cons_zero, List.set_cons_succ, decide_true, decide_false, Bool.false_eq_true, if_true, if_false, Bool.not_true, Bool.not_false, reduceIte, Nat.reduceAdd, Nat.reduceSub, CS.isNon, wipeC, app_at, ty_at, ixr_at, lenr_at, ite_len, lstM_nil, newM_nil, tupM_eq, lstM_eq, newM_eq, len_lst, len_rol, len_tup, range1_eq, range2_eq, iter_lst, iter_rol, iter_tup, b_book_of, ix_tup a0, ix_tup a1, e1, e2, e3, e4]
  · intro o ho
    simp only [List.mem_append, List.mem_cons, List.not_mem_nil, or_false] at ho
    rcases ho with ho | rfl | ho | rfl
    · exact p1 o ho
    · exact ⟨A, rfl, by omega⟩
    · exact p2 o ho
    · exact ⟨B, rfl, by omega⟩
  · exact hh.symm
  · exact get_more (by simp)
  · simp only [List.length_append]; omega
  · simp only [List.length_append, List.length_cons, List.length_nil]; omega
  · intro j m y hm hy
    have hj : j < listed.length := by rw [hl]; exact (List.getElem?_eq_some_iff.mp hm).1
    obtain ⟨nm, e, ks, b, k, q1, q2, q3⟩ := r1 j listed[j] y (List.getElem?_eq_getElem hj) hy
    obtain ⟨nm', e', ks', b', q4, rfl, _⟩ := hL j _ m (List.getElem?_eq_getElem hj) hm
    rw [q1] at q4
    cases q4
    exact ⟨k, e, ks, rfl, q2, get_more (get_more q3)⟩
  · intro j d y hd hy
    have hj : j < parts.length := by rw [hp]; exact (List.getElem?_eq_some_iff.mp hd).1
    exact (r2 j parts[j] y (List.getElem?_eq_getElem hj) hy d (hP j _ d (List.getElem?_eq_getElem hj) hd)).1
end K81

set_option Elab.async false
set_option linter.all false
set_option maxRecDepth 100000
set_option maxHeartbeats 2000000
namespace K81
open PySem L2 CS

theorem kinds_w {ks : List Vl} {n : Nat} (hl : ks.length ≤ n) (h : ∀ k ∈ ks, KindV k) : fines ks = true ∧ dpts ks ≤ 1 ∧ wts ks ≤ n * 202 := by
  refine ⟨fines_all.mpr fun k hk => (h k hk).1, dpts_le.mpr fun k hk => (h k hk).2.1, ?_⟩
  have := wts_le (xs := ks) (b := 200) fun k hk => (h k hk).2.2
  have : ks.length * 202 ≤ n * 202 := Nat.mul_le_mul_right _ hl
  omega
theorem num_fine {i : Int} (h : i.natAbs < 2 ^ 64) : fine (.int i) = true := decide_eq_true h
/-- what stands in a list, all fine and small -/
def Sml (d w : Nat) (v : Vl) : Prop := fine v = true ∧ dpt v ≤ d ∧ wt v ≤ w
theorem sml_list {d w n : Nat} {xs : List Vl} (hl : xs.length ≤ n) (h : ∀ v ∈ xs, Sml d w v) : fines xs = true ∧ dpts xs ≤ d ∧ wts xs ≤ n * (w + 2) := by
  refine ⟨fines_all.mpr fun k hk => (h k hk).1, dpts_le.mpr fun k hk => (h k hk).2.1, ?_⟩
  have := wts_le (xs := xs) (b := w) fun k hk => (h k hk).2.2
  have : xs.length * (w + 2) ≤ n * (w + 2) := Nat.mul_le_mul_right _ hl
  omega
theorem partR_sml {p d : Vl} (h : PartR p d) : Sml 4 9000 p ∧ Sml 4 9000 d := by
  obtain ⟨nm, takes, gives, bx, ht, rows, st, bodyv, rfl, rfl, hn, hb, h1, t2, ⟨g1, g2, g3⟩, b1, b2, b3, b4, h2, r2, h3, s2⟩ := h
  obtain ⟨n1, n2, n3⟩ := strV_fine hn
  obtain ⟨t1, t2, t3⟩ := kinds_w h1 t2
  obtain ⟨r1, r2, r3⟩ := kinds_w h2 r2
  obtain ⟨s1, s2, s3⟩ := kinds_w h3 s2
  have f1 : fine (.int bx) = true := num_fine (by omega)
  have f2 : fine (.int ht) = true := num_fine (by omega)
  have hbv : fine bodyv = true ∧ dpt bodyv ≤ 3 ∧ wt bodyv ≤ 3000 := by
    rcases hb with ⟨rfl, _⟩ | rfl
    · exact ⟨rfl, by decide, by decide⟩
    · refine ⟨by simp [fine, fines] at f1 f2 ⊢; simp [*], by simp only [dpt, dpts]; omega, by simp only [wt, wts]; omega⟩
  obtain ⟨v1, v2, v3⟩ := hbv
  refine ⟨⟨by simp [fine, fines, *], by simp only [dpt, dpts]; omega, by simp only [wt, wts]; omega⟩, ⟨by simp [fine, fines] at f1 f2 ⊢; simp [*], by simp only [dpt, dpts]; omega, by simp only [wt, wts]; omega⟩⟩
theorem listR_sml {l m : Vl} (h : ListR l m) : Sml 4 9000 l ∧ Sml 4 9000 m := by
  obtain ⟨nm, e, ks, b, rfl, rfl, hn, he, hl, hk⟩ := h
  obtain ⟨n1, n2, n3⟩ := strV_fine hn
  obtain ⟨t1, t2, t3⟩ := kinds_w hl hk
  have he' : fine e = true ∧ dpt e = 0 ∧ wt e ≤ 21 := by
    rcases he with rfl | ⟨j, hj, rfl⟩
    · exact ⟨rfl, rfl, by decide⟩
    · exact ⟨num_fine (by omega), rfl, Nat.le_refl _⟩
  obtain ⟨e1, e2, e3⟩ := he'
  refine ⟨⟨by simp [fine, fines, *], by simp only [dpt, dpts]; omega, by simp only [wt, wts]; omega⟩, ⟨by simp [fine, fines, *], by simp only [dpt, dpts]; omega, by simp only [wt, wts]; omega⟩⟩
theorem pair_fine {xs ys : List Vl} (h1 : xs.length ≤ 8) (h2 : ys.length ≤ 8) (hx : ∀ v ∈ xs, Sml 4 9000 v) (hy : ∀ v ∈ ys, Sml 4 9000 v) : fine (.tup [.lst xs, .lst ys]) = true ∧ dpt (.tup [.lst xs, .lst ys]) ≤ 64 ∧ wt (.tup [.lst xs, .lst ys]) ≤ sizeLine := by
  obtain ⟨a1, a2, a3⟩ := sml_list h1 hx
  obtain ⟨b1, b2, b3⟩ := sml_list h2 hy
  refine ⟨by simp [fine, fines, *], by simp only [dpt, dpts]; omega, ?_⟩
  have : wt (.tup [.lst xs, .lst ys]) ≤ 200000 := by simp only [wt, wts]; omega
  exact Nat.le_trans this (by decide)
theorem snap_ref {n k : Nat} {h : Gh} {xs : List Vl} (hk : h[k]? = some (.lst xs)) : snap (n + 1) h (.ref k) = (snaps n h xs).map .list := by simp only [snap, hk]
theorem snap_tup {n : Nat} {h : Gh} {xs : List Vl} : snap (n + 1) h (.tup xs) = (snaps n h xs).map .tuple := by simp only [snap]
theorem snaps_nil' {n : Nat} {h : Gh} : snaps n h [] = some [] := by simp only [snaps]
theorem snaps_cons {n : Nat} {h : Gh} {x : Vl} {xs : List Vl} {d : PyData} {ds : List PyData} (h1 : snap n h x = some d) (h2 : snaps n h xs = some ds) : snaps n h (x :: xs) = some (d :: ds) := by simp only [snaps, h1, h2]
theorem snap_int {n : Nat} {h : Gh} {i : Int} : snap n h (.int i) = some (.int i) := by cases n <;> simp only [snap]
theorem book_snap {ms due : List Vl} {base : Nat} {h : Gh} {v : Vl} (hB : BookH ms due base h v) (hm : ∀ m ∈ ms, Sml 4 9000 m) (hd : ∀ d ∈ due, Sml 4 9000 d) : snap 64 h v = some (py (.tup [.lst ms, .lst due])) := by
  obtain ⟨a, h1, A, B, base2, rfl, rfl, ha, lA, lB, _, _, hA, hBB⟩ := hB
  have e1 : snaps 62 (h1 ++ [Ob.lst B]) A = some (pys ms) := snaps_idx A ms lA fun j y m hy hm' => by
    obtain ⟨k, e, ks, rfl, rfl, hk⟩ := hA j m y hm' hy
    obtain ⟨f1, f2, _⟩ := hm _ (List.mem_of_getElem? hm')
    simp only [fine, fines, Bool.and_true, Bool.and_eq_true] at f1
    simp only [dpt, dpts] at f2
    have q1 := snap_fine e 61 (h1 ++ [Ob.lst B]) f1.1 (by omega)
    have q2 := snaps_fine ks 60 (h1 ++ [Ob.lst B]) f1.2 (by omega)
    have q3 := snap_ref (n := 60) (get_more (os := [Ob.lst B]) hk)
    rw [q2] at q3
    rw [show (62 : Nat) = 61 + 1 from rfl, snap_tup, snaps_cons q1 (snaps_cons q3 snaps_nil')]
    rfl
  have e2 : snaps 62 (h1 ++ [Ob.lst B]) B = some (pys due) := snaps_idx B due lB fun j y d hy hd' => by
    obtain ⟨t, r, s, takes, gives, bx, ht, rows, st, _, _, _, rfl, rfl, k1, k2, k3⟩ := hBB j d y hd' hy
    obtain ⟨f1, f2, _⟩ := hd _ (List.mem_of_getElem? hd')
    simp only [fine, fines, Bool.and_true, Bool.and_eq_true] at f1
    simp only [dpt, dpts] at f2
    obtain ⟨f3, f4, f5, f6, f7, f8⟩ := f1
    have q1 := snap_fine gives 61 (h1 ++ [Ob.lst B]) f4 (by omega)
    have w1 := snaps_fine takes 60 (h1 ++ [Ob.lst B]) f3 (by omega)
    have w2 := snaps_fine rows 60 (h1 ++ [Ob.lst B]) f7 (by omega)
    have w3 := snaps_fine st 60 (h1 ++ [Ob.lst B]) f8 (by omega)
    have z1 := snap_ref (n := 60) (get_more (os := [Ob.lst B]) k1)
    have z2 := snap_ref (n := 60) (get_more (os := [Ob.lst B]) k2)
    have z3 := snap_ref (n := 60) (get_more (os := [Ob.lst B]) k3)
    rw [w1] at z1
    rw [w2] at z2
    rw [w3] at z3
    rw [show (62 : Nat) = 61 + 1 from rfl, snap_tup, snaps_cons z1 (snaps_cons q1 (snaps_cons snap_int (snaps_cons snap_int (snaps_cons z2 (snaps_cons z3 snaps_nil')))))]
    rfl
  have z1 := snap_ref (n := 62) (get_more (os := [Ob.lst B]) ha)
  have z2 := snap_ref (n := 62) (k := h1.length) (h := h1 ++ [Ob.lst B]) (xs := B) (by simp)
  rw [e1] at z1
  rw [e2] at z2
  rw [show (64 : Nat) = 63 + 1 from rfl, snap_tup, snaps_cons z1 (snaps_cons z2 snaps_nil')]
  rfl

/-! ### the lists of what book_of gave, changed -/
def AllL (h0 : Gh) (m : Nat) (h : Gh) : Prop := ∀ (k : Nat) (l0 : List Vl), h0[k]? = some (Ob.lst l0) → ∃ l : List Vl, h[k]? = some (.lst l) ∧ l.length ≤ m
theorem allL_app {h0 h : Gh} {m t : Nat} {l0 : List Vl} (y : Vl) (hA : AllL h0 m h) (ht : h0[t]? = some (.lst l0)) (hm : m < 16777216) : ∃ h', tyC .list h (.ref t) = true ∧ mtAppend (.ref t) [y] h = .ok .non h' ∧ AllL h0 (m + 1) h' ∧ ∀ k, k ≠ t → h'[k]? = h[k]? := by
  obtain ⟨l, hl, hlen⟩ := hA t l0 ht
  refine ⟨h.set t (Ob.lst (l ++ [y])), tyC_ref hl, app_ref hl (by omega), fun k l0' hk => ?_, fun k hk => by rw [List.getElem?_set_ne (Ne.symm hk)]⟩
  by_cases z : k = t
  · subst z
    refine ⟨l ++ [y], ?_, by simp; omega⟩
    have : k < h.length := (List.getElem?_eq_some_iff.mp hl).1
    rw [List.getElem?_set_self this]
  · obtain ⟨l', hl', hlen'⟩ := hA k l0' hk
    exact ⟨l', by rw [List.getElem?_set_ne (Ne.symm z)]; exact hl', by omega⟩
noncomputable def changeB : MS := (mSeq (mDrop (mBm .list mtAppend (mOp ixM (mVar 12) (mC (.int 0))) (mCons (mC (.int 7)) mNil)))
    (mSeq (mDrop (mBm .list mtAppend (mOp ixM (mVar 12) (mC (.int 4))) (mCons (mArgs tupM (mCons (mC (.str (Str.ofString "drop"))) mNil)) mNil)))
    (mDrop (mBm .list mtAppend (mOp ixM (mVar 12) (mC (.int 5))) (mCons (mC (.int 7)) mNil)))))
theorem change_loop {ms due : List Vl} {h1 : Gh} {A B : List Vl} {a base2 : Nat} (hl8 : due.length ≤ 8) (lB : B.length = due.length) (ha : h1[a]? = some (.lst A)) (hab : a < base2) (hBB : ∀ (j : Nat) (d y : Vl), due[j]? = some d → B[j]? = some y → PartH base2 h1 d y)
    (hsm : ∀ (k : Nat) (l0 : List Vl), (h1 ++ [Ob.lst B])[k]? = some (Ob.lst l0) → l0.length ≤ 10) (p0 p1 p2 p3 p4 p5 p6 p7 p8 p9 p10 p11 x q0 q1 q2 q3 q4 q5 q6 q7 q8 : Option Vl) :
    ∃ x' h', forF (gtName 12) changeB (some (h1.length, B)) B [p0, p1, p2, p3, p4, p5, p6, p7, p8, p9, p10, p11, x, q0, q1, q2, q3, q4, q5, q6, q7, q8] (h1 ++ [Ob.lst B]) = .nx [p0, p1, p2, p3, p4, p5, p6, p7, p8, p9, p10, p11, x', q0, q1, q2, q3, q4, q5, q6, q7, q8] h' ∧
      AllL (h1 ++ [Ob.lst B]) 40 h' ∧ h'[a]? = some (.lst A) := by
  obtain ⟨ρ', h', e, x', rfl, hA, h2, h3⟩ := forF_inv (t := gtName 12) (b := changeB) (src := some (h1.length, B)) (fun i ρ h => ∃ x, ρ = [p0, p1, p2, p3, p4, p5, p6, p7, p8, p9, p10, p11, x, q0, q1, q2, q3, q4, q5, q6, q7, q8] ∧ AllL (h1 ++ [Ob.lst B]) (10 + 3 * i) h ∧ h[a]? = some (.lst A) ∧ h[h1.length]? = some (.lst B))
    B 0 [p0, p1, p2, p3, p4, p5, p6, p7, p8, p9, p10, p11, x, q0, q1, q2, q3, q4, q5, q6, q7, q8] (h1 ++ [Ob.lst B]) (fun i ρ h hp => let ⟨_, _, _, _, z⟩ := hp; z)
    ⟨x, rfl, fun k l0 hk => ⟨l0, hk, hsm k l0 hk⟩, get_more ha, by simp⟩ fun i v ρ h _ hv hp => by
    obtain ⟨x, rfl, hA, h2, h3⟩ := hp
    rw [Nat.sub_zero] at hv
    have hi : i < B.length := (List.getElem?_eq_some_iff.mp hv).1
    obtain ⟨t, r, s, takes, gives, bx, ht, rows, st, b1, b2, b3, _, rfl, k1, k2, k3⟩ := hBB i due[i] v (List.getElem?_eq_getElem (by omega)) hv
    have l1 : t < h1.length := (List.getElem?_eq_some_iff.mp k1).1
    have l2 : r < h1.length := (List.getElem?_eq_some_iff.mp k2).1
    have l3 : s < h1.length := (List.getElem?_eq_some_iff.mp k3).1
    obtain ⟨g1, c1, d1, A1, o1⟩ := allL_app (.int 7) hA (get_more k1) (by omega)
    obtain ⟨g2, c2, d2, A2, o2⟩ := allL_app (.tup [.str (Str.ofString "drop")]) A1 (get_more k2) (by omega)
    obtain ⟨g3, c3, d3, A3, o3⟩ := allL_app (.int 7) A2 (get_more k3) (by omega)
    refine ⟨_, _, rfl, [p0, p1, p2, p3, p4, p5, p6, p7, p8, p9, p10, p11, some (.tup [.ref t, gives, .int bx, .int ht, .ref r, .ref s]), q0, q1, q2, q3, q4, q5, q6, q7, q8], g3, ?_, _, rfl, ?_, ?_, ?_⟩
    · have i0 : ∀ g : Gh, ixM (.tup [.ref t, gives, .int bx, .int ht, .ref r, .ref s]) (.int 0) g = .ok (.ref t) g := fun g => ix_tup rfl
      have i4 : ∀ g : Gh, ixM (.tup [.ref t, gives, .int bx, .int ht, .ref r, .ref s]) (.int 4) g = .ok (.ref r) g := fun g => ix_tup rfl
      have i5 : ∀ g : Gh, ixM (.tup [.ref t, gives, .int bx, .int ht, .ref r, .ref s]) (.int 5) g = .ok (.ref s) g := fun g => ix_tup rfl
      simp (disch := first | omega | (simp only [List.length_cons, List.length_nil] <;> omega)) only [bind_ok, lift_ok, mVar_eq, mC_eq, mOp_eq, mUn_eq, mNil_eq, mCons_eq, mArgs_eq, mAnd_eq, mOr_eq, mT_eq, tnNot_eq, tnAnd_eq, tnOr_eq, mIf_eq, mNoPart_eq, mPart_eq, mSl_eq, mChain_eq, mIsi_eq, mBm_eq, mNext_eq, mSeq_eq, then_nx, then_rt, br_true, br_false, mPut_eq, mDrop_eq, mRet_eq, mRetN_eq, mIfS_eq, mAsg_eq, gtName_eq, gtTup_eq, gtNil_eq, gtCons_eq, mFor_eq, mIter_eq, mRange1_eq, mRange2_eq, mEnum_eq, mZip_eq, mComp_eq, gtSub_eq, mAug_eq, mFrz_eq, mYes_eq, mBreak_eq, mCont_eq, add_int, sub_int, mul_l, mul_r, div_int, mod_int, lt_int, le_int, gt_int, ge_int, eq_int, ne_int, eq_str, isN_eq, notN_eq, min_int, max_int, int_int, int_bl, startC, List.map_cons, List.map_nil, List.length_cons, List.length_nil, List.replicate, List.cons_append, List.nil_append, List.getElem?_cons_zero, List.getElem?_cons_succ, List.set_cons_zero, List.set_cons_succ, decide_true, decide_false, Bool.false_eq_true, if_true, if_false, Bool.not_true, Bool.not_false, reduceIte, Nat.reduceAdd, Nat.reduceSub, CS.isNon, wipeC, lstM_nil, newM_nil, tupM_eq, lstM_eq, newM_eq, len_lst, len_rol, len_tup, range1_eq, range2_eq, iter_lst, iter_rol, iter_tup, changeB, i0, i4, i5, c1, d1, c2, d2, c3, d3]
    · rw [show 10 + 3 * (i + 1) = 10 + 3 * i + 1 + 1 + 1 by omega]
      exact A3
    · rw [o3 a (by omega), o2 a (by omega), o1 a (by omega)]; exact h2
    · rw [o3 _ (by omega), o2 _ (by omega), o1 _ (by omega)]; exact h3
  refine ⟨x', h', e, fun k l0 hk => ?_, h2⟩
  obtain ⟨l, q1, q2⟩ := hA k l0 hk
  exact ⟨l, q1, by omega⟩
end K81

set_option Elab.async false
set_option linter.all false
set_option maxRecDepth 100000
set_option maxHeartbeats 4000000
namespace K81
open PySem L2 CS

theorem makeV_shape {i : Nat} {v : Vl} (h : MakeV i v) (hi : i < 8) : ∃ e ks, v = .tup [e, .lst ks] ∧ (e = .non ∨ ∃ j : Nat, j < 8 ∧ e = .int j) ∧ ks.length ≤ 3 ∧ ∀ k ∈ ks, KindV k := by
  obtain ⟨e, ks, rfl, h1, h2, h3, h4⟩ := h
  refine ⟨e, ks, rfl, ?_, h1, h2⟩
  by_cases z : i = 0
  · exact .inl (h3 z)
  · obtain ⟨j, hj, rfl⟩ := h4 (by omega)
    exact .inr ⟨j, by omega, rfl⟩
noncomputable def enumB (n : Nat) : MS := (mDrop (mBm .list mtAppend (mVar 4) (mCons (mArgs tupM (mCons (mOp ixM (mVar 2) (mVar 13)) (mCons (mOp ixM (mVar 14) (mC (.int 0))) (mCons (mArgs (bList true) (mCons (mOp ixM (mVar 14) (mC (.int 1))) mNil)) (mCons (mAnd (mOp cGt (mVar 13) (mC (.int 0))) (mOp cEq (mOp oMod (mArgs (pureM (run (n + 3) .mixed)) (mCons (mVar 3) (mCons (mOp (oAdd true) (mC (.int 30)) (mVar 13)) mNil))) (mC (.int 2))) (mC (.int 1)))) mNil))))) mNil)))
noncomputable def enumT : MG := (gtTup (gtCons (gtName 13) (gtCons (gtName 14) gtNil)))
theorem enum_loop (n : Nat) (s : Vl) {ms names : List Vl} (c : Int) (hm : MakesV ms) (hn : names.length = ms.length) (hN : ∀ x ∈ names, StrV x) : ∃ listed x13 x14, listed.length = ms.length ∧ (∀ (j : Nat) (l m : Vl), listed[j]? = some l → ms[j]? = some m → ListR l m) ∧
    forF enumT (enumB n) none (enumL ms) [some s, some (.lst ms), some (.lst names), some (.int c), some (.ref 0), none, none, none, none, none, none, none, none, none, none, none, none, none, none, none, none, none] [.lst []]
    = .nx [some s, some (.lst ms), some (.lst names), some (.int c), some (.ref 0), none, none, none, none, none, none, none, none, x13, x14, none, none, none, none, none, none, none] [.lst listed] := by
  obtain ⟨ρ', g', e, listed, x13, x14, hl, hL, rfl, rfl⟩ := for_inv (t := enumT) (b := enumB n) (xs := enumL ms) (ρ := [some s, some (.lst ms), some (.lst names), some (.int c), some (.ref 0), none, none, none, none, none, none, none, none, none, none, none, none, none, none, none, none, none]) (g := [.lst []])
    (fun i ρ g => ∃ (listed : List Vl) (x13 x14 : Option Vl), listed.length = i ∧ (∀ (j : Nat) (l m : Vl), listed[j]? = some l → ms[j]? = some m → ListR l m) ∧ ρ = [some s, some (.lst ms), some (.lst names), some (.int c), some (.ref 0), none, none, none, none, none, none, none, none, x13, x14, none, none, none, none, none, none, none] ∧ g = [.lst listed])
    ⟨[], none, none, rfl, by simp, rfl, rfl⟩ fun i v ρ g hv => by
    rintro ⟨listed, x13, x14, hl, hL, rfl, rfl⟩
    obtain ⟨m, hmi, rfl⟩ := enumL_at hv
    have hi : i < ms.length := (List.getElem?_eq_some_iff.mp hmi).1
    have hm8 := hm.2.1
    obtain ⟨e, ks, rfl, he, hk, hK⟩ := makeV_shape (hm.2.2 i m hmi) (by omega)
    have hni : i < names.length := by omega
    have an : atI names (i : Int) = some names[i] := atI_nat rfl hni
    have a0 : ∀ g : Gh, ixM (.tup [e, .lst ks]) (.int 0) g = .ok e g := fun g => ix_tup rfl
    have a1 : ∀ g : Gh, ixM (.tup [e, .lst ks]) (.int 1) g = .ok (.lst ks) g := fun g => ix_tup rfl
    have key : ∃ b, enumB n [some s, some (.lst ms), some (.lst names), some (.int c), some (.ref 0), none, none, none, none, none, none, none, none, some (.int (i : Int)), some (.tup [e, .lst ks]), none, none, none, none, none, none, none] [.lst listed] =
        .nx [some s, some (.lst ms), some (.lst names), some (.int c), some (.ref 0), none, none, none, none, none, none, none, none, some (.int (i : Int)), some (.tup [e, .lst ks]), none, none, none, none, none, none, none] [.lst (listed ++ [.tup [names[i], e, .lst ks, .bl b]])] := by
      by_cases h0 : (0 : Int) < (i : Int)
      · exact ⟨decide (mixedF c (30 + (i : Int)) % 2 = 1), by simp (disch := first | omega | (simp only [List.length_cons, List.length_nil] <;> omega)) only [bind_ok, lift_ok, mVar_eq, mC_eq, mOp_eq, mUn_eq, mNil_eq, mCons_eq, mArgs_eq, mAnd_eq, mOr_eq, mT_eq, tnNot_eq, tnAnd_eq, tnOr_eq, mIf_eq, mNoPart_eq, mPart_eq, mSl_eq, mChain_eq, mIsi_eq, mBm_eq, mNext_eq, mSeq_eq, then_nx, then_rt, br_true, br_false, mPut_eq, mDrop_eq, mRet_eq, mRetN_eq, mIfS_eq, mAsg_eq, gtName_eq, gtTup_eq, gtNil_eq, gtCons_eq, mFor_eq, mIter_eq, mRange1_eq, mRange2_eq, mEnum_eq, mZip_eq, mComp_eq, gtSub_eq, mAug_eq, mFrz_eq, mYes_eq, mBreak_eq, mCont_eq, add_int, sub_int, mul_l, mul_r, div_int, mod_int, lt_int, le_int, gt_int, ge_int, eq_int, ne_int, eq_str, isN_eq, notN_eq, min_int, max_int, int_int, int_bl, startC, List.map_cons, List.map_nil, List.length_cons, List.length_nil, List.replicate, List.cons_append, List.nil_append, List.getElem?_cons_zero, List.getElem?_cons_succ, List.set_cons_zero, List.set_cons_succ, decide_true, decide_false, Bool.false_eq_true, if_true, if_false, Bool.not_true, Bool.not_false, reduceIte, Nat.reduceAdd, Nat.reduceSub, CS.isNon, wipeC, app_at, ty_at, ixr_at, lenr_at, ite_len, lstM_nil, newM_nil, tupM_eq, lstM_eq, newM_eq, len_lst, len_rol, len_tup, range1_eq, range2_eq, iter_lst, iter_rol, iter_tup, enumB, ix_lst an, a0, a1, list_fzl, h0, mixed_pure]⟩
      · exact ⟨false, by simp (disch := first | omega | (simp only [List.length_cons, List.length_nil] <;> omega)) only [bind_ok, lift_ok, mVar_eq, mC_eq, mOp_eq, mUn_eq, mNil_eq, mCons_eq, mArgs_eq, mAnd_eq, mOr_eq, mT_eq, tnNot_eq, tnAnd_eq, tnOr_eq, mIf_eq, mNoPart_eq, mPart_eq, mSl_eq, mChain_eq, mIsi_eq, mBm_eq, mNext_eq, mSeq_eq, then_nx, then_rt, br_true, br_false, mPut_eq, mDrop_eq, mRet_eq, mRetN_eq, mIfS_eq, mAsg_eq, gtName_eq, gtTup_eq, gtNil_eq, gtCons_eq, mFor_eq, mIter_eq, mRange1_eq, mRange2_eq, mEnum_eq, mZip_eq, mComp_eq, gtSub_eq, mAug_eq, mFrz_eq, mYes_eq, mBreak_eq, mCont_eq, add_int, sub_int, mul_l, mul_r, div_int, mod_int, lt_int, le_int, gt_int, ge_int, eq_int, ne_int, eq_str, isN_eq, notN_eq, min_int, max_int, int_int, int_bl, startC, List.map_cons, List.map_nil, List.length_cons, List.length_nil, List.replicate, List.cons_append, List.nil_append, List.getElem?_cons_zero, List.getElem?_cons_succ, List.set_cons_zero, List.set_cons_succ, decide_true, decide_false, Bool.false_eq_true, if_true, if_false, Bool.not_true, Bool.not_false, reduceIte, Nat.reduceAdd, Nat.reduceSub, CS.isNon, wipeC, app_at, ty_at, ixr_at, lenr_at, ite_len, lstM_nil, newM_nil, tupM_eq, lstM_eq, newM_eq, len_lst, len_rol, len_tup, range1_eq, range2_eq, iter_lst, iter_rol, iter_tup, enumB, ix_lst an, a0, a1, list_fzl, h0, mixed_pure]⟩
    obtain ⟨b, ek⟩ := key
    refine ⟨_, _, ?_, _, _, ek, _, _, _, by simp [hl], ?_, rfl, rfl⟩
    · simp (disch := first | omega | (simp only [List.length_cons, List.length_nil] <;> omega)) only [bind_ok, lift_ok, mVar_eq, mC_eq, mOp_eq, mUn_eq, mNil_eq, mCons_eq, mArgs_eq, mAnd_eq, mOr_eq, mT_eq, tnNot_eq, tnAnd_eq, tnOr_eq, mIf_eq, mNoPart_eq, mPart_eq, mSl_eq, mChain_eq, mIsi_eq, mBm_eq, mNext_eq, mSeq_eq, then_nx, then_rt, br_true, br_false, mPut_eq, mDrop_eq, mRet_eq, mRetN_eq, mIfS_eq, mAsg_eq, gtName_eq, gtTup_eq, gtNil_eq, gtCons_eq, mFor_eq, mIter_eq, mRange1_eq, mRange2_eq, mEnum_eq, mZip_eq, mComp_eq, gtSub_eq, mAug_eq, mFrz_eq, mYes_eq, mBreak_eq, mCont_eq, add_int, sub_int, mul_l, mul_r, div_int, mod_int, lt_int, le_int, gt_int, ge_int, eq_int, ne_int, eq_str, isN_eq, notN_eq, min_int, max_int, int_int, int_bl, startC, List.map_cons, List.map_nil, List.length_cons, List.length_nil, List.replicate, List.cons_append, List.nil_append, List.getElem?_cons_zero, List.getElem?_cons_succ, List.set_cons_zero, List.set_cons_succ, decide_true, decide_false, Bool.false_eq_true, if_true, if_false, Bool.not_true, Bool.not_false, reduceIte, Nat.reduceAdd, Nat.reduceSub, CS.isNon, wipeC, app_at, ty_at, ixr_at, lenr_at, ite_len, lstM_nil, newM_nil, tupM_eq, lstM_eq, newM_eq, len_lst, len_rol, len_tup, range1_eq, range2_eq, iter_lst, iter_rol, iter_tup, enumT]
    · intro j l m hj hm'
      by_cases z : j < listed.length
      · rw [List.getElem?_append_left z] at hj
        exact hL j l m hj hm'
      · rw [List.getElem?_append_right (by omega)] at hj
        cases hz : j - listed.length with
        | zero =>
          rw [hz] at hj
          have : j = i := by omega
          subst this
          rw [hmi] at hm'
          cases hm'
          cases hj
          exact ⟨_, e, ks, b, rfl, rfl, hN _ (List.getElem_mem hni), he, hk, hK⟩
        | succ q => rw [hz] at hj; simp at hj
  exact ⟨listed, x13, x14, by simpa [enumL_len] using hl, hL, e⟩
noncomputable def partsB (n : Nat) : MS := (mSeq (mPut 15 (mArgs (pureM (run (n + 3) .mixed)) (mCons (mArgs (pureM (run (n + 3) .cell)) (mCons (mVar 0) (mCons (mOp (oAdd true) (mC (.int 4)) (mVar 7)) mNil))) (mCons (mVar 7) mNil))))
    (mSeq (mAsg (gtTup (gtCons (gtName 18) (gtCons (gtName 19) (gtCons (gtName 20) (gtCons (gtName 21) gtNil))))) (mSl (slM true) (mArgs (pureM (run (n + 3) .part)) (mCons (mVar 1) (mCons (mVar 15) mNil))) mNoPart (mPart (mC (.int 4)))))
    (mSeq (mPut 16 (mC .non))
    (mSeq (mPut 17 (mArgs tupM (mCons (mArgs bLen (mCons (mVar 18) mNil)) (mCons (mC (.int 1)) (mCons (mArgs lstM (mCons (mArgs tupM (mCons (mC (.str (Str.ofString "push"))) (mCons (mC (.int 0)) mNil))) (mCons (mArgs tupM (mCons (mC (.str (Str.ofString "toss"))) mNil)) mNil))) (mCons (mArgs lstM mNil) mNil))))))
    (mSeq (mIfS (mT (mOp cGt (mOp oMod (mArgs (pureM (run (n + 3) .mixed)) (mCons (mVar 15) (mCons (mC (.int 5)) mNil))) (mC (.int 3))) (mC (.int 0)))) (mSeq (mPut 16 (mArgs (pureM (run (n + 3) .body)) (mCons (mVar 15) (mCons (mVar 20) (mCons (mVar 21) mNil)))))
      (mPut 17 (mVar 16))) mNext)
    (mSeq (mDrop (mBm .list mtAppend (mVar 5) (mCons (mArgs tupM (mCons (mOp ixM (mVar 2) (mVar 7)) (mCons (mArgs (bList true) (mCons (mVar 18) mNil)) (mCons (mVar 19) (mCons (mVar 16) mNil))))) mNil)))
    (mDrop (mBm .list mtAppend (mVar 6) (mCons (mOp (oAdd true) (mArgs tupM (mCons (mVar 18) (mCons (mVar 19) mNil))) (mVar 17)) mNil)))))))))
theorem parts_loop (n : Nat) (ns : List Int) (hns : ns.length ≤ 63) {ms names : List Vl} (c : Int) (hm : MakesV ms) (hn8 : names.length ≤ 8) (hN : ∀ x ∈ names, StrV x) (o0 : Ob) (y13 y14 : Option Vl) : ∃ parts due x7 x13 x14 x15 x16 x17 x18 x19 x20 x21, parts.length = names.length ∧ due.length = names.length ∧ (∀ (j : Nat) (p d : Vl), parts[j]? = some p → due[j]? = some d → PartR p d) ∧
    forF (gtName 7) (partsB n) none (rangeL 0 names.length) [some (.rol (ns.map Vl.int)), some (.lst ms), some (.lst names), some (.int c), some (.ref 0), some (.ref 1), some (.ref 2), none, none, none, none, none, none, y13, y14, none, none, none, none, none, none, none] [o0, .lst [], .lst []]
    = .nx [some (.rol (ns.map Vl.int)), some (.lst ms), some (.lst names), some (.int c), some (.ref 0), some (.ref 1), some (.ref 2), x7, none, none, none, none, none, x13, x14, x15, x16, x17, x18, x19, x20, x21] [o0, .lst parts, .lst due] := by
  obtain ⟨ρ', g', e, parts, due, x7, x13, x14, x15, x16, x17, x18, x19, x20, x21, hp, hd, hP, rfl, rfl⟩ := for_inv (t := gtName 7) (b := partsB n) (xs := rangeL 0 names.length) (ρ := [some (.rol (ns.map Vl.int)), some (.lst ms), some (.lst names), some (.int c), some (.ref 0), some (.ref 1), some (.ref 2), none, none, none, none, none, none, y13, y14, none, none, none, none, none, none, none]) (g := [o0, .lst [], .lst []])
    (fun i ρ g => ∃ (parts due : List Vl) (x7 x13 x14 x15 x16 x17 x18 x19 x20 x21 : Option Vl), parts.length = i ∧ due.length = i ∧ (∀ (j : Nat) (p d : Vl), parts[j]? = some p → due[j]? = some d → PartR p d) ∧
      ρ = [some (.rol (ns.map Vl.int)), some (.lst ms), some (.lst names), some (.int c), some (.ref 0), some (.ref 1), some (.ref 2), x7, none, none, none, none, none, x13, x14, x15, x16, x17, x18, x19, x20, x21] ∧ g = [o0, .lst parts, .lst due])
    ⟨[], [], none, y13, y14, none, none, none, none, none, none, none, rfl, rfl, by simp, rfl, rfl⟩ fun i v ρ g hv => by
    rintro ⟨parts, due, x7, x13, x14, x15, x16, x17, x18, x19, x20, x21, hp, hd, hP, rfl, rfl⟩
    obtain ⟨hi, rfl⟩ := rangeL_get _ _ _ _ hv
    have an : atI names (i : Int) = some names[i] := atI_nat rfl hi
    obtain ⟨cl, ec⟩ := cell_run (n + 1) ns hns (4 + i) [o0, .lst parts, .lst due]
    rw [show ((4 + i : Nat) : Int) = 4 + (i : Int) by omega] at ec
    generalize hz : mixedF cl (i : Int) = z
    obtain ⟨takes, gives, boxes, height, r, ep, t1, t2, t3, b1, b2, b3, b4⟩ := part_pure n hm z [o0, .lst parts, .lst due]
    have esl : ∀ g : Gh, slM true (.tup [.lst takes, gives, .int boxes, .int height, r, .lst []]) none (some 4) g = .ok (.tup [.lst takes, gives, .int boxes, .int height]) g := fun g => sl_tup 4
    have key : ∃ bv dv w17, PartR (.tup [names[i], .lst takes, gives, bv]) dv ∧ partsB n [some (.rol (ns.map Vl.int)), some (.lst ms), some (.lst names), some (.int c), some (.ref 0), some (.ref 1), some (.ref 2), some (.int (i : Int)), none, none, none, none, none, x13, x14, x15, x16, x17, x18, x19, x20, x21] [o0, .lst parts, .lst due] =
        .nx [some (.rol (ns.map Vl.int)), some (.lst ms), some (.lst names), some (.int c), some (.ref 0), some (.ref 1), some (.ref 2), some (.int (i : Int)), none, none, none, none, none, x13, x14, some (.int z), some bv, w17, some (.lst takes), some gives, some (.int boxes), some (.int height)]
          [o0, .lst (parts ++ [.tup [names[i], .lst takes, gives, bv]]), .lst (due ++ [dv])] := by
      have hNi := hN _ (List.getElem_mem hi)
      by_cases h0 : 0 < mixedF z 5 % 3
      · obtain ⟨rows, st, eb, r1, r2, s1, s2⟩ := body_pure (n + 1) z boxes height [o0, .lst parts, .lst due]
        refine ⟨.tup [.int boxes, .int height, .lst rows, .lst st], .tup [.lst takes, gives, .int boxes, .int height, .lst rows, .lst st], some (.tup [.int boxes, .int height, .lst rows, .lst st]), ?_, ?_⟩
        · exact ⟨_, takes, gives, boxes, height, rows, st, _, rfl, rfl, hNi, .inr rfl, t1, t2, t3, b1, b2, by omega, b4, r1, r2, s1, s2⟩
        · simp (disch := first | omega | (simp only [List.length_cons, List.length_nil] <;> omega)) only [bind_ok, lift_ok, mVar_eq, mC_eq, mOp_eq, mUn_eq, mNil_eq, mCons_eq, mArgs_eq, mAnd_eq, mOr_eq, mT_eq, tnNot_eq, tnAnd_eq, tnOr_eq, mIf_eq, mNoPart_eq, mPart_eq, mSl_eq, mChain_eq, mIsi_eq, mBm_eq, mNext_eq, mSeq_eq, then_nx, then_rt, br_true, br_false, mPut_eq, mDrop_eq, mRet_eq, mRetN_eq, mIfS_eq, mAsg_eq, gtName_eq, gtTup_eq, gtNil_eq, gtCons_eq, mFor_eq, mIter_eq, mRange1_eq, mRange2_eq, mEnum_eq, mZip_eq, mComp_eq, gtSub_eq, mAug_eq, mFrz_eq, mYes_eq, mBreak_eq, mCont_eq, add_int, sub_int, mul_l, mul_r, div_int, mod_int, lt_int, le_int, gt_int, ge_int, eq_int, ne_int, eq_str, isN_eq, notN_eq, min_int, max_int, int_int, int_bl, startC, List.map_cons, List.map_nil, List.length_cons, List.length_nil, List.replicate, List.cons_append, List.nil_append, List.getElem?_cons_zero, List.getElem?_cons_succ, List.set_cons_zero, List.set_cons_succ, decide_true, decide_false, Bool.false_eq_true, if_true, if_false, Bool.not_true, Bool.not_false, reduceIte, Nat.reduceAdd, Nat.reduceSub, CS.isNon, wipeC, app_at, ty_at, ixr_at, lenr_at, ite_len, lstM_nil, newM_nil, tupM_eq, lstM_eq, newM_eq, len_lst, len_rol, len_tup, range1_eq, range2_eq, iter_lst, iter_rol, iter_tup, partsB, ec, hz, ep, esl, mixed_pure, h0, eb, ix_lst an, list_fzl, add_tup]
      · refine ⟨.non, .tup [.lst takes, gives, .int takes.length, .int 1, .lst standRows, .lst []], some (.tup [.int takes.length, .int 1, .lst standRows, .lst []]), ?_, ?_⟩
        · exact ⟨_, takes, gives, _, 1, standRows, [], _, rfl, rfl, hNi, .inl ⟨rfl, rfl, rfl, rfl, rfl⟩, t1, t2, t3, by omega, by omega, by omega, by omega, by decide, standRows_V, by decide, by simp⟩
        · simp (disch := first | omega | (simp only [List.length_cons, List.length_nil] <;> omega)) only [bind_ok, lift_ok, mVar_eq, mC_eq, mOp_eq, mUn_eq, mNil_eq, mCons_eq, mArgs_eq, mAnd_eq, mOr_eq, mT_eq, tnNot_eq, tnAnd_eq, tnOr_eq, mIf_eq, mNoPart_eq, mPart_eq, mSl_eq, mChain_eq, mIsi_eq, mBm_eq, mNext_eq, mSeq_eq, then_nx, then_rt, br_true, br_false, mPut_eq, mDrop_eq, mRet_eq, mRetN_eq, mIfS_eq, mAsg_eq, gtName_eq, gtTup_eq, gtNil_eq, gtCons_eq, mFor_eq, mIter_eq, mRange1_eq, mRange2_eq, mEnum_eq, mZip_eq, mComp_eq, gtSub_eq, mAug_eq, mFrz_eq, mYes_eq, mBreak_eq, mCont_eq, add_int, sub_int, mul_l, mul_r, div_int, mod_int, lt_int, le_int, gt_int, ge_int, eq_int, ne_int, eq_str, isN_eq, notN_eq, min_int, max_int, int_int, int_bl, startC, List.map_cons, List.map_nil, List.length_cons, List.length_nil, List.replicate, List.cons_append, List.nil_append, List.getElem?_cons_zero, List.getElem?_cons_succ, List.set_cons_zero, List.set_cons_succ, decide_true, decide_false, Bool.false_eq_true, if_true, if_false, Bool.not_true, Bool.not_false, reduceIte, Nat.reduceAdd, Nat.reduceSub, CS.isNon, wipeC, app_at, ty_at, ixr_at, lenr_at, ite_len, lstM_nil, newM_nil, tupM_eq, lstM_eq, newM_eq, len_lst, len_rol, len_tup, range1_eq, range2_eq, iter_lst, iter_rol, iter_tup, partsB, ec, hz, ep, esl, mixed_pure, h0, ix_lst an, list_fzl, add_tup, standRows]
    obtain ⟨bv, dv, w17, hR, ek⟩ := key
    rw [Int.zero_add]
    refine ⟨_, _, rfl, _, _, ek, _, _, _, _, _, _, _, _, _, _, _, _, by simp [hp], by simp [hd], ?_, rfl, rfl⟩
    intro j p d hj hd'
    by_cases z : j < i
    · rw [List.getElem?_append_left (by omega)] at hj hd'
      exact hP j p d hj hd'
    · rw [List.getElem?_append_right (by omega)] at hj hd'
      cases hq : j - i with
      | zero =>
        rw [hp, hq] at hj
        rw [hd, hq] at hd'
        cases hj
        cases hd'
        exact hR
      | succ q => rw [hp, hq] at hj; simp at hj
  exact ⟨parts, due, x7, x13, x14, x15, x16, x17, x18, x19, x20, x21, by simpa [rangeL_len] using hp, by simpa [rangeL_len] using hd, hP, e⟩
end K81

set_option Elab.async false
set_option linter.all false
set_option maxRecDepth 100000
set_option maxHeartbeats 4000000
namespace K81
open PySem L2 CS

theorem last_app {m : Nat} {t : Nat} {l : List Vl} {h : Gh} (hl : h[t]? = some (.lst l)) (hm : l.length < 16777216) (y : Vl) : tyC .list h (.ref t) = true ∧ mtAppend (.ref t) [y] h = .ok .non (h.set t (.lst (l ++ [y]))) :=
  ⟨tyC_ref hl, app_ref hl hm⟩
theorem law_run (n : Nat) (ns : List Int) (hns : ns.length ≤ 63) : ∃ g, run (n + 4) .law [.rol (ns.map Vl.int)] [] = .ok (.bl true) g := by
  obtain ⟨c0, ec0⟩ := cell_run (n + 1) ns hns 0 []
  obtain ⟨ms, em, hm⟩ := makes_pure (n + 1) c0 []
  obtain ⟨c2, ec2⟩ := cell_run (n + 1) ns hns 2 []
  obtain ⟨names, en, hnl, hN⟩ := make_names_pure n c2 ms.length hm.1 hm.2.1 []
  obtain ⟨c, ec1⟩ := cell_run (n + 1) ns hns 1 []
  obtain ⟨listed, x13, x14, hll, hL, e1⟩ := enum_loop n (.rol (ns.map Vl.int)) c hm hnl hN
  obtain ⟨c3, ec3⟩ := cell_run (n + 1) ns hns 3 [.lst listed]
  obtain ⟨k, hk⟩ : ∃ k : Nat, 1 + c % 8 = (k : Int) := ⟨_, (Int.toNat_of_nonneg (by omega)).symm⟩
  obtain ⟨pn, epn, hpl, hPN⟩ := part_names_pure n c3 k (by omega) (by omega) [.lst listed]
  have hp8 : pn.length ≤ 8 := by omega
  obtain ⟨parts, due, x7, y13, y14, x15, x16, x17, x18, x19, x20, x21, hp, hd, hP, e2⟩ := parts_loop n ns hns c hm hp8 hPN (.lst listed) x13 x14
  -- the data
  have hms8 := hm.2.1
  have smL : ∀ l ∈ listed, Sml 4 9000 l := fun l hl => by
    obtain ⟨j, hj⟩ := List.getElem?_of_mem hl
    have : j < ms.length := by rw [← hll]; exact (List.getElem?_eq_some_iff.mp hj).1
    exact (listR_sml (hL j l _ hj (List.getElem?_eq_getElem this))).1
  have smM : ∀ m ∈ ms, Sml 4 9000 m := fun m hm' => by
    obtain ⟨j, hj⟩ := List.getElem?_of_mem hm'
    have : j < listed.length := by rw [hll]; exact (List.getElem?_eq_some_iff.mp hj).1
    exact (listR_sml (hL j _ m (List.getElem?_eq_getElem this) hj)).2
  have smP : ∀ p ∈ parts, Sml 4 9000 p := fun p hp' => by
    obtain ⟨j, hj⟩ := List.getElem?_of_mem hp'
    have : j < due.length := by rw [hd, ← hp]; exact (List.getElem?_eq_some_iff.mp hj).1
    exact (partR_sml (hP j p _ hj (List.getElem?_eq_getElem this))).1
  have smD : ∀ d ∈ due, Sml 4 9000 d := fun d hd' => by
    obtain ⟨j, hj⟩ := List.getElem?_of_mem hd'
    have : j < parts.length := by rw [hp, ← hd]; exact (List.getElem?_eq_some_iff.mp hj).1
    exact (partR_sml (hP j _ d (List.getElem?_eq_getElem this) hj)).2
  obtain ⟨u1, u2, u3⟩ := pair_fine (xs := listed) (ys := parts) (by omega) (by omega) smL smP
  obtain ⟨d1, d2, d3⟩ := pair_fine (xs := ms) (ys := due) (by omega) (by omega) smM smD
  have ru : ∀ g : Gh, bRepr [.tup [.lst listed, .lst parts]] g = .ok (.str (py (.tup [.lst listed, .lst parts])).shown) g := fun g => repr_fine u1 u2 u3 ⟨_, 0, .inl rfl⟩
  have rd : ∀ g : Gh, bRepr [.tup [.lst ms, .lst due]] g = .ok (.str (py (.tup [.lst ms, .lst due])).shown) g := fun g => repr_fine d1 d2 d3 ⟨_, 0, .inl rfl⟩
  obtain ⟨v, os, eb, hos, hB⟩ := book_of_run (n + 1) hll (by omega) hL (by omega) (by omega) hP [.dead, .dead, .dead]
  have hsn := book_snap hB smM smD
  obtain ⟨a, h1, A, B, base2, hh, rfl, ha, lA, lB, _, hab, hA, hBB⟩ := hB
  rw [hh] at eb hsn
  have ene : cNe (.tup [.ref a, .ref h1.length]) (.tup [.lst ms, .lst due]) (h1 ++ [Ob.lst B]) = .ok (.bl false) (h1 ++ [Ob.lst B]) := ne_snap rfl hsn (snap_fine _ 64 _ d1 d2) d1 d2
  have rb : bRepr [.tup [.ref a, .ref h1.length]] (h1 ++ [Ob.lst B]) = .ok (.str (py (.tup [.lst ms, .lst due])).shown) (h1 ++ [Ob.lst B]) := repr_snap hsn d1 d2 d3 ⟨_, 0, .inl rfl⟩
  have hsm : ∀ (k : Nat) (l0 : List Vl), (h1 ++ [Ob.lst B])[k]? = some (Ob.lst l0) → l0.length ≤ 10 := fun k l0 hk => by
    rw [← hh] at hk
    rcases k with _ | _ | _ | k
    · simp at hk
    · simp at hk
    · simp at hk
    · have : os[k]? = some (Ob.lst l0) := by simpa using hk
      obtain ⟨l, e, hl⟩ := hos _ (List.mem_of_getElem? this)
      cases e
      exact hl
  obtain ⟨x12, h2, e3, hAll, ha2⟩ := change_loop (ms := ms) (by omega) lB ha hab hBB hsm (some (.rol (ns.map Vl.int))) (some (.lst ms)) (some (.lst pn)) (some (.int c)) (some (.lst listed)) (some (.lst parts)) (some (.tup [.lst ms, .lst due])) x7 (some (.tup [.lst listed, .lst parts])) (some (.str (py (.tup [.lst listed, .lst parts])).shown)) (some (.str (py (.tup [.lst ms, .lst due])).shown)) (some (.tup [.ref a, .ref h1.length])) none y13 y14 x15 x16 x17 x18 x19 x20 x21
  have hA0 : 0 < A.length := by rw [lA]; exact hm.1
  have hm0 : ms[0]? = some ms[0] := List.getElem?_eq_getElem hm.1
  obtain ⟨k0, e0, ks0, q1, q2, q3⟩ := hA 0 ms[0] A[0] hm0 (List.getElem?_eq_getElem hA0)
  obtain ⟨l1, hl1, hl1s⟩ := hAll k0 ks0 (get_more q3)
  obtain ⟨t1, t2⟩ := last_app (m := 0) hl1 (by omega) (.int 7)
  have hlb : ∃ l2, (h2.set k0 (Ob.lst (l1 ++ [.int 7])))[h1.length]? = some (Ob.lst l2) ∧ l2.length ≤ 41 := by
    obtain ⟨l2, z1, z2⟩ := hAll h1.length B (by simp)
    by_cases z : k0 = h1.length
    · subst z
      have w : h1.length < h2.length := (List.getElem?_eq_some_iff.mp hl1).1
      exact ⟨l1 ++ [.int 7], by rw [List.getElem?_set_self w], by simp; omega⟩
    · exact ⟨l2, by rw [List.getElem?_set_ne z]; exact z1, by omega⟩
  obtain ⟨l2, hl2, hl2s⟩ := hlb
  obtain ⟨t3, t4⟩ := last_app (m := 0) hl2 (by omega) (.int 7)
  generalize hg3 : h2.set k0 (Ob.lst (l1 ++ [.int 7])) = g3 at *
  generalize hg4 : g3.set h1.length (Ob.lst (l2 ++ [.int 7])) = g4 at *
  obtain ⟨v', os', eb', hos', hB'⟩ := book_of_run (n + 1) hll (by omega) hL (by omega) (by omega) hP g4
  have hsn' := book_snap hB' smM smD
  obtain ⟨a', h1', A', B', base2', hh', rfl, _⟩ := hB'
  have rb' : bRepr [.tup [.ref a', .ref h1'.length]] (g4 ++ os') = .ok (.str (py (.tup [.lst ms, .lst due])).shown) (g4 ++ os') := repr_snap hsn' d1 d2 d3 ⟨_, 0, .inl rfl⟩
  have i0 : ∀ g : Gh, ixM (.tup [.ref a, .ref h1.length]) (.int 0) g = .ok (.ref a) g := fun g => ix_tup rfl
  have i1 : ∀ g : Gh, ixM (.tup [.ref a, .ref h1.length]) (.int 1) g = .ok (.ref h1.length) g := fun g => ix_tup rfl
  have ia : ixM (.ref a) (.int 0) h2 = .ok A[0] h2 := ix_ref ha2 (atI_nat rfl hA0)
  have ik : ixM (A[0]) (.int 1) h2 = .ok (.ref k0) h2 := by rw [q2]; exact ix_tup rfl
  have it : iterM (.ref h1.length) (h1 ++ [Ob.lst B]) = .ok (B, some (h1.length, B)) (h1 ++ [Ob.lst B]) := iter_ref (by simp)
  have isT : ∀ g : Gh, isK .tuple (.tup [.ref a, .ref h1.length]) g = some true := fun g => rfl
  have hc0 : pureM (run (n + 3) .cell) [.rol (ns.map Vl.int), .int 0] [] = .ok (.int c0) [] := ec0
  have hc1 : pureM (run (n + 3) .cell) [.rol (ns.map Vl.int), .int 1] [] = .ok (.int c) [] := ec1
  have hc2 : pureM (run (n + 3) .cell) [.rol (ns.map Vl.int), .int 2] [] = .ok (.int c2) [] := ec2
  have hc3 : pureM (run (n + 3) .cell) [.rol (ns.map Vl.int), .int 3] [.lst listed] = .ok (.int c3) [.lst listed] := ec3
  refine ⟨g4 ++ os', ?_⟩
  rw [show run (n + 4) .law = runOf 22 (b_law (run (n + 3))) from rfl]
  refine run_ret ?_
  unfold enumB enumT at e1
  unfold partsB at e2
  unfold changeB at e3
  simp (disch := first | omega | (simp only [List.length_cons, List.length_nil] <;> omega)) only [bind_ok, lift_ok, mVar_eq, mC_eq, mOp_eq, mUn_eq, mNil_eq, mCons_eq, mArgs_eq, mAnd_eq, mOr_eq, mT_eq, tnNot_eq, tnAnd_eq, tnOr_eq, mIf_eq, mNoPart_eq, mPart_eq, mSl_eq, mChain_eq, mIsi_eq, mBm_eq, mNext_eq, mSeq_eq, then_nx, then_rt, br_true, br_false, mPut_eq, mDrop_eq, mRet_eq, mRetN_eq, mIfS_eq, mAsg_eq, gtName_eq, gtTup_eq, gtNil_eq, gtCons_eq, mFor_eq, mIter_eq, mRange1_eq, mRange2_eq, mEnum_eq, mZip_eq, mComp_eq, gtSub_eq, mAug_eq, mFrz_eq, mYes_eq, mBreak_eq, mCont_eq, add_int, sub_int, mul_l, mul_r, div_int, mod_int, lt_int, le_int, gt_int, ge_int, eq_int, ne_int, eq_str, isN_eq, notN_eq, min_int, max_int, int_int, int_bl, startC, List.map_cons, List.map_nil, List.length_cons, List.length_nil, List.replicate, List.cons_append, List.nil_append, List.getElem?_cons_zero, List.getElem?_cons_succ, List.set_cons_zero, List.set_cons_succ, decide_true, decide_false, Bool.false_eq_true, if_true, if_false, Bool.not_true, Bool.not_false, reduceIte, Nat.reduceAdd, Nat.reduceSub, CS.isNon, wipeC, lstM_nil, newM_nil, tupM_eq, lstM_eq, newM_eq, len_lst, len_rol, len_tup, range1_eq, range2_eq, iter_lst, iter_rol, iter_tup, b_law, hc0, hc1, hc2, hc3, em, en, enum_lst, e1, then_of e1, hk, epn, Int.toNat_natCast, e2, ru, rd, eb, isT, ene, rb, ne_str, i0, i1, it, e3, ia, ik, t1, t2, t3, t4, eb', rb', eq_str]
theorem law_clean (ns : List Int) (h : ns.length ≤ 63) : ∃ g, run 20 .law [.rol (ns.map Vl.int)] [] = .ok (.bl true) g := law_run 16 ns h
end K81

set_option Elab.async false
set_option linter.all false
set_option maxRecDepth 100000
set_option maxHeartbeats 4000000
namespace K81
open PySem L2 CS

/-! ### the end (printed by gen.py) -/
theorem all_mk {l : PySem.W.OpenLaw} {w : World} {K : PySem.W.Frag} {h : Heap} {mg : Str → Option Value} {fa : Addr} (X : K.In h) (G : h.Ns mainGlobals mg) (hfa : mg (Str.ofString "law") = some (.ref fa))
    {f0 : Addr} {oc0 kV0 dc0 pm0 cd0 ct0 : Value} {od0 an0 : Option Addr} {sl0 : Array (Option Value)}
    {f1 : Addr} {oc1 kV1 dc1 pm1 cd1 ct1 : Value} {od1 an1 : Option Addr} {sl1 : Array (Option Value)}
    {f2 : Addr} {oc2 kV2 dc2 pm2 cd2 ct2 : Value} {od2 an2 : Option Addr} {sl2 : Array (Option Value)}
    {f3 : Addr} {oc3 kV3 dc3 pm3 cd3 ct3 : Value} {od3 an3 : Option Addr} {sl3 : Array (Option Value)}
    {f4 : Addr} {oc4 kV4 dc4 pm4 cd4 ct4 : Value} {od4 an4 : Option Addr} {sl4 : Array (Option Value)}
    {f5 : Addr} {oc5 kV5 dc5 pm5 cd5 ct5 : Value} {od5 an5 : Option Addr} {sl5 : Array (Option Value)}
    {f6 : Addr} {oc6 kV6 dc6 pm6 cd6 ct6 : Value} {od6 an6 : Option Addr} {sl6 : Array (Option Value)}
    {f7 : Addr} {oc7 kV7 dc7 pm7 cd7 ct7 : Value} {od7 an7 : Option Addr} {sl7 : Array (Option Value)}
    {f8 : Addr} {oc8 kV8 dc8 pm8 cd8 ct8 : Value} {od8 an8 : Option Addr} {sl8 : Array (Option Value)}
    {f9 : Addr} {oc9 kV9 dc9 pm9 cd9 ct9 : Value} {od9 an9 : Option Addr} {sl9 : Array (Option Value)}
    {f10 : Addr} {oc10 kV10 dc10 pm10 cd10 ct10 : Value} {od10 an10 : Option Addr} {sl10 : Array (Option Value)}
    {f11 : Addr} {oc11 kV11 dc11 pm11 cd11 ct11 : Value} {od11 an11 : Option Addr} {sl11 : Array (Option Value)}
    {f12 : Addr} {oc12 kV12 dc12 pm12 cd12 ct12 : Value} {od12 an12 : Option Addr} {sl12 : Array (Option Value)}
    {f13 : Addr} {oc13 kV13 dc13 pm13 cd13 ct13 : Value} {od13 an13 : Option Addr} {sl13 : Array (Option Value)}
    {f14 : Addr} {oc14 kV14 dc14 pm14 cd14 ct14 : Value} {od14 an14 : Option Addr} {sl14 : Array (Option Value)}
    {tk_STAND_IN_0_0 : Tok}
    {tk_STAND_IN_0_1 : Tok}
    {ad_STAND_IN_0 : Addr} {od_STAND_IN_0 : Option Addr} {n_STAND_IN_0 : Nat} {sl_STAND_IN_0 : Array (Option Value)}
    {tk_STAND_IN_1_0 : Tok}
    {ad_STAND_IN_1 : Addr} {od_STAND_IN_1 : Option Addr} {n_STAND_IN_1 : Nat} {sl_STAND_IN_1 : Array (Option Value)}
    {ad_STAND_IN : Addr} {od_STAND_IN : Option Addr} {n_STAND_IN : Nat} {sl_STAND_IN : Array (Option Value)}
    (z_enumerate : PySem.W.nsIn K mainGlobals (Str.ofString "enumerate") = some none)
    (z_int : PySem.W.nsIn K mainGlobals (Str.ofString "int") = some none)
    (z_isinstance : PySem.W.nsIn K mainGlobals (Str.ofString "isinstance") = some none)
    (z_len : PySem.W.nsIn K mainGlobals (Str.ofString "len") = some none)
    (z_list : PySem.W.nsIn K mainGlobals (Str.ofString "list") = some none)
    (z_max : PySem.W.nsIn K mainGlobals (Str.ofString "max") = some none)
    (z_min : PySem.W.nsIn K mainGlobals (Str.ofString "min") = some none)
    (z_range : PySem.W.nsIn K mainGlobals (Str.ofString "range") = some none)
    (z_repr : PySem.W.nsIn K mainGlobals (Str.ofString "repr") = some none)
    (z_sum : PySem.W.nsIn K mainGlobals (Str.ofString "sum") = some none)
    (z_tuple : PySem.W.nsIn K mainGlobals (Str.ofString "tuple") = some none)
    (a0 : PySem.W.nsIn K mainGlobals (Str.ofString "part_of") = some (some (.ref f0)))
    (l0 : K.lookup f0 = some ⟨oc0, od0, .func (PySem.W.fnOf (Str.ofString "part_of") (Str.ofString "part_of") (defArgs st_part_of) (defBody st_part_of) (defScope st_part_of) .none kV0 dc0 pm0 an0 cd0 ct0), sl0⟩)
    (c0 : PySem.W.codeIn K cd0 (Str.ofString "part_of") = true)
    (k0 : PySem.W.keepIn K (.ref f0) = true)
    (a1 : PySem.W.nsIn K mainGlobals (Str.ofString "book_of") = some (some (.ref f1)))
    (l1 : K.lookup f1 = some ⟨oc1, od1, .func (PySem.W.fnOf (Str.ofString "book_of") (Str.ofString "book_of") (defArgs st_book_of) (defBody st_book_of) (defScope st_book_of) .none kV1 dc1 pm1 an1 cd1 ct1), sl1⟩)
    (c1 : PySem.W.codeIn K cd1 (Str.ofString "book_of") = true)
    (k1 : PySem.W.keepIn K (.ref f1) = true)
    (a2 : PySem.W.nsIn K mainGlobals (Str.ofString "_law_mixed") = some (some (.ref f2)))
    (l2 : K.lookup f2 = some ⟨oc2, od2, .func (PySem.W.fnOf (Str.ofString "_law_mixed") (Str.ofString "_law_mixed") (defArgs st_mixed) (defBody st_mixed) (defScope st_mixed) .none kV2 dc2 pm2 an2 cd2 ct2), sl2⟩)
    (c2 : PySem.W.codeIn K cd2 (Str.ofString "_law_mixed") = true)
    (k2 : PySem.W.keepIn K (.ref f2) = true)
    (a3 : PySem.W.nsIn K mainGlobals (Str.ofString "_law_cell") = some (some (.ref f3)))
    (l3 : K.lookup f3 = some ⟨oc3, od3, .func (PySem.W.fnOf (Str.ofString "_law_cell") (Str.ofString "_law_cell") (defArgs st_cell) (defBody st_cell) (defScope st_cell) .none kV3 dc3 pm3 an3 cd3 ct3), sl3⟩)
    (c3 : PySem.W.codeIn K cd3 (Str.ofString "_law_cell") = true)
    (k3 : PySem.W.keepIn K (.ref f3) = true)
    (a4 : PySem.W.nsIn K mainGlobals (Str.ofString "_law_fields") = some (some (.ref f4)))
    (l4 : K.lookup f4 = some ⟨oc4, od4, .func (PySem.W.fnOf (Str.ofString "_law_fields") (Str.ofString "_law_fields") (defArgs st_fields) (defBody st_fields) (defScope st_fields) .none kV4 dc4 pm4 an4 cd4 ct4), sl4⟩)
    (c4 : PySem.W.codeIn K cd4 (Str.ofString "_law_fields") = true)
    (k4 : PySem.W.keepIn K (.ref f4) = true)
    (a5 : PySem.W.nsIn K mainGlobals (Str.ofString "_law_kind") = some (some (.ref f5)))
    (l5 : K.lookup f5 = some ⟨oc5, od5, .func (PySem.W.fnOf (Str.ofString "_law_kind") (Str.ofString "_law_kind") (defArgs st_kind) (defBody st_kind) (defScope st_kind) .none kV5 dc5 pm5 an5 cd5 ct5), sl5⟩)
    (c5 : PySem.W.codeIn K cd5 (Str.ofString "_law_kind") = true)
    (k5 : PySem.W.keepIn K (.ref f5) = true)
    (a6 : PySem.W.nsIn K mainGlobals (Str.ofString "_law_makes") = some (some (.ref f6)))
    (l6 : K.lookup f6 = some ⟨oc6, od6, .func (PySem.W.fnOf (Str.ofString "_law_makes") (Str.ofString "_law_makes") (defArgs st_makes) (defBody st_makes) (defScope st_makes) .none kV6 dc6 pm6 an6 cd6 ct6), sl6⟩)
    (c6 : PySem.W.codeIn K cd6 (Str.ofString "_law_makes") = true)
    (k6 : PySem.W.keepIn K (.ref f6) = true)
    (a7 : PySem.W.nsIn K mainGlobals (Str.ofString "_law_sizes") = some (some (.ref f7)))
    (l7 : K.lookup f7 = some ⟨oc7, od7, .func (PySem.W.fnOf (Str.ofString "_law_sizes") (Str.ofString "_law_sizes") (defArgs st_sizes) (defBody st_sizes) (defScope st_sizes) .none kV7 dc7 pm7 an7 cd7 ct7), sl7⟩)
    (c7 : PySem.W.codeIn K cd7 (Str.ofString "_law_sizes") = true)
    (k7 : PySem.W.keepIn K (.ref f7) = true)
    (a8 : PySem.W.nsIn K mainGlobals (Str.ofString "_law_part") = some (some (.ref f8)))
    (l8 : K.lookup f8 = some ⟨oc8, od8, .func (PySem.W.fnOf (Str.ofString "_law_part") (Str.ofString "_law_part") (defArgs st_part) (defBody st_part) (defScope st_part) .none kV8 dc8 pm8 an8 cd8 ct8), sl8⟩)
    (c8 : PySem.W.codeIn K cd8 (Str.ofString "_law_part") = true)
    (k8 : PySem.W.keepIn K (.ref f8) = true)
    (a9 : PySem.W.nsIn K mainGlobals (Str.ofString "_law_word") = some (some (.ref f9)))
    (l9 : K.lookup f9 = some ⟨oc9, od9, .func (PySem.W.fnOf (Str.ofString "_law_word") (Str.ofString "_law_word") (defArgs st_word) (defBody st_word) (defScope st_word) .none kV9 dc9 pm9 an9 cd9 ct9), sl9⟩)
    (c9 : PySem.W.codeIn K cd9 (Str.ofString "_law_word") = true)
    (k9 : PySem.W.keepIn K (.ref f9) = true)
    (a10 : PySem.W.nsIn K mainGlobals (Str.ofString "_law_names") = some (some (.ref f10)))
    (l10 : K.lookup f10 = some ⟨oc10, od10, .func (PySem.W.fnOf (Str.ofString "_law_names") (Str.ofString "_law_names") (defArgs st_names) (defBody st_names) (defScope st_names) .none kV10 dc10 pm10 an10 cd10 ct10), sl10⟩)
    (c10 : PySem.W.codeIn K cd10 (Str.ofString "_law_names") = true)
    (k10 : PySem.W.keepIn K (.ref f10) = true)
    (a11 : PySem.W.nsIn K mainGlobals (Str.ofString "_law_make_names") = some (some (.ref f11)))
    (l11 : K.lookup f11 = some ⟨oc11, od11, .func (PySem.W.fnOf (Str.ofString "_law_make_names") (Str.ofString "_law_make_names") (defArgs st_make_names) (defBody st_make_names) (defScope st_make_names) .none kV11 dc11 pm11 an11 cd11 ct11), sl11⟩)
    (c11 : PySem.W.codeIn K cd11 (Str.ofString "_law_make_names") = true)
    (k11 : PySem.W.keepIn K (.ref f11) = true)
    (a12 : PySem.W.nsIn K mainGlobals (Str.ofString "_law_part_names") = some (some (.ref f12)))
    (l12 : K.lookup f12 = some ⟨oc12, od12, .func (PySem.W.fnOf (Str.ofString "_law_part_names") (Str.ofString "_law_part_names") (defArgs st_part_names) (defBody st_part_names) (defScope st_part_names) .none kV12 dc12 pm12 an12 cd12 ct12), sl12⟩)
    (c12 : PySem.W.codeIn K cd12 (Str.ofString "_law_part_names") = true)
    (k12 : PySem.W.keepIn K (.ref f12) = true)
    (a13 : PySem.W.nsIn K mainGlobals (Str.ofString "_law_body") = some (some (.ref f13)))
    (l13 : K.lookup f13 = some ⟨oc13, od13, .func (PySem.W.fnOf (Str.ofString "_law_body") (Str.ofString "_law_body") (defArgs st_body) (defBody st_body) (defScope st_body) .none kV13 dc13 pm13 an13 cd13 ct13), sl13⟩)
    (c13 : PySem.W.codeIn K cd13 (Str.ofString "_law_body") = true)
    (k13 : PySem.W.keepIn K (.ref f13) = true)
    (a14 : PySem.W.nsIn K mainGlobals (Str.ofString "law") = some (some (.ref f14)))
    (l14 : K.lookup f14 = some ⟨oc14, od14, .func (PySem.W.fnOf (Str.ofString "law") (Str.ofString "law") (defArgs st_law) (defBody st_law) (defScope st_law) .none kV14 dc14 pm14 an14 cd14 ct14), sl14⟩)
    (c14 : PySem.W.codeIn K cd14 (Str.ofString "law") = true)
    (k14 : PySem.W.keepIn K (.ref f14) = true)
    (a_STAND_IN : PySem.W.nsIn K mainGlobals (Str.ofString "STAND_IN") = some (some (.ref ad_STAND_IN)))
    (lk_STAND_IN : K.lookup ad_STAND_IN = some ⟨.type "list", none, .seq #[(.ref ad_STAND_IN_0), (.ref ad_STAND_IN_1)] n_STAND_IN, sl_STAND_IN⟩)
    (lk_STAND_IN_0 : K.lookup ad_STAND_IN_0 = some ⟨.type "tuple", od_STAND_IN_0, .seq #[(.str (Str.ofString "push") tk_STAND_IN_0_0), (.int (0) tk_STAND_IN_0_1)] n_STAND_IN_0, sl_STAND_IN_0⟩)
    (lk_STAND_IN_1 : K.lookup ad_STAND_IN_1 = some ⟨.type "tuple", od_STAND_IN_1, .seq #[(.str (Str.ofString "toss") tk_STAND_IN_1_0)] n_STAND_IN_1, sl_STAND_IN_1⟩)
    : ∃ fd : FuncData, (∀ (s : Shared) (v : Value), BindsTo s fd ⟨[v], []⟩ [(Str.ofString "_law_script", v)]) ∧ ∀ base : Heap, K.In base → base.Ns mainGlobals mg → FnG l.prog w K mg base (L2.CX l.prog w) 20 fa fd [Str.ofString "_law_script"] (spR ⟨K, fun _ => 0⟩ 1 (run 20 .law)) := by
  obtain rfl : fa = f14 := Value.ref.inj (Option.some.inj (hfa.symm.trans (PySem.W.mg_of X G a14)))
  have F0 := fun_mk (st := st_part_of) l0 c0 k0
  have B0 := F0.binds (ps := p_part_of) fun _ _ _ _ _ _ us hl => match us, hl with | [_], _ => rfl
  have F1 := fun_mk (st := st_book_of) l1 c1 k1
  have B1 := F1.binds (ps := p_book_of) fun _ _ _ _ _ _ us hl => match us, hl with | [_], _ => rfl
  have F2 := fun_mk (st := st_mixed) l2 c2 k2
  have B2 := F2.binds (ps := p_mixed) fun _ _ _ _ _ _ us hl => match us, hl with | [_, _], _ => rfl
  have F3 := fun_mk (st := st_cell) l3 c3 k3
  have B3 := F3.binds (ps := p_cell) fun _ _ _ _ _ _ us hl => match us, hl with | [_, _], _ => rfl
  have F4 := fun_mk (st := st_fields) l4 c4 k4
  have B4 := F4.binds (ps := p_fields) fun _ _ _ _ _ _ us hl => match us, hl with | [_, _], _ => rfl
  have F5 := fun_mk (st := st_kind) l5 c5 k5
  have B5 := F5.binds (ps := p_kind) fun _ _ _ _ _ _ us hl => match us, hl with | [_, _], _ => rfl
  have F6 := fun_mk (st := st_makes) l6 c6 k6
  have B6 := F6.binds (ps := p_makes) fun _ _ _ _ _ _ us hl => match us, hl with | [_], _ => rfl
  have F7 := fun_mk (st := st_sizes) l7 c7 k7
  have B7 := F7.binds (ps := p_sizes) fun _ _ _ _ _ _ us hl => match us, hl with | [_], _ => rfl
  have F8 := fun_mk (st := st_part) l8 c8 k8
  have B8 := F8.binds (ps := p_part) fun _ _ _ _ _ _ us hl => match us, hl with | [_, _], _ => rfl
  have F9 := fun_mk (st := st_word) l9 c9 k9
  have B9 := F9.binds (ps := p_word) fun _ _ _ _ _ _ us hl => match us, hl with | [_], _ => rfl
  have F10 := fun_mk (st := st_names) l10 c10 k10
  have B10 := F10.binds (ps := p_names) fun _ _ _ _ _ _ us hl => match us, hl with | [_, _], _ => rfl
  have F11 := fun_mk (st := st_make_names) l11 c11 k11
  have B11 := F11.binds (ps := p_make_names) fun _ _ _ _ _ _ us hl => match us, hl with | [_, _], _ => rfl
  have F12 := fun_mk (st := st_part_names) l12 c12 k12
  have B12 := F12.binds (ps := p_part_names) fun _ _ _ _ _ _ us hl => match us, hl with | [_, _], _ => rfl
  have F13 := fun_mk (st := st_body) l13 c13 k13
  have B13 := F13.binds (ps := p_body) fun _ _ _ _ _ _ us hl => match us, hl with | [_, _, _], _ => rfl
  have F14 := fun_mk (st := st_law) l14 c14 k14
  have B14 := F14.binds (ps := p_law) fun _ _ _ _ _ _ us hl => match us, hl with | [_], _ => rfl
  have T : Txt ⟨f0, (PySem.W.fnOf (Str.ofString "part_of") (Str.ofString "part_of") (defArgs st_part_of) (defBody st_part_of) (defScope st_part_of) .none kV0 dc0 pm0 an0 cd0 ct0), f1, (PySem.W.fnOf (Str.ofString "book_of") (Str.ofString "book_of") (defArgs st_book_of) (defBody st_book_of) (defScope st_book_of) .none kV1 dc1 pm1 an1 cd1 ct1), f2, (PySem.W.fnOf (Str.ofString "_law_mixed") (Str.ofString "_law_mixed") (defArgs st_mixed) (defBody st_mixed) (defScope st_mixed) .none kV2 dc2 pm2 an2 cd2 ct2), f3, (PySem.W.fnOf (Str.ofString "_law_cell") (Str.ofString "_law_cell") (defArgs st_cell) (defBody st_cell) (defScope st_cell) .none kV3 dc3 pm3 an3 cd3 ct3), f4, (PySem.W.fnOf (Str.ofString "_law_fields") (Str.ofString "_law_fields") (defArgs st_fields) (defBody st_fields) (defScope st_fields) .none kV4 dc4 pm4 an4 cd4 ct4), f5, (PySem.W.fnOf (Str.ofString "_law_kind") (Str.ofString "_law_kind") (defArgs st_kind) (defBody st_kind) (defScope st_kind) .none kV5 dc5 pm5 an5 cd5 ct5), f6, (PySem.W.fnOf (Str.ofString "_law_makes") (Str.ofString "_law_makes") (defArgs st_makes) (defBody st_makes) (defScope st_makes) .none kV6 dc6 pm6 an6 cd6 ct6), f7, (PySem.W.fnOf (Str.ofString "_law_sizes") (Str.ofString "_law_sizes") (defArgs st_sizes) (defBody st_sizes) (defScope st_sizes) .none kV7 dc7 pm7 an7 cd7 ct7), f8, (PySem.W.fnOf (Str.ofString "_law_part") (Str.ofString "_law_part") (defArgs st_part) (defBody st_part) (defScope st_part) .none kV8 dc8 pm8 an8 cd8 ct8), f9, (PySem.W.fnOf (Str.ofString "_law_word") (Str.ofString "_law_word") (defArgs st_word) (defBody st_word) (defScope st_word) .none kV9 dc9 pm9 an9 cd9 ct9), f10, (PySem.W.fnOf (Str.ofString "_law_names") (Str.ofString "_law_names") (defArgs st_names) (defBody st_names) (defScope st_names) .none kV10 dc10 pm10 an10 cd10 ct10), f11, (PySem.W.fnOf (Str.ofString "_law_make_names") (Str.ofString "_law_make_names") (defArgs st_make_names) (defBody st_make_names) (defScope st_make_names) .none kV11 dc11 pm11 an11 cd11 ct11), f12, (PySem.W.fnOf (Str.ofString "_law_part_names") (Str.ofString "_law_part_names") (defArgs st_part_names) (defBody st_part_names) (defScope st_part_names) .none kV12 dc12 pm12 an12 cd12 ct12), f13, (PySem.W.fnOf (Str.ofString "_law_body") (Str.ofString "_law_body") (defArgs st_body) (defBody st_body) (defScope st_body) .none kV13 dc13 pm13 an13 cd13 ct13), fa, (PySem.W.fnOf (Str.ofString "law") (Str.ofString "law") (defArgs st_law) (defBody st_law) (defScope st_law) .none kV14 dc14 pm14 an14 cd14 ct14), (.ref ad_STAND_IN), (.ref ad_STAND_IN)⟩ K mg := ⟨PySem.W.mg_none_of X G z_enumerate, PySem.W.mg_none_of X G z_int, PySem.W.mg_none_of X G z_isinstance, PySem.W.mg_none_of X G z_len, PySem.W.mg_none_of X G z_list, PySem.W.mg_none_of X G z_max, PySem.W.mg_none_of X G z_min, PySem.W.mg_none_of X G z_range, PySem.W.mg_none_of X G z_repr, PySem.W.mg_none_of X G z_sum, PySem.W.mg_none_of X G z_tuple, F0, PySem.W.mg_of X G a0, B0, F1, PySem.W.mg_of X G a1, B1, F2, PySem.W.mg_of X G a2, B2, F3, PySem.W.mg_of X G a3, B3, F4, PySem.W.mg_of X G a4, B4, F5, PySem.W.mg_of X G a5, B5, F6, PySem.W.mg_of X G a6, B6, F7, PySem.W.mg_of X G a7, B7, F8, PySem.W.mg_of X G a8, B8, F9, PySem.W.mg_of X G a9, B9, F10, PySem.W.mg_of X G a10, B10, F11, PySem.W.mg_of X G a11, B11, F12, PySem.W.mg_of X G a12, B12, F13, PySem.W.mg_of X G a13, B13, F14, PySem.W.mg_of X G a14, B14, ⟨PySem.W.mg_of X G a_STAND_IN, rfl, fun H L β => .rol (vs := [(.ref ad_STAND_IN_0 : V), (.ref ad_STAND_IN_1 : V)]) (.inr ⟨_, _, _, lk_STAND_IN, rfl, rfl, rfl, (by show 2 ≤ sizeLine; decide), (.cons rfl (.cons rfl .nil))⟩) (.cons (.tup (vs := [(.str (Str.ofString "push") : V), (.int (0) : V)]) (.inr ⟨_, _, _, lk_STAND_IN_0, rfl, rfl, (by show 2 ≤ sizeLine; decide), (.cons ⟨_, rfl⟩ (.cons ⟨_, rfl⟩ .nil))⟩) (.cons (.str _) (.cons (.int _) .nil))) (.cons (.tup (vs := [(.str (Str.ofString "toss") : V)]) (.inr ⟨_, _, _, lk_STAND_IN_1, rfl, rfl, (by show 1 ≤ sizeLine; decide), (.cons ⟨_, rfl⟩ .nil)⟩) (.cons (.str _) .nil)) .nil))⟩⟩
  exact ⟨_, fun s v => .of_eq rfl, fun base _ _ => (all_ok T 20).law⟩
end K81

open PySem PySem.W PyProof.Rows in
set_option maxRecDepth 100000 in
set_option maxHeartbeats 0 in
theorem PySem.Challenge.cw_stackwarden_k81_a_units_book_holds : PySem.Challenge.rw_stackwarden_k81_a_units_book.Holds := by
  w_on; o_law; k_head; (case hw => w_witness2)
  k_fill
  refine CS.walkG (l := PySem.Challenge.rw_stackwarden_k81_a_units_book) (x := Str.ofString "_law_script") (n := 63) (k := 20) (sp := fun w => CS.spR ⟨_, fun _ => 0⟩ 1 (K81.run 20 .law)) rfl (by decide) rfl ⟨rfl, by decide, by decide, rfl⟩ (fun w h Y => PySem.W.kIn_of Y) ?F (fun w H a ns hl h => CS.law_sp K81.law_clean H a ns hl h)
  case F =>
    intro w mg fa h KX G hmg
    refine' K81.all_mk KX G hmg ?z_enumerate ?z_int ?z_isinstance ?z_len ?z_list ?z_max ?z_min ?z_range ?z_repr ?z_sum ?z_tuple ?a0 ?l0 ?c0 ?k0 ?a1 ?l1 ?c1 ?k1 ?a2 ?l2 ?c2 ?k2 ?a3 ?l3 ?c3 ?k3 ?a4 ?l4 ?c4 ?k4 ?a5 ?l5 ?c5 ?k5 ?a6 ?l6 ?c6 ?k6 ?a7 ?l7 ?c7 ?k7 ?a8 ?l8 ?c8 ?k8 ?a9 ?l9 ?c9 ?k9 ?a10 ?l10 ?c10 ?k10 ?a11 ?l11 ?c11 ?k11 ?a12 ?l12 ?c12 ?k12 ?a13 ?l13 ?c13 ?k13 ?a14 ?l14 ?c14 ?k14 ?a_STAND_IN ?lk_STAND_IN ?lk_STAND_IN_0 ?lk_STAND_IN_1
    (case z_enumerate => k_is)
    (case z_int => k_is)
    (case z_isinstance => k_is)
    (case z_len => k_is)
    (case z_list => k_is)
    (case z_max => k_is)
    (case z_min => k_is)
    (case z_range => k_is)
    (case z_repr => k_is)
    (case z_sum => k_is)
    (case z_tuple => k_is)
    (case a0 => k_is)
    (case l0 => k_is)
    (case c0 => k_is)
    (case k0 => k_is)
    (case a1 => k_is)
    (case l1 => k_is)
    (case c1 => k_is)
    (case k1 => k_is)
    (case a2 => k_is)
    (case l2 => k_is)
    (case c2 => k_is)
    (case k2 => k_is)
    (case a3 => k_is)
    (case l3 => k_is)
    (case c3 => k_is)
    (case k3 => k_is)
    (case a4 => k_is)
    (case l4 => k_is)
    (case c4 => k_is)
    (case k4 => k_is)
    (case a5 => k_is)
    (case l5 => k_is)
    (case c5 => k_is)
    (case k5 => k_is)
    (case a6 => k_is)
    (case l6 => k_is)
    (case c6 => k_is)
    (case k6 => k_is)
    (case a7 => k_is)
    (case l7 => k_is)
    (case c7 => k_is)
    (case k7 => k_is)
    (case a8 => k_is)
    (case l8 => k_is)
    (case c8 => k_is)
    (case k8 => k_is)
    (case a9 => k_is)
    (case l9 => k_is)
    (case c9 => k_is)
    (case k9 => k_is)
    (case a10 => k_is)
    (case l10 => k_is)
    (case c10 => k_is)
    (case k10 => k_is)
    (case a11 => k_is)
    (case l11 => k_is)
    (case c11 => k_is)
    (case k11 => k_is)
    (case a12 => k_is)
    (case l12 => k_is)
    (case c12 => k_is)
    (case k12 => k_is)
    (case a13 => k_is)
    (case l13 => k_is)
    (case c13 => k_is)
    (case k13 => k_is)
    (case a14 => k_is)
    (case l14 => k_is)
    (case c14 => k_is)
    (case k14 => k_is)
    (case a_STAND_IN => k_is)
    (case lk_STAND_IN => k_is)
    (case lk_STAND_IN_0 => k_is)
    (case lk_STAND_IN_1 => k_is)
    all_goals first | exact none | exact #[] | exact 0

