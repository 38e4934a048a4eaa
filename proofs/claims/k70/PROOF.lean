import PyProof.Rows.All
import Wide.All
import OpenK.AllK
import Wide.FinOn
import HandS.ForMost
import HandS.Walk
import HandS.Wide
import HandS.Exc
import HandS.TryOnly
import HandS.ExcOwn
import HandS.Deep
import HandS.IsInst
import HandS.Replace
import HandS.WordsExc
import HandS.Property
import HandS.More
import HandS.Star
import HandS.Defaults
import HandS.ClsMeth
import KE.GoesMore
import KE.GoesEnum
import HandS.Style
import HandS.EndBits
import HandS.Conv
import HandS.Flow
import HandS.FStr
import HandS.SortRule
import PySem.Challenge.RW_fewenough_k70_whole_points_of_forty_digi
set_option Elab.async false
set_option linter.all false
set_option maxRecDepth 100000
namespace LS
open PySem L2

/-! ## 1. plain data, the store, results -/
inductive D where
  | non
  | bl (b : Bool)
  | int (i : Int)
  | str (s : Str)
  | tup (xs : List D)
  | lst (xs : List D)
  | scr (xs : List D)
  | obj (c : Nat) (fs : List D)
  | ref (n : Nat)
  deriving Inhabited

inductive Ob where
  | lst (xs : List D)
  | ins (c : Nat) (fs : List D)
abbrev Sto := List Ob
inductive Res (α : Type) where
  | ok (a : α) (S : Sto)
  | exc (c : Nat) (fs : List D) (S : Sto)
  | div
abbrev M (α : Type) := Sto → Res α
def ret {α : Type} (a : α) : M α := fun S => .ok a S
def dv {α : Type} : M α := fun _ => .div
def bd {α β : Type} (m : M α) (f : α → M β) : M β := fun S => match m S with
  | .ok a S' => f a S'
  | .exc c fs S' => .exc c fs S'
  | .div => .div
theorem bd_ret {α β : Type} (a : α) (f : α → M β) : bd (ret a) f = f a := rfl
theorem bd_dv {α β : Type} (f : α → M β) : bd dv f = dv := rfl
theorem ret_ap {α : Type} (a : α) (S : Sto) : ret a S = .ok a S := rfl

/-- what a name holds: a value, or a list of its own that may be changed, or an instance of its own in the making -/
inductive Sl where
  | val (d : D)
  | own (ds : List D)
  | mak (c : Nat) (fs : List D)
abbrev Rho := List (Option Sl)
abbrev Ev := Rho → M D

/-! ## 2. the ghosts -/
/-- the written part, the classes' addresses and their fields in order -/
structure Tb where
  K : PySem.W.Frag
  ca : Nat → Addr
  cf : Nat → List Str
/-- what is never changed again; the store's addresses -/
structure Gh where
  F : Addr → Prop
  m : List Addr

def KTup (K : PySem.W.Frag) (a : Addr) (xs : List V) : Prop :=
  ∃ (o : Obj) (its : Array Value) (n : Nat), K.lookup a = some o ∧ o.cls = .type "tuple" ∧ o.data = .seq its n ∧ its.size ≤ sizeLine ∧ Vals xs its.toList
def KLst (K : PySem.W.Frag) (a : Addr) (xs : List V) : Prop :=
  ∃ (o : Obj) (its : Array Value) (n : Nat), K.lookup a = some o ∧ o.cls = .type "list" ∧ o.dict = none ∧ o.data = .seq its n ∧ its.size ≤ sizeLine ∧ Vals xs its.toList
def TupAt (T : Tb) (G : Gh) (H : Hp) (a : Addr) (xs : List V) : Prop := (G.F a ∧ H a = some (.tup xs)) ∨ KTup T.K a xs
def ScrAt (T : Tb) (G : Gh) (H : Hp) (a : Addr) (xs : List V) : Prop := (G.F a ∧ Rd H a (.lst xs)) ∨ KLst T.K a xs
theorem TupAt.sq {T : Tb} {G : Gh} {H : Hp} {a : Addr} {xs : List V} (h : TupAt T G H a xs) : SqT T.K H a xs := h.imp (fun q => Rd.of q.2) id
theorem ScrAt.sq {T : Tb} {G : Gh} {H : Hp} {a : Addr} {xs : List V} (h : ScrAt T G H a xs) : SqL T.K H a xs := h.imp (·.2) id

mutual
/-- the value v is the data d, in this heap -/
def Is (T : Tb) (G : Gh) (H : Hp) : D → V → Prop
  | .non, v => v = .non
  | .bl b, v => v = .bl b
  | .int i, v => v = .int i
  | .str s, v => v = .str s
  | .tup ds, v => ∃ a xs, v = .ref a ∧ TupAt T G H a xs ∧ IsL T G H ds xs
  | .lst ds, v => ∃ a xs, v = .ref a ∧ G.F a ∧ H a = some (.lst xs) ∧ IsL T G H ds xs
  | .scr ds, v => ∃ a xs, v = .ref a ∧ ScrAt T G H a xs ∧ IsL T G H ds xs
  | .obj c fs, v => ∃ a dx xs, v = .ref a ∧ G.F a ∧ H a = some (.ins (T.ca c) dx ((T.cf c).zip xs)) ∧ xs.length = (T.cf c).length ∧ IsL T G H fs xs
  | .ref n, v => ∃ a, G.m[n]? = some a ∧ v = .ref a
def IsL (T : Tb) (G : Gh) (H : Hp) : List D → List V → Prop
  | [], vs => vs = []
  | d :: ds, vs => ∃ x r, vs = x :: r ∧ Is T G H d x ∧ IsL T G H ds r
end

/-- what goes on: what was told stays told -/
structure Kp (G : Gh) (H : Hp) (G' : Gh) (H' : Hp) : Prop where
  fr : ∀ a, G.F a → G'.F a
  new : ∀ a, G'.F a → G.F a ∨ H a = none
  st : ∃ l, G'.m = G.m ++ l ∧ ∀ a ∈ l, H a = none
  kp : ∀ a o, H a = some o → a ∉ G.m → (∀ ps, o ≠ .tbl ps) → H' a = some o
  is : ∀ a, H a ≠ none → H' a ≠ none
theorem Kp.refl (G : Gh) (H : Hp) : Kp G H G H := ⟨fun _ h => h, fun _ h => .inl h, ⟨[], by simp, fun _ h => nomatch h⟩, fun _ _ h _ _ => h, fun _ h => h⟩
theorem Kp.trans {G G1 G2 : Gh} {H H1 H2 : Hp} (a : Kp G H G1 H1) (b : Kp G1 H1 G2 H2) : Kp G H G2 H2 where
  fr := fun x h => b.fr x (a.fr x h)
  new := fun x h => (b.new x h).elim (a.new x) fun n => by
    cases e : H x with
    | none => exact .inr rfl
    | some o => exact absurd n (a.is x (by rw [e]; exact nofun))
  st := by
    obtain ⟨l, e, n⟩ := a.st
    obtain ⟨l', e', n'⟩ := b.st
    refine ⟨l ++ l', by rw [e', e, List.append_assoc], fun x hx => ?_⟩
    rcases List.mem_append.mp hx with h | h
    · exact n x h
    · cases q : H x with
      | none => rfl
      | some o => exact absurd (n' x h) (a.is x (by rw [q]; exact nofun))
  kp := fun x o h hm ht => by
    refine b.kp x o (a.kp x o h hm ht) ?_ ht
    obtain ⟨l, e, n⟩ := a.st
    rw [e]
    intro hx
    rcases List.mem_append.mp hx with z | z
    · exact hm z
    · rw [n x z] at h; cases h
  is := fun x h => b.is x (a.is x h)

def ObIs (T : Tb) (G : Gh) (H : Hp) : Ob → Addr → Prop
  | .lst ds, a => ∃ xs, H a = some (.lst xs) ∧ IsL T G H ds xs
  | .ins c fs, a => ∃ dx xs, H a = some (.ins (T.ca c) dx ((T.cf c).zip xs)) ∧ xs.length = (T.cf c).length ∧ IsL T G H fs xs
structure Wf (T : Tb) (G : Gh) (H : Hp) (S : Sto) : Prop where
  fm : ∀ a, G.F a → a ∉ G.m
  fs : ∀ a, G.F a → ∃ o, H a = some o ∧ ∀ ps, o ≠ .tbl ps
  len : G.m.length = S.length
  nd : G.m.Nodup
  ob : ∀ (i : Nat) (o : Ob), S[i]? = some o → ∃ a, G.m[i]? = some a ∧ ObIs T G H o a

section
variable {T : Tb} {G G' : Gh} {H H' : Hp} {S : Sto}
theorem Wf.stay (w : Wf T G H S) (k : Kp G H G' H') : ∀ a, G.F a → H' a = H a := fun a h => by
  obtain ⟨o, e, n⟩ := w.fs a h
  rw [e]; exact k.kp a o e (w.fm a h) n
/-- all that Is leans on -/
structure Lean (G : Gh) (H : Hp) (G' : Gh) (H' : Hp) : Prop where
  fr : ∀ a, G.F a → G'.F a
  eq : ∀ a, G.F a → H' a = H a
  st : ∃ l, G'.m = G.m ++ l
theorem Wf.lean (w : Wf T G H S) (k : Kp G H G' H') : Lean G H G' H' := ⟨k.fr, w.stay k, let ⟨l, e, _⟩ := k.st; ⟨l, e⟩⟩
theorem Lean.tup {a : Addr} {xs : List V} (l : Lean G H G' H') (h : TupAt T G H a xs) : TupAt T G' H' a xs :=
  h.imp (fun ⟨f, r⟩ => ⟨l.fr a f, (l.eq a f).trans r⟩) id
theorem Lean.scr {a : Addr} {xs : List V} (l : Lean G H G' H') (h : ScrAt T G H a xs) : ScrAt T G' H' a xs :=
  h.imp (fun ⟨f, r⟩ => ⟨l.fr a f, by unfold Rd; rw [l.eq a f]; exact r⟩) id
mutual
theorem Lean.is (l : Lean G H G' H') : ∀ {d : D} {v : V}, Is T G H d v → Is T G' H' d v
  | .non, _, h => by simpa [Is] using h
  | .bl _, _, h => by simpa [Is] using h
  | .int _, _, h => by simpa [Is] using h
  | .str _, _, h => by simpa [Is] using h
  | .tup ds, v, h => by
    unfold Is at h ⊢
    obtain ⟨a, xs, e, t, r⟩ := h
    exact ⟨a, xs, e, l.tup t, l.isL r⟩
  | .lst ds, v, h => by
    unfold Is at h ⊢
    obtain ⟨a, xs, e, f, t, r⟩ := h
    exact ⟨a, xs, e, l.fr a f, (l.eq a f).trans t, l.isL r⟩
  | .scr ds, v, h => by
    unfold Is at h ⊢
    obtain ⟨a, xs, e, t, r⟩ := h
    exact ⟨a, xs, e, l.scr t, l.isL r⟩
  | .obj c fs, v, h => by
    unfold Is at h ⊢
    obtain ⟨a, dx, xs, e, f, t, z, r⟩ := h
    exact ⟨a, dx, xs, e, l.fr a f, (l.eq a f).trans t, z, l.isL r⟩
  | .ref n, v, h => by
    unfold Is at h ⊢
    obtain ⟨a, e, t⟩ := h
    obtain ⟨k, q⟩ := l.st
    refine ⟨a, ?_, t⟩
    rw [q, List.getElem?_append_left (by rw [List.getElem?_eq_some_iff] at e; exact e.1)]
    exact e
theorem Lean.isL (l : Lean G H G' H') : ∀ {ds : List D} {vs : List V}, IsL T G H ds vs → IsL T G' H' ds vs
  | [], _, h => by simpa [IsL] using h
  | d :: ds, vs, h => by
    unfold IsL at h ⊢
    obtain ⟨x, r, e, h1, h2⟩ := h
    exact ⟨x, r, e, l.is h1, l.isL h2⟩
end
theorem IsL.len : ∀ {ds : List D} {vs : List V}, IsL T G H ds vs → ds.length = vs.length
  | [], _, h => by unfold IsL at h; subst h; rfl
  | d :: ds, vs, h => by
    unfold IsL at h
    obtain ⟨x, r, rfl, _, h2⟩ := h
    simp [IsL.len h2]
theorem IsL.get : ∀ {ds : List D} {vs : List V} {i : Nat} {d : D}, IsL T G H ds vs → ds[i]? = some d → ∃ v, vs[i]? = some v ∧ Is T G H d v
  | [], _, _, _, _, e => by simp at e
  | d :: ds, vs, 0, d', h, e => by
    unfold IsL at h
    obtain ⟨x, r, rfl, h1, _⟩ := h
    simp at e; subst e
    exact ⟨x, by simp, h1⟩
  | d :: ds, vs, i + 1, d', h, e => by
    unfold IsL at h
    obtain ⟨x, r, rfl, _, h2⟩ := h
    obtain ⟨v, h3, h4⟩ := IsL.get (i := i) h2 (by simpa using e)
    exact ⟨v, by simpa using h3, h4⟩
theorem IsL.nil : IsL T G H [] [] := by unfold IsL; rfl
theorem IsL.cons {d : D} {ds : List D} {v : V} {vs : List V} (h : Is T G H d v) (t : IsL T G H ds vs) : IsL T G H (d :: ds) (v :: vs) := by unfold IsL; exact ⟨v, vs, rfl, h, t⟩
theorem IsL.app : ∀ {ds es : List D} {vs ws : List V}, IsL T G H ds vs → IsL T G H es ws → IsL T G H (ds ++ es) (vs ++ ws)
  | [], es, vs, ws, h, k => by unfold IsL at h; subst h; exact k
  | d :: ds, es, vs, ws, h, k => by
    unfold IsL at h
    obtain ⟨x, r, rfl, h1, h2⟩ := h
    exact IsL.cons h1 (IsL.app h2 k)
theorem IsL.take : ∀ (n : Nat) {ds : List D} {vs : List V}, IsL T G H ds vs → IsL T G H (ds.take n) (vs.take n)
  | 0, _, _, _ => IsL.nil
  | n + 1, [], vs, h => by unfold IsL at h; subst h; exact IsL.nil
  | n + 1, d :: ds, vs, h => by
    unfold IsL at h
    obtain ⟨x, r, rfl, h1, h2⟩ := h
    exact IsL.cons h1 (IsL.take n h2)
theorem IsL.drop : ∀ (n : Nat) {ds : List D} {vs : List V}, IsL T G H ds vs → IsL T G H (ds.drop n) (vs.drop n)
  | 0, _, _, h => h
  | n + 1, [], vs, h => by unfold IsL at h; subst h; exact IsL.nil
  | n + 1, d :: ds, vs, h => by
    unfold IsL at h
    obtain ⟨x, r, rfl, h1, h2⟩ := h
    exact IsL.drop n h2
theorem IsL.set {d : D} {v : V} (q : Is T G H d v) : ∀ (i : Nat) {ds : List D} {vs : List V}, IsL T G H ds vs → IsL T G H (ds.set i d) (vs.set i v)
  | _, [], vs, h => by unfold IsL at h; subst h; exact IsL.nil
  | 0, d :: ds, vs, h => by
    unfold IsL at h
    obtain ⟨x, r, rfl, h1, h2⟩ := h
    exact IsL.cons q h2
  | i + 1, d :: ds, vs, h => by
    unfold IsL at h
    obtain ⟨x, r, rfl, h1, h2⟩ := h
    exact IsL.cons h1 (IsL.set q i h2)
end
end LS

set_option Elab.async false
set_option linter.all false
set_option maxRecDepth 100000
namespace LS
open PySem L2

/-! ## 3. judgements -/
def IsX (T : Tb) (G : Gh) (H : Hp) (c : Nat) (fs : List D) (cls : Value) (dx : Option Addr) : Prop :=
  cls = .ref (T.ca c) ∧ ((T.cf c = [] ∧ fs = [] ∧ dx = none) ∨ ∃ a xs, dx = some a ∧ G.F a ∧ H a = some (.xd ((T.cf c).zip xs)) ∧ xs.length = (T.cf c).length ∧ IsL T G H fs xs)
theorem Lean.isX {T : Tb} {G G' : Gh} {H H' : Hp} (l : Lean G H G' H') {c : Nat} {fs : List D} {cls : Value} {dx : Option Addr} (h : IsX T G H c fs cls dx) : IsX T G' H' c fs cls dx := by
  obtain ⟨e, h⟩ := h
  refine ⟨e, h.imp id fun ⟨a, xs, e1, f, t, z, r⟩ => ⟨a, xs, e1, l.fr a f, (l.eq a f).trans t, z, l.isL r⟩⟩

/-- what a result must give -/
def Out {α β : Type} (T : Tb) (W : WX) (σ : St) (G : Gh) (H : Hp) (R : Gh → Hp → α → β → Prop) (Q : β → Hp → Prop) : Res α → Prop
  | .ok a S' => ∀ G' H' b, Kp G H G' H' → Wf T G' H' S' → R G' H' a b → Q b H'
  | .exc c fs S' => ∀ G' H' cls dx, Kp G H G' H' → Wf T G' H' S' → IsX T G' H' c fs cls dx → W cls dx σ H'
  | .div => False
section
variable {α β γ δ : Type} {T : Tb} {W : WX} {σ : St} {G G1 : Gh} {H H1 : Hp} {S S1 : Sto}
theorem Out.shift {R : Gh → Hp → α → β → Prop} {Q : β → Hp → Prop} (k : Kp G H G1 H1) : ∀ {r : Res α}, Out T W σ G H R Q r → Out T W σ G1 H1 R Q r
  | .ok _ _, h => fun G' H' b k' => h G' H' b (k.trans k')
  | .exc _ _ _, h => fun G' H' c d k' => h G' H' c d (k.trans k')
  | .div, h => h
theorem Out.bind {R : Gh → Hp → γ → δ → Prop} {Q : δ → Hp → Prop} {R1 : Gh → Hp → α → β → Prop} {Q1 : β → Hp → Prop} {m : M α} {f : α → M γ} (h : Out T W σ G H R Q (bd m f S))
    (n : ∀ a S' G' H' b, Kp G H G' H' → Wf T G' H' S' → R1 G' H' a b → Out T W σ G' H' R Q (f a S') → Q1 b H') : Out T W σ G H R1 Q1 (m S) := by
  cases e : m S with
  | ok a S' =>
    intro G' H' b k w r
    refine n a S' G' H' b k w r (Out.shift k ?_)
    unfold bd at h
    rw [e] at h
    exact h
  | exc c fs S' =>
    unfold bd at h
    rw [e] at h
    exact h
  | div =>
    unfold bd at h
    rw [e] at h
    exact h
theorem Out.mono {R R1 : Gh → Hp → α → β → Prop} {Q Q1 : β → Hp → Prop} (n : ∀ S' G' H' a b, Wf T G' H' S' → R1 G' H' a b → (R G' H' a b → Q b H') → Q1 b H') : ∀ {r : Res α}, Out T W σ G H R Q r → Out T W σ G H R1 Q1 r
  | .ok a S', h => fun G' H' b k w r => n S' G' H' a b w r (h G' H' b k w)
  | .exc _ _ _, h => h
  | .div, h => h
theorem Out.now {R : Gh → Hp → α → β → Prop} {Q : β → Hp → Prop} {a : α} {b : β} (h : Out T W σ G H R Q (.ok a S)) (w : Wf T G H S) (r : R G H a b) : Q b H := h G H b (Kp.refl _ _) w r
end

def SlIs (T : Tb) (G : Gh) (H : Hp) : Sl → V → Prop
  | .val d, v => Is T G H d v
  | .own ds, v => ∃ a xs, v = .ref a ∧ ¬ G.F a ∧ a ∉ G.m ∧ H a = some (.lst xs) ∧ IsL T G H ds xs
  | .mak c fs, v => ∃ a dx xs, v = .ref a ∧ ¬ G.F a ∧ a ∉ G.m ∧ H a = some (.ins (T.ca c) dx (((T.cf c).take fs.length).zip xs)) ∧ xs.length = fs.length ∧ fs.length ≤ (T.cf c).length ∧ IsL T G H fs xs
def Sl.mine : Sl → Bool
  | .val _ => false
  | _ => true
structure Ag (T : Tb) (G : Gh) (H : Hp) (σ : St) (ρ : Rho) : Prop where
  len : σ.length = ρ.length
  get : ∀ (i : Nat) (sl : Sl), ρ[i]? = some (some sl) → ∃ v, σ[i]? = some (some v) ∧ SlIs T G H sl v
  ap : ∀ (i j : Nat) (s t : Sl) (v : V), i ≠ j → ρ[i]? = some (some s) → ρ[j]? = some (some t) → s.mine = true → t.mine = true → σ[i]? = some (some v) → σ[j]? ≠ some (some v)

section
variable {T : Tb} {G G' : Gh} {H H' : Hp} {S : Sto} {σ : St} {ρ : Rho}
theorem Wf.slIs (w : Wf T G H S) (k : Kp G H G' H') {s : Sl} {v : V} (h : SlIs T G H s v) : SlIs T G' H' s v := by
  have l := w.lean k
  have far : ∀ {a : Addr} {o : HO}, ¬ G.F a → a ∉ G.m → H a = some o → (∀ ps, o ≠ .tbl ps) → ¬ G'.F a ∧ a ∉ G'.m ∧ H' a = some o := fun {a o} h1 h2 h3 h4 => by
    refine ⟨fun q => ?_, fun q => ?_, k.kp a o h3 h2 h4⟩
    · rcases k.new a q with z | z
      · exact h1 z
      · rw [z] at h3; cases h3
    · obtain ⟨r, e, n⟩ := k.st
      rw [e] at q
      rcases List.mem_append.mp q with z | z
      · exact h2 z
      · rw [n a z] at h3; cases h3
  cases s with
  | val d => exact l.is h
  | own ds =>
    obtain ⟨a, xs, e, h1, h2, h3, h4⟩ := h
    obtain ⟨g1, g2, g3⟩ := far h1 h2 h3 (fun _ z => nomatch z)
    exact ⟨a, xs, e, g1, g2, g3, l.isL h4⟩
  | mak c fs =>
    obtain ⟨a, dx, xs, e, h1, h2, h3, h5, h6, h4⟩ := h
    obtain ⟨g1, g2, g3⟩ := far h1 h2 h3 (fun _ z => nomatch z)
    exact ⟨a, dx, xs, e, g1, g2, g3, h5, h6, l.isL h4⟩
theorem Ag.keep (g : Ag T G H σ ρ) (w : Wf T G H S) (k : Kp G H G' H') : Ag T G' H' σ ρ :=
  ⟨g.len, fun i sl e => let ⟨v, h1, h2⟩ := g.get i sl e; ⟨v, h1, w.slIs k h2⟩, g.ap⟩
end

/-- a value, or a list that somebody may change later -/
def IsB (T : Tb) (G : Gh) (H : Hp) (d : D) (v : V) : Prop := Is T G H d v ∨ ∃ ds a xs, d = .lst ds ∧ v = .ref a ∧ a ∉ G.m ∧ H a = some (.lst xs) ∧ IsL T G H ds xs
theorem Wf.isB {T : Tb} {G G' : Gh} {H H' : Hp} {S : Sto} (w : Wf T G H S) (k : Kp G H G' H') {d : D} {v : V} (h : IsB T G H d v) : IsB T G' H' d v := by
  have l := w.lean k
  rcases h with h | ⟨ds, a, xs, e1, e2, h2, h3, h4⟩
  · exact .inl (l.is h)
  · refine .inr ⟨ds, a, xs, e1, e2, fun q => ?_, k.kp a _ h3 h2 (fun _ z => nomatch z), l.isL h4⟩
    obtain ⟨r, e, n⟩ := k.st
    rw [e] at q
    rcases List.mem_append.mp q with z | z
    · exact h2 z
    · rw [n a z] at h3; cases h3

def tX {α β : Type} (T : Tb) (W : WX) (R : Gh → Hp → α → β → Prop) (f : Rho → M α) : St → Hp → (β → Hp → Prop) → Prop := fun σ H Q =>
  ∃ ρ G S, Ag T G H σ ρ ∧ Wf T G H S ∧ Out T W σ G H R Q (f ρ S)
abbrev rIs (T : Tb) : Gh → Hp → D → V → Prop := fun G H d v => Is T G H d v
abbrev rB (T : Tb) : Gh → Hp → D → V → Prop := fun G H d v => IsB T G H d v
/-- a list that nobody else knows -/
def rNew (T : Tb) : Gh → Hp → List D → V → Prop := fun G H ds v => ∃ a xs, v = .ref a ∧ ¬ G.F a ∧ a ∉ G.m ∧ H a = some (.lst xs) ∧ IsL T G H ds xs
abbrev rL (T : Tb) : Gh → Hp → List D → List V → Prop := fun G H ds vs => IsL T G H ds vs
abbrev rEq {α : Type} : Gh → Hp → α → α → Prop := fun _ _ a b => a = b

/-- expressions: a value; a value to be looked at now; a new list (at an address without a thing ahead); tests; arguments -/
structure SE (X : Cx) (T : Tb) (W : WX) (e : Expr) (f : Ev) : Prop where
  pe : PE X e (tX T W (rIs T) f)
structure SB (X : Cx) (T : Tb) (W : WX) (e : Expr) (f : Ev) : Prop where
  pe : PE X e (tX T W (rB T) f)
/-- the new list's address had no thing before -/
def tN (T : Tb) (W : WX) (f : Rho → M (List D)) : TE := fun σ H Q => ∃ ρ G S, Ag T G H σ ρ ∧ Wf T G H S ∧
  match f ρ S with
  | .ok ds S' => ∀ G' H' a, Kp G H G' H' → Wf T G' H' S' → H a = none → ¬ G'.F a → a ∉ G'.m → (∃ xs, H' a = some (.lst xs) ∧ IsL T G' H' ds xs) → Q (.ref a) H'
  | .exc c fs S' => ∀ G' H' cls dx, Kp G H G' H' → Wf T G' H' S' → IsX T G' H' c fs cls dx → W cls dx σ H'
  | .div => False
structure SN (X : Cx) (T : Tb) (W : WX) (e : Expr) (f : Rho → M (List D)) : Prop where
  pe : PE X e (tN T W f)
structure ST (X : Cx) (T : Tb) (W : WX) (e : Expr) (f : Rho → M Bool) : Prop where
  pt : PT X e (tX T W rEq f)
structure SW (X : Cx) (T : Tb) (W : WX) (e : Expr) (f : Rho → M Bool) : Prop where
  pw : PW X e (tX T W rEq f)
structure SA (X : Cx) (T : Tb) (W : WX) (es : List Expr) (f : Rho → M (List D)) : Prop where
  pa : PA X es (tX T W (rL T) f)

theorem pe_imp {X : Cx} {e : Expr} {t u : TE} (h : PE X e t) (i : ∀ σ H Q, u σ H Q → t σ H Q) : PE X e u := ⟨fun pins s σ H Q I q => h.run pins s σ H Q I (i σ H Q q)⟩
theorem pt_imp {X : Cx} {e : Expr} {t u : TT} (h : PT X e t) (i : ∀ σ H Q, u σ H Q → t σ H Q) : PT X e u := ⟨fun pins s σ H Q I q => h.run pins s σ H Q I (i σ H Q q)⟩
theorem pw_imp {X : Cx} {e : Expr} {t u : TT} (h : PW X e t) (i : ∀ σ H Q, u σ H Q → t σ H Q) : PW X e u := ⟨fun w pins s σ H Q I q => h.run w pins s σ H Q I (i σ H Q q)⟩
theorem pa_imp {X : Cx} {es : List Expr} {t u : TA} (h : PA X es t) (i : ∀ σ H Q, u σ H Q → t σ H Q) : PA X es u := ⟨fun pos pins s σ H Q I q => h.run pos pins s σ H Q I (i σ H Q q)⟩
theorem ps_imp {X : Cx} {st : Stmt} {t u : TS} (h : PS X st t) (i : ∀ D σ H, u D σ H → t D σ H) : PS X st u := ⟨fun pins s σ H D I q => h.run pins s σ H D I (i D σ H q)⟩
theorem pss_imp {X : Cx} {st : List Stmt} {t u : TS} (h : PSs X st t) (i : ∀ D σ H, u D σ H → t D σ H) : PSs X st u := ⟨fun pins s σ H D I q => h.run pins s σ H D I (i D σ H q)⟩

section
variable {X : Cx} {T : Tb} {W : WX} {e a b c : Expr} {f fa fb fc : Ev} {pos : Pos}
theorem SE.sb (h : SE X T W e f) : SB X T W e f := ⟨pe_imp h.pe fun σ H Q ⟨ρ, G, S, ag, wf, o⟩ => ⟨ρ, G, S, ag, wf, o.mono fun _ _ _ _ _ _ r k => k (.inl r)⟩⟩
/-! ### names, constants -/
def eVar (i : Nat) : Ev := fun ρ => match ρ[i]? with
  | some (some (.val d)) => ret d
  | _ => dv
/-- to be looked at -/
def eLook (i : Nat) : Ev := fun ρ => match ρ[i]? with
  | some (some (.val d)) => ret d
  | some (some (.own ds)) => ret (.lst ds)
  | _ => dv
def eC (d : D) : Ev := fun _ => ret d
theorem se_var {i : Nat} {x : Str} (hN : X.N[i]? = some x) (hv : Vis X.env.scope x) (hd : (x == ("__debug__" : Str)) = false := by decide) (hcd : (x == ("__classdict__" : Str)) = false := by decide) : SE X T W (.Name x pos) (eVar i) := by
  refine ⟨pe_imp (pe_var hN hv hd hcd) fun σ H Q ⟨ρ, G, S, ag, wf, o⟩ => ?_⟩
  unfold eVar at o
  rcases e : ρ[i]? with _ | _ | sl
  · rw [e] at o; exact o.elim
  · rw [e] at o; exact o.elim
  · rw [e] at o
    obtain ⟨v, h1, h2⟩ := ag.get i _ e
    cases sl with
    | val d => exact ⟨v, h1, o.now wf h2⟩
    | own ds => exact o.elim
    | mak c fs => exact o.elim
theorem sb_look {i : Nat} {x : Str} (hN : X.N[i]? = some x) (hv : Vis X.env.scope x) (hd : (x == ("__debug__" : Str)) = false := by decide) (hcd : (x == ("__classdict__" : Str)) = false := by decide) : SB X T W (.Name x pos) (eLook i) := by
  refine ⟨pe_imp (pe_var hN hv hd hcd) fun σ H Q ⟨ρ, G, S, ag, wf, o⟩ => ?_⟩
  unfold eLook at o
  rcases e : ρ[i]? with _ | _ | sl
  · rw [e] at o; exact o.elim
  · rw [e] at o; exact o.elim
  · rw [e] at o
    obtain ⟨v, h1, h2⟩ := ag.get i _ e
    cases sl with
    | val d => exact ⟨v, h1, o.now wf (.inl h2)⟩
    | own ds =>
      obtain ⟨a, xs, e1, h2, h3, h4, h5⟩ := h2
      exact ⟨v, h1, o.now wf (.inr ⟨ds, a, xs, rfl, e1, h3, h4, h5⟩)⟩
    | mak c fs => exact o.elim
theorem se_c {v : V} {d : D} (h : PE X e (tC v)) (hi : ∀ G H, Is T G H d v) : SE X T W e (eC d) :=
  ⟨pe_imp h fun σ H Q ⟨ρ, G, S, ag, wf, o⟩ => o.now wf (hi G H)⟩
theorem se_int {i : Int} {j : Nat} : SE X T W (.Constant (.int i) j pos) (eC (.int i)) := se_c pe_int fun _ _ => by unfold Is; rfl
theorem se_bl {b : Bool} {j : Nat} : SE X T W (.Constant (.bool b) j pos) (eC (.bl b)) := se_c pe_bl fun _ _ => by unfold Is; rfl
theorem se_non {j : Nat} : SE X T W (.Constant .none j pos) (eC .non) := se_c pe_non fun _ _ => by unfold Is; rfl
theorem se_str {s : Str} {j : Nat} : SE X T W (.Constant (.str s) j pos) (eC (.str s)) := se_c pe_str fun _ _ => by unfold Is; rfl
theorem se_glob {x : Str} {v : V} {u : Value} {d : D} (hg : Gl X x) (hm : X.mg x = some u) (r : RelV v u) (hi : ∀ G H, Is T G H d v) (hd : (x == ("__debug__" : Str)) = false := by decide) : SE X T W (.Name x pos) (eC d) := se_c (pe_glob hg hm r hd) hi

/-! ### operators by values -/
/-- g is right for the library's reading r -/
def OkR (X : Cx) (T : Tb) (W : WX) (g : D → D → M D) (r : R2) : Prop :=
  ∀ (σ : St) (G : Gh) (H : Hp) (S : Sto) (x y : D) (v w : V) (Q : VK), Wf T G H S → IsB T G H x v → IsB T G H y w → Out T W σ G H (rIs T) Q (g x y S) → r v w H Q
def e2 (g : D → D → M D) (fa fb : Ev) : Ev := fun ρ => bd (fa ρ) fun x => bd (fb ρ) fun y => g x y
theorem tOp_of {g : D → D → M D} {r : R2} (ok : OkR X T W g r) (σ : St) (H : Hp) (Q : VK) (h : tX T W (rIs T) (e2 g fa fb) σ H Q) : tOp r (tX T W (rB T) fa) (tX T W (rB T) fb) σ H Q := by
  obtain ⟨ρ, G, S, ag, wf, o⟩ := h
  refine ⟨ρ, G, S, ag, wf, o.bind fun x S1 G1 H1 v k1 w1 i1 o1 => ⟨ρ, G1, S1, ag.keep wf k1, w1, o1.bind fun y S2 G2 H2 w k2 w2 i2 o2 => ?_⟩⟩
  exact ok σ G2 H2 S2 x y v w Q w2 (w1.isB k2 i1) i2 o2
theorem se_op {op : Operator} {g : D → D → M D} {r : R2} (ho : OpR X (binaryOp op) r) (ok : OkR X T W g r) (ha : SB X T W a fa) (hb : SB X T W b fb) : SE X T W (.BinOp a op b pos) (e2 g fa fb) :=
  ⟨pe_imp (pe_op ho ha.pe hb.pe) (tOp_of ok)⟩
theorem se_cmp {op : CmpOp} {g : D → D → M D} {r : R2} (ho : OpR X (compareOp op) r) (ok : OkR X T W g r) (ha : SB X T W a fa) (hb : SB X T W b fb) (hm : behindInMarks op b = false) : SE X T W (.Compare a [op] [b] pos) (e2 g fa fb) :=
  ⟨pe_imp (pe_cmpR ho ha.pe hb.pe hm) (tOp_of ok)⟩
/-- a bool out of a value -/
def blOf : D → M Bool
  | .bl b => ret b
  | _ => dv
def tB2 (g : D → D → M D) (fa fb : Ev) : Rho → M Bool := fun ρ => bd (fa ρ) fun x => bd (fb ρ) fun y => bd (g x y) blOf
theorem Out.bl {σ : St} {G : Gh} {H : Hp} {S : Sto} {Q : Bool → Hp → Prop} {m : M D} (h : Out T W σ G H rEq Q (bd m blOf S)) : Out T W σ G H (rIs T) (fun x H' => ∃ k, x = V.bl k ∧ Q k H') (m S) := by
  refine h.bind (R1 := rIs T) fun x S1 G1 H1 v k1 w1 i1 o1 => ?_
  cases x with
  | bl b =>
    unfold rIs Is at i1
    exact ⟨b, i1, o1.now w1 rfl⟩
  | _ => exact o1.elim
theorem st_cmp {op : CmpOp} {g : D → D → M D} {r : R2} (ho : OpR X (compareOp op) r) (ok : OkR X T W g r) (ha : SB X T W a fa) (hb : SB X T W b fb) (hm : behindInMarks op b = false) : ST X T W (.Compare a [op] [b] pos) (tB2 g fa fb) := by
  refine ⟨pt_imp (pt_cmpR ho ha.pe hb.pe hm) fun σ H Q ⟨ρ, G, S, ag, wf, o⟩ => ?_⟩
  refine ⟨ρ, G, S, ag, wf, o.bind fun x S1 G1 H1 v k1 w1 i1 o1 => ⟨ρ, G1, S1, ag.keep wf k1, w1, o1.bind fun y S2 G2 H2 w k2 w2 i2 o2 => ?_⟩⟩
  exact ok σ G2 H2 S2 x y v w _ w2 (w1.isB k2 i1) i2 o2.bl
/-- one-place operations -/
def OkU (X : Cx) (T : Tb) (W : WX) (g : D → M D) (r : V → Hp → VK → Prop) : Prop :=
  ∀ (σ : St) (G : Gh) (H : Hp) (S : Sto) (x : D) (v : V) (Q : VK), Wf T G H S → IsB T G H x v → Out T W σ G H (rIs T) Q (g x S) → r v H Q
def e1 (g : D → M D) (fa : Ev) : Ev := fun ρ => bd (fa ρ) g
theorem se_un {op : UnaryOp} {g : D → M D} {r : V → Hp → VK → Prop} (ho : UnR X (unaryOp op) r) (ok : OkU X T W g r) (ha : SB X T W a fa) : SE X T W (.UnaryOp op a pos) (e1 g fa) :=
  ⟨pe_imp (pe_un ho ha.pe) fun σ H Q ⟨ρ, G, S, ag, wf, o⟩ => ⟨ρ, G, S, ag, wf, o.bind fun x S1 G1 H1 v k1 w1 i1 o1 => ok σ G1 H1 S1 x v Q w1 i1 o1⟩⟩
/-- a new list is frozen -/
def eN (f : Rho → M (List D)) : Ev := fun ρ => bd (f ρ) fun ds => ret (.lst ds)
def Gh.add (G : Gh) (a : Addr) : Gh := ⟨fun b => G.F b ∨ b = a, G.m⟩
theorem Kp.add {G G' : Gh} {H H' : Hp} {a : Addr} (k : Kp G H G' H') (n : H a = none) : Kp G H (G'.add a) H' :=
  ⟨fun b h => .inl (k.fr b h), fun b h => h.elim (k.new b) fun e => .inr (e ▸ n), k.st, k.kp, k.is⟩
theorem lean_add {G : Gh} {H : Hp} {a : Addr} : Lean G H (G.add a) H := ⟨fun _ h => .inl h, fun _ _ => rfl, ⟨[], by simp [Gh.add]⟩⟩
theorem lean_ob {T : Tb} {G G' : Gh} {H H' : Hp} (l : Lean G H G' H') {o : Ob} {a : Addr} (e : H' a = H a) (h : ObIs T G H o a) : ObIs T G' H' o a := by
  cases o with
  | lst ds => obtain ⟨xs, h1, h2⟩ := h; exact ⟨xs, e.trans h1, l.isL h2⟩
  | ins c fs => obtain ⟨dx, xs, h1, h2, h3⟩ := h; exact ⟨dx, xs, e.trans h1, h2, l.isL h3⟩
theorem Wf.add {T : Tb} {G : Gh} {H : Hp} {S : Sto} {a : Addr} (w : Wf T G H S) (m : a ∉ G.m) {o : HO} (h : H a = some o) (n : ∀ ps, o ≠ .tbl ps) : Wf T (G.add a) H S where
  fm := fun b q => q.elim (w.fm b) fun e => e ▸ m
  fs := fun b q => q.elim (w.fs b) fun e => ⟨o, e ▸ h, n⟩
  len := w.len
  nd := w.nd
  ob := fun i o e => let ⟨b, h1, h2⟩ := w.ob i o e; ⟨b, h1, lean_ob lean_add rfl h2⟩
theorem SN.se {f : Rho → M (List D)} (h : SN X T W e f) : SE X T W e (eN f) := by
  refine ⟨pe_imp h.pe fun σ H Q ⟨ρ, G, S, ag, wf, o⟩ => ⟨ρ, G, S, ag, wf, ?_⟩⟩
  unfold eN bd at o
  cases q : f ρ S with
  | ok ds S' =>
    rw [q] at o
    intro G' H' a k w n nf nm ⟨xs, hx, hi⟩
    refine o (G'.add a) H' (.ref a) (k.add n) (w.add nm hx fun _ z => nomatch z) ?_
    unfold rIs Is
    exact ⟨a, xs, rfl, .inr rfl, hx, lean_add.isL hi⟩
  | exc c fs S' => rw [q] at o; exact o
  | div => rw [q] at o; exact o
end
end LS

set_option Elab.async false
set_option linter.all false
set_option maxRecDepth 100000
set_option maxHeartbeats 1000000
namespace LS
open PySem L2

/-! ## 4. reading off -/
section
variable {T : Tb} {G : Gh} {H : Hp} {S : Sto} {v : V}
theorem is_int (i : Int) : Is T G H (.int i) (.int i) := by unfold Is; rfl
theorem is_bl (b : Bool) : Is T G H (.bl b) (.bl b) := by unfold Is; rfl
theorem is_str (s : Str) : Is T G H (.str s) (.str s) := by unfold Is; rfl
theorem is_non : Is T G H .non .non := by unfold Is; rfl
theorem is_tup {a : Addr} {xs : List V} {ds : List D} (f : G.F a) (h : H a = some (.tup xs)) (r : IsL T G H ds xs) : Is T G H (.tup ds) (.ref a) := by unfold Is; exact ⟨a, xs, rfl, .inl ⟨f, h⟩, r⟩
theorem is_lst {a : Addr} {xs : List V} {ds : List D} (f : G.F a) (h : H a = some (.lst xs)) (r : IsL T G H ds xs) : Is T G H (.lst ds) (.ref a) := by unfold Is; exact ⟨a, xs, rfl, f, h, r⟩
theorem b_int {i : Int} (h : IsB T G H (.int i) v) : v = .int i := by
  rcases h with h | ⟨_, _, _, e, _⟩
  · unfold Is at h; exact h
  · cases e
theorem b_bl {b : Bool} (h : IsB T G H (.bl b) v) : v = .bl b := by
  rcases h with h | ⟨_, _, _, e, _⟩
  · unfold Is at h; exact h
  · cases e
theorem b_str {s : Str} (h : IsB T G H (.str s) v) : v = .str s := by
  rcases h with h | ⟨_, _, _, e, _⟩
  · unfold Is at h; exact h
  · cases e
theorem b_non (h : IsB T G H .non v) : v = .non := by
  rcases h with h | ⟨_, _, _, e, _⟩
  · unfold Is at h; exact h
  · cases e
theorem b_tup {ds : List D} (h : IsB T G H (.tup ds) v) : ∃ a xs, v = .ref a ∧ TupAt T G H a xs ∧ IsL T G H ds xs := by
  rcases h with h | ⟨_, _, _, e, _⟩
  · unfold Is at h; exact h
  · cases e
theorem b_lst {ds : List D} (w : Wf T G H S) (h : IsB T G H (.lst ds) v) : ∃ a xs, v = .ref a ∧ a ∉ G.m ∧ H a = some (.lst xs) ∧ IsL T G H ds xs := by
  rcases h with h | ⟨ds', a, xs, e, e2, h2, h3, h4⟩
  · unfold Is at h
    obtain ⟨a, xs, e, f, h, r⟩ := h
    exact ⟨a, xs, e, w.fm a f, h, r⟩
  · cases e
    exact ⟨a, xs, e2, h2, h3, h4⟩
theorem b_scr {ds : List D} (h : IsB T G H (.scr ds) v) : ∃ a xs, v = .ref a ∧ ScrAt T G H a xs ∧ IsL T G H ds xs := by
  rcases h with h | ⟨_, _, _, e, _⟩
  · unfold Is at h; exact h
  · cases e
theorem b_ref {n : Nat} (h : IsB T G H (.ref n) v) : ∃ a, G.m[n]? = some a ∧ v = .ref a := by
  rcases h with h | ⟨_, _, _, e, _⟩
  · unfold Is at h; exact h
  · cases e
theorem b_is {d : D} (n : ∀ ds, d ≠ .lst ds) (h : IsB T G H d v) : Is T G H d v := by
  rcases h with h | ⟨ds, _, _, e, _⟩
  · exact h
  · exact absurd e (n ds)
/-- a new thing is laid: frozen, or not -/
theorem Wf.nom (w : Wf T G H S) {p : Addr} (n : H p = none) : p ∉ G.m := fun hm => by
  obtain ⟨i, hi⟩ := List.mem_iff_getElem?.mp hm
  have hl : i < S.length := by rw [← w.len]; exact (List.getElem?_eq_some_iff.mp hi).1
  obtain ⟨b, e1, e2⟩ := w.ob i S[i] (List.getElem?_eq_getElem hl)
  rw [hi] at e1
  cases e1
  generalize S[i] = o at e2
  cases o with
  | lst ds => obtain ⟨xs, z, _⟩ := e2; rw [n] at z; cases z
  | ins c fs => obtain ⟨dx, xs, z, _⟩ := e2; rw [n] at z; cases z
theorem Wf.nof (w : Wf T G H S) {p : Addr} (n : H p = none) : ¬ G.F p := fun f => by
  obtain ⟨o, e, _⟩ := w.fs p f
  rw [n] at e; cases e
theorem kp_upd {p : Addr} {o : HO} (n : H p = none) : Kp G H G (upd H p o) where
  fr := fun _ h => h
  new := fun _ h => .inl h
  st := ⟨[], by simp, fun _ h => nomatch h⟩
  kp := fun a u h _ _ => by rw [upd_ne (ne_of_none h n)]; exact h
  is := fun a h => by
    by_cases e : a = p
    · rw [e, upd_same]; exact nofun
    · rw [upd_ne e]; exact h
theorem lean_upd (w : Wf T G H S) {p : Addr} {o : HO} (n : H p = none) : Lean G H G (upd H p o) := w.lean (kp_upd n)
theorem Wf.upd (w : Wf T G H S) {p : Addr} {o : HO} (n : H p = none) : Wf T G (upd H p o) S where
  fm := w.fm
  fs := fun a f => let ⟨u, e, z⟩ := w.fs a f; ⟨u, by rw [upd_ne (ne_of_none e n)]; exact e, z⟩
  len := w.len
  nd := w.nd
  ob := fun i u e => by
    obtain ⟨a, h1, h2⟩ := w.ob i u e
    refine ⟨a, h1, lean_ob (lean_upd w n) ?_ h2⟩
    rw [upd_ne]
    rintro rfl
    exact w.nom n (List.mem_of_getElem? h1)
theorem Wf.lay (w : Wf T G H S) {p : Addr} {o : HO} (n : H p = none) (nt : ∀ ps, o ≠ .tbl ps) : Kp G H (G.add p) (L2.upd H p o) ∧ Wf T (G.add p) (L2.upd H p o) S ∧ Lean G H (G.add p) (L2.upd H p o) := by
  have k := (kp_upd (G := G) (o := o) n).add n
  exact ⟨k, (w.upd n).add (w.nom n) upd_same nt, w.lean k⟩
end
section
variable {T : Tb} {W : WX} {σ : St} {G : Gh} {H : Hp} {S : Sto} {Q : VK}
/-- a new tuple, a new list as a value -/
theorem Out.tup {ds : List D} {xs : List V} {p : Addr} (o : Out T W σ G H (rIs T) Q (ret (.tup ds) S)) (w : Wf T G H S) (r : IsL T G H ds xs) (n : H p = none) : Q (.ref p) (upd H p (.tup xs)) := by
  obtain ⟨k, w', l⟩ := w.lay (o := .tup xs) n (fun _ z => nomatch z)
  exact o _ _ _ k w' (is_tup (.inr rfl) upd_same (l.isL r))
theorem Out.lst {ds : List D} {xs : List V} {p : Addr} (o : Out T W σ G H (rIs T) Q (ret (.lst ds) S)) (w : Wf T G H S) (r : IsL T G H ds xs) (n : H p = none) : Q (.ref p) (upd H p (.lst xs)) := by
  obtain ⟨k, w', l⟩ := w.lay (o := .lst xs) n (fun _ z => nomatch z)
  exact o _ _ _ k w' (is_lst (.inr rfl) upd_same (l.isL r))
end

/-! ## 5. operators -/
def two (P : Bool) (d : D) : M D := if P = true then ret d else dv
theorem two_o {T : Tb} {W : WX} {σ : St} {G : Gh} {H : Hp} {S : Sto} {Q : VK} {P : Bool} {d : D} (o : Out T W σ G H (rIs T) Q (two P d S)) : P = true ∧ Out T W σ G H (rIs T) Q (ret d S) := by
  cases P with
  | true => exact ⟨rfl, o⟩
  | false => exact o.elim
def addD : D → D → M D
  | .int i, .int j => ret (.int (i + j))
  | .str x, .str y => two (decide (x.length + y.length ≤ sizeLine)) (.str (x ++ y))
  | .tup xs, .tup ys => two (!xs.isEmpty && decide (xs.length + ys.length ≤ sizeLine)) (.tup (xs ++ ys))
  | .lst xs, .lst ys => two (decide (xs.length + ys.length ≤ sizeLine)) (.lst (xs ++ ys))
  | _, _ => dv
def subD : D → D → M D
  | .int i, .int j => ret (.int (i - j))
  | _, _ => dv
def mulD : D → D → M D
  | .int i, .int j => two (decide (i.natAbs.log2 + j.natAbs.log2 < 1000000)) (.int (i * j))
  | .lst xs, .int k => two (decide (-(2 ^ 63) ≤ k ∧ k < 2 ^ 63 ∧ xs.length * k.toNat ≤ sizeLine)) (.lst (List.replicate k.toNat xs).flatten)
  | _, _ => dv
def fdivD : D → D → M D
  | .int i, .int j => two (decide (j ≠ 0 ∧ j.natAbs.log2 < 9000)) (.int (i.fdiv j))
  | _, _ => dv
def modD : D → D → M D
  | .int i, .int j => two (decide (j ≠ 0)) (.int (i.fmod j))
  | _, _ => dv
def powD : D → D → M D
  | .int i, .int j => two (decide (0 ≤ j ∧ j ≤ 1000000 ∧ i.natAbs < 2 ^ 64)) (.int (i ^ j.toNat))
  | _, _ => dv
def negD : D → M D
  | .int i => ret (.int (-i))
  | _ => dv
def ltD : D → D → M D
  | .int i, .int j => ret (.bl (decide (i < j)))
  | _, _ => dv
def leD : D → D → M D
  | .int i, .int j => ret (.bl (decide (i ≤ j)))
  | _, _ => dv
def gtD : D → D → M D
  | .int i, .int j => ret (.bl (decide (j < i)))
  | _, _ => dv
def geD : D → D → M D
  | .int i, .int j => ret (.bl (decide (j ≤ i)))
  | _, _ => dv
mutual
def toPy : D → Option PyData
  | .non => some .none
  | .bl b => some (.bool b)
  | .int i => some (.int i)
  | .str s => some (.str s)
  | .tup xs => (toPys xs).map .tuple
  | .lst xs => (toPys xs).map .list
  | .scr xs => (toPys xs).map .list
  | .obj _ _ => none
  | .ref _ => none
def toPys : List D → Option (List PyData)
  | [] => some []
  | d :: ds => match toPy d, toPys ds with
    | some p, some ps => some (p :: ps)
    | _, _ => none
end
def eqP (x y : D) : Option Bool := match toPy x, toPy y with
  | some d, some e => if SeqAt.shaped d && SeqAt.shaped e then some (PyData.eqv d e) else none
  | _, _ => none
/-- ==, where data alone is compared -/
def eqO : D → D → Option Bool
  | .int i, .int j => some (i == j)
  | .str x, .str y => some (x == y)
  | .bl a, .bl b => some (a == b)
  | .non, .non => some true
  | .non, .int _ => some false
  | .int _, .non => some false
  | .non, .str _ => some false
  | .str _, .non => some false
  | .int _, .str _ => some false
  | .str _, .int _ => some false
  | x, y => eqP x y
def blO : Option Bool → M D
  | some b => ret (.bl b)
  | none => dv
def eqD (x y : D) : M D := blO (eqO x y)
def neD (x y : D) : M D := blO ((eqO x y).map (!·))
def D.isN : D → Bool
  | .non => true
  | _ => false
def isNoneD (x y : D) : M D := match y with
  | .non => ret (.bl x.isN)
  | _ => dv
def isntNoneD (x y : D) : M D := match y with
  | .non => ret (.bl (!x.isN))
  | _ => dv

section
variable {X : Cx} {T : Tb} {W : WX}
def rPlus (K : PySem.W.Frag) : R2 := fun x y H Q => rI0 (fun i j => .int (i + j)) x y H Q ∨ (∃ i j, x = .str i ∧ y = .str j ∧ i.length + j.length ≤ sizeLine ∧ Q (.str (i ++ j)) H) ∨ rCatT K x y H Q ∨ rCat x y H Q
theorem op_plus : OpR X (binaryOp .Add) (rPlus X.K) := op_add.or (op_add_str.or (op_catT.or op_cat))
theorem IsL.nilV {G : Gh} {H : Hp} {ds : List D} {vs : List V} (h : IsL T G H ds vs) : vs = [] ↔ ds = [] := by
  have e := h.len
  constructor
  · intro z; subst z; exact List.length_eq_zero_iff.mp (by simpa using e)
  · intro z; subst z; exact List.length_eq_zero_iff.mp (by simpa using e.symm)
theorem ok_add (hT : T.K = X.K := by rfl) : OkR X T W addD (rPlus X.K) := by
  intro σ G H S x y v w Q wf hx hy o
  cases x <;> cases y <;> try exact o.elim
  case int.int i j =>
    cases b_int hx; cases b_int hy
    exact .inl ⟨i, j, rfl, rfl, o.now wf (is_int _)⟩
  case str.str i j =>
    cases b_str hx; cases b_str hy
    obtain ⟨c, o⟩ := two_o o
    exact .inr (.inl ⟨i, j, rfl, rfl, of_decide_eq_true c, o.now wf (is_str _)⟩)
  case tup.tup xs ys =>
    obtain ⟨a, us, rfl, ta, ra⟩ := b_tup hx
    obtain ⟨b, ws, rfl, tb, rb⟩ := b_tup hy
    obtain ⟨c, o⟩ := two_o o
    rw [Bool.and_eq_true] at c
    have ne : us ≠ [] := fun z => by
      have := ra.nilV.mp z
      subst this
      exact absurd c.1 (by simp)
    have hz : us.length + ws.length ≤ sizeLine := by rw [← ra.len, ← rb.len]; exact of_decide_eq_true c.2
    refine .inr (.inr (.inl ⟨a, b, us, ws, rfl, rfl, hT ▸ ta.sq, hT ▸ tb.sq, ne, hz, ?_, ?_⟩))
    · intro z
      subst z
      have := rb.nilV.mp rfl
      subst this
      rw [List.append_nil] at o
      exact o.now wf (b_is (fun _ z => nomatch z) hx)
    · intro _ p n
      exact o.tup wf (ra.app rb) n
  case lst.lst xs ys =>
    obtain ⟨a, us, rfl, _, ta, ra⟩ := b_lst wf hx
    obtain ⟨b, ws, rfl, _, tb, rb⟩ := b_lst wf hy
    obtain ⟨c, o⟩ := two_o o
    exact .inr (.inr (.inr ⟨a, b, us, ws, rfl, rfl, ta, tb, by rw [← ra.len, ← rb.len]; exact of_decide_eq_true c, fun p n => o.lst wf (ra.app rb) n⟩))
theorem ok_int2 {g : D → D → M D} {C : Int → Int → Prop} {k : Int → Int → Int} (hg : ∀ (x y : D) (S : Sto), (∃ i j, x = .int i ∧ y = .int j ∧ C i j ∧ g x y S = .ok (.int (k i j)) S) ∨ g x y S = .div) : OkR X T W g (rI C fun i j => .int (k i j)) := by
  intro σ G H S x y v w Q wf hx hy o
  rcases hg x y S with ⟨i, j, rfl, rfl, c, e⟩ | e
  · rw [e] at o
    cases b_int hx; cases b_int hy
    exact ⟨i, j, rfl, rfl, c, o.now wf (is_int _)⟩
  · rw [e] at o; exact o.elim
theorem ok_intB {g : D → D → M D} {k : Int → Int → Bool} (hg : ∀ (x y : D) (S : Sto), (∃ i j, x = .int i ∧ y = .int j ∧ g x y S = .ok (.bl (k i j)) S) ∨ g x y S = .div) : OkR X T W g (rI0 fun i j => .bl (k i j)) := by
  intro σ G H S x y v w Q wf hx hy o
  rcases hg x y S with ⟨i, j, rfl, rfl, e⟩ | e
  · rw [e] at o
    cases b_int hx; cases b_int hy
    exact ⟨i, j, rfl, rfl, o.now wf (is_bl _)⟩
  · rw [e] at o; exact o.elim
theorem ok_sub : OkR X T W subD (rI (fun _ _ => True) fun i j => .int (i - j)) := ok_int2 fun x y S => by
  cases x <;> cases y <;> first | exact .inr rfl | exact .inl ⟨_, _, rfl, rfl, trivial, rfl⟩
theorem op_sub' : OpR X (binaryOp .Sub) (rI (fun _ _ => True) fun i j => .int (i - j)) := fun pins s σ H x y v u Q I rx ry h => by
  obtain ⟨i, j, e1, e2, _, q⟩ := h
  exact op_sub pins s σ H x y v u Q I rx ry ⟨i, j, e1, e2, q⟩
theorem two_eq (P : Bool) (d : D) (S : Sto) : (P = true ∧ two P d S = .ok d S) ∨ two P d S = .div := by
  cases P with
  | true => exact .inl ⟨rfl, rfl⟩
  | false => exact .inr rfl
theorem op_fdivA : OpR X (binaryOp .FloorDiv) (rI (fun _ j => j ≠ 0 ∧ j.natAbs.log2 < 9000) fun i j => .int (i.fdiv j)) := opI fun i j _ _ _ _ _ hc q => PyProof.Rows.floordiv_int hc.1 q (.inl (PyProof.noPylong_of_log2 hc.2))
theorem ok_fdiv : OkR X T W fdivD (rI (fun _ j => j ≠ 0 ∧ j.natAbs.log2 < 9000) fun i j => .int (i.fdiv j)) := ok_int2 fun x y S => by
  cases x <;> cases y <;> try exact .inr rfl
  case int.int i j => exact (two_eq _ _ S).imp (fun ⟨c, e⟩ => ⟨i, j, rfl, rfl, of_decide_eq_true c, e⟩) id
theorem ok_mod : OkR X T W modD (rI (fun _ j => j ≠ 0) fun i j => .int (i.fmod j)) := ok_int2 fun x y S => by
  cases x <;> cases y <;> try exact .inr rfl
  case int.int i j => exact (two_eq _ _ S).imp (fun ⟨c, e⟩ => ⟨i, j, rfl, rfl, of_decide_eq_true c, e⟩) id
theorem ok_pow : OkR X T W powD (rI CPow fun i j => .int (i ^ j.toNat)) := ok_int2 fun x y S => by
  cases x <;> cases y <;> try exact .inr rfl
  case int.int i j => exact (two_eq _ _ S).imp (fun ⟨c, e⟩ => ⟨i, j, rfl, rfl, (by have z := of_decide_eq_true c; exact z), e⟩) id
theorem op_times : OpR X (binaryOp .Mult) (fun x y H Q => rI CMulW (fun i j => .int (i * j)) x y H Q ∨ rRep x y H Q) := op_mulW.or op_rep
theorem isL_rep {G : Gh} {H : Hp} {ds : List D} {vs : List V} (h : IsL T G H ds vs) : ∀ n : Nat, IsL T G H (List.replicate n ds).flatten (List.replicate n vs).flatten
  | 0 => IsL.nil
  | n + 1 => by
    rw [List.replicate_succ, List.replicate_succ, List.flatten_cons, List.flatten_cons]
    exact h.app (isL_rep h n)
theorem ok_mul : OkR X T W mulD (fun x y H Q => rI CMulW (fun i j => .int (i * j)) x y H Q ∨ rRep x y H Q) := by
  intro σ G H S x y v w Q wf hx hy o
  cases x <;> cases y <;> try exact o.elim
  case int.int i j =>
    cases b_int hx; cases b_int hy
    obtain ⟨c, o⟩ := two_o o
    exact .inl ⟨i, j, rfl, rfl, (by have z := of_decide_eq_true c; exact z), o.now wf (is_int _)⟩
  case lst.int xs k =>
    obtain ⟨a, us, rfl, _, ta, ra⟩ := b_lst wf hx
    cases b_int hy
    obtain ⟨c, o⟩ := two_o o
    obtain ⟨c1, c2, c3⟩ := of_decide_eq_true c
    exact .inr ⟨a, k, us, rfl, rfl, ta, c1, c2, by rw [← ra.len]; exact c3, fun p n => o.lst wf (isL_rep ra _) n⟩
theorem ok_neg : OkU X T W negD (rU fun i => .int (-i)) := by
  intro σ G H S x v Q wf hx o
  cases x <;> try exact o.elim
  case int i =>
    cases b_int hx
    exact ⟨i, rfl, o.now wf (is_int _)⟩
theorem ok_lt : OkR X T W ltD (rI0 fun i j => .bl (decide (i < j))) := ok_intB fun x y S => by
  cases x <;> cases y <;> first | exact .inr rfl | exact .inl ⟨_, _, rfl, rfl, rfl⟩
theorem ok_le : OkR X T W leD (rI0 fun i j => .bl (decide (i ≤ j))) := ok_intB fun x y S => by
  cases x <;> cases y <;> first | exact .inr rfl | exact .inl ⟨_, _, rfl, rfl, rfl⟩
theorem ok_gt : OkR X T W gtD (rI0 fun i j => .bl (decide (j < i))) := ok_intB fun x y S => by
  cases x <;> cases y <;> first | exact .inr rfl | exact .inl ⟨_, _, rfl, rfl, rfl⟩
theorem ok_ge : OkR X T W geD (rI0 fun i j => .bl (decide (j ≤ i))) := ok_intB fun x y S => by
  cases x <;> cases y <;> first | exact .inr rfl | exact .inl ⟨_, _, rfl, rfl, rfl⟩

/-! ### == of data -/
mutual
theorem is_dp {G : Gh} {H : Hp} : ∀ (d : D) (p : PyData) (v : V), toPy d = some p → Is T G H d v → Dp T.K H v p
  | .non, p, v, e, h => by unfold toPy at e; cases e; unfold Is at h; subst h; exact .non
  | .bl b, p, v, e, h => by unfold toPy at e; cases e; unfold Is at h; subst h; exact .bl b
  | .int i, p, v, e, h => by unfold toPy at e; cases e; unfold Is at h; subst h; exact .int i
  | .str s, p, v, e, h => by unfold toPy at e; cases e; unfold Is at h; subst h; exact .str s
  | .tup xs, p, v, e, h => by
    unfold toPy at e
    obtain ⟨ps, e1, rfl⟩ := Option.map_eq_some_iff.mp e
    unfold Is at h
    obtain ⟨a, us, rfl, t, r⟩ := h
    exact .tup t.sq (isL_dp xs ps us e1 r)
  | .lst xs, p, v, e, h => by
    unfold toPy at e
    obtain ⟨ps, e1, rfl⟩ := Option.map_eq_some_iff.mp e
    unfold Is at h
    obtain ⟨a, us, rfl, f, t, r⟩ := h
    exact .lst (SqL.of t) (isL_dp xs ps us e1 r)
  | .scr xs, p, v, e, h => by
    unfold toPy at e
    obtain ⟨ps, e1, rfl⟩ := Option.map_eq_some_iff.mp e
    unfold Is at h
    obtain ⟨a, us, rfl, t, r⟩ := h
    exact .lst t.sq (isL_dp xs ps us e1 r)
  | .obj _ _, p, v, e, h => by unfold toPy at e; cases e
  | .ref _, p, v, e, h => by unfold toPy at e; cases e
theorem isL_dp {G : Gh} {H : Hp} : ∀ (ds : List D) (ps : List PyData) (vs : List V), toPys ds = some ps → IsL T G H ds vs → DpAll T.K H vs ps
  | [], ps, vs, e, h => by unfold toPys at e; cases e; unfold IsL at h; subst h; exact .nil
  | d :: ds, ps, vs, e, h => by
    unfold toPys at e
    unfold IsL at h
    obtain ⟨x, r, rfl, h1, h2⟩ := h
    cases e1 : toPy d with
    | none => rw [e1] at e; cases e
    | some p =>
      cases e2 : toPys ds with
      | none => rw [e1, e2] at e; cases e
      | some qs =>
        rw [e1, e2] at e
        cases e
        exact .cons (is_dp d p x e1 h1) (isL_dp ds qs r e2 h2)
end
theorem isB_dp {G : Gh} {H : Hp} {d : D} {p : PyData} {v : V} (e : toPy d = some p) (h : IsB T G H d v) : Dp T.K H v p := by
  rcases h with h | ⟨ds, a, xs, rfl, rfl, _, h3, h4⟩
  · exact is_dp d p v e h
  · unfold toPy at e
    obtain ⟨ps, e1, rfl⟩ := Option.map_eq_some_iff.mp e
    exact .lst (SqL.of h3) (isL_dp ds ps xs e1 h4)
theorem eqP_some {x y : D} {b : Bool} (h : eqP x y = some b) : ∃ d e, toPy x = some d ∧ toPy y = some e ∧ SeqAt.shaped d = true ∧ SeqAt.shaped e = true ∧ b = PyData.eqv d e := by
  unfold eqP at h
  cases e1 : toPy x with
  | none => rw [e1] at h; cases h
  | some d =>
    cases e2 : toPy y with
    | none => rw [e1, e2] at h; cases h
    | some e =>
      rw [e1, e2] at h
      dsimp only at h
      by_cases c : (SeqAt.shaped d && SeqAt.shaped e) = true
      · rw [if_pos c] at h
        rw [Bool.and_eq_true] at c
        exact ⟨d, e, rfl, rfl, c.1, c.2, (Option.some.inj h).symm⟩
      · rw [if_neg c] at h; cases h
theorem eqO_cases (x y : D) (b : Bool) (h : eqO x y = some b) : eqP x y = some b ∨ ∃ v w : V, (∀ (G : Gh) (H : Hp) (v' w' : V), IsB T G H x v' → IsB T G H y w' → v' = v ∧ w' = w) ∧ scal v w = true ∧ b = decide (v = w) := by
  cases x <;> cases y <;> first
    | exact .inl h
    | (refine .inr ⟨_, _, fun G H v' w' h1 h2 => ⟨b_int h1, b_int h2⟩, rfl, ?_⟩; rw [← Option.some.inj h]; exact dec_int.symm)
    | (refine .inr ⟨_, _, fun G H v' w' h1 h2 => ⟨b_str h1, b_str h2⟩, rfl, ?_⟩; rw [← Option.some.inj h]; exact dec_str.symm)
    | (refine .inr ⟨_, _, fun G H v' w' h1 h2 => ⟨b_bl h1, b_bl h2⟩, rfl, ?_⟩; rw [← Option.some.inj h]; exact dec_bl.symm)
    | (refine .inr ⟨_, _, fun G H v' w' h1 h2 => ⟨b_non h1, b_non h2⟩, rfl, ?_⟩; rw [← Option.some.inj h]; simp; done)
    | (refine .inr ⟨_, _, fun G H v' w' h1 h2 => ⟨b_non h1, b_int h2⟩, rfl, ?_⟩; rw [← Option.some.inj h]; simp; done)
    | (refine .inr ⟨_, _, fun G H v' w' h1 h2 => ⟨b_int h1, b_non h2⟩, rfl, ?_⟩; rw [← Option.some.inj h]; simp; done)
    | (refine .inr ⟨_, _, fun G H v' w' h1 h2 => ⟨b_non h1, b_str h2⟩, rfl, ?_⟩; rw [← Option.some.inj h]; simp; done)
    | (refine .inr ⟨_, _, fun G H v' w' h1 h2 => ⟨b_str h1, b_non h2⟩, rfl, ?_⟩; rw [← Option.some.inj h]; simp; done)
    | (refine .inr ⟨_, _, fun G H v' w' h1 h2 => ⟨b_int h1, b_str h2⟩, rfl, ?_⟩; rw [← Option.some.inj h]; simp; done)
    | (refine .inr ⟨_, _, fun G H v' w' h1 h2 => ⟨b_str h1, b_int h2⟩, rfl, ?_⟩; rw [← Option.some.inj h]; simp; done)
theorem op_eqA (hu : X.A.units + 64 < cLine) : OpR X (compareOp .Eq) (fun x y H Q => L2.rEq x y H Q ∨ rEqD X.K x y H Q) := op_eq.or (op_eqD hu)
theorem op_neA (hu : X.A.units + 64 < cLine) : OpR X (compareOp .NotEq) (fun x y H Q => rNe x y H Q ∨ rNeD X.K x y H Q) := op_ne.or (op_neD hu)
theorem ok_eq (hT : T.K = X.K := by rfl) : OkR X T W eqD (fun x y H Q => L2.rEq x y H Q ∨ rEqD X.K x y H Q) := by
  intro σ G H S x y v w Q wf hx hy o
  unfold eqD at o
  cases e : eqO x y with
  | none => rw [e] at o; exact o.elim
  | some b =>
    rw [e] at o
    rcases eqO_cases (T := T) x y b e with e | ⟨v', w', h1, h2, rfl⟩
    · obtain ⟨d, p, e1, e2, s1, s2, rfl⟩ := eqP_some e
      exact .inr ⟨d, p, hT ▸ isB_dp e1 hx, hT ▸ isB_dp e2 hy, s1, s2, o.now wf (is_bl _)⟩
    · obtain ⟨rfl, rfl⟩ := h1 G H v w hx hy
      exact .inl ⟨h2, o.now wf (is_bl _)⟩
theorem ok_ne (hT : T.K = X.K := by rfl) : OkR X T W neD (fun x y H Q => rNe x y H Q ∨ rNeD X.K x y H Q) := by
  intro σ G H S x y v w Q wf hx hy o
  unfold neD at o
  cases e : eqO x y with
  | none => rw [e] at o; exact o.elim
  | some b =>
    rw [e] at o
    rcases eqO_cases (T := T) x y b e with e | ⟨v', w', h1, h2, rfl⟩
    · obtain ⟨d, p, e1, e2, s1, s2, rfl⟩ := eqP_some e
      exact .inr ⟨d, p, hT ▸ isB_dp e1 hx, hT ▸ isB_dp e2 hy, s1, s2, o.now wf (is_bl _)⟩
    · obtain ⟨rfl, rfl⟩ := h1 G H v w hx hy
      exact .inl ⟨h2, o.now wf (is_bl _)⟩
theorem isN_dec {G : Gh} {H : Hp} {x : D} {v : V} (h : IsB T G H x v) : decide (v = V.non) = x.isN := by
  cases x with
  | non => rw [b_non h]; rfl
  | bl b => rw [b_bl h]; rfl
  | int i => rw [b_int h]; rfl
  | str i => rw [b_str h]; rfl
  | tup ds => obtain ⟨a, xs, rfl, _⟩ := b_tup h; rfl
  | scr ds => obtain ⟨a, xs, rfl, _⟩ := b_scr h; rfl
  | ref n => obtain ⟨a, _, rfl⟩ := b_ref h; rfl
  | lst ds =>
    rcases h with h | ⟨_, a, xs, _, rfl, _⟩
    · unfold Is at h; obtain ⟨a, xs, rfl, _⟩ := h; rfl
    · rfl
  | obj c fs =>
    have h := b_is (fun ds z => by cases z) h
    unfold Is at h; obtain ⟨a, _, xs, rfl, _⟩ := h; rfl
theorem ok_isN : OkR X T W isNoneD (fun x y H Q => y = .non ∧ Q (.bl (decide (x = .non))) H) := by
  intro σ G H S x y v w Q wf hx hy o
  cases y <;> try exact o.elim
  refine ⟨b_non hy, ?_⟩
  rw [isN_dec hx]
  exact o.now wf (is_bl _)
theorem ok_isntN : OkR X T W isntNoneD (fun x y H Q => y = .non ∧ Q (.bl (!decide (x = .non))) H) := by
  intro σ G H S x y v w Q wf hx hy o
  cases y <;> try exact o.elim
  refine ⟨b_non hy, ?_⟩
  rw [isN_dec hx]
  exact o.now wf (is_bl _)
end
end LS

set_option Elab.async false
set_option linter.all false
set_option maxRecDepth 100000
set_option maxHeartbeats 1000000
namespace LS
open PySem L2

section
variable {X : Cx} {T : Tb} {W : WX} {e a b c : Expr} {f fa fb fc : Ev} {pos : Pos} {rest : List Expr}

/-! ## 6. tests -/
def truD (d : D) (S : Sto) : Option Bool := match d with
  | .non => some false
  | .bl b => some b
  | .int i => some (i != 0)
  | .str s => if s.length ≤ sizeLine then some ((s.length : Int) != 0) else none
  | .tup xs => some (!xs.isEmpty)
  | .lst xs => some (!xs.isEmpty)
  | .scr xs => some (!xs.isEmpty)
  | .ref n => match S[n]? with
    | some (.lst xs) => some (!xs.isEmpty)
    | _ => none
  | .obj _ _ => none
def truM (d : D) : M Bool := fun S => match truD d S with
  | some b => .ok b S
  | none => .div
def tT (f : Ev) : Rho → M Bool := fun ρ => bd (f ρ) truM
theorem isE {G : Gh} {H : Hp} {ds : List D} {vs : List V} (h : IsL T G H ds vs) : ds.isEmpty = vs.isEmpty := by
  have := h.len
  cases ds <;> cases vs <;> simp_all
theorem truV_of (hT : T.K = X.K) {G : Gh} {H : Hp} {S : Sto} {d : D} {v : V} {k : Bool} (wf : Wf T G H S) (h : IsB T G H d v) (e : truD d S = some k) : TruV X.K v H k := by
  cases d with
  | non => cases b_non h; exact (Option.some.inj e).symm
  | bl b => cases b_bl h; exact (Option.some.inj e).symm
  | int i => cases b_int h; exact (Option.some.inj e).symm
  | str s =>
    cases b_str h
    unfold truD at e
    dsimp only at e
    by_cases c : s.length ≤ sizeLine
    · rw [if_pos c] at e; exact ⟨c, (Option.some.inj e).symm⟩
    · rw [if_neg c] at e; cases e
  | tup xs =>
    obtain ⟨a, us, rfl, t, r⟩ := b_tup h
    exact .inr (.inl ⟨us, hT ▸ t.sq, by rw [← isE r]; exact (Option.some.inj e).symm⟩)
  | lst xs =>
    obtain ⟨a, us, rfl, _, t, r⟩ := b_lst wf h
    exact .inl ⟨us, SqL.of t, by rw [← isE r]; exact (Option.some.inj e).symm⟩
  | scr xs =>
    obtain ⟨a, us, rfl, t, r⟩ := b_scr h
    exact .inl ⟨us, hT ▸ t.sq, by rw [← isE r]; exact (Option.some.inj e).symm⟩
  | ref n =>
    obtain ⟨a, hm, rfl⟩ := b_ref h
    unfold truD at e
    dsimp only at e
    rcases q : S[n]? with _ | ob
    · rw [q] at e; cases e
    · rw [q] at e
      obtain ⟨a', h1, h2⟩ := wf.ob n ob q
      rw [hm] at h1
      cases h1
      cases ob with
      | lst xs =>
        obtain ⟨us, t, r⟩ := h2
        exact .inl ⟨us, SqL.of t, by rw [← isE r]; exact (Option.some.inj e).symm⟩
      | ins c fs => cases e
  | obj c fs => cases e
theorem st_tru (ha : SB X T W a fa) (he : ∀ whole, isTrue a X.env whole = (do let v ← whole; standAt a.pos; holding [v] (truthy v)) := by intro _; rfl) (hT : T.K = X.K := by rfl) : ST X T W a (tT fa) := by
  refine ⟨pt_imp (pt_truth ha.pe he) fun σ H Q ⟨ρ, G, S, ag, wf, o⟩ => ⟨ρ, G, S, ag, wf, o.bind fun x S1 G1 H1 v k1 w1 i1 o1 => ?_⟩⟩
  unfold truM at o1
  cases e : truD x S1 with
  | none => rw [e] at o1; exact o1.elim
  | some k => rw [e] at o1; exact ⟨k, truV_of hT w1 i1 e, o1.now w1 rfl⟩
def tNotB (t : Rho → M Bool) : Rho → M Bool := fun ρ => bd (t ρ) fun k => ret (!k)
theorem st_not {t : Rho → M Bool} (h : ST X T W a t) : ST X T W (.UnaryOp .Not a pos) (tNotB t) :=
  ⟨pt_imp (pt_not h.pt) fun σ H Q ⟨ρ, G, S, ag, wf, o⟩ => ⟨ρ, G, S, ag, wf, o.bind fun x S1 G1 H1 v k1 w1 i1 o1 => by cases i1; exact o1.now w1 rfl⟩⟩
def tAndB (t u : Rho → M Bool) : Rho → M Bool := fun ρ => bd (t ρ) fun k => if k = true then u ρ else ret false
def tOrB (t u : Rho → M Bool) : Rho → M Bool := fun ρ => bd (t ρ) fun k => if k = true then ret true else u ρ
variable {t u : Rho → M Bool}
theorem sw_and1 (h : ST X T W a t) : SW X T W (.BoolOp .And [a] pos) t := ⟨pw_and1 h.pt⟩
theorem sw_or1 (h : ST X T W a t) : SW X T W (.BoolOp .Or [a] pos) t := ⟨pw_or1 h.pt⟩
theorem sw_and (h : ST X T W a t) (k : SW X T W (.BoolOp .And (b :: rest) pos) u) : SW X T W (.BoolOp .And (a :: b :: rest) pos) (tAndB t u) := by
  refine ⟨pw_imp (pw_and h.pt k.pw) fun σ H Q ⟨ρ, G, S, ag, wf, o⟩ => ⟨ρ, G, S, ag, wf, o.bind fun x S1 G1 H1 v k1 w1 i1 o1 => ?_⟩⟩
  cases i1
  cases x with
  | true => exact ⟨ρ, G1, S1, ag.keep wf k1, w1, o1⟩
  | false => exact o1.now w1 rfl
theorem sw_or (h : ST X T W a t) (k : SW X T W (.BoolOp .Or (b :: rest) pos) u) : SW X T W (.BoolOp .Or (a :: b :: rest) pos) (tOrB t u) := by
  refine ⟨pw_imp (pw_or h.pt k.pw) fun σ H Q ⟨ρ, G, S, ag, wf, o⟩ => ⟨ρ, G, S, ag, wf, o.bind fun x S1 G1 H1 v k1 w1 i1 o1 => ?_⟩⟩
  cases i1
  cases x with
  | true => exact o1.now w1 rfl
  | false => exact ⟨ρ, G1, S1, ag.keep wf k1, w1, o1⟩
theorem SW.st (h : SW X T W e t) : ST X T W e t := ⟨h.pw.pt⟩
/-- a value that is a bool, as a test -/
theorem st_val (h : SE X T W e f) (he : ∀ whole, isTrue e X.env whole = (do let v ← whole; standAt e.pos; holding [v] (truthy v)) := by intro _; rfl) : ST X T W e (fun ρ => bd (f ρ) blOf) :=
  ⟨pt_imp (pt_val h.pe he) fun σ H Q ⟨ρ, G, S, ag, wf, o⟩ => ⟨ρ, G, S, ag, wf, o.bl⟩⟩
/-! values that are bools -/
def eAnd (fa fb : Ev) : Ev := fun ρ => bd (fa ρ) fun x => match x with
  | .bl true => fb ρ
  | .bl false => ret (.bl false)
  | _ => dv
def eOr (fa fb : Ev) : Ev := fun ρ => bd (fa ρ) fun x => match x with
  | .bl true => ret (.bl true)
  | .bl false => fb ρ
  | _ => dv
def eNot (fa : Ev) : Ev := fun ρ => bd (fa ρ) fun x => match x with
  | .bl k => ret (.bl (!k))
  | _ => dv
theorem se_one {op : BoolOp} (h : SE X T W a fa) : SE X T W (.BoolOp op [a] pos) fa := ⟨pe_one h.pe⟩
theorem se_and (h : SE X T W a fa) (k : SE X T W (.BoolOp .And (b :: rest) pos) fb) : SE X T W (.BoolOp .And (a :: b :: rest) pos) (eAnd fa fb) := by
  refine ⟨pe_imp (pe_and h.pe k.pe) fun σ H Q ⟨ρ, G, S, ag, wf, o⟩ => ⟨ρ, G, S, ag, wf, o.bind fun x S1 G1 H1 v k1 w1 i1 o1 => ?_⟩⟩
  cases x <;> try exact o1.elim
  case bl k =>
    cases b_bl (.inl i1)
    cases k with
    | true => exact ⟨true, rfl, ρ, G1, S1, ag.keep wf k1, w1, o1⟩
    | false => exact ⟨false, rfl, o1.now w1 (is_bl _)⟩
theorem se_or (h : SE X T W a fa) (k : SE X T W (.BoolOp .Or (b :: rest) pos) fb) : SE X T W (.BoolOp .Or (a :: b :: rest) pos) (eOr fa fb) := by
  refine ⟨pe_imp (pe_or h.pe k.pe) fun σ H Q ⟨ρ, G, S, ag, wf, o⟩ => ⟨ρ, G, S, ag, wf, o.bind fun x S1 G1 H1 v k1 w1 i1 o1 => ?_⟩⟩
  cases x <;> try exact o1.elim
  case bl k =>
    cases b_bl (.inl i1)
    cases k with
    | true => exact ⟨true, rfl, o1.now w1 (is_bl _)⟩
    | false => exact ⟨false, rfl, ρ, G1, S1, ag.keep wf k1, w1, o1⟩
theorem se_not (h : SE X T W a fa) : SE X T W (.UnaryOp .Not a pos) (eNot fa) := by
  refine ⟨pe_imp (pe_not h.pe) fun σ H Q ⟨ρ, G, S, ag, wf, o⟩ => ⟨ρ, G, S, ag, wf, o.bind fun x S1 G1 H1 v k1 w1 i1 o1 => ?_⟩⟩
  cases x <;> try exact o1.elim
  case bl k =>
    cases b_bl (.inl i1)
    exact ⟨k, rfl, o1.now w1 (is_bl _)⟩
def eIf (t : Rho → M Bool) (fa fb : Ev) : Ev := fun ρ => bd (t ρ) fun k => if k = true then fa ρ else fb ρ
theorem se_if (h : ST X T W c t) (ha : SE X T W a fa) (hb : SE X T W b fb) : SE X T W (.IfExp c a b pos) (eIf t fa fb) := by
  refine ⟨pe_imp (pe_ifExp h.pt ha.pe hb.pe) fun σ H Q ⟨ρ, G, S, ag, wf, o⟩ => ⟨ρ, G, S, ag, wf, o.bind fun x S1 G1 H1 v k1 w1 i1 o1 => ?_⟩⟩
  cases i1
  cases x with
  | true => exact ⟨ρ, G1, S1, ag.keep wf k1, w1, o1⟩
  | false => exact ⟨ρ, G1, S1, ag.keep wf k1, w1, o1⟩
theorem sb_if (h : ST X T W c t) (ha : SB X T W a fa) (hb : SB X T W b fb) : SB X T W (.IfExp c a b pos) (eIf t fa fb) := by
  refine ⟨pe_imp (pe_ifExp h.pt ha.pe hb.pe) fun σ H Q ⟨ρ, G, S, ag, wf, o⟩ => ⟨ρ, G, S, ag, wf, o.bind fun x S1 G1 H1 v k1 w1 i1 o1 => ?_⟩⟩
  cases i1
  cases x with
  | true => exact ⟨ρ, G1, S1, ag.keep wf k1, w1, o1⟩
  | false => exact ⟨ρ, G1, S1, ag.keep wf k1, w1, o1⟩
/-- chains -/
def tChB (g g' : D → D → M D) (fa fb fc : Ev) : Ev := fun ρ => bd (fa ρ) fun x => bd (fb ρ) fun y => bd (bd (g x y) blOf) fun k => if k = true then bd (fc ρ) fun z => g' y z else ret (.bl false)
theorem chain_of {g g' : D → D → M D} {r r' : R2} (ok : OkR X T W g r) (ok' : OkR X T W g' r') {σ : St} {H : Hp} {Q : VK} (h : tX T W (rIs T) (tChB g g' fa fb fc) σ H Q) : tChain r r' (tX T W (rB T) fa) (tX T W (rB T) fb) (tX T W (rB T) fc) σ H Q := by
  obtain ⟨ρ, G, S, ag, wf, o⟩ := h
  refine ⟨ρ, G, S, ag, wf, o.bind fun x S1 G1 H1 v k1 w1 i1 o1 => ⟨ρ, G1, S1, ag.keep wf k1, w1, o1.bind fun y S2 G2 H2 w k2 w2 i2 o2 => ?_⟩⟩
  refine ok σ G2 H2 S2 x y v w _ w2 (w1.isB k2 i1) i2 ?_
  have o3 := o2.bind (R1 := rEq) (Q1 := fun k H3 => if k = true then tX T W (rB T) fc σ H3 fun w' H4 => r' w w' H4 Q else Q (.bl false) H3) fun k S3 G3 H3 b k3 w3 i3 o3 => by
    cases i3
    cases k with
    | true =>
      rw [if_pos rfl] at o3 ⊢
      refine ⟨ρ, G3, S3, (ag.keep wf (k1.trans k2)).keep w2 k3, w3, o3.bind fun z S4 G4 H4 w' k4 w4 i4 o4 => ?_⟩
      exact ok' σ G4 H4 S4 y z w w' Q w4 (w3.isB k4 (w2.isB k3 i2)) i4 o4
    | false => exact o3.now w3 (is_bl _)
  exact o3.bl
theorem se_chain {op op' : CmpOp} {g g' : D → D → M D} {r r' : R2} (ho : OpR X (compareOp op) r) (ok : OkR X T W g r) (ho' : OpR X (compareOp op') r') (ok' : OkR X T W g' r') (ha : SB X T W a fa) (hb : SB X T W b fb) (hc : SB X T W c fc)
    (hm : lastMarks [op, op'] [b, c] = false := by with_unfolding_all rfl) : SE X T W (.Compare a [op, op'] [b, c] pos) (tChB g g' fa fb fc) :=
  ⟨pe_imp (pe_chain ho ho' ha.pe hb.pe hc.pe hm) fun σ H Q h => chain_of ok ok' h⟩
theorem st_chain {op op' : CmpOp} {g g' : D → D → M D} {r r' : R2} (ho : OpR X (compareOp op) r) (ok : OkR X T W g r) (ho' : OpR X (compareOp op') r') (ok' : OkR X T W g' r') (ha : SB X T W a fa) (hb : SB X T W b fb) (hc : SB X T W c fc)
    (hm : lastMarks [op, op'] [b, c] = false := by with_unfolding_all rfl) : ST X T W (.Compare a [op, op'] [b, c] pos) (fun ρ => bd (tChB g g' fa fb fc ρ) blOf) :=
  ⟨pt_imp (pt_chain ho ho' ha.pe hb.pe hc.pe hm) fun σ H Q ⟨ρ, G, S, ag, wf, o⟩ => chain_of ok ok' ⟨ρ, G, S, ag, wf, o.bl⟩⟩
end

/-! ## 7. in -/
def fltD : D → Bool
  | .non => true
  | .bl _ => true
  | .int _ => true
  | .str _ => true
  | _ => false
def eqF : D → D → Bool
  | .non, .non => true
  | .bl a, .bl b => a == b
  | .bl a, .int b => (if a then 1 else 0) == b
  | .int a, .bl b => a == (if b then 1 else 0)
  | .int a, .int b => a == b
  | .str a, .str b => a == b
  | _, _ => false
def itemsO (d : D) (S : Sto) : Option (List D) := match d with
  | .tup xs => some xs
  | .lst xs => some xs
  | .scr xs => some xs
  | .ref n => match S[n]? with
    | some (.lst xs) => some xs
    | _ => none
  | _ => none
def inO (x : D) (ys : List D) : Option Bool :=
  if fltD x = true ∧ ys.all fltD = true then some (ys.any fun y => eqF y x)
  else match toPy x, toPys ys with
    | some p, some ps => if SeqAt.shaped p = true ∧ SeqAt.shaped (.list ps) = true then some (ps.any fun z => PyData.eqv z p) else none
    | _, _ => none
def inT (x z : Str) : Bool := if x.cps.size = 1 then decide (x.cps[0]! ∈ z.cps.toList) else !(Builtin.Str.occurrences z x 0 z.length 1).isEmpty
def inD (x y : D) : M D := fun S => match x, y with
  | .str a, .str b => .ok (.bl (inT a b)) S
  | x, y => match itemsO y S with
    | some ys => match inO x ys with
      | some b => .ok (.bl b) S
      | none => .div
    | none => .div
def ninD (x y : D) : M D := bd (inD x y) fun r => match r with
  | .bl b => ret (.bl (!b))
  | _ => dv
section
variable {X : Cx} {T : Tb} {W : WX}
theorem in_eq (a b : Str) : inT a b = !(Builtin.Str.occurrences b a 0 b.length 1).isEmpty := by
  unfold inT
  by_cases h : a.cps.size = 1
  · rw [if_pos h]
    obtain ⟨⟨l⟩⟩ := a
    have h' : l.length = 1 := h
    obtain ⟨c, rfl⟩ := List.length_eq_one_iff.mp h'
    exact (PySem.StrLaws.found_one b c).symm
  · rw [if_neg h]
theorem room_in {A : Around} {d e : PyData} (h : SeqAt.shaped d = true) (hu : A.units + 65 < cLine) (ds : List PyData) : A.units + 1 + min (PyData.depthAll ds) d.depth < cLine := by
  have := SeqAt.depth_of_shaped h
  omega
def rInTp (K : PySem.W.Frag) (neg : Bool) : R2 := fun x y H Q => ∃ d ds, Dp K H x d ∧ Dp K H y (.tuple ds) ∧ SeqAt.shaped d = true ∧ SeqAt.shaped (.tuple ds) = true ∧ Q (.bl (if neg = true then !ds.any fun z => PyData.eqv z d else ds.any fun z => PyData.eqv z d)) H
theorem lay_tup {ds : List PyData} (h : SeqAt.shaped (.tuple ds) = true) : PyData.canLayAll0 ds = true := by
  have := SeqAt.canLay_of_shaped h
  simpa [PyData.canLay0] using this
theorem op_inTp (hu : X.A.units + 65 < cLine) : OpR X (compareOp .In) (rInTp X.K false) := by
  intro pins s σ H x y v u Q I rx ry h
  obtain ⟨d, ds, hd, he, sd, se, q⟩ := h
  obtain ⟨as, r1⟩ := Dp.reads I d x v hd rx
  obtain ⟨bs, r2⟩ := Dp.reads I (.tuple ds) y u he ry
  exact SeqAt.in_tuple_reads r2 r1 (lay_tup se) (SeqAt.canLay_of_shaped sd) (room_in (e := d) sd hu ds) ⟨.bl _, H, I, rfl, q⟩
theorem op_ninTp (hu : X.A.units + 65 < cLine) : OpR X (compareOp .NotIn) (rInTp X.K true) := by
  intro pins s σ H x y v u Q I rx ry h
  obtain ⟨d, ds, hd, he, sd, se, q⟩ := h
  obtain ⟨as, r1⟩ := Dp.reads I d x v hd rx
  obtain ⟨bs, r2⟩ := Dp.reads I (.tuple ds) y u he ry
  exact SeqAt.notIn_tuple_reads r2 r1 (lay_tup se) (SeqAt.canLay_of_shaped sd) (room_in (e := d) sd hu ds) ⟨.bl _, H, I, rfl, q⟩
def rInTx (neg : Bool) : R2 := fun x y H Q => ∃ i j, x = .str i ∧ y = .str j ∧ Q (.bl (if neg = true then !inT i j else inT i j)) H
theorem op_inTx : OpR X (compareOp .In) (rInTx false) := by
  intro pins s σ H x y v u Q I rx ry h
  obtain ⟨i, j, e1, e2, q⟩ := h
  rw [if_neg Bool.false_ne_true, in_eq] at q
  exact op_in_str pins s σ H x y v u Q I rx ry ⟨i, j, e1, e2, q⟩
theorem op_ninTx : OpR X (compareOp .NotIn) (rInTx true) := by
  intro pins s σ H x y v u Q I rx ry h
  obtain ⟨i, j, e1, e2, q⟩ := h
  rw [if_pos rfl, in_eq] at q
  exact op_notin_str pins s σ H x y v u Q I rx ry ⟨i, j, e1, e2, q⟩
def rInLs (K : PySem.W.Frag) (neg : Bool) : R2 := if neg = true then rNotInD K else rInD K
def rInAll (K : PySem.W.Frag) (neg : Bool) : R2 := fun x y H Q => rIn K neg x y H Q ∨ rInLs K neg x y H Q ∨ rInTp K neg x y H Q ∨ rInTx neg x y H Q
theorem op_inAll (hu : X.A.units + 65 < cLine) : OpR X (compareOp .In) (rInAll X.K false) := op_in_seq.or ((op_inD hu).or ((op_inTp hu).or op_inTx))
theorem op_ninAll (hu : X.A.units + 65 < cLine) : OpR X (compareOp .NotIn) (rInAll X.K true) := op_notIn_seq.or ((op_notInD hu).or ((op_ninTp hu).or op_ninTx))
theorem flat_v {G : Gh} {H : Hp} {x : D} {v : V} (f : fltD x = true) (h : IsB T G H x v) : flatV v = true := by
  cases x with
  | non => cases b_non h; rfl
  | bl b => cases b_bl h; rfl
  | int i => cases b_int h; rfl
  | str i => cases b_str h; rfl
  | _ => exact absurd f Bool.false_ne_true
theorem eq_v {G : Gh} {H : Hp} {x y : D} {v w : V} (f : fltD x = true) (f' : fltD y = true) (h : IsB T G H x v) (h' : IsB T G H y w) : eqV v w = eqF x y := by
  cases x with
  | non => cases b_non h; cases y <;> first | (cases b_non h'; rfl) | (cases b_bl h'; rfl) | (cases b_int h'; rfl) | (cases b_str h'; rfl) | exact absurd f' Bool.false_ne_true
  | bl b => cases b_bl h; cases y <;> first | (cases b_non h'; rfl) | (cases b_bl h'; rfl) | (cases b_int h'; rfl) | (cases b_str h'; rfl) | exact absurd f' Bool.false_ne_true
  | int i => cases b_int h; cases y <;> first | (cases b_non h'; rfl) | (cases b_bl h'; rfl) | (cases b_int h'; rfl) | (cases b_str h'; rfl) | exact absurd f' Bool.false_ne_true
  | str i => cases b_str h; cases y <;> first | (cases b_non h'; rfl) | (cases b_bl h'; rfl) | (cases b_int h'; rfl) | (cases b_str h'; rfl) | exact absurd f' Bool.false_ne_true
  | _ => exact absurd f Bool.false_ne_true
theorem in_v {G : Gh} {H : Hp} {x : D} {v : V} (f : fltD x = true) (h : IsB T G H x v) : ∀ {ys : List D} {ws : List V}, ys.all fltD = true → IsL T G H ys ws → ws.all flatV = true ∧ inV v ws = ys.any fun y => eqF y x
  | [], ws, _, r => by unfold IsL at r; subst r; exact ⟨rfl, rfl⟩
  | y :: ys, ws, c, r => by
    unfold IsL at r
    obtain ⟨w, r', rfl, h1, h2⟩ := r
    rw [List.all_cons, Bool.and_eq_true] at c
    obtain ⟨i1, i2⟩ := in_v f h c.2 h2
    refine ⟨by rw [List.all_cons, flat_v c.1 (.inl h1), i1]; rfl, ?_⟩
    unfold inV at i2 ⊢
    rw [List.any_cons, List.any_cons, i2, eq_v c.1 f (.inl h1) h]
/-- where the items are -/
theorem items_at (hT : T.K = X.K) {G : Gh} {H : Hp} {S : Sto} {y : D} {w : V} {ys : List D} (wf : Wf T G H S) (h : IsB T G H y w) (e : itemsO y S = some ys) :
    ∃ p ws, w = .ref p ∧ IsL T G H ys ws ∧ ((SqL X.K H p ws ∧ ∀ ps, toPys ys = some ps → Dp X.K H w (.list ps)) ∨ (SqT X.K H p ws ∧ ∀ ps, toPys ys = some ps → Dp X.K H w (.tuple ps))) := by
  cases y with
  | tup xs =>
    cases (Option.some.inj e)
    obtain ⟨a, us, rfl, t, r⟩ := b_tup h
    exact ⟨a, us, rfl, r, .inr ⟨hT ▸ t.sq, fun ps q => .tup (hT ▸ t.sq) (hT ▸ isL_dp _ _ _ q r)⟩⟩
  | lst xs =>
    cases (Option.some.inj e)
    obtain ⟨a, us, rfl, _, t, r⟩ := b_lst wf h
    exact ⟨a, us, rfl, r, .inl ⟨SqL.of t, fun ps q => .lst (SqL.of t) (hT ▸ isL_dp _ _ _ q r)⟩⟩
  | scr xs =>
    cases (Option.some.inj e)
    obtain ⟨a, us, rfl, t, r⟩ := b_scr h
    exact ⟨a, us, rfl, r, .inl ⟨hT ▸ t.sq, fun ps q => .lst (hT ▸ t.sq) (hT ▸ isL_dp _ _ _ q r)⟩⟩
  | ref n =>
    obtain ⟨a, hm, rfl⟩ := b_ref h
    unfold itemsO at e
    dsimp only at e
    rcases q : S[n]? with _ | ob
    · rw [q] at e; cases e
    · rw [q] at e
      obtain ⟨a', h1, h2⟩ := wf.ob n ob q
      rw [hm] at h1
      cases h1
      cases ob with
      | lst xs =>
        cases (Option.some.inj e)
        obtain ⟨us, t, r⟩ := h2
        exact ⟨a, us, rfl, r, .inl ⟨SqL.of t, fun ps q => .lst (SqL.of t) (hT ▸ isL_dp _ _ _ q r)⟩⟩
      | ins c fs => cases e
  | _ => cases e
theorem ok_inG (hT : T.K = X.K) (neg : Bool) {σ : St} {G : Gh} {H : Hp} {S : Sto} {x y : D} {v w : V} {Q : VK} (wf : Wf T G H S) (hx : IsB T G H x v) (hy : IsB T G H y w) {b : Bool} (e : inD x y S = .ok (.bl b) S) (q : Q (.bl (if neg = true then !b else b)) H) : rInAll X.K neg v w H Q := by
  have main : ∀ ys, itemsO y S = some ys → inO x ys = some b → rInAll X.K neg v w H Q := fun ys ei eo => by
    obtain ⟨p, ws, rfl, r, sq⟩ := items_at hT wf hy ei
    unfold inO at eo
    by_cases c : fltD x = true ∧ ys.all fltD = true
    · rw [if_pos c] at eo
      obtain ⟨f1, f2⟩ := in_v c.1 hx c.2 r
      refine .inl ⟨p, ws, rfl, sq.imp (·.1) (·.1), flat_v c.1 hx, f1, ?_⟩
      rw [f2, Option.some.inj eo]
      exact q
    · rw [if_neg c] at eo
      cases e1 : toPy x with
      | none => rw [e1] at eo; cases eo
      | some d =>
        cases e2 : toPys ys with
        | none => rw [e1, e2] at eo; cases eo
        | some ps =>
          rw [e1, e2] at eo
          dsimp only at eo
          by_cases c2 : SeqAt.shaped d = true ∧ SeqAt.shaped (.list ps) = true
          · rw [if_pos c2] at eo
            rw [← Option.some.inj eo] at q
            rcases sq with ⟨_, dp⟩ | ⟨_, dp⟩
            · refine .inr (.inl ?_)
              cases neg with
              | true => exact ⟨d, ps, hT ▸ isB_dp e1 hx, dp ps e2, c2.1, c2.2, q⟩
              | false => exact ⟨d, ps, hT ▸ isB_dp e1 hx, dp ps e2, c2.1, c2.2, q⟩
            · have c3 : SeqAt.shaped (.tuple ps) = true := by
                have := c2.2
                unfold SeqAt.shaped at this ⊢
                simpa [PyData.canLay0, PyData.depth] using this
              exact .inr (.inr (.inl ⟨d, ps, hT ▸ isB_dp e1 hx, dp ps e2, c2.1, c3, q⟩))
          · rw [if_neg c2] at eo; cases eo
  have fin : (match itemsO y S with
      | some ys => match inO x ys with
        | some b => Res.ok (D.bl b) S
        | none => .div
      | none => .div) = Res.ok (D.bl b) S → rInAll X.K neg v w H Q := fun e => by
    cases ei : itemsO y S with
    | none => rw [ei] at e; cases e
    | some ys =>
      rw [ei] at e
      dsimp only at e
      cases eo : inO x ys with
      | none => rw [eo] at e; cases e
      | some b' =>
        rw [eo] at e
        cases e
        exact main ys ei eo
  unfold inD at e
  split at e
  · rename_i a b' 
    cases e
    cases b_str hx; cases b_str hy
    exact .inr (.inr (.inr ⟨a, b', rfl, rfl, q⟩))
  · exact fin e
theorem inD_cases (x y : D) (S : Sto) : (∃ b, inD x y S = .ok (.bl b) S) ∨ inD x y S = .div := by
  unfold inD
  split
  · exact .inl ⟨_, rfl⟩
  · cases itemsO y S with
    | none => exact .inr rfl
    | some ys =>
      dsimp only
      cases inO x ys with
      | none => exact .inr rfl
      | some b => exact .inl ⟨b, rfl⟩
theorem ok_in (hT : T.K = X.K := by rfl) : OkR X T W inD (rInAll X.K false) := by
  intro σ G H S x y v w Q wf hx hy o
  rcases inD_cases x y S with ⟨b, e⟩ | e
  · rw [e] at o
    exact ok_inG (σ := σ) hT false wf hx hy e (o.now wf (is_bl _))
  · rw [e] at o; exact o.elim
theorem ok_nin (hT : T.K = X.K := by rfl) : OkR X T W ninD (rInAll X.K true) := by
  intro σ G H S x y v w Q wf hx hy o
  unfold ninD bd at o
  rcases inD_cases x y S with ⟨b, e⟩ | e
  · rw [e] at o
    exact ok_inG (σ := σ) hT true wf hx hy e (o.now wf (is_bl _))
  · rw [e] at o; exact o.elim
end
end LS

set_option Elab.async false
set_option linter.all false
set_option maxRecDepth 100000
set_option maxHeartbeats 1000000
namespace LS
open PySem L2

/-! ## 8. items, slices -/
section
variable {T : Tb} {G : Gh} {H : Hp}
theorem isL_atI {ds : List D} {vs : List V} (h : IsL T G H ds vs) {i : Int} {d : D} (e : atI ds i = some d) : ∃ v, atI vs i = some v ∧ Is T G H d v := by
  unfold atI at e ⊢
  rw [← h.len]
  cases q : ixN ds.length i with
  | none => rw [q] at e; cases e
  | some j =>
    rw [q] at e
    exact h.get e
end
def ixD (x i : D) : M D := fun S => match x, i with
  | .str z, .int k => if z.length ≤ sizeLine then match atI z.cps.toList k with
    | some c => .ok (.str ⟨#[c]⟩) S
    | none => .div
    else .div
  | x, .int k => match itemsO x S with
    | some ys => match atI ys k with
      | some d => .ok d S
      | none => .div
    | none => .div
  | _, _ => .div
section
variable {X : Cx} {T : Tb} {W : WX} {e a b c : Expr} {f fa fb fc : Ev} {pos p2 : Pos}
theorem ok_ix (hT : T.K = X.K := by rfl) : OkR X T W ixD (rIx X.K) := by
  intro σ G H S x y v w Q wf hx hy o
  unfold ixD at o
  split at o
  · rename_i z k
    cases b_str hx; cases b_int hy
    by_cases c : z.length ≤ sizeLine
    · rw [if_pos c] at o
      cases q : atI z.cps.toList k with
      | none => rw [q] at o; exact o.elim
      | some u => rw [q] at o; exact .inr (.inr ⟨z, k, u, rfl, rfl, c, q, o.now wf (is_str _)⟩)
    · rw [if_neg c] at o; exact o.elim
  · rename_i k _
    cases b_int hy
    cases e : itemsO x S with
    | none => rw [e] at o; exact o.elim
    | some ys =>
      rw [e] at o
      dsimp only at o
      cases q : atI ys k with
      | none => rw [q] at o; exact o.elim
      | some d =>
        rw [q] at o
        obtain ⟨p, ws, rfl, r, sq⟩ := items_at hT wf hx e
        obtain ⟨v, h1, h2⟩ := isL_atI r q
        have o' := o.now wf h2
        rcases sq with ⟨s, _⟩ | ⟨s, _⟩
        · exact .inl ⟨p, ws, k, v, rfl, rfl, s, h1, o'⟩
        · exact .inr (.inl ⟨p, ws, k, v, rfl, rfl, s, h1, o'⟩)
  · exact o.elim
theorem se_ix (ha : SB X T W a fa) (hb : SB X T W b fb) (hs : PlainIx b := by intro _ _; rfl) (hT : T.K = X.K := by rfl) : SE X T W (.Subscript a b pos) (e2 ixD fa fb) :=
  ⟨pe_imp (pe_ix ix_seq ha.pe hb.pe hs) (tOp_of (ok_ix hT))⟩
/-! slices -/
structure SO (X : Cx) (T : Tb) (W : WX) (e : Option Expr) (f : Rho → M (Option Int)) : Prop where
  po : PO X e (tX T W rEq f)
theorem po_imp {e : Option Expr} {t u : TO} (h : PO X e t) (i : ∀ σ H Q, u σ H Q → t σ H Q) : PO X e u := ⟨fun pins s σ H Q I q => h.run pins s σ H Q I (i σ H Q q)⟩
def oNo : Rho → M (Option Int) := fun _ => ret none
def oInt (f : Ev) : Rho → M (Option Int) := fun ρ => bd (f ρ) fun x => match x with
  | .int i => ret (some i)
  | _ => dv
theorem so_none : SO X T W none oNo := ⟨po_imp po_none fun σ H Q ⟨ρ, G, S, ag, wf, o⟩ => o.now wf rfl⟩
theorem so_some (h : SB X T W e f) : SO X T W (some e) (oInt f) := by
  refine ⟨po_imp (po_some h.pe) fun σ H Q ⟨ρ, G, S, ag, wf, o⟩ => ⟨ρ, G, S, ag, wf, o.bind fun x S1 G1 H1 v k1 w1 i1 o1 => ?_⟩⟩
  cases x <;> try exact o1.elim
  case int i =>
    cases b_int i1
    exact ⟨i, rfl, o1.now w1 rfl⟩
def cutL {α : Type} (xs : List α) (lo hi : Option Int) : List α := (xs.drop (HT.sIx xs.length 0 lo)).take (HT.sIx xs.length xs.length hi - HT.sIx xs.length 0 lo)
theorem isL_cut {G : Gh} {H : Hp} {ds : List D} {vs : List V} (h : IsL T G H ds vs) (lo hi : Option Int) : IsL T G H (cutL ds lo hi) (cutV vs lo hi) := by
  unfold cutL cutV
  rw [← h.len]
  exact (h.drop _).take _
def slD (x : D) (lo hi : Option Int) : M D := fun S => match x with
  | .str z => if z.length ≤ sizeLine then .ok (.str (cutS z lo hi)) S else .div
  | .tup xs => if HT.sIx xs.length 0 lo = 0 ∧ HT.sIx xs.length xs.length hi = xs.length then .div else .ok (.tup (cutL xs lo hi)) S
  | .obj _ _ => .div
  | x => match itemsO x S with
    | some ys => .ok (.lst (cutL ys lo hi)) S
    | none => .div
def eSl (f : Ev) (l h : Rho → M (Option Int)) : Ev := fun ρ => bd (f ρ) fun x => bd (l ρ) fun lo => bd (h ρ) fun hi => slD x lo hi
/-- where a list's items are -/
theorem list_at (hT : T.K = X.K) {G : Gh} {H : Hp} {S : Sto} {y : D} {w : V} {ys : List D} (wf : Wf T G H S) (h : IsB T G H y w) (e : itemsO y S = some ys) (n : ∀ xs, y ≠ .tup xs) : ∃ p ws, w = .ref p ∧ IsL T G H ys ws ∧ SqL X.K H p ws := by
  cases y with
  | tup xs => exact absurd rfl (n xs)
  | lst xs =>
    cases (Option.some.inj e)
    obtain ⟨a, us, rfl, _, t, r⟩ := b_lst wf h
    exact ⟨a, us, rfl, r, SqL.of t⟩
  | scr xs =>
    cases (Option.some.inj e)
    obtain ⟨a, us, rfl, t, r⟩ := b_scr h
    exact ⟨a, us, rfl, r, hT ▸ t.sq⟩
  | ref m =>
    obtain ⟨a, hm, rfl⟩ := b_ref h
    unfold itemsO at e
    dsimp only at e
    rcases q : S[m]? with _ | ob
    · rw [q] at e; cases e
    · rw [q] at e
      obtain ⟨a', h1, h2⟩ := wf.ob m ob q
      rw [hm] at h1
      cases h1
      cases ob with
      | lst xs =>
        cases (Option.some.inj e)
        obtain ⟨us, t, r⟩ := h2
        exact ⟨a, us, rfl, r, SqL.of t⟩
      | ins c fs => cases e
  | _ => cases e
abbrev rSlA (K : PySem.W.Frag) : V → Option Int → Option Int → Hp → VK → Prop := fun x lo hi H Q => rSlL K x lo hi H Q ∨ (rSlT K x lo hi H Q ∨ rSlS x lo hi H Q)
theorem sl_all : SlR X (rSlA X.K) := sl_list.or (sl_tup.or sl_str)
theorem se_sl {lo hi : Option Expr} {l h : Rho → M (Option Int)} (ha : SB X T W a fa) (hl : SO X T W lo l) (hh : SO X T W hi h) (hT : T.K = X.K := by rfl) : SE X T W (.Subscript a (.Slice lo hi none p2) pos) (eSl fa l h) := by
  refine ⟨pe_imp (pe_slice sl_all ha.pe hl.po hh.po) fun σ H Q ⟨ρ, G, S, ag, wf, o⟩ => ⟨ρ, G, S, ag, wf, o.bind fun x S1 G1 H1 v k1 w1 i1 o1 => ?_⟩⟩
  refine ⟨ρ, G1, S1, ag.keep wf k1, w1, o1.bind fun lo S2 G2 H2 lo' k2 w2 i2 o2 => ?_⟩
  cases i2
  refine ⟨ρ, G2, S2, ag.keep wf (k1.trans k2), w2, o2.bind fun hi S3 G3 H3 hi' k3 w3 i3 o3 => ?_⟩
  cases i3
  have ix := w2.isB k3 (w1.isB k2 i1)
  clear i1
  unfold slD at o3
  split at o3
  · rename_i z
    by_cases c : z.length ≤ sizeLine
    · rw [if_pos c] at o3
      cases b_str ix
      exact .inr (.inr ⟨z, rfl, c, o3.now w3 (is_str _)⟩)
    · rw [if_neg c] at o3; exact o3.elim
  · rename_i xs
    by_cases c : HT.sIx xs.length 0 lo = 0 ∧ HT.sIx xs.length xs.length hi = xs.length
    · rw [if_pos c] at o3; exact o3.elim
    · rw [if_neg c] at o3
      obtain ⟨p, us, rfl, t, r⟩ := b_tup ix
      exact .inr (.inl ⟨p, us, rfl, hT ▸ t.sq, by rw [← r.len]; exact c, fun q n => Out.tup o3 w3 (isL_cut r lo hi) n⟩)
  · exact o3.elim
  · rename_i nt nb
    cases e : itemsO x S3 with
    | none => rw [e] at o3; exact o3.elim
    | some ys =>
      rw [e] at o3
      obtain ⟨p, us, rfl, r, s⟩ := list_at hT w3 ix e (fun xs z => by first | exact nt xs z | exact nb xs z)
      exact .inl ⟨p, us, rfl, s, fun q n => Out.lst o3 w3 (isL_cut r lo hi) n⟩

/-! ## 9. argument lists, displays -/
/-- arguments that are looked at only -/
def IsBL (T : Tb) (G : Gh) (H : Hp) : List D → List V → Prop
  | [], vs => vs = []
  | d :: ds, vs => ∃ x r, vs = x :: r ∧ IsB T G H d x ∧ IsBL T G H ds r
theorem Wf.isBL {G G' : Gh} {H H' : Hp} {S : Sto} (w : Wf T G H S) (k : Kp G H G' H') : ∀ {ds : List D} {vs : List V}, IsBL T G H ds vs → IsBL T G' H' ds vs
  | [], _, h => h
  | d :: ds, vs, h => let ⟨x, r, e, h1, h2⟩ := h; ⟨x, r, e, w.isB k h1, w.isBL k h2⟩
structure SAB (X : Cx) (T : Tb) (W : WX) (es : List Expr) (f : Rho → M (List D)) : Prop where
  pa : PA X es (tX T W (fun G H ds vs => IsBL T G H ds vs) f)
def aNil : Rho → M (List D) := fun _ => ret []
def aCons (f : Ev) (g : Rho → M (List D)) : Rho → M (List D) := fun ρ => bd (f ρ) fun d => bd (g ρ) fun ds => ret (d :: ds)
/-- *e -/
def aStar (f : Ev) (g : Rho → M (List D)) : Rho → M (List D) := fun ρ => bd (f ρ) fun d => bd (fun S => match itemsO d S with
  | some ys => .ok ys S
  | none => .div) fun ys => bd (g ρ) fun ds => ret (ys ++ ds)
variable {es : List Expr} {g : Rho → M (List D)}
theorem sa_nil : SA X T W [] aNil := ⟨pa_imp pa_nil fun σ H Q ⟨ρ, G, S, ag, wf, o⟩ => o.now wf IsL.nil⟩
theorem sab_nil : SAB X T W [] aNil := ⟨pa_imp pa_nil fun σ H Q ⟨ρ, G, S, ag, wf, o⟩ => o.now wf rfl⟩
theorem sa_cons (h : SE X T W e f) (k : SA X T W es g) (hs : starEach (e :: es) X.env = (false, eval e X.env) :: starEach es X.env := by rfl) : SA X T W (e :: es) (aCons f g) := by
  refine ⟨pa_imp (pa_cons h.pe k.pa hs) fun σ H Q ⟨ρ, G, S, ag, wf, o⟩ => ⟨ρ, G, S, ag, wf, o.bind fun x S1 G1 H1 v k1 w1 i1 o1 => ?_⟩⟩
  refine ⟨ρ, G1, S1, ag.keep wf k1, w1, o1.bind fun ds S2 G2 H2 vs k2 w2 i2 o2 => ?_⟩
  exact o2.now w2 (IsL.cons ((w1.lean k2).is i1) i2)
theorem sab_cons (h : SB X T W e f) (k : SAB X T W es g) (hs : starEach (e :: es) X.env = (false, eval e X.env) :: starEach es X.env := by rfl) : SAB X T W (e :: es) (aCons f g) := by
  refine ⟨pa_imp (pa_cons h.pe k.pa hs) fun σ H Q ⟨ρ, G, S, ag, wf, o⟩ => ⟨ρ, G, S, ag, wf, o.bind fun x S1 G1 H1 v k1 w1 i1 o1 => ?_⟩⟩
  refine ⟨ρ, G1, S1, ag.keep wf k1, w1, o1.bind fun ds S2 G2 H2 vs k2 w2 i2 o2 => ?_⟩
  exact o2.now w2 ⟨v, vs, rfl, w1.isB k2 i1, i2⟩
/-- a tuple written -/
def eTup (g : Rho → M (List D)) : Ev := fun ρ => bd (g ρ) fun ds => two (decide (ds.length ≤ sizeLine)) (.tup ds)
def nLst (g : Rho → M (List D)) : Rho → M (List D) := fun ρ => bd (g ρ) fun ds => if ds.length ≤ sizeLine then ret ds else dv
theorem se_tup {x1 : Nat} (h : SA X T W es g) : SE X T W (.Tuple es x1 pos) (eTup g) := by
  refine ⟨pe_imp (pe_tup h.pa) fun σ H Q ⟨ρ, G, S, ag, wf, o⟩ => ⟨ρ, G, S, ag, wf, o.bind fun ds S1 G1 H1 vs k1 w1 i1 o1 => ?_⟩⟩
  obtain ⟨c, o1⟩ := two_o o1
  exact ⟨by rw [← i1.len]; exact of_decide_eq_true c, fun p n => o1.tup w1 i1 n⟩
theorem sn_lst (h : SA X T W es g) : SN X T W (.List es pos) (nLst g) := by
  refine ⟨pe_imp (pe_lst h.pa) fun σ H Q ⟨ρ, G, S, ag, wf, o⟩ => ⟨ρ, G, S, ag, wf, ?_⟩⟩
  unfold nLst bd at o
  cases q : g ρ S with
  | exc c fs S' => rw [q] at o; exact o
  | div => rw [q] at o; exact o
  | ok ds S' =>
    rw [q] at o
    dsimp only at o
    intro G1 H1 vs k1 w1 i1
    by_cases c : ds.length ≤ sizeLine
    · rw [if_pos c] at o
      refine ⟨by rw [← i1.len]; exact c, fun p n => ?_⟩
      have n0 : H p = none := by
        cases z : H p with
        | none => rfl
        | some u => exact absurd n (k1.is p (by rw [z]; exact nofun))
      exact o G1 (upd H1 p (.lst vs)) p (k1.trans (kp_upd n)) (w1.upd n) n0 (w1.nof n) (w1.nom n) ⟨vs, upd_same, (lean_upd w1 n).isL i1⟩
    · rw [if_neg c] at o; exact o.elim
/-- list + list as a new list -/
def catN (x y : D) : M (List D) := match x, y with
  | .lst xs, .lst ys => if xs.length + ys.length ≤ sizeLine then ret (xs ++ ys) else dv
  | _, _ => dv
def n2 (g : D → D → M (List D)) (fa fb : Ev) : Rho → M (List D) := fun ρ => bd (fa ρ) fun x => bd (fb ρ) fun y => g x y
theorem not_some {α : Type} {x : Option α} (h : ∀ a, x ≠ some a) : x = none := by cases x with
  | none => rfl
  | some a => exact absurd rfl (h a)
theorem Kp.none {G G' : Gh} {H H' : Hp} (k : Kp G H G' H') {p : Addr} (n : H' p = none) : H p = none := by
  cases z : H p with
  | none => rfl
  | some u => exact absurd n (k.is p (by rw [z]; exact nofun))
/-- from two operands to a new list -/
theorem sn_two {op : Operator} {g : D → D → M (List D)} {r : R2} (ho : OpR X (binaryOp op) r)
    (ok : ∀ (σ : St) (G : Gh) (H : Hp) (S : Sto) (x y : D) (v w : V) (Q : VK) (ds : List D) (S' : Sto), Wf T G H S → IsB T G H x v → IsB T G H y w → g x y S = .ok ds S' → (S' = S ∧ (∀ p us, H p = none → IsL T G H ds us → Q (.ref p) (upd H p (.lst us))) → r v w H Q))
    (nx : ∀ x y S c fs S', g x y S ≠ .exc c fs S') (ns : ∀ x y S ds S', g x y S = .ok ds S' → S' = S)
    (ha : SB X T W a fa) (hb : SB X T W b fb) : SN X T W (.BinOp a op b pos) (n2 g fa fb) := by
  refine ⟨pe_imp (pe_op ho ha.pe hb.pe) fun σ H Q ⟨ρ, G, S, ag, wf, o⟩ => ⟨ρ, G, S, ag, wf, ?_⟩⟩
  unfold n2 bd at o
  cases q : fa ρ S with
  | exc c fs S' => rw [q] at o; exact o
  | div => rw [q] at o; exact o
  | ok x S1 =>
    rw [q] at o
    dsimp only at o
    intro G1 H1 v k1 w1 i1
    refine ⟨ρ, G1, S1, ag.keep wf k1, w1, ?_⟩
    cases q2 : fb ρ S1 with
    | exc c fs S' =>
      rw [q2] at o
      intro G2 H2 cls dx k2
      exact o G2 H2 cls dx (k1.trans k2)
    | div => rw [q2] at o; exact o
    | ok y S2 =>
      rw [q2] at o
      dsimp only at o
      intro G2 H2 w k2 w2 i2
      cases q3 : g x y S2 with
      | exc c fs S' => exact absurd q3 (nx x y S2 c fs S')
      | div => rw [q3] at o; exact o.elim
      | ok ds S3 =>
        rw [q3] at o
        have e3 := ns _ _ _ _ _ q3
        subst e3
        refine ok σ G2 H2 S3 x y v w Q ds S3 w2 (w1.isB k2 i1) i2 q3 ⟨rfl, fun p us n r => ?_⟩
        exact o G2 (upd H2 p (.lst us)) p ((k1.trans k2).trans (kp_upd n)) (w2.upd n) ((k1.trans k2).none n) (w2.nof n) (w2.nom n) ⟨us, upd_same, (lean_upd w2 n).isL r⟩
theorem catN_cases (x y : D) (S : Sto) : (∃ xs ys, x = .lst xs ∧ y = .lst ys ∧ xs.length + ys.length ≤ sizeLine ∧ catN x y S = .ok (xs ++ ys) S) ∨ catN x y S = .div := by
  cases x <;> cases y <;> try exact .inr rfl
  case lst.lst xs ys =>
    unfold catN
    dsimp only
    by_cases c : xs.length + ys.length ≤ sizeLine
    · rw [if_pos c]; exact .inl ⟨xs, ys, rfl, rfl, c, rfl⟩
    · rw [if_neg c]; exact .inr rfl
theorem sn_cat (ha : SB X T W a fa) (hb : SB X T W b fb) : SN X T W (.BinOp a .Add b pos) (n2 catN fa fb) := by
  refine sn_two op_cat (fun σ G H S x y v w Q ds S' wf hx hy e => ?_) (fun x y S c fs S' z => ?_) (fun x y S ds S' z => ?_) ha hb
  · rintro ⟨_, k⟩
    rcases catN_cases x y S with ⟨xs, ys, rfl, rfl, c, q⟩ | q
    · rw [q] at e
      cases e
      obtain ⟨p, us, rfl, _, t, r⟩ := b_lst wf hx
      obtain ⟨p', us', rfl, _, t', r'⟩ := b_lst wf hy
      exact ⟨p, p', us, us', rfl, rfl, t, t', by rw [← r.len, ← r'.len]; exact c, fun q n => k q _ n (r.app r')⟩
    · rw [q] at e; cases e
  · rcases catN_cases x y S with ⟨xs, ys, rfl, rfl, c, q⟩ | q <;> rw [q] at z <;> cases z
  · rcases catN_cases x y S with ⟨xs, ys, rfl, rfl, c, q⟩ | q <;> rw [q] at z <;> cases z
    rfl
/-- list * int as a new list -/
def repN (x y : D) : M (List D) := match x, y with
  | .lst xs, .int k => if -(2 ^ 63) ≤ k ∧ k < 2 ^ 63 ∧ xs.length * k.toNat ≤ sizeLine then ret (List.replicate k.toNat xs).flatten else dv
  | _, _ => dv
theorem repN_cases (x y : D) (S : Sto) : (∃ xs k, x = .lst xs ∧ y = .int k ∧ (-(2 ^ 63) ≤ k ∧ k < 2 ^ 63 ∧ xs.length * k.toNat ≤ sizeLine) ∧ repN x y S = .ok (List.replicate k.toNat xs).flatten S) ∨ repN x y S = .div := by
  cases x <;> cases y <;> try exact .inr rfl
  case lst.int xs k =>
    unfold repN
    dsimp only
    by_cases c : -(2 ^ 63) ≤ k ∧ k < 2 ^ 63 ∧ xs.length * k.toNat ≤ sizeLine
    · rw [if_pos c]; exact .inl ⟨xs, k, rfl, rfl, c, rfl⟩
    · rw [if_neg c]; exact .inr rfl
theorem sn_rep (ha : SB X T W a fa) (hb : SB X T W b fb) : SN X T W (.BinOp a .Mult b pos) (n2 repN fa fb) := by
  refine sn_two op_rep (fun σ G H S x y v w Q ds S' wf hx hy e => ?_) (fun x y S c fs S' z => ?_) (fun x y S ds S' z => ?_) ha hb
  · rintro ⟨_, k⟩
    rcases repN_cases x y S with ⟨xs, n, rfl, rfl, c, q⟩ | q
    · rw [q] at e
      cases e
      obtain ⟨p, us, rfl, _, t, r⟩ := b_lst wf hx
      cases b_int hy
      exact ⟨p, n, us, rfl, rfl, t, c.1, c.2.1, by rw [← r.len]; exact c.2.2, fun q m => k q _ m (isL_rep r _)⟩
    · rw [q] at e; cases e
  · rcases repN_cases x y S with ⟨xs, n, rfl, rfl, c, q⟩ | q <;> rw [q] at z <;> cases z
  · rcases repN_cases x y S with ⟨xs, n, rfl, rfl, c, q⟩ | q <;> rw [q] at z <;> cases z
    rfl
end
end LS

set_option Elab.async false
set_option linter.all false
set_option maxRecDepth 100000
set_option maxHeartbeats 1000000
namespace LS
open PySem L2

/-! ## 10. built-in functions -/
def OkC (X : Cx) (T : Tb) (W : WX) (g : List D → M D) (r : List V → Hp → VK → Prop) : Prop :=
  ∀ (σ : St) (G : Gh) (H : Hp) (S : Sto) (ds : List D) (vs : List V) (Q : VK), Wf T G H S → IsBL T G H ds vs → Out T W σ G H (rIs T) Q (g ds S) → r vs H Q
theorem callR_or {X : Cx} {f : Value} {r r' : List V → Hp → VK → Prop} (h : CallR X f r) (h' : CallR X f r') : CallR X f (fun vs H Q => r vs H Q ∨ r' vs H Q) := by
  intro pins s σ H xs us Q I rr q
  rcases q with q | q
  · exact h pins s σ H xs us Q I rr q
  · exact h' pins s σ H xs us Q I rr q
def eCall (g : List D → M D) (fa : Rho → M (List D)) : Ev := fun ρ => bd (fa ρ) g
section
variable {X : Cx} {T : Tb} {W : WX} {e a b c : Expr} {f fa fb fc : Ev} {pos p2 p : Pos} {es : List Expr} {g : List D → M D} {fl : Rho → M (List D)} {x : Str} {idn Ty : String} {r : List V → Hp → VK → Prop}
theorem tCB_of (ok : OkC X T W g r) {σ : St} {H : Hp} {Q : VK} (h : tX T W (rIs T) (eCall g fl) σ H Q) : tCB r (tX T W (fun G H ds vs => IsBL T G H ds vs) fl) σ H Q := by
  obtain ⟨ρ, G, S, ag, wf, o⟩ := h
  exact ⟨ρ, G, S, ag, wf, o.bind fun ds S1 G1 H1 vs k1 w1 i1 o1 => ok σ G1 H1 S1 ds vs Q w1 i1 o1⟩
theorem se_callB (hc : CallR X (.builtin idn) r) (ok : OkC X T W g r) (hg : Gl X x) (hm : X.mg x = none) (hv : bootBuiltins x = some (.builtin idn)) (ha : SAB X T W (e :: es) fl) (hn : x ≠ "__name__" := by decide) (hdb : (x == ("__debug__" : Str)) = false := by decide)
    (he : starEach (e :: es) X.env = (false, eval e X.env) :: starEach es X.env := by rfl) (hpl : (backTo pos (starEach es X.env)).any (·.1) = false := by rfl) : SE X T W (.Call (.Name x p) (e :: es) [] pos) (eCall g fl) :=
  ⟨pe_imp (pe_callB hc hg hm hv ha.pa hn hdb he hpl) fun σ H Q h => tCB_of ok h⟩
theorem se_callT (hc : CallR X (.type Ty) r) (ok : OkC X T W g r) (hg : Gl X x) (hm : X.mg x = none) (hv : bootBuiltins x = some (.type Ty)) (ha : SAB X T W (e :: es) fl) (hn : x ≠ "__name__" := by decide) (hdb : (x == ("__debug__" : Str)) = false := by decide)
    (he : starEach (e :: es) X.env = (false, eval e X.env) :: starEach es X.env := by rfl) (hpl : (backTo pos (starEach es X.env)).any (·.1) = false := by rfl) : SE X T W (.Call (.Name x p) (e :: es) [] pos) (eCall g fl) :=
  ⟨pe_imp (pe_callTy hc hg hm hv ha.pa hn hdb he hpl) fun σ H Q h => tCB_of ok h⟩

theorem bl_one {G : Gh} {H : Hp} {d : D} {vs : List V} (h : IsBL T G H [d] vs) : ∃ v, vs = [v] ∧ IsB T G H d v := by
  obtain ⟨x, r, rfl, h1, h2⟩ := h
  cases h2
  exact ⟨x, rfl, h1⟩
theorem bl_two {G : Gh} {H : Hp} {d d' : D} {vs : List V} (h : IsBL T G H [d, d'] vs) : ∃ v w, vs = [v, w] ∧ IsB T G H d v ∧ IsB T G H d' w := by
  obtain ⟨x, r, rfl, h1, y, r', rfl, h2, h3⟩ := h
  cases h3
  exact ⟨x, y, rfl, h1, h2⟩
/-- one argument -/
def g1 (g : D → M D) : List D → M D
  | [d] => g d
  | _ => dv
def g2 (g : D → D → M D) : List D → M D
  | [d, d'] => g d d'
  | _ => dv
theorem okC_one {g : D → M D} (h : ∀ (σ : St) (G : Gh) (H : Hp) (S : Sto) (d : D) (v : V) (Q : VK), Wf T G H S → IsB T G H d v → Out T W σ G H (rIs T) Q (g d S) → r [v] H Q) : OkC X T W (g1 g) r := by
  intro σ G H S ds vs Q wf hb o
  match ds, o with
  | [], o => exact o.elim
  | [d], o =>
    obtain ⟨v, rfl, h1⟩ := bl_one hb
    exact h σ G H S d v Q wf h1 o
  | _ :: _ :: _, o => exact o.elim
theorem okC_two {g : D → D → M D} (h : ∀ (σ : St) (G : Gh) (H : Hp) (S : Sto) (d d' : D) (v w : V) (Q : VK), Wf T G H S → IsB T G H d v → IsB T G H d' w → Out T W σ G H (rIs T) Q (g d d' S) → r [v, w] H Q) : OkC X T W (g2 g) r := by
  intro σ G H S ds vs Q wf hb o
  match ds, o with
  | [], o => exact o.elim
  | [d], o => exact o.elim
  | [d, d'], o =>
    obtain ⟨v, w, rfl, h1, h2⟩ := bl_two hb
    exact h σ G H S d d' v w Q wf h1 h2 o
  | _ :: _ :: _ :: _, o => exact o.elim
/-! len -/
def onItems (k : List D → M D) (d : D) : M D := fun S => match itemsO d S with
  | some ys => k ys S
  | none => .div
def lenD (d : D) : M D := match d with
  | .str s => two (decide (s.length ≤ sizeLine)) (.int s.length)
  | d => onItems (fun ys => ret (.int ys.length)) d
theorem onItems_o {k : List D → M D} {d : D} {σ : St} {G : Gh} {H : Hp} {S : Sto} {Q : VK} (o : Out T W σ G H (rIs T) Q (onItems k d S)) : ∃ ys, itemsO d S = some ys ∧ Out T W σ G H (rIs T) Q (k ys S) := by
  unfold onItems at o
  cases e : itemsO d S with
  | none => rw [e] at o; exact o.elim
  | some ys => rw [e] at o; exact ⟨ys, rfl, o⟩
theorem ok_len (hT : T.K = X.K := by rfl) : OkC X T W (g1 lenD) (fun xs H Q => ∃ x n, xs = [x] ∧ LenV X.K x H n ∧ Q (.int n) H) := okC_one fun σ G H S d v Q wf h o => by
  have main : ∀ {d : D}, IsB T G H d v → Out T W σ G H (rIs T) Q (onItems (fun ys => ret (.int ys.length)) d S) → ∃ x n, [v] = [x] ∧ LenV X.K x H n ∧ Q (.int n) H := fun {d} h o => by
    obtain ⟨ys, e, o⟩ := onItems_o o
    obtain ⟨p, ws, rfl, r, sq⟩ := items_at hT wf h e
    refine ⟨_, ys.length, rfl, ?_, o.now wf (is_int _)⟩
    exact sq.imp (fun z => ⟨ws, z.1, r.len⟩) (fun z => ⟨ws, z.1, r.len⟩)
  cases d with
  | str s =>
    cases b_str h
    obtain ⟨c, o⟩ := two_o o
    exact ⟨_, s.length, rfl, ⟨of_decide_eq_true c, rfl⟩, o.now wf (is_int _)⟩
  | _ => exact main h o
/-! lists of one kind -/
def blsO : List D → Option (List Bool)
  | [] => some []
  | .bl b :: r => (blsO r).map (b :: ·)
  | _ :: _ => none
def intsO : List D → Option (List Int)
  | [] => some []
  | .int b :: r => (intsO r).map (b :: ·)
  | _ :: _ => none
def strsO : List D → Option (List Str)
  | [] => some []
  | .str b :: r => (strsO r).map (b :: ·)
  | _ :: _ => none
theorem bls_v {G : Gh} {H : Hp} : ∀ {ds : List D} {bs : List Bool} {vs : List V}, blsO ds = some bs → IsL T G H ds vs → vs = bs.map V.bl
  | [], bs, vs, e, h => by unfold IsL at h; subst h; cases e; rfl
  | .bl b :: r, bs, vs, e, h => by
    obtain ⟨c, e1, rfl⟩ := Option.map_eq_some_iff.mp e
    unfold IsL at h
    obtain ⟨v, w, rfl, h1, h2⟩ := h
    rw [b_bl (.inl h1), bls_v e1 h2]; rfl
theorem ints_v {G : Gh} {H : Hp} : ∀ {ds : List D} {bs : List Int} {vs : List V}, intsO ds = some bs → IsL T G H ds vs → vs = bs.map V.int
  | [], bs, vs, e, h => by unfold IsL at h; subst h; cases e; rfl
  | .int b :: r, bs, vs, e, h => by
    obtain ⟨c, e1, rfl⟩ := Option.map_eq_some_iff.mp e
    unfold IsL at h
    obtain ⟨v, w, rfl, h1, h2⟩ := h
    rw [b_int (.inl h1), ints_v e1 h2]; rfl
theorem strs_v {G : Gh} {H : Hp} : ∀ {ds : List D} {bs : List Str} {vs : List V}, strsO ds = some bs → IsL T G H ds vs → vs = bs.map V.str
  | [], bs, vs, e, h => by unfold IsL at h; subst h; cases e; rfl
  | .str b :: r, bs, vs, e, h => by
    obtain ⟨c, e1, rfl⟩ := Option.map_eq_some_iff.mp e
    unfold IsL at h
    obtain ⟨v, w, rfl, h1, h2⟩ := h
    rw [b_str (.inl h1), strs_v e1 h2]; rfl
theorem strs_is {G : Gh} {H : Hp} : ∀ ys : List Str, IsL T G H (ys.map D.str) (ys.map V.str)
  | [] => IsL.nil
  | y :: ys => IsL.cons (is_str y) (strs_is ys)
/-- a list (no tuple) of bools .. -/
def onList (k : List D → M D) (d : D) : M D := match d with
  | .tup _ => dv
  | d => onItems k d
theorem onList_o (hT : T.K = X.K) {k : List D → M D} {d : D} {v : V} {σ : St} {G : Gh} {H : Hp} {S : Sto} {Q : VK} (wf : Wf T G H S) (h : IsB T G H d v) (o : Out T W σ G H (rIs T) Q (onList k d S)) :
    ∃ ys p ws, v = .ref p ∧ IsL T G H ys ws ∧ SqL X.K H p ws ∧ Out T W σ G H (rIs T) Q (k ys S) := by
  have main : ∀ {d : D}, (∀ xs, d ≠ .tup xs) → IsB T G H d v → Out T W σ G H (rIs T) Q (onItems k d S) → ∃ ys p ws, v = .ref p ∧ IsL T G H ys ws ∧ SqL X.K H p ws ∧ Out T W σ G H (rIs T) Q (k ys S) := fun {d} n h o => by
    obtain ⟨ys, e, o⟩ := onItems_o o
    obtain ⟨p, ws, rfl, r, s⟩ := list_at hT wf h e n
    exact ⟨ys, p, ws, rfl, r, s, o⟩
  cases d with
  | tup xs => exact o.elim
  | _ => exact main (fun xs z => by cases z) h o
def optM (o : Option D) : M D := match o with
  | some d => ret d
  | none => dv
theorem optM_o {o' : Option D} {σ : St} {G : Gh} {H : Hp} {S : Sto} {Q : VK} (o : Out T W σ G H (rIs T) Q (optM o' S)) : ∃ d, o' = some d ∧ Out T W σ G H (rIs T) Q (ret d S) := by
  cases o' with
  | none => exact o.elim
  | some d => exact ⟨d, rfl, o⟩
def allL (ys : List D) : Option D := (blsO ys).map fun bs => .bl (bs.all id)
def anyL (ys : List D) : Option D := (blsO ys).map fun bs => .bl (bs.any id)
def sumL (ys : List D) : Option D := (intsO ys).map fun ns => .int ns.sum
def allD : D → M D := onList fun ys => optM (allL ys)
def anyD : D → M D := onList fun ys => optM (anyL ys)
def sumD : D → M D := onList fun ys => optM (sumL ys)
theorem ok_all (hT : T.K = X.K := by rfl) : OkC X T W (g1 allD) (rAll X.K) := okC_one fun σ G H S d v Q wf h o => by
  obtain ⟨ys, p, ws, rfl, r, s, o⟩ := onList_o hT wf h o
  obtain ⟨d, e, o⟩ := optM_o o
  obtain ⟨bs, e1, rfl⟩ := Option.map_eq_some_iff.mp e
  exact ⟨p, bs, rfl, by rw [← bls_v e1 r]; exact s, o.now wf (is_bl _)⟩
theorem ok_any (hT : T.K = X.K := by rfl) : OkC X T W (g1 anyD) (rAny X.K) := okC_one fun σ G H S d v Q wf h o => by
  obtain ⟨ys, p, ws, rfl, r, s, o⟩ := onList_o hT wf h o
  obtain ⟨d, e, o⟩ := optM_o o
  obtain ⟨bs, e1, rfl⟩ := Option.map_eq_some_iff.mp e
  exact ⟨p, bs, rfl, by rw [← bls_v e1 r]; exact s, o.now wf (is_bl _)⟩
theorem ok_sum (hT : T.K = X.K := by rfl) : OkC X T W (g1 sumD) (rSum X.K) := okC_one fun σ G H S d v Q wf h o => by
  obtain ⟨ys, p, ws, rfl, r, s, o⟩ := onList_o hT wf h o
  obtain ⟨d, e, o⟩ := optM_o o
  obtain ⟨bs, e1, rfl⟩ := Option.map_eq_some_iff.mp e
  exact ⟨p, bs, rfl, by rw [← ints_v e1 r]; exact s, o.now wf (is_int _)⟩
/-- the greatest and least of a list of ints -/
def mostI : List Int → Option Int
  | [] => none
  | n :: r => some (r.foldl (fun a b => if b > a then b else a) n)
def leastI : List Int → Option Int
  | [] => none
  | n :: r => some (r.foldl (fun a b => if b < a then b else a) n)
theorem mostI_spec : ∀ {r : List Int} {n m : Int}, (m ∈ n :: r) → (∀ y ∈ n :: r, y ≤ m) → r.foldl (fun a b => if b > a then b else a) n = m
  | [], n, m, h, _ => by simp at h; exact h.symm
  | b :: r, n, m, h, k => by
    rw [List.foldl_cons]
    have kb := k b (by simp)
    have kn := k n (by simp)
    by_cases c : b > n
    · rw [if_pos c]
      refine mostI_spec ?_ fun y hy => k y (List.mem_cons_of_mem _ hy)
      rcases List.mem_cons.mp h with rfl | h
      · omega
      · exact h
    · rw [if_neg c]
      refine mostI_spec ?_ fun y hy => ?_
      · rcases List.mem_cons.mp h with rfl | h
        · simp
        · rcases List.mem_cons.mp h with rfl | h
          · have : m = n := by omega
            simp [this]
          · exact List.mem_cons_of_mem _ h
      · rcases List.mem_cons.mp hy with rfl | hy
        · exact kn
        · exact k y (by simp [hy])
theorem leastI_spec : ∀ {r : List Int} {n m : Int}, (m ∈ n :: r) → (∀ y ∈ n :: r, m ≤ y) → r.foldl (fun a b => if b < a then b else a) n = m
  | [], n, m, h, _ => by simp at h; exact h.symm
  | b :: r, n, m, h, k => by
    rw [List.foldl_cons]
    have kb := k b (by simp)
    have kn := k n (by simp)
    by_cases c : b < n
    · rw [if_pos c]
      refine leastI_spec ?_ fun y hy => k y (List.mem_cons_of_mem _ hy)
      rcases List.mem_cons.mp h with rfl | h
      · omega
      · exact h
    · rw [if_neg c]
      refine leastI_spec ?_ fun y hy => ?_
      · rcases List.mem_cons.mp h with rfl | h
        · simp
        · rcases List.mem_cons.mp h with rfl | h
          · have : m = n := by omega
            simp [this]
          · exact List.mem_cons_of_mem _ h
      · rcases List.mem_cons.mp hy with rfl | hy
        · exact kn
        · exact k y (by simp [hy])
def maxD : D → M D := onList fun ys => optM (((intsO ys).bind mostI).map .int)
def minD : D → M D := onList fun ys => optM (((intsO ys).bind leastI).map .int)
theorem ok_max (hT : T.K = X.K := by rfl) : OkC X T W (g1 maxD) (rMax X.K) := okC_one fun σ G H S d v Q wf h o => by
  obtain ⟨ys, p, ws, rfl, r, s, o⟩ := onList_o hT wf h o
  obtain ⟨d, e, o⟩ := optM_o o
  obtain ⟨z, e1, rfl⟩ := Option.map_eq_some_iff.mp e
  obtain ⟨ns, e2, e3⟩ := Option.bind_eq_some_iff.mp e1
  cases ns with
  | nil => cases e3
  | cons n r' =>
    refine ⟨p, n :: r', rfl, by rw [← ints_v e2 r]; exact s, by simp, fun m hm hl => ?_⟩
    rw [← mostI_spec hm hl]
    have e4 : z = _ := (Option.some.inj e3).symm
    rw [← e4]
    exact o.now wf (is_int _)
theorem ok_min (hT : T.K = X.K := by rfl) : OkC X T W (g1 minD) (rMin X.K) := okC_one fun σ G H S d v Q wf h o => by
  obtain ⟨ys, p, ws, rfl, r, s, o⟩ := onList_o hT wf h o
  obtain ⟨d, e, o⟩ := optM_o o
  obtain ⟨z, e1, rfl⟩ := Option.map_eq_some_iff.mp e
  obtain ⟨ns, e2, e3⟩ := Option.bind_eq_some_iff.mp e1
  cases ns with
  | nil => cases e3
  | cons n r' =>
    refine ⟨p, n :: r', rfl, by rw [← ints_v e2 r]; exact s, by simp, fun m hm hl => ?_⟩
    rw [← leastI_spec hm hl]
    have e4 : z = _ := (Option.some.inj e3).symm
    rw [← e4]
    exact o.now wf (is_int _)
/-! scalars -/
def absD : D → M D
  | .int i => ret (.int (if i < 0 then -i else i))
  | _ => dv
theorem ok_abs : OkC X T W (g1 absD) (fun xs H Q => ∃ i, xs = [.int i] ∧ Q (.int (if i < 0 then -i else i)) H) := okC_one fun σ G H S d v Q wf h o => by
  cases d <;> try exact o.elim
  case int i => cases b_int h; exact ⟨i, rfl, o.now wf (is_int _)⟩
def max2D : D → D → M D
  | .int i, .int j => ret (.int (if j > i then j else i))
  | _, _ => dv
def min2D : D → D → M D
  | .int i, .int j => ret (.int (if j < i then j else i))
  | _, _ => dv
theorem ok_max2 : OkC X T W (g2 max2D) (fun xs H Q => ∃ i j, xs = [.int i, .int j] ∧ Q (.int (if j > i then j else i)) H) := okC_two fun σ G H S d d' v w Q wf h h' o => by
  cases d <;> cases d' <;> try exact o.elim
  case int.int i j => cases b_int h; cases b_int h'; exact ⟨i, j, rfl, o.now wf (is_int _)⟩
theorem ok_min2 : OkC X T W (g2 min2D) (fun xs H Q => ∃ i j, xs = [.int i, .int j] ∧ Q (.int (if j < i then j else i)) H) := okC_two fun σ G H S d d' v w Q wf h h' o => by
  cases d <;> cases d' <;> try exact o.elim
  case int.int i j => cases b_int h; cases b_int h'; exact ⟨i, j, rfl, o.now wf (is_int _)⟩
def intD : D → M D
  | .int i => ret (.int i)
  | .bl k => ret (.int (if k then 1 else 0))
  | .str s => if s.length ≤ 640 then optM ((PySem.intText? s).map .int) else dv
  | _ => dv
abbrev rInt : List V → Hp → VK → Prop := fun xs H Q => ((∃ i, xs = [.int i] ∧ Q (.int i) H) ∨ ∃ k, xs = [.bl k] ∧ Q (.int (if k then 1 else 0)) H) ∨ ∃ a n, xs = [.str a] ∧ PySem.intText? a = some n ∧ a.length ≤ 640 ∧ Q (.int n) H
theorem call_intA : CallR X (.type "int") rInt := callR_or call_int1 call_int_str
theorem ok_int : OkC X T W (g1 intD) rInt := okC_one fun σ G H S d v Q wf h o => by
  cases d <;> try exact o.elim
  case int i => cases b_int h; exact .inl (.inl ⟨i, rfl, o.now wf (is_int _)⟩)
  case bl k => cases b_bl h; exact .inl (.inr ⟨k, rfl, o.now wf (is_int _)⟩)
  case str s =>
    cases b_str h
    unfold intD at o
    dsimp only at o
    by_cases c : s.length ≤ 640
    · rw [if_pos c] at o
      obtain ⟨d, e, o⟩ := optM_o o
      obtain ⟨n, e1, rfl⟩ := Option.map_eq_some_iff.mp e
      exact .inr ⟨s, n, rfl, e1, c, o.now wf (is_int _)⟩
    · rw [if_neg c] at o; exact o.elim
def strD : D → M D
  | .int i => two (decide (i.natAbs.log2 < 1920)) (.str (toString i))
  | _ => dv
theorem ok_str : OkC X T W (g1 strD) (fun xs H Q => ∃ i, xs = [.int i] ∧ i.natAbs.log2 < 1920 ∧ Q (.str (toString i)) H) := okC_one fun σ G H S d v Q wf h o => by
  cases d <;> try exact o.elim
  case int i =>
    cases b_int h
    obtain ⟨c, o⟩ := two_o o
    exact ⟨i, rfl, of_decide_eq_true c, o.now wf (is_str _)⟩
def divmodD : D → D → M D
  | .int i, .int j => two (decide (0 < j ∧ j < 1073741824)) (.tup [.int (i / j), .int (i % j)])
  | _, _ => dv
theorem ok_divmod : OkC X T W (g2 divmodD) (fun xs H Q => ∃ i j, xs = [.int i, .int j] ∧ CDiv i j ∧ ∀ p, H p = none → Q (.ref p) (upd H p (.tup [.int (i / j), .int (i % j)]))) := okC_two fun σ G H S d d' v w Q wf h h' o => by
  cases d <;> cases d' <;> try exact o.elim
  case int.int i j =>
    cases b_int h; cases b_int h'
    obtain ⟨c, o⟩ := two_o o
    exact ⟨i, j, rfl, (by have z := of_decide_eq_true c; exact z), fun p n => o.tup wf (IsL.cons (is_int _) (IsL.cons (is_int _) IsL.nil)) n⟩
/-! tuple(x), list(x) -/
def tupleD (d : D) : M D := match d with
  | .tup xs => ret (.tup xs)
  | d => onItems (fun ys => ret (.tup ys)) d
theorem ok_tuple (hT : T.K = X.K := by rfl) : OkC X T W (g1 tupleD) (fun xs H Q => ∃ p ys, xs = [.ref p] ∧ ((SqL X.K H p ys ∧ ∀ l, H l = none → Q (.ref l) (upd H l (.tup ys))) ∨ (SqT X.K H p ys ∧ Q (.ref p) H))) := okC_one fun σ G H S d v Q wf h o => by
  have main : ∀ {d : D}, (∀ xs, d ≠ .tup xs) → IsB T G H d v → Out T W σ G H (rIs T) Q (onItems (fun ys => ret (.tup ys)) d S) → ∃ p ys, [v] = [V.ref p] ∧ ((SqL X.K H p ys ∧ ∀ l, H l = none → Q (.ref l) (upd H l (.tup ys))) ∨ (SqT X.K H p ys ∧ Q (.ref p) H)) := fun {d} n h o => by
    obtain ⟨ys, e, o⟩ := onItems_o o
    obtain ⟨p, ws, rfl, r, s⟩ := list_at hT wf h e n
    exact ⟨p, ws, rfl, .inl ⟨s, fun l hl => o.tup wf r hl⟩⟩
  cases d with
  | tup xs =>
    have h' := b_is (fun ds z => by cases z) h
    obtain ⟨p, us, rfl, t, r⟩ := b_tup h
    exact ⟨p, us, rfl, .inr ⟨hT ▸ t.sq, o.now wf h'⟩⟩
  | _ => exact main (fun xs z => by cases z) h o
def listN (fl : Rho → M (List D)) : Rho → M (List D) := fun ρ => bd (fl ρ) fun ds S => match ds with
  | [d] => match itemsO d S with
    | some ys => .ok ys S
    | none => .div
  | _ => .div
theorem sn_list (hg : Gl X "list") (hm : X.mg "list" = none) (hv : bootBuiltins "list" = some (.type "list")) (ha : SAB X T W (e :: es) fl) (hT : T.K = X.K := by rfl)
    (he : starEach (e :: es) X.env = (false, eval e X.env) :: starEach es X.env := by rfl) (hpl : (backTo pos (starEach es X.env)).any (·.1) = false := by rfl) : SN X T W (.Call (.Name "list" p) (e :: es) [] pos) (listN fl) := by
  refine ⟨pe_imp (pe_callTy call_list_of hg hm hv ha.pa (by decide) (by decide) he hpl) fun σ H Q ⟨ρ, G, S, ag, wf, o⟩ => ⟨ρ, G, S, ag, wf, ?_⟩⟩
  unfold listN bd at o
  cases q : fl ρ S with
  | exc c fs S' => rw [q] at o; exact o
  | div => rw [q] at o; exact o
  | ok ds S1 =>
    rw [q] at o
    dsimp only at o
    intro G1 H1 vs k1 w1 i1
    match ds, o with
    | [], o => exact o.elim
    | _ :: _ :: _, o => exact o.elim
    | [d], o =>
      obtain ⟨v, rfl, h1⟩ := bl_one i1
      dsimp only at o
      cases e : itemsO d S1 with
      | none => rw [e] at o; exact o.elim
      | some ys =>
        rw [e] at o
        dsimp only at o
        obtain ⟨p, ws, rfl, r, s⟩ := items_at hT w1 h1 e
        refine ⟨p, ws, rfl, s.imp (·.1) (·.1), fun l n => ?_⟩
        exact o G1 (upd H1 l (.lst ws)) l (k1.trans (kp_upd n)) (w1.upd n) (k1.none n) (w1.nof n) (w1.nom n) ⟨ws, upd_same, (lean_upd w1 n).isL r⟩

/-! ## 11. texts' methods -/
def splitN (fa fb : Ev) : Rho → M (List D) := fun ρ => bd (fa ρ) fun x => match x with
  | .str a => bd (fb ρ) fun y => match y with
    | .str b => if (b.length == 0) = false ∧ a.length + 2 ≤ sizeLine then ret ((Txt.split a b).map .str) else dv
    | _ => dv
  | _ => dv
theorem sn_split {apos : Pos} (ha : SB X T W a fa) (hb : SB X T W b fb) (hs : starEach [b] X.env = [(false, eval b X.env)] := by rfl) (hbase : attributeBase a "split" X.env (eval a X.env) = eval a X.env := by rfl) (hline : (apos.endLine == pos.line) = true := by rfl) :
    SN X T W (.Call (.Attribute a "split" apos) [b] [] pos) (splitN fa fb) := by
  refine ⟨pe_imp (pe_split ha.pe hb.pe hs hbase hline) fun σ H Q ⟨ρ, G, S, ag, wf, o⟩ => ⟨ρ, G, S, ag, wf, ?_⟩⟩
  unfold splitN bd at o
  cases q : fa ρ S with
  | exc c fs S' => rw [q] at o; exact o
  | div => rw [q] at o; exact o
  | ok x S1 =>
    rw [q] at o
    dsimp only at o
    intro G1 H1 v k1 w1 i1
    cases x <;> try exact o.elim
    case str z =>
      cases b_str i1
      refine ⟨⟨z, rfl⟩, ρ, G1, S1, ag.keep wf k1, w1, ?_⟩
      dsimp only at o
      cases q2 : fb ρ S1 with
      | exc c fs S' =>
        rw [q2] at o
        intro G2 H2 cls dx k2
        exact o G2 H2 cls dx (k1.trans k2)
      | div => rw [q2] at o; exact o
      | ok y S2 =>
        rw [q2] at o
        dsimp only at o
        intro G2 H2 w k2 w2 i2
        cases y <;> try exact o.elim
        case str z2 =>
          cases b_str i2
          by_cases c : (z2.length == 0) = false ∧ z.length + 2 ≤ sizeLine
          · dsimp only at o
            rw [if_pos c] at o
            refine ⟨z, z2, rfl, rfl, c.1, c.2, fun p n => ?_⟩
            exact o G2 _ p ((k1.trans k2).trans (kp_upd n)) (w2.upd n) ((k1.trans k2).none n) (w2.nof n) (w2.nom n) ⟨_, upd_same, strs_is _⟩
          · dsimp only at o
            rw [if_neg c] at o; exact o.elim
/-- methods that give a plain value -/
def m2 (g : D → D → M D) (fa fb : Ev) : Ev := fun ρ => bd (fa ρ) fun x => match x with
  | .str a => bd (fb ρ) fun y => g (.str a) y
  | _ => dv
theorem tM1_of {g : D → D → M D} {r : V → List V → Hp → VK → Prop} (ok : OkR X T W g (fun v w H Q => r v [w] H Q)) (σ : St) (H : Hp) (Q : VK) (h : tX T W (rIs T) (m2 g fa fb) σ H Q) : tM1 r (tX T W (rB T) fa) (tX T W (rB T) fb) σ H Q := by
  obtain ⟨ρ, G, S, ag, wf, o⟩ := h
  refine ⟨ρ, G, S, ag, wf, o.bind fun x S1 G1 H1 v k1 w1 i1 o1 => ?_⟩
  cases x <;> try exact o1.elim
  case str z =>
    refine ⟨⟨z, b_str i1⟩, ρ, G1, S1, ag.keep wf k1, w1, o1.bind fun y S2 G2 H2 w k2 w2 i2 o2 => ?_⟩
    exact ok σ G2 H2 S2 (.str z) y v w Q w2 (w1.isB k2 i1) i2 o2
def joinD (x y : D) : M D := match x with
  | .str a => fun S => match itemsO y S with
    | some ys => match strsO ys with
      | some ts => if (ts.map (·.length)).sum + ts.length * a.length ≤ 16777216 then .ok (.str (Txt.join a ts)) S else .div
      | none => .div
    | none => .div
  | _ => dv
theorem ok_join (hT : T.K = X.K := by rfl) : OkR X T W joinD (fun x w H Q => ∃ a p, ∃ ys : List Str, x = .str a ∧ [w] = [V.ref p] ∧ (SqL X.K H p (ys.map V.str) ∨ SqT X.K H p (ys.map V.str)) ∧ (ys.map (·.length)).sum + ys.length * a.length ≤ 16777216 ∧ Q (.str (Txt.join a ys)) H) := by
  intro σ G H S x y v w Q wf hx hy o
  cases x <;> try exact o.elim
  case str a =>
    cases b_str hx
    unfold joinD at o
    dsimp only at o
    cases e : itemsO y S with
    | none => rw [e] at o; exact o.elim
    | some ys =>
      rw [e] at o
      dsimp only at o
      cases e2 : strsO ys with
      | none => rw [e2] at o; exact o.elim
      | some ts =>
        rw [e2] at o
        dsimp only at o
        by_cases c : (ts.map (·.length)).sum + ts.length * a.length ≤ 16777216
        · rw [if_pos c] at o
          obtain ⟨p, ws, rfl, r, s⟩ := items_at hT wf hy e
          have ev := strs_v e2 r
          subst ev
          exact ⟨a, p, ts, rfl, rfl, s.imp (·.1) (·.1), c, o.now wf (is_str _)⟩
        · rw [if_neg c] at o; exact o.elim
theorem se_join {apos : Pos} (ha : SB X T W a fa) (hb : SB X T W b fb) (hT : T.K = X.K := by rfl) (hs : starEach [b] X.env = [(false, eval b X.env)] := by rfl) (hbase : attributeBase a "join" X.env (eval a X.env) = eval a X.env := by rfl) (hline : (apos.endLine == pos.line) = true := by rfl) :
    SE X T W (.Call (.Attribute a "join" apos) [b] [] pos) (m2 joinD fa fb) := ⟨pe_imp (pe_join ha.pe hb.pe hs hbase hline) (tM1_of (ok_join hT))⟩
def sindexD (x y : D) : M D := match x, y with
  | .str a, .str b => match Builtin.Str.occurrences a b 0 a.length 1 with
    | i :: _ => ret (.int (i : Nat))
    | [] => dv
  | _, _ => dv
theorem ok_sindex : OkR X T W sindexD (fun x w H Q => ∃ a b i rest, x = .str a ∧ [w] = [.str b] ∧ Builtin.Str.occurrences a b 0 a.length 1 = i :: rest ∧ Q (.int (i : Nat)) H) := by
  intro σ G H S x y v w Q wf hx hy o
  cases x <;> cases y <;> try exact o.elim
  case str.str a b =>
    cases b_str hx; cases b_str hy
    unfold sindexD at o
    dsimp only at o
    cases e : Builtin.Str.occurrences a b 0 a.length 1 with
    | nil => rw [e] at o; exact o.elim
    | cons i rest => rw [e] at o; exact ⟨a, b, i, rest, rfl, rfl, e, o.now wf (is_int _)⟩
end
end LS

set_option Elab.async false
set_option linter.all false
set_option maxRecDepth 100000
set_option maxHeartbeats 1000000
namespace LS
open PySem L2 PySem.Spec
open PyProof.Rows hiding St

/-! ## 12. defs -/
structure RoomG (b : Bool) (k : Nat) (A : Around) : Prop where
  rm : Room k A
  gd : b = true → A.guards = some []
theorem RoomG.mono {gb : Bool} {j k : Nat} {A : Around} (r : RoomG gb k A) (h : j ≤ k) : RoomG gb j A := ⟨r.rm.mono h, r.gd⟩
theorem RoomG.low {gb : Bool} {k : Nat} {A : Around} (r : RoomG gb k A) : RoomG false k A := ⟨r.rm, nofun⟩
theorem RoomG.deeper {gb : Bool} {k : Nat} {A : Around} (r : RoomG gb (k + 1) A) (env : Env) : RoomG gb k (A.deeper env) := ⟨r.rm.deeper env, r.gd⟩
theorem RoomG.make {gb : Bool} {k : Nat} {A : Around} (r : RoomG gb (k + 1) A) (C : Addr) (us : List Value) (kw : List (Str × Value)) : RoomG gb k (A.under (.builtin "type.__call__" ⟨.ref C :: us, kw⟩)) :=
  ⟨r.rm.make C us kw, fun z => by
    have e : (Code.builtin "type.__call__" ⟨.ref C :: us, kw⟩).guards = [] := by
      unfold Code.guards
      rw [if_neg]
      show ¬ (guardIds.contains "type.__call__" = true)
      decide
    show pushGuards (Code.builtin "type.__call__" ⟨.ref C :: us, kw⟩).guards A.guards = some []
    rw [e, r.gd z]; rfl⟩
theorem RoomG.u64 {gb : Bool} {k : Nat} {A : Around} (r : RoomG gb k A) : A.units + 64 < cLine := r.rm.units
theorem RoomG.u65 {gb : Bool} {k : Nat} {A : Around} (r : RoomG gb k A) : A.units + 65 < cLine := by have := r.rm.un; omega

/-- what a def keeps, where no repr runs -/
structure FnG (gb : Bool) (P : Program) (w : World) (K : PySem.W.Frag) (mg : Str → Option Value) (base : Heap) (k : Nat) (f : Addr) (fd : FuncData) (ps : List Str) (sp : Sp) : Prop where
  len : ∀ vs H Q E, sp vs H Q E → vs.length = ps.length
  go : ∀ (A : Around) (out : List Env) (s : Shared) (H : Hp) (args : Args) (us : List Value) (vs : List V) (Q : VK) (E : XK), RoomG gb k A → Env0 P w K mg base A out s H → BindsTo s fd args (ps.zip us) → Vals vs us → sp vs H Q E →
    codeAny (model P w) A (.call (.ref f) args) (CR (L2.CX P w) out P w H s Q E) s
/-- by its body -/
theorem fng_of {gb : Bool} {P : Program} {w : World} {K : PySem.W.Frag} {mg : Str → Option Value} {base : Heap} {k : Nat} {x qual : Str} {st : Stmt} {f : Addr} {fd : FuncData} {N ps : List Str} {sp : Sp}
    (F : Fun K x qual st f fd) (Z : FnScope N ps (defScope st)) (ln : ∀ vs H Q E, sp vs H Q E → vs.length = ps.length)
    (body : ∀ (cv : Value) (A : Around) (out : List Env) (s : Shared) (H : Hp) (vs : List V) (Q : VK) (E : XK), RoomG gb k (A.deeper (envOfC qual (defScope st) s.heap.objs.size f cv)) → sp vs H Q E →
      ∃ t, PSs (cxOf (L2.CX P w) P w K mg base N qual (defScope st) f cv A out s H E) (defBody st) t ∧ t { nx := fun _ H' => Q .non H', rt := Q } (start N vs) H) : FnG gb P w K mg base (k + 1) f fd ps sp := by
  obtain ⟨oc, od, kV, doc, pm, an, cv, ct, osl, rfl, lk, hcd⟩ := F.ex
  refine ⟨ln, fun A out s H args us vs Q E hr e0 hb r hsp => ?_⟩
  have inK : K.In s.heap := e0.mod.kin.keeps fun b o z => (e0.bs b o z).1
  have nol : s.heap.NoLimit := e0.mod.nolimit.keeps fun b o z => (e0.bs b o z).1
  have kinds : ∀ y ∈ ps.zip us, (defScope st).names.lookup y.1 = some .local ∨ ((defScope st).names.lookup y.1 = some .cell ∧ ((cellsFrom (s.heap.objs.size + 1) (defScope st).names []).lookup y.1).isSome = true) := fun ⟨n, v⟩ hy =>
    (Z.par n (List.of_mem_zip hy).1).imp id fun q => ⟨q, PySem.W.cellsFrom_some _ _ _ (.inl q)⟩
  refine codeAny_call_function hr.rm.depth (inK _ _ lk) rfl Z.co Z.gen rfl (PySem.W.codeRec_of inK hcd) (hb _ _ _ _ ?_)
  refine wpAny_newFunctionEnv_cells Z.kind kinds fun env he s1 z => ?_
  subst he
  refine ⟨nol.keeps z.toInCall.keep, codeAny_func ?_⟩
  obtain ⟨t, ht, hq⟩ := body cv A out s H vs Q E (hr.deeper _) hsp
  have I : Inv (cxOf (L2.CX P w) P w K mg base N qual (defScope st) f cv A out s H E) [] (start N vs) H s1 := inv_start Z hr.rm.hd e0 (ln _ _ _ _ hsp) r z
  refine wpAny_mono (ht.run [] s1 (start N vs) H _ I hq) (fun fl s' hs => ?_) fun _ _ hs => hs
  cases fl with
  | ret u => exact let ⟨v, σ', H', J, rv, q⟩ := hs; ⟨v, H', J.os, J.bare, J.base, J.hok, rv, q⟩
  | next => exact let ⟨σ', H', J, q⟩ := hs; ⟨V.non, H', J.os, J.bare, J.base, J.hok, (rfl : RelV .non Value.none), q⟩
  | brk => exact let ⟨_, _, _, q⟩ := hs; q.elim
  | cont => exact let ⟨_, _, _, q⟩ := hs; q.elim

/-- the promise: it reckons f -/
def spOf (T : Tb) (n : Nat) (f : List D → M D) : Sp := fun vs H Q E => vs.length = n ∧ ∃ ds G S, IsL T G H ds vs ∧ Wf T G H S ∧
  match f ds S with
  | .ok d S' => ∀ G' H' v, Kp G H G' H' → Wf T G' H' S' → Is T G' H' d v → Q v H'
  | .exc c fs S' => ∀ G' H' cls dx, Kp G H G' H' → Wf T G' H' S' → IsX T G' H' c fs cls dx → E cls dx H'
  | .div => False

section
variable {X : Cx} {T : Tb} {W : WX} {e a b c o : Expr} {f fa fb fc : Ev} {pos p2 p apos : Pos} {es : List Expr} {fl : Rho → M (List D)} {x m : Str} {k n : Nat} {fn : Addr} {fd : FuncData} {ps : List Str} {sp : Sp} {g : List D → M D}

/-- a promise by positional values, however they are bound -/
def FnP (gb : Bool) (P : Program) (w : World) (K : PySem.W.Frag) (mg : Str → Option Value) (base : Heap) (k : Nat) (f : Addr) (sp : Sp) : Prop :=
  ∀ (A : Around) (out : List Env) (s : Shared) (H : Hp) (us : List Value) (vs : List V) (Q : VK) (E : XK), RoomG gb k A → Env0 P w K mg base A out s H → Vals vs us → sp vs H Q E →
    codeAny (model P w) A (.call (.ref f) ⟨us, []⟩) (CR (L2.CX P w) out P w H s Q E) s
theorem FnG.byP {gb : Bool} {P : Program} {w : World} {K : PySem.W.Frag} {mg : Str → Option Value} {base : Heap} {ds : List Value} {dvs : List V} (F : FnG gb P w K mg base k fn fd ps sp) (hb : Binds K fd ps ds) (hd : Vals dvs ds) : FnP gb P w K mg base k fn fun vs H Q E => sp (vs ++ dvs) H Q E := by
  intro A out s H us vs Q E hr e0 r h
  have r2 := r.append hd
  have l2 : (us ++ ds).length = ps.length := by rw [← r2.length]; exact F.len _ _ _ _ h
  exact F.go A out s H ⟨us, []⟩ _ _ Q E hr e0 (hb s us (e0.mod.kin.keeps fun b o e => (e0.bs b o e).1) l2) r2 h
theorem FnP.imp {gb : Bool} {P : Program} {w : World} {K : PySem.W.Frag} {mg : Str → Option Value} {base : Heap} {sp' : Sp} (F : FnP gb P w K mg base k fn sp) (h : ∀ vs H Q E, sp' vs H Q E → sp vs H Q E) : FnP gb P w K mg base k fn sp' := fun A out s H us vs Q E hr e0 r z => F A out s H us vs Q E hr e0 r (h _ _ _ _ z)
theorem FnG.byP0 {gb : Bool} {P : Program} {w : World} {K : PySem.W.Frag} {mg : Str → Option Value} {base : Heap} (F : FnG gb P w K mg base k fn fd ps sp) (hb : Binds K fd ps []) : FnP gb P w K mg base k fn sp := (F.byP hb .nil).imp fun vs H Q E z => by rw [List.append_nil]; exact z
theorem FnP.up {gb : Bool} {P : Program} {w : World} {K : PySem.W.Frag} {mg : Str → Option Value} {base : Heap} {j : Nat} (F : FnP false P w K mg base j fn sp) (h : j ≤ k) : FnP gb P w K mg base k fn sp := fun A out s H us vs Q E hr => F A out s H us vs Q E (hr.low.mono h)
theorem FnP.mono {gb : Bool} {P : Program} {w : World} {K : PySem.W.Frag} {mg : Str → Option Value} {base : Heap} {j : Nat} (F : FnP gb P w K mg base j fn sp) (h : j ≤ k) : FnP gb P w K mg base k fn sp := fun A out s H us vs Q E hr => F A out s H us vs Q E (hr.mono h)
theorem FnP.r {P : Program} {w : World} {K : PySem.W.Frag} {mg : Str → Option Value} {base : Heap} (F : FnP false P w K mg base k fn sp) : FnR P w K mg base (L2.CX P w) k fn sp := fun A out s H us vs Q E hr => F A out s H us vs Q E ⟨hr, nofun⟩
theorem fnp_of {P : Program} {w : World} {K : PySem.W.Frag} {mg : Str → Option Value} {base : Heap} (F : FnR P w K mg base (L2.CX P w) k fn sp) : FnP false P w K mg base k fn sp := fun A out s H us vs Q E hr => F A out s H us vs Q E hr.rm
variable {gb : Bool}
/-- the callee runs -/
theorem run_p {pins : List (Addr × Obj)} {σ : St} {H : Hp} {s : Shared} {Q : VK} {us : List Value} {vs : List V} (F : FnP gb X.prog X.w X.K X.mg X.base k fn sp) (hr : RoomG gb k X.A) (tk : Takes X W)
    (I : Inv X pins σ H s) (r : Vals vs us) (h : sp vs H Q (fun cls d H' => W cls d σ H')) : wpAny (model X.prog X.w) X.A (call (.ref fn) us) (EP X pins σ Q) X.xe s := by
  refine wpAny_call (codeAny_mono (F X.A X.stack s H us _ Q _ hr I.env0 r h) fun z s' hq => ?_)
  match z, hq with
  | .error e, hq => exact passAt tk σ pins H s e s' I hq
  | .ok (.ret u), hq => exact I.after hq
  | .ok .next, hq => exact hq.elim
  | .ok .brk, hq => exact hq.elim
  | .ok .cont, hq => exact hq.elim
/-- f(e, ..) by a promise -/
def tCl (W : WX) (sp : Sp) (t : TA) : TE := fun σ H Q => t σ H fun vs H1 => sp vs H1 Q (fun cls d H' => W cls d σ H')
theorem pe_cl {t : TA} (F : FnP gb X.prog X.w X.K X.mg X.base k fn sp) (hr : RoomG gb k X.A) (hg : Gl X x) (hm : X.mg x = some (.ref fn)) (hk : PySem.W.keepIn X.K (.ref fn) = true) (tk : Takes X W)
    (ha : PA X (e :: es) t) (hdb : (x == ("__debug__" : Str)) = false := by decide) (he : starEach (e :: es) X.env = (false, eval e X.env) :: starEach es X.env := by rfl) (hpl : (backTo pos (starEach es X.env)).any (·.1) = false := by rfl) :
    PE X (.Call (.Name x p) (e :: es) [] pos) (tCl W sp t) :=
  ⟨fun pins s σ H Q I h => wpAny_Call_Name_kw (ld_glob I hg hm (PySem.W.callWith_K (h₀ := X.base) I.ok.mod.kin hk (thn (ha.run pos pins s σ H _ I h) fun us s1 ⟨vs, H1, I1, r, q⟩ => ⟨I1.kIn, run_p F hr tk I1 r q⟩) he hpl) hdb)⟩
theorem pe_cl0 (F : FnP gb X.prog X.w X.K X.mg X.base k fn sp) (hr : RoomG gb k X.A) (hg : Gl X x) (hm : X.mg x = some (.ref fn)) (hk : PySem.W.keepIn X.K (.ref fn) = true) (tk : Takes X W)
    (hdb : (x == ("__debug__" : Str)) = false := by decide) : PE X (.Call (.Name x p) [] [] pos) (tCl W sp tNil) :=
  ⟨fun pins s σ H Q I h => wpAny_Call_Name_kw (ld_glob I hg hm (PySem.W.callWith_K0 I.kIn hk (run_p (us := []) (vs := []) F hr tk I .nil h)) hdb)⟩

/-- what the promise asks, from our side -/
theorem sp_of {σ : St} {G : Gh} {H : Hp} {S : Sto} {ds : List D} {vs : List V} {Q : VK} (o : Out T W σ G H (rIs T) Q (g ds S)) (w : Wf T G H S) (r : IsL T G H ds vs) (hn : vs.length = n) : spOf T n g vs H Q (fun cls d H' => W cls d σ H') := by
  refine ⟨hn, ds, G, S, r, w, ?_⟩
  cases q : g ds S with
  | ok d S' => rw [q] at o; exact o
  | exc c fs S' => rw [q] at o; exact o
  | div => rw [q] at o; exact o
def eFn (n : Nat) (g : List D → M D) (fl : Rho → M (List D)) : Ev := fun ρ => bd (fl ρ) fun ds => if ds.length = n then g ds else dv
theorem Out.fnn {σ : St} {G : Gh} {H : Hp} {S : Sto} {ds : List D} {vs : List V} {Q : VK} (o : Out T W σ G H (rIs T) Q ((if ds.length = n then g ds else dv) S)) (w : Wf T G H S) (r : IsL T G H ds vs) : spOf T n g vs H Q (fun cls d H' => W cls d σ H') := by
  by_cases c : ds.length = n
  · rw [if_pos c] at o
    exact sp_of o w r (r.len ▸ c)
  · rw [if_neg c] at o; exact o.elim
theorem se_call (F : FnP gb X.prog X.w X.K X.mg X.base k fn (spOf T n g)) (hr : RoomG gb k X.A) (hg : Gl X x) (hm : X.mg x = some (.ref fn)) (hk : PySem.W.keepIn X.K (.ref fn) = true) (tk : Takes X W) (ha : SA X T W (e :: es) fl)
    (hdb : (x == ("__debug__" : Str)) = false := by decide) (he : starEach (e :: es) X.env = (false, eval e X.env) :: starEach es X.env := by rfl) (hpl : (backTo pos (starEach es X.env)).any (·.1) = false := by rfl) : SE X T W (.Call (.Name x p) (e :: es) [] pos) (eFn n g fl) := by
  refine ⟨pe_imp (pe_cl F hr hg hm hk tk ha.pa hdb he hpl) fun σ H Q ⟨ρ, G, S, ag, wf, o⟩ => ⟨ρ, G, S, ag, wf, o.bind fun ds S1 G1 H1 vs k1 w1 i1 o1 => ?_⟩⟩
  exact Out.fnn o1 w1 i1
theorem se_call0 (F : FnP gb X.prog X.w X.K X.mg X.base k fn (spOf T 0 g)) (hr : RoomG gb k X.A) (hg : Gl X x) (hm : X.mg x = some (.ref fn)) (hk : PySem.W.keepIn X.K (.ref fn) = true) (tk : Takes X W)
    (hdb : (x == ("__debug__" : Str)) = false := by decide) : SE X T W (.Call (.Name x p) [] [] pos) (fun _ => g []) := by
  refine ⟨pe_imp (pe_cl0 F hr hg hm hk tk hdb) fun σ H Q ⟨ρ, G, S, ag, wf, o⟩ => ?_⟩
  exact sp_of (vs := []) o wf IsL.nil rfl

/-! a call whose arguments are only looked at -/
mutual
def D.nol : D → Bool
  | .lst _ => false
  | .scr _ => false
  | .tup xs => nols xs
  | .obj _ fs => nols fs
  | _ => true
def nols : List D → Bool
  | [] => true
  | d :: ds => d.nol && nols ds
end
def Ob.nol : Ob → Bool
  | .lst xs => nols xs
  | .ins _ fs => nols fs
/-- frozen for a while -/
def Gh.cut (G' G : Gh) (B : Addr → Prop) : Gh := ⟨fun b => G'.F b ∧ (B b → G.F b), G'.m⟩
def Gh.ups (G : Gh) (B : Addr → Prop) : Gh := ⟨fun b => G.F b ∨ B b, G.m⟩
section
variable {G G' : Gh} {H H' : Hp} {B : Addr → Prop}
mutual
theorem is_cut (hB : ∀ b, B b → ∃ xs, H' b = some (.lst xs)) : ∀ {d : D} {v : V}, d.nol = true → Is T G' H' d v → Is T (G'.cut G B) H' d v
  | .non, _, _, h => by simpa [Is] using h
  | .bl _, _, _, h => by simpa [Is] using h
  | .int _, _, _, h => by simpa [Is] using h
  | .str _, _, _, h => by simpa [Is] using h
  | .tup ds, v, c, h => by
    unfold Is at h ⊢
    obtain ⟨a, xs, e, t, r⟩ := h
    unfold D.nol at c
    refine ⟨a, xs, e, t.imp (fun ⟨f, z⟩ => ⟨⟨f, fun q => ?_⟩, z⟩) id, isL_cutG hB c r⟩
    obtain ⟨ys, y⟩ := hB a q
    rw [z] at y; cases y
  | .lst ds, v, c, h => by unfold D.nol at c; cases c
  | .scr ds, v, c, h => by unfold D.nol at c; cases c
  | .obj cc fs, v, c, h => by
    unfold Is at h ⊢
    obtain ⟨a, dx, xs, e, f, t, z, r⟩ := h
    unfold D.nol at c
    refine ⟨a, dx, xs, e, ⟨f, fun q => ?_⟩, t, z, isL_cutG hB c r⟩
    obtain ⟨ys, y⟩ := hB a q
    rw [t] at y; cases y
  | .ref n, v, _, h => by unfold Is at h ⊢; exact h
theorem isL_cutG (hB : ∀ b, B b → ∃ xs, H' b = some (.lst xs)) : ∀ {ds : List D} {vs : List V}, nols ds = true → IsL T G' H' ds vs → IsL T (G'.cut G B) H' ds vs
  | [], _, _, h => by simpa [IsL] using h
  | d :: ds, vs, c, h => by
    unfold IsL at h ⊢
    unfold nols at c
    rw [Bool.and_eq_true] at c
    obtain ⟨x, r, e, h1, h2⟩ := h
    exact ⟨x, r, e, is_cut hB c.1 h1, isL_cutG hB c.2 h2⟩
end
theorem lean_ups : Lean G H (G.ups B) H := ⟨fun _ f => Or.inl f, fun _ _ => rfl, ⟨[], by simp [Gh.ups]⟩⟩
theorem Wf.ups {S : Sto} (w : Wf T G H S) (hB : ∀ b, B b → b ∉ G.m ∧ ∃ xs, H b = some (.lst xs)) : Wf T (G.ups B) H S where
  fm := fun a f => f.elim (w.fm a) fun z => (hB a z).1
  fs := fun a f => f.elim (w.fs a) fun z => let ⟨xs, e⟩ := (hB a z).2; ⟨_, e, fun _ y => nomatch y⟩
  len := w.len
  nd := w.nd
  ob := fun i o e => let ⟨a, h1, h2⟩ := w.ob i o e; ⟨a, h1, lean_ob (G := G) (H := H) lean_ups rfl h2⟩
theorem Wf.cut {S : Sto} (w : Wf T G' H' S) (hB : ∀ b, B b → ∃ xs, H' b = some (.lst xs)) (hS : S.all Ob.nol = true) : Wf T (G'.cut G B) H' S where
  fm := fun a f => w.fm a f.1
  fs := fun a f => w.fs a f.1
  len := w.len
  nd := w.nd
  ob := fun i o e => by
    obtain ⟨a, h1, h2⟩ := w.ob i o e
    have c := List.all_eq_true.mp hS o (List.mem_of_getElem? e)
    refine ⟨a, h1, ?_⟩
    cases o with
    | lst ds => obtain ⟨xs, z1, z2⟩ := h2; exact ⟨xs, z1, isL_cutG hB c z2⟩
    | ins cc fs => obtain ⟨dx, xs, z1, z2, z3⟩ := h2; exact ⟨dx, xs, z1, z2, isL_cutG hB c z3⟩
theorem Kp.cut (k : Kp (G.ups B) H G' H') : Kp G H (G'.cut G B) H' where
  fr := fun a f => ⟨k.fr a (.inl f), fun _ => f⟩
  new := fun a f => (k.new a f.1).elim (fun z => z.elim .inl fun y => .inl (f.2 y)) .inr
  st := k.st
  kp := k.kp
  is := k.is
theorem bl_ups : ∀ {ds : List D} {vs : List V}, IsBL T G H ds vs → ∃ B : Addr → Prop, (∀ b, B b → b ∉ G.m ∧ ∃ xs, H b = some (.lst xs)) ∧ IsL T (G.ups B) H ds vs
  | [], vs, h => ⟨fun _ => False, fun _ z => z.elim, by cases h; exact IsL.nil⟩
  | d :: ds, vs, h => by
    obtain ⟨x, r, rfl, h1, h2⟩ := h
    obtain ⟨B, hB, hi⟩ := bl_ups h2
    rcases h1 with h1 | ⟨ys, a, xs, rfl, rfl, hm, hx, hr⟩
    · exact ⟨B, hB, IsL.cons (lean_ups.is h1) hi⟩
    · refine ⟨fun b => B b ∨ b = a, fun b z => z.elim (hB b) fun e => e ▸ ⟨hm, xs, hx⟩, IsL.cons ?_ (Lean.isL (G := G.ups B) (H := H) ⟨fun _ f => Or.imp id Or.inl f, fun _ _ => rfl, ⟨[], by simp [Gh.ups]⟩⟩ hi)⟩
      exact is_lst (.inr (.inr rfl)) hx (lean_ups.isL hr)
end
def eFnB (n : Nat) (g : List D → M D) (fl : Rho → M (List D)) : Ev := fun ρ => bd (fl ρ) fun ds S => if ds.length = n then match g ds S with
  | .ok d S' => if d.nol = true ∧ S'.all Ob.nol = true then .ok d S' else .div
  | .exc c fs S' => if nols fs = true ∧ S'.all Ob.nol = true then .exc c fs S' else .div
  | .div => .div
  else .div
theorem se_callL (F : FnP gb X.prog X.w X.K X.mg X.base k fn (spOf T n g)) (hr : RoomG gb k X.A) (hg : Gl X x) (hm : X.mg x = some (.ref fn)) (hk : PySem.W.keepIn X.K (.ref fn) = true) (tk : Takes X W) (ha : SAB X T W (e :: es) fl)
    (hdb : (x == ("__debug__" : Str)) = false := by decide) (he : starEach (e :: es) X.env = (false, eval e X.env) :: starEach es X.env := by rfl) (hpl : (backTo pos (starEach es X.env)).any (·.1) = false := by rfl) : SE X T W (.Call (.Name x p) (e :: es) [] pos) (eFnB n g fl) := by
  refine ⟨pe_imp (pe_cl F hr hg hm hk tk ha.pa hdb he hpl) fun σ H Q ⟨ρ, G, S, ag, wf, o⟩ => ⟨ρ, G, S, ag, wf, o.bind fun ds S1 G1 H1 vs k1 w1 i1 o1 => ?_⟩⟩
  by_cases c : ds.length = n
  · rw [if_pos c] at o1
    obtain ⟨B, hB, hi⟩ := bl_ups i1
    have wu := w1.ups hB
    refine ⟨by rw [← hi.len]; exact c, ds, G1.ups B, S1, hi, wu, ?_⟩
    have stay : ∀ G' H', Kp (G1.ups B) H1 G' H' → ∀ b, B b → ∃ xs, H' b = some (.lst xs) := fun G' H' k b z => by
      obtain ⟨m, xs, e⟩ := hB b z
      exact ⟨xs, k.kp b _ e m fun _ y => nomatch y⟩
    cases q : g ds S1 with
    | div => rw [q] at o1; exact o1
    | ok d S' =>
      rw [q] at o1
      dsimp only at o1 ⊢
      by_cases c2 : d.nol = true ∧ S'.all Ob.nol = true
      · rw [if_pos c2] at o1
        intro G' H' v k w i
        have z := stay G' H' k
        exact o1 (G'.cut G1 B) H' v k.cut (w.cut z c2.2) (is_cut z c2.1 i)
      · rw [if_neg c2] at o1; exact o1.elim
    | exc cc fs S' =>
      rw [q] at o1
      dsimp only at o1 ⊢
      by_cases c2 : nols fs = true ∧ S'.all Ob.nol = true
      · rw [if_pos c2] at o1
        intro G' H' cls dx k w i
        have z := stay G' H' k
        refine o1 (G'.cut G1 B) H' cls dx k.cut (w.cut z c2.2) ?_
        obtain ⟨e1, e2⟩ := i
        refine ⟨e1, e2.imp id fun ⟨a, xs, h1, h2, h3, h4, h5⟩ => ⟨a, xs, h1, ⟨h2, fun y => ?_⟩, h3, h4, isL_cutG z c2.1 h5⟩⟩
        obtain ⟨ys, hy⟩ := z a y
        rw [h3] at hy; cases hy
      · rw [if_neg c2] at o1; exact o1.elim
  · rw [if_neg c] at o1; exact o1.elim
end
end LS

set_option Elab.async false
set_option linter.all false
set_option maxRecDepth 100000
set_option maxHeartbeats 1000000
namespace LS
open PySem L2 PySem.Spec
open PyProof.Rows hiding St

/-! ## 13. statements -/
inductive Fl where
  | nx (ρ : Rho)
  | rt (d : D)
  | bk (ρ : Rho)
  | ct (ρ : Rho)
abbrev Sx := Rho → M Fl
/-- where a def's run began: the ghost and the heap -/
structure Bs where
  g : Gh
  h : Hp
  me : Option Addr
/-- the frame's state, from the def's entry (G0) on -/
structure StAg (X : Cx) (T : Tb) (G0 : Bs) (G : Gh) (H : Hp) (σ : St) (ρ : Rho) : Prop where
  ag : Ag T G H σ ρ
  kp : Kp G0.g G0.h G H
  own : ∀ (i : Nat) (s : Sl) (a : Addr), ρ[i]? = some (some s) → s.mine = true → σ[i]? = some (some (.ref a)) → G0.h a = none ∧ ∀ c fs, s = .mak c fs → G0.me = some a
def OutS (X : Cx) (T : Tb) (W : WX) (G0 : Bs) (G : Gh) (H : Hp) (E : Ends) : Res Fl → Prop
  | .ok (.nx ρ') S' => ∀ σ' G' H', StAg X T G0 G' H' σ' ρ' → Wf T G' H' S' → Lean G H G' H' → E.nx σ' H'
  | .ok (.bk ρ') S' => ∀ σ' G' H', StAg X T G0 G' H' σ' ρ' → Wf T G' H' S' → Lean G H G' H' → E.bk σ' H'
  | .ok (.ct ρ') S' => ∀ σ' G' H', StAg X T G0 G' H' σ' ρ' → Wf T G' H' S' → Lean G H G' H' → E.ct σ' H'
  | .ok (.rt d) S' => ∀ G' H' v, Kp G0.g G0.h G' H' → Wf T G' H' S' → Is T G' H' d v → E.rt v H'
  | .exc c fs S' => ∀ σ' G' H' cls dx, Kp G0.g G0.h G' H' → Wf T G' H' S' → IsX T G' H' c fs cls dx → W cls dx σ' H'
  | .div => False
def tS (X : Cx) (T : Tb) (W : WX) (f : Sx) : TS := fun E σ H => ∃ ρ G0 G S, StAg X T G0 G H σ ρ ∧ Wf T G H S ∧ OutS X T W G0 G H E (f ρ S)
structure SS (X : Cx) (T : Tb) (W : WX) (st : Stmt) (f : Sx) : Prop where
  ps : PS X st (tS X T W f)
structure SSs (X : Cx) (T : Tb) (W : WX) (st : List Stmt) (f : Sx) : Prop where
  pss : PSs X st (tS X T W f)
theorem Lean.refl {G : Gh} {H : Hp} : Lean G H G H := ⟨fun _ h => h, fun _ _ => rfl, ⟨[], by simp⟩⟩
theorem Lean.trans {G G1 G2 : Gh} {H H1 H2 : Hp} (a : Lean G H G1 H1) (b : Lean G1 H1 G2 H2) : Lean G H G2 H2 :=
  ⟨fun x h => b.fr x (a.fr x h), fun x h => (b.eq x (a.fr x h)).trans (a.eq x h), let ⟨l, e⟩ := a.st; let ⟨l', e'⟩ := b.st; ⟨l ++ l', by rw [e', e, List.append_assoc]⟩⟩
section
variable {X : Cx} {T : Tb} {W : WX} {G0 : Bs} {G G1 : Gh} {H H1 : Hp} {σ : St} {ρ : Rho} {S : Sto} {E : Ends}
theorem StAg.keep (g : StAg X T G0 G H σ ρ) (w : Wf T G H S) (k : Kp G H G1 H1) : StAg X T G0 G1 H1 σ ρ := ⟨g.ag.keep w k, g.kp.trans k, g.own⟩
theorem OutS.shift (l : Lean G H G1 H1) : ∀ {r : Res Fl}, OutS X T W G0 G H E r → OutS X T W G0 G1 H1 E r
  | .ok (.nx _) _, h => fun σ' G' H' a b c => h σ' G' H' a b (l.trans c)
  | .ok (.bk _) _, h => fun σ' G' H' a b c => h σ' G' H' a b (l.trans c)
  | .ok (.ct _) _, h => fun σ' G' H' a b c => h σ' G' H' a b (l.trans c)
  | .ok (.rt _) _, h => h
  | .exc _ _ _, h => h
  | .div, h => h
/-- an expression first -/
theorem OutS.bind {α β : Type} {m : M α} {k : α → M Fl} {R1 : Gh → Hp → α → β → Prop} {Q1 : β → Hp → Prop} (h : OutS X T W G0 G H E (bd m k S)) (g : StAg X T G0 G H σ ρ) (w : Wf T G H S)
    (n : ∀ a S' G' H' b, Kp G H G' H' → StAg X T G0 G' H' σ ρ → Wf T G' H' S' → R1 G' H' a b → OutS X T W G0 G' H' E (k a S') → Q1 b H') : Out T W σ G H R1 Q1 (m S) := by
  unfold bd at h
  cases e : m S with
  | ok a S' =>
    rw [e] at h
    intro G' H' b kk w' r
    exact n a S' G' H' b kk (g.keep w kk) w' r (OutS.shift (w.lean kk) h)
  | exc c fs S' =>
    rw [e] at h
    intro G' H' cls dx kk w' i
    exact h σ G' H' cls dx (g.kp.trans kk) w' i
  | div => rw [e] at h; exact h
end

section
variable {X : Cx} {T : Tb} {W : WX} {e a b c o : Expr} {f fa fb fc : Ev} {pos p2 p apos : Pos} {es : List Expr} {fl : Rho → M (List D)} {x m : Str} {st : Stmt} {rest : List Stmt} {s u : Sx} {t : Rho → M Bool} {i : Nat}
/-! ### blocks -/
def sNil : Sx := fun ρ => ret (.nx ρ)
def sSeq (s u : Sx) : Sx := fun ρ => bd (s ρ) fun r => match r with
  | .nx ρ' => u ρ'
  | r => ret r
theorem ss_nil : SSs X T W [] sNil := ⟨pss_imp pss_nil fun E σ H ⟨ρ, G0, G, S, ag, wf, o⟩ => o σ G H ag wf .refl⟩
theorem tseq_of {E : Ends} {σ : St} {H : Hp} (h : tS X T W (sSeq s u) E σ H) : tSeq (tS X T W s) (tS X T W u) E σ H := by
  obtain ⟨ρ, G0, G, S, ag, wf, o⟩ := h
  refine ⟨ρ, G0, G, S, ag, wf, ?_⟩
  unfold sSeq bd at o
  cases q : s ρ S with
  | div => rw [q] at o; exact o
  | exc c fs S' => rw [q] at o; exact o
  | ok r S' =>
    rw [q] at o
    cases r with
    | nx ρ' => exact fun σ' G' H' a w l => ⟨ρ', G0, G', S', a, w, OutS.shift l o⟩
    | rt d => exact o
    | bk ρ' => exact o
    | ct ρ' => exact o
theorem ss_cons (h1 : SS X T W st s) (h2 : SSs X T W rest u) : SSs X T W (st :: rest) (sSeq s u) := ⟨pss_imp (pss_cons h1.ps h2.pss) fun E σ H h => tseq_of h⟩
theorem ss_one (h1 : SS X T W st s) : SSs X T W [st] s := ⟨pss_one h1.ps⟩
theorem ss_pass : SS X T W (.Pass pos) sNil := ⟨ps_imp ps_pass fun E σ H ⟨ρ, G0, G, S, ag, wf, o⟩ => o σ G H ag wf .refl⟩
def sBrk : Sx := fun ρ => ret (.bk ρ)
def sCnt : Sx := fun ρ => ret (.ct ρ)
theorem ss_break : SS X T W (.Break pos) sBrk := ⟨ps_imp ps_break fun E σ H ⟨ρ, G0, G, S, ag, wf, o⟩ => o σ G H ag wf .refl⟩
theorem ss_cont : SS X T W (.Continue pos) sCnt := ⟨ps_imp ps_continue fun E σ H ⟨ρ, G0, G, S, ag, wf, o⟩ => o σ G H ag wf .refl⟩
theorem ss_doc {z : Str} {j : Nat} {pos' : Pos} : SS X T W (.Expr (.Constant (.str z) j pos) pos') sNil := ⟨ps_imp ps_doc fun E σ H ⟨ρ, G0, G, S, ag, wf, o⟩ => o σ G H ag wf .refl⟩
/-- what is never come to -/
def sNo : Sx := fun _ => dv
theorem ss_no : SS X T W st sNo := ⟨ps_imp ps_never fun E σ H ⟨ρ, G0, G, S, ag, wf, o⟩ => o⟩
def sExpr (f : Ev) : Sx := fun ρ => bd (f ρ) fun _ => ret (.nx ρ)
theorem ss_expr (h : SE X T W e f) (hs : swapsWith e none pos.line X.env = pure false := by rfl) : SS X T W (.Expr e pos) (sExpr f) :=
  ⟨ps_imp (ps_expr h.pe hs) fun E σ H ⟨ρ, G0, G, S, ag, wf, o⟩ => ⟨ρ, G, S, ag.ag, wf, o.bind ag wf fun d S' G' H' v k ag' w' i o' => o' σ G' H' ag' w' .refl⟩⟩
def sRet (f : Ev) : Sx := fun ρ => bd (f ρ) fun d => ret (.rt d)
theorem ss_ret (h : SE X T W e f) : SS X T W (.Return (some e) pos) (sRet f) :=
  ⟨ps_imp (ps_ret h.pe) fun E σ H ⟨ρ, G0, G, S, ag, wf, o⟩ => ⟨ρ, G, S, ag.ag, wf, o.bind ag wf fun d S' G' H' v k ag' w' i o' => o' G' H' v ag'.kp w' i⟩⟩
def sRetN : Sx := fun _ => ret (.rt .non)
theorem ss_retN : SS X T W (.Return none pos) sRetN := ⟨ps_imp ps_retN fun E σ H ⟨ρ, G0, G, S, ag, wf, o⟩ => o G H .non ag.kp wf is_non⟩
/-- return of a list of one's own -/
def sRetO (i : Nat) : Sx := fun ρ => match ρ[i]? with
  | some (some (.own ds)) => ret (.rt (.lst ds))
  | _ => dv
theorem own_at {i : Nat} {ds : List D} {ρ : Rho} {σ : St} {G : Gh} {H : Hp} (g : Ag T G H σ ρ) (e : ρ[i]? = some (some (.own ds))) : ∃ a xs, σ[i]? = some (some (.ref a)) ∧ ¬ G.F a ∧ a ∉ G.m ∧ H a = some (.lst xs) ∧ IsL T G H ds xs := by
  obtain ⟨v, h1, a, xs, rfl, h2⟩ := g.get i _ e
  exact ⟨a, xs, h1, h2⟩
theorem ss_retO {x : Str} (hN : X.N[i]? = some x) (hv : Vis X.env.scope x) (hd : (x == ("__debug__" : Str)) = false := by decide) (hcd : (x == ("__classdict__" : Str)) = false := by decide) : SS X T W (.Return (some (.Name x p)) pos) (sRetO i) := by
  refine ⟨ps_imp (ps_ret (pe_var hN hv hd hcd)) fun E σ H ⟨ρ, G0, G, S, ag, wf, o⟩ => ?_⟩
  unfold sRetO at o
  rcases q : ρ[i]? with _ | _ | sl
  · rw [q] at o; exact o.elim
  · rw [q] at o; exact o.elim
  · rw [q] at o
    cases sl with
    | val d => exact o.elim
    | mak c fs => exact o.elim
    | own ds =>
      obtain ⟨a, xs, h1, h2, h3, h4, h5⟩ := own_at ag.ag q
      refine ⟨_, h1, o (G.add a) H (.ref a) (ag.kp.add (ag.own i _ a q rfl h1).1) (wf.add h3 h4 fun _ z => nomatch z) ?_⟩
      exact is_lst (.inr rfl) h4 (lean_add.isL h5)
/-! ### if -/
def sIf (t : Rho → M Bool) (s u : Sx) : Sx := fun ρ => bd (t ρ) fun k => if k = true then s ρ else u ρ
variable {sa sb : List Stmt}
theorem ss_if (h : ST X T W c t) (ha : SSs X T W sa s) (hb : SSs X T W sb u) : SS X T W (.If c sa sb pos) (sIf t s u) := by
  refine ⟨ps_imp (ps_if h.pt ha.pss hb.pss) fun E σ H ⟨ρ, G0, G, S, ag, wf, o⟩ => ⟨ρ, G, S, ag.ag, wf, o.bind ag wf fun d S' G' H' v k ag' w' i o' => ?_⟩⟩
  cases i
  cases d with
  | true => exact ⟨ρ, G0, G', S', ag', w', o'⟩
  | false => exact ⟨ρ, G0, G', S', ag', w', o'⟩

/-! ### stores -/
theorem rho_get {α : Type} {l : List α} {i j : Nat} {a : α} (h : i < l.length) : (l.set i a)[j]? = if j = i then some a else l[j]? := by
  by_cases e : j = i
  · subst e; rw [if_pos rfl, List.getElem?_set_self h]
  · rw [if_neg e, List.getElem?_set_ne (Ne.symm e)]
theorem Ag.setV {G : Gh} {H : Hp} {σ : St} {ρ : Rho} {d : D} {v : V} (g : Ag T G H σ ρ) (h : i < ρ.length) (r : Is T G H d v) : Ag T G H (σ.set i (some v)) (ρ.set i (some (.val d))) := by
  have hσ : i < σ.length := by rw [g.len]; exact h
  refine ⟨by simp [g.len], fun j sl e => ?_, fun j k s t w ne e1 e2 m1 m2 z => ?_⟩
  · rw [rho_get h] at e
    rw [rho_get hσ]
    by_cases q : j = i
    · rw [if_pos q] at e ⊢
      cases e
      exact ⟨v, rfl, r⟩
    · rw [if_neg q] at e ⊢
      exact g.get j sl e
  · rw [rho_get h] at e1 e2
    rw [rho_get hσ] at z ⊢
    by_cases q1 : j = i
    · rw [if_pos q1] at e1; cases e1; cases m1
    · by_cases q2 : k = i
      · rw [if_pos q2] at e2; cases e2; cases m2
      · rw [if_neg q1] at e1 z
        rw [if_neg q2] at e2 ⊢
        exact g.ap j k s t w ne e1 e2 m1 m2 z
theorem StAg.setV {G0 : Bs} {G : Gh} {H : Hp} {σ : St} {ρ : Rho} {d : D} {v : V} (g : StAg X T G0 G H σ ρ) (h : i < ρ.length) (r : Is T G H d v) : StAg X T G0 G H (σ.set i (some v)) (ρ.set i (some (.val d))) := by
  have hσ : i < σ.length := by rw [g.ag.len]; exact h
  refine ⟨g.ag.setV h r, g.kp, fun j s a e m z => ?_⟩
  rw [rho_get h] at e
  rw [rho_get hσ] at z
  by_cases q : j = i
  · rw [if_pos q] at e; cases e; cases m
  · rw [if_neg q] at e z
    exact g.own j s a e m z
/-- a slot's owned thing at a fresh address -/
theorem Ag.setO {G : Gh} {H : Hp} {σ : St} {ρ : Rho} {sl : Sl} {a : Addr} (g : Ag T G H σ ρ) (h : i < ρ.length) (r : SlIs T G H sl (.ref a)) (ap : ∀ (j : Nat) (s : Sl), j ≠ i → ρ[j]? = some (some s) → s.mine = true → σ[j]? ≠ some (some (.ref a))) : Ag T G H (σ.set i (some (.ref a))) (ρ.set i (some sl)) := by
  have hσ : i < σ.length := by rw [g.len]; exact h
  refine ⟨by simp [g.len], fun j s' e => ?_, fun j k s t w ne e1 e2 m1 m2 z => ?_⟩
  · rw [rho_get h] at e
    rw [rho_get hσ]
    by_cases q : j = i
    · rw [if_pos q] at e ⊢
      cases e
      exact ⟨_, rfl, r⟩
    · rw [if_neg q] at e ⊢
      exact g.get j s' e
  · rw [rho_get h] at e1 e2
    rw [rho_get hσ] at z ⊢
    by_cases q1 : j = i
    · rw [if_pos q1] at z
      cases z
      rw [if_neg (fun q2 => ne (q1.trans q2.symm))] at e2 ⊢
      exact ap k t (fun q2 => ne (q1.trans q2.symm)) e2 m2
    · rw [if_neg q1] at e1 z
      by_cases q2 : k = i
      · rw [if_pos q2]
        intro w'
        cases w'
        exact ap j s q1 e1 m1 z
      · rw [if_neg q2] at e2 ⊢
        exact g.ap j k s t w ne e1 e2 m1 m2 z
def sSet (i : Nat) (f : Ev) : Sx := fun ρ => bd (f ρ) fun d => if i < ρ.length then ret (.nx (ρ.set i (some (.val d)))) else dv
theorem ss_set {pos' : Pos} (hN : X.N.Nodup) (hi : X.N[i]? = some x) (hx : Loc X.env.scope x) (h : SE X T W e f) (hs : swapsWith e (some (.Name x pos')) pos.line X.env = pure false := by rfl)
    (hf : X.fn x = true ∨ X.env.scope.names.lookup x = some .local := by first | exact .inl rfl | exact .inr rfl | assumption) : SS X T W (.Assign [.Name x pos'] e pos) (sSet i f) := by
  refine ⟨ps_imp (ps_set hN hi hx h.pe hs hf) fun E σ H ⟨ρ, G0, G, S, ag, wf, o⟩ => ⟨ρ, G, S, ag.ag, wf, o.bind ag wf fun d S' G' H' v k ag' w' r o' => ?_⟩⟩
  by_cases c : i < ρ.length
  · rw [if_pos c] at o'
    exact o' _ G' H' (ag'.setV c r) w' .refl
  · rw [if_neg c] at o'; exact o'.elim
def sOwn (i : Nat) (f : Rho → M (List D)) : Sx := fun ρ => bd (f ρ) fun ds => if i < ρ.length then ret (.nx (ρ.set i (some (.own ds)))) else dv
theorem ag_fresh {G G' : Gh} {H H' : Hp} {σ : St} {ρ : Rho} {a : Addr} (g : Ag T G H σ ρ) (n : H a = none) : ∀ (j : Nat) (s : Sl), j ≠ i → ρ[j]? = some (some s) → s.mine = true → σ[j]? ≠ some (some (.ref a)) := fun j s _ e m z => by
  obtain ⟨v, h1, h2⟩ := g.get j s e
  rw [z] at h1
  cases h1
  cases s with
  | val d => cases m
  | own ds => obtain ⟨a', xs, e', _, _, h, _⟩ := h2; cases e'; rw [n] at h; cases h
  | mak c fs => obtain ⟨a', dx, xs, e', _, _, h, _⟩ := h2; cases e'; rw [n] at h; cases h
theorem ss_own {pos' : Pos} {fn : Rho → M (List D)} (hN : X.N.Nodup) (hi : X.N[i]? = some x) (hx : Loc X.env.scope x) (h : SN X T W e fn) (hs : swapsWith e (some (.Name x pos')) pos.line X.env = pure false := by rfl)
    (hf : X.fn x = true ∨ X.env.scope.names.lookup x = some .local := by first | exact .inl rfl | exact .inr rfl | assumption) : SS X T W (.Assign [.Name x pos'] e pos) (sOwn i fn) := by
  refine ⟨ps_imp (ps_set hN hi hx h.pe hs hf) fun E σ H ⟨ρ, G0, G, S, ag, wf, o⟩ => ⟨ρ, G, S, ag.ag, wf, ?_⟩⟩
  unfold sOwn bd at o
  cases q : fn ρ S with
  | div => rw [q] at o; exact o
  | exc c fs S' =>
    rw [q] at o
    intro G' H' cls dx k w' r
    exact o σ G' H' cls dx (ag.kp.trans k) w' r
  | ok ds S' =>
    rw [q] at o
    intro G' H' a k w' n nf nm ⟨xs, hx', hr⟩
    dsimp only at o
    by_cases c : i < ρ.length
    · rw [if_pos c] at o
      have ag' := ag.keep wf k
      have n0 : G0.h a = none := ag.kp.none n
      have hσ : i < σ.length := by rw [ag.ag.len]; exact c
      refine o _ G' H' ⟨ag'.ag.setO c ⟨a, xs, rfl, nf, nm, hx', hr⟩ (ag_fresh (G' := G') (H' := H') ag.ag n), ag'.kp, fun j s b e m z => ?_⟩ w' (wf.lean k)
      rw [rho_get c] at e
      rw [rho_get hσ] at z
      by_cases p : j = i
      · rw [if_pos p] at e z; cases e; cases z; exact ⟨n0, nofun⟩
      · rw [if_neg p] at e z
        exact ag.own j s b e m z
    · rw [if_neg c] at o; exact o.elim
/-- the list in a slot is changed -/
theorem StAg.chg {G0 : Bs} {G : Gh} {H : Hp} {σ : St} {ρ : Rho} {a : Addr} {xs ys : List V} {ds es : List D} (g : StAg X T G0 G H σ ρ) (w : Wf T G H S) (q : ρ[i]? = some (some (.own ds))) (z : σ[i]? = some (some (.ref a))) (hx : H a = some (.lst xs)) (nf : ¬ G.F a) (nm : a ∉ G.m) (r : IsL T G H es ys) :
    StAg X T G0 G (upd H a (.lst ys)) σ (ρ.set i (some (.own es))) ∧ Wf T G (upd H a (.lst ys)) S ∧ Lean G H G (upd H a (.lst ys)) := by
  have c : i < ρ.length := (List.getElem?_eq_some_iff.mp q).1
  have ne : ∀ b, G.F b → b ≠ a := fun b f e => nf (e ▸ f)
  have l : Lean G H G (upd H a (.lst ys)) := ⟨fun _ f => f, fun b f => by rw [upd_ne (ne b f)], ⟨[], by simp⟩⟩
  have w' : Wf T G (upd H a (.lst ys)) S := by
    refine ⟨w.fm, fun b f => ?_, w.len, w.nd, fun j ob e => ?_⟩
    · obtain ⟨u, h1, h2⟩ := w.fs b f
      exact ⟨u, by rw [upd_ne (ne b f)]; exact h1, h2⟩
    · obtain ⟨b, h1, h2⟩ := w.ob j ob e
      refine ⟨b, h1, lean_ob l ?_ h2⟩
      rw [upd_ne]
      rintro rfl
      exact nm (List.mem_of_getElem? h1)
  have own0 := (g.own i _ a q rfl z).1
  refine ⟨⟨⟨by simp [g.ag.len], fun j sl e => ?_, fun j k s t v n e1 e2 m1 m2 y => ?_⟩, ?_, fun j s b e m y => ?_⟩, w', l⟩
  · rw [rho_get c] at e
    by_cases p : j = i
    · rw [if_pos p] at e
      cases e
      subst p
      exact ⟨_, z, a, ys, rfl, nf, nm, upd_same, l.isL r⟩
    · rw [if_neg p] at e
      obtain ⟨v, h1, h2⟩ := g.ag.get j sl e
      refine ⟨v, h1, ?_⟩
      cases sl with
      | val d => exact l.is h2
      | own ds' =>
        obtain ⟨b, us, rfl, k1, k2, k3, k4⟩ := h2
        have nb : b ≠ a := fun y => by
          subst y
          exact g.ag.ap j i _ _ _ p e q rfl rfl h1 z
        exact ⟨b, us, rfl, k1, k2, by rw [upd_ne nb]; exact k3, l.isL k4⟩
      | mak cc fs =>
        obtain ⟨b, dx, us, rfl, k1, k2, k3, k5, k6, k4⟩ := h2
        have nb : b ≠ a := fun y => by
          subst y
          exact g.ag.ap j i _ _ _ p e q rfl rfl h1 z
        exact ⟨b, dx, us, rfl, k1, k2, by rw [upd_ne nb]; exact k3, k5, k6, l.isL k4⟩
  · have old : ∀ (j : Nat) (s : Sl), (ρ.set i (some (Sl.own es)))[j]? = some (some s) → s.mine = true → ∃ s' : Sl, ρ[j]? = some (some s') ∧ s'.mine = true := fun j s e m => by
      rw [rho_get c] at e
      by_cases p : j = i
      · rw [p]; exact ⟨_, q, rfl⟩
      · rw [if_neg p] at e; exact ⟨s, e, m⟩
    obtain ⟨s', f1, f2⟩ := old j s e1 m1
    obtain ⟨t', f3, f4⟩ := old k t e2 m2
    exact g.ag.ap j k s' t' v n f1 f3 f2 f4 y
  · refine ⟨g.kp.fr, g.kp.new, g.kp.st, fun b u h1 h2 h3 => ?_, fun b h1 => ?_⟩
    · have nb : b ≠ a := fun y => by subst y; rw [own0] at h1; cases h1
      rw [upd_ne nb]; exact g.kp.kp b u h1 h2 h3
    · by_cases y : b = a
      · rw [y, upd_same]; exact nofun
      · rw [upd_ne y]; exact g.kp.is b h1
  · rw [rho_get c] at e
    by_cases p : j = i
    · rw [if_pos p] at e; cases e; subst p; rw [z] at y; cases y; exact ⟨own0, nofun⟩
    · rw [if_neg p] at e
      exact g.own j s b e m y
/-- x.append(e), x.extend(e), .. of a list of one's own: the method changes the list, k tells how -/
def sMut (i : Nat) (k : List D → List D → M (List D)) (fl : Rho → M (List D)) : Sx := fun ρ => match ρ[i]? with
  | some (some (.own ds)) => bd (fl ρ) fun args => bd (k ds args) fun es => ret (.nx (ρ.set i (some (.own es))))
  | _ => dv
theorem own_of {α : Type} {ρ : Rho} {i : Nat} {S : Sto} {k : List D → M α} (h : (match ρ[i]? with
  | some (some (.own ds)) => k ds
  | _ => (dv : M α)) S ≠ .div) : ∃ ds, ρ[i]? = some (some (.own ds)) := by
  rcases q : ρ[i]? with _ | _ | sl
  · rw [q] at h; exact absurd rfl h
  · rw [q] at h; exact absurd rfl h
  · cases sl with
    | own ds => exact ⟨ds, rfl⟩
    | _ => rw [q] at h; exact absurd rfl h
theorem OutS.nd {G0 : Bs} {G : Gh} {H : Hp} {E : Ends} {r : Res Fl} (h : OutS X T W G0 G H E r) : r ≠ .div := fun e => by rw [e] at h; exact h
/-- what a changing method must keep -/
def OkM (T : Tb) (k : List D → List D → M (List D)) (r : V → List V → Hp → VK → Prop) : Prop :=
  ∀ (G : Gh) (H : Hp) (S : Sto) (a : Addr) (xs : List V) (ds args : List D) (vs : List V) (Q : VK), Wf T G H S → H a = some (.lst xs) → IsL T G H ds xs → IsL T G H args vs →
    (∃ es, k ds args S = .ok es S ∧ ((∀ ys, IsL T G H es ys → Q .non (upd H a (.lst ys))) → r (.ref a) vs H Q)) ∨ k ds args S = .div
theorem ss_mut {name : Str} {idn : String} {r : V → List V → Hp → VK → Prop} {k : List D → List D → M (List D)} (slot : Slot "list" name idn) (hty : typeOf (.builtin idn) = pure (.type "method_descriptor")) (hm : MtR X idn r) (ok : OkM T k r)
    (hN : X.N[i]? = some x) (hv : Vis X.env.scope x) (ha : SA X T W (e :: es) fl) (hs0 : swapsWith (.Call (.Attribute (.Name x p) name apos) (e :: es) [] p2) none pos.line X.env = pure false := by rfl)
    (hd : (x == ("__debug__" : Str)) = false := by decide) (hcd : (x == ("__classdict__" : Str)) = false := by decide)
    (hbase : attributeBase (.Name x p) name X.env (eval (.Name x p) X.env) = eval (.Name x p) X.env := by rfl)
    (hfew : ((backTo p2 (starEach (e :: es) X.env)).all (fun z => !z.1) && (backToKw p2 (keywordEach [] X.env)).all (fun z => z.1.isSome)
      && decide ((e :: es).length + ([] : List Keyword).length + (if ([] : List Keyword).isEmpty then 0 else 1) < 30)) = true := by rfl)
    (hline : (apos.endLine == p2.line) = true := by rfl) (hs : starEach (e :: es) X.env = (false, eval e X.env) :: starEach es X.env := by rfl) (hplain : (backTo p2 (starEach es X.env)).any (·.1) = false := by rfl) :
    SS X T W (.Expr (.Call (.Attribute (.Name x p) name apos) (e :: es) [] p2) pos) (sMut i k fl) := by
  refine ⟨ps_imp (ps_expr (pe_bm PySem.F.plainAttrs_list slot hty hm (pe_var hN hv hd hcd) ha.pa hbase hfew hline hs hplain) hs0) fun E σ H ⟨ρ, G0, G, S, ag, wf, o⟩ => ?_⟩
  obtain ⟨ds, q⟩ := own_of o.nd
  unfold sMut at o
  rw [q] at o
  obtain ⟨a, xs, z, nf, nm, hx, hr⟩ := own_at ag.ag q
  refine ⟨_, z, Or.inl ⟨rfl, xs, SqL.of hx⟩, ρ, G, S, ag.ag, wf, OutS.bind o ag wf fun args S1 G1 H1 vs k1 ag1 w1 i1 o1 => ?_⟩
  obtain ⟨a', xs', z', nf', nm', hx', hr'⟩ := own_at ag1.ag q
  rw [z] at z'
  cases z'
  rcases ok G1 H1 S1 a xs' ds args vs (fun _ H2 => E.nx σ H2) w1 hx' hr' i1 with ⟨es', e1, fin⟩ | e1
  · unfold bd at o1
    rw [e1] at o1
    refine fin fun ys ry => ?_
    obtain ⟨g1, g2, g3⟩ := ag1.chg w1 q z hx' nf' nm' ry
    exact o1 σ G1 _ g1 g2 g3
  · unfold bd at o1
    rw [e1] at o1
    exact o1.elim
def kApp (ds args : List D) : M (List D) := match args with
  | [d] => if ds.length < sizeLine then ret (ds ++ [d]) else dv
  | _ => dv
theorem ok_app : OkM T kApp rAppend := by
  intro G H S a xs ds args vs Q wf hx hr ha
  match args, ha with
  | [], _ => exact .inr rfl
  | _ :: _ :: _, _ => exact .inr rfl
  | [d], ha =>
    unfold IsL at ha
    obtain ⟨v, w, rfl, h1, h2⟩ := ha
    unfold IsL at h2
    subst h2
    unfold kApp
    dsimp only
    by_cases c : ds.length < sizeLine
    · rw [if_pos c]
      exact .inl ⟨_, rfl, fun k => ⟨a, xs, v, rfl, rfl, hx, by rw [← hr.len]; exact c, k _ (hr.app (IsL.cons h1 IsL.nil))⟩⟩
    · rw [if_neg c]; exact .inr rfl
def kExt (ds args : List D) : M (List D) := match args with
  | [.lst es] => if ds.length + es.length ≤ sizeLine then ret (ds ++ es) else dv
  | _ => dv
theorem ok_ext : OkM T kExt rExtend := by
  intro G H S a xs ds args vs Q wf hx hr ha
  unfold kExt
  split
  · rename_i es
    unfold IsL at ha
    obtain ⟨v, w, rfl, h1, h2⟩ := ha
    unfold IsL at h2
    subst h2
    obtain ⟨b, us, rfl, _, t, r⟩ := b_lst wf (.inl h1)
    by_cases c : ds.length + es.length ≤ sizeLine
    · rw [if_pos c]
      exact .inl ⟨_, rfl, fun k => ⟨a, b, xs, us, rfl, rfl, hx, t, by rw [← hr.len, ← r.len]; exact c, k _ (hr.app r)⟩⟩
    · rw [if_neg c]; exact .inr rfl
  · exact .inr rfl
end
end LS

set_option Elab.async false
set_option linter.all false
set_option maxRecDepth 100000
set_option maxHeartbeats 1000000
namespace LS
open PySem L2 PySem.Spec
open PyProof.Rows hiding St

/-! ## 14. targets -/
/-- a target within a def: names, items -/
structure SG (X : Cx) (T : Tb) (W : WX) (tg : Expr) (g : D → Rho → M Rho) : Prop where
  pg : PG X tg fun v σ H Q => ∃ d ρ G0 G S, Is T G H d v ∧ StAg X T G0 G H σ ρ ∧ Wf T G H S ∧
    match g d ρ S with
    | .ok ρ' S' => ∀ σ' G' H', StAg X T G0 G' H' σ' ρ' → Wf T G' H' S' → Lean G H G' H' → Q σ' H'
    | .exc c fs S' => ∀ σ' G' H' cls dx, Kp G0.g G0.h G' H' → Wf T G' H' S' → IsX T G' H' c fs cls dx → W cls dx σ' H'
    | .div => False
structure SGs (X : Cx) (T : Tb) (W : WX) (ts : List Expr) (g : List D → Rho → M Rho) : Prop where
  pgs : PGs X ts fun vs σ H Q => ∃ ds ρ G0 G S, IsL T G H ds vs ∧ StAg X T G0 G H σ ρ ∧ Wf T G H S ∧
    match g ds ρ S with
    | .ok ρ' S' => ∀ σ' G' H', StAg X T G0 G' H' σ' ρ' → Wf T G' H' S' → Lean G H G' H' → Q σ' H'
    | .exc c fs S' => ∀ σ' G' H' cls dx, Kp G0.g G0.h G' H' → Wf T G' H' S' → IsX T G' H' c fs cls dx → W cls dx σ' H'
    | .div => False
theorem pg_imp {X : Cx} {tg : Expr} {t u : TG} (h : PG X tg t) (i : ∀ v σ H Q, u v σ H Q → t v σ H Q) : PG X tg u := ⟨fun pins s σ H v w Q I r q => h.run pins s σ H v w Q I r (i v σ H Q q)⟩
theorem pgs_imp {X : Cx} {ts : List Expr} {t u : TGs} (h : PGs X ts t) (i : ∀ v σ H Q, u v σ H Q → t v σ H Q) : PGs X ts u := ⟨fun pins s σ H v w Q I r q => h.run pins s σ H v w Q I r (i v σ H Q q)⟩
section
variable {X : Cx} {T : Tb} {W : WX} {e a b c o tg : Expr} {f fa fb fi : Ev} {pos p2 p apos : Pos} {es ts : List Expr} {x : Str} {i : Nat} {g : D → Rho → M Rho} {gs : List D → Rho → M Rho}
def gNm (i : Nat) (d : D) (ρ : Rho) : M Rho := if i < ρ.length then ret (ρ.set i (some (.val d))) else dv
theorem sg_name (hN : X.N.Nodup) (hi : X.N[i]? = some x) (hx : Loc X.env.scope x) (hf : X.fn x = true ∨ X.env.scope.names.lookup x = some .local := by first | exact .inl rfl | exact .inr rfl | assumption) : SG X T W (.Name x pos) (gNm i) := by
  refine ⟨pg_imp (pg_name hN hi hx hf) fun v σ H Q ⟨d, ρ, G0, G, S, is, ag, wf, o⟩ => ?_⟩
  unfold gNm at o
  by_cases c : i < ρ.length
  · rw [if_pos c] at o
    exact o _ G H (ag.setV c is) wf .refl
  · rw [if_neg c] at o; exact o.elim
def gNone (ds : List D) (ρ : Rho) : M Rho := match ds with
  | [] => ret ρ
  | _ => dv
def gMore (g : D → Rho → M Rho) (gs : List D → Rho → M Rho) (ds : List D) (ρ : Rho) : M Rho := match ds with
  | d :: r => bd (g d ρ) fun ρ' => gs r ρ'
  | [] => dv
theorem sgs_nil : SGs X T W [] gNone := by
  refine ⟨pgs_imp pgs_nil fun v σ H Q ⟨ds, ρ, G0, G, S, is, ag, wf, o⟩ => ?_⟩
  cases ds with
  | cons d r => exact o.elim
  | nil =>
    unfold IsL at is
    exact ⟨is, o σ G H ag wf .refl⟩
theorem sgs_cons (h : SG X T W e g) (k : SGs X T W ts gs) (hs : (assignEach (e :: ts) X.env).map (·.2) = assign e X.env :: (assignEach ts X.env).map (·.2) := by rfl) : SGs X T W (e :: ts) (gMore g gs) := by
  refine ⟨pgs_imp (pgs_cons h.pg k.pgs hs) fun v σ H Q ⟨ds, ρ, G0, G, S, is, ag, wf, o⟩ => ?_⟩
  cases ds with
  | nil => exact o.elim
  | cons d r =>
    unfold IsL at is
    obtain ⟨y, ys, rfl, h1, h2⟩ := is
    refine ⟨y, ys, rfl, d, ρ, G0, G, S, h1, ag, wf, ?_⟩
    unfold gMore bd at o
    dsimp only at o
    cases q : g d ρ S with
    | div => rw [q] at o; exact o
    | exc cc fs S' => rw [q] at o; exact o
    | ok ρ' S' =>
      rw [q] at o
      dsimp only at o ⊢
      intro σ' G' H' ag' wf' l
      refine ⟨r, ρ', G0, G', S', l.isL h2, ag', wf', ?_⟩
      cases q2 : gs r ρ' S' with
      | div => rw [q2] at o; exact o
      | exc cc fs S2 => rw [q2] at o; exact o
      | ok ρ2 S2 =>
        rw [q2] at o
        exact fun σ2 G2 H2 a2 w2 l2 => o σ2 G2 H2 a2 w2 (l.trans l2)
def gTp (n : Nat) (gs : List D → Rho → M Rho) (d : D) (ρ : Rho) : M Rho := match d with
  | .tup ds => if ds.length = n then gs ds ρ else dv
  | _ => dv
theorem sg_tup {k n : Nat} (hc : X.calm = true) (h : SGs X T W ts gs) (hT : T.K = X.K := by rfl) (hn : (assignEach ts X.env).length = n := by rfl) (hst : (assignEach ts X.env).findIdx? (·.1) = none := by rfl) : SG X T W (.Tuple ts k pos) (gTp n gs) := by
  refine ⟨pg_imp (pg_tup hc h.pgs hn hst) fun v σ H Q ⟨d, ρ, G0, G, S, is, ag, wf, o⟩ => ?_⟩
  cases d <;> try exact o.elim
  case tup ds =>
    obtain ⟨a, xs, rfl, t, r⟩ := b_tup (.inl is)
    unfold gTp at o
    dsimp only at o
    by_cases c : ds.length = n
    · rw [if_pos c] at o
      exact ⟨a, xs, rfl, hT ▸ t.sq, by rw [← r.len]; exact c, ds, ρ, G0, G, S, r, ag, wf, o⟩
    · rw [if_neg c] at o; exact o.elim
/-- a list is unpacked like a tuple: not here -/
def sAsg (f : Ev) (g : D → Rho → M Rho) : Sx := fun ρ => bd (f ρ) fun d => bd (g d ρ) fun ρ' => ret (.nx ρ')
theorem ss_asg (he : SE X T W e f) (hg : SG X T W tg g) (hs : swapsWithSole [tg] e pos.line X.env = pure false := by rfl) (hw : swappedStores [tg] e X.env = pure none := by rfl)
    (h1 : (assignEach [tg] X.env).map (·.2) = [assign tg X.env] := by rfl) : SS X T W (.Assign [tg] e pos) (sAsg f g) := by
  refine ⟨ps_imp (ps_asg he.pe hg.pg hs hw h1) fun E σ H ⟨ρ, G0, G, S, ag, wf, o⟩ => ⟨ρ, G, S, ag.ag, wf, OutS.bind o ag wf fun d S' G' H' v k ag' w' r o' => ?_⟩⟩
  refine ⟨d, ρ, G0, G', S', r, ag', w', ?_⟩
  unfold bd at o'
  cases q : g d ρ S' with
  | div => rw [q] at o'; exact o'
  | exc cc fs S2 => rw [q] at o'; exact o'
  | ok ρ2 S2 => rw [q] at o'; exact o'
/-- a, b = e1, e2 of plain local names -/
def sPar (i j : Nat) (fl : Rho → M (List D)) : Sx := fun ρ => bd (fl ρ) fun ds => match ds with
  | [d, d'] => if i < ρ.length ∧ j < ρ.length then ret (.nx ((ρ.set i (some (.val d))).set j (some (.val d')))) else dv
  | _ => dv
theorem ss_par {j : Nat} {y : Str} {fl : Rho → M (List D)} {px py pt : Pos} {kt k2 : Nat} {pt2 : Pos} (hc : X.calm = true) (hN : X.N.Nodup) (hi : X.N[i]? = some x) (hj : X.N[j]? = some y) (hij : i ≠ j)
    (hx : X.env.scope.names.lookup x = some .local) (hy : X.env.scope.names.lookup y = some .local) (ha : SA X T W [a, b] fl)
    (hw : swappedStores [.Tuple [.Name x px, .Name y py] kt pt] (.Tuple [a, b] k2 pt2) X.env = pure (some [x, y]) := by rfl)
    (hs : swapsWithSole [.Tuple [.Name x px, .Name y py] kt pt] (.Tuple [a, b] k2 pt2) pos.line X.env = pure false := by rfl) : SS X T W (.Assign [.Tuple [.Name x px, .Name y py] kt pt] (.Tuple [a, b] k2 pt2) pos) (sPar i j fl) := by
  refine ⟨ps_imp (ps_par hc hN hi hj hij hx hy ha.pa hw hs) fun E σ H ⟨ρ, G0, G, S, ag, wf, o⟩ => ⟨ρ, G, S, ag.ag, wf, OutS.bind o ag wf fun ds S' G' H' vs k ag' w' r o' => ?_⟩⟩
  match ds, o' with
  | [], o' => exact o'.elim
  | [_], o' => exact o'.elim
  | _ :: _ :: _ :: _, o' => exact o'.elim
  | [d, d'], o' =>
    unfold IsL at r
    obtain ⟨v, r1, rfl, h1, h2⟩ := r
    unfold IsL at h2
    obtain ⟨w, r2, rfl, h2, h3⟩ := h2
    unfold IsL at h3
    subst h3
    dsimp only at o'
    by_cases c : i < ρ.length ∧ j < ρ.length
    · rw [if_pos c] at o'
      exact ⟨v, w, rfl, o' _ G' H' ((ag'.setV c.1 h1).setV (by rw [List.length_set]; exact c.2) h2) w' .refl⟩
    · rw [if_neg c] at o'; exact o'.elim

/-! ### items of lists: one's own, the store's -/
/-- the store's list at n is changed -/
theorem Wf.put {G : Gh} {H : Hp} {S : Sto} {n : Nat} {a : Addr} {es : List D} {ys : List V} (w : Wf T G H S) (hm : G.m[n]? = some a) (hn : n < S.length) (r : IsL T G H es ys) :
    Wf T G (L2.upd H a (.lst ys)) (S.set n (.lst es)) ∧ Lean G H G (L2.upd H a (.lst ys)) ∧ Kp G H G (L2.upd H a (.lst ys)) := by
  have am : a ∈ G.m := List.mem_of_getElem? hm
  have ne : ∀ b, G.F b → b ≠ a := fun b f e => w.fm b f (e ▸ am)
  have l : Lean G H G (L2.upd H a (.lst ys)) := ⟨fun _ f => f, fun b f => by rw [upd_ne (ne b f)], ⟨[], by simp⟩⟩
  refine ⟨⟨w.fm, fun b f => ?_, by rw [List.length_set]; exact w.len, w.nd, fun j ob e => ?_⟩, l, ⟨fun _ f => f, fun _ f => .inl f, ⟨[], by simp, fun _ z => nomatch z⟩, fun b u h1 h2 _ => ?_, fun b h1 => ?_⟩⟩
  · obtain ⟨u, h1, h2⟩ := w.fs b f
    exact ⟨u, by rw [upd_ne (ne b f)]; exact h1, h2⟩
  · rw [rho_get hn] at e
    by_cases q : j = n
    · rw [if_pos q] at e
      cases e
      subst q
      exact ⟨a, hm, ys, upd_same, l.isL r⟩
    · rw [if_neg q] at e
      obtain ⟨b, h1, h2⟩ := w.ob j ob e
      refine ⟨b, h1, lean_ob l ?_ h2⟩
      rw [upd_ne]
      rintro rfl
      obtain ⟨l1, e1⟩ := List.getElem?_eq_some_iff.mp h1
      obtain ⟨l2, e2⟩ := List.getElem?_eq_some_iff.mp hm
      exact q ((List.getElem_inj w.nd).mp (e1.trans e2.symm))
  · rw [upd_ne]
    · exact h1
    · rintro rfl
      exact h2 am
  · by_cases y : b = a
    · rw [y, upd_same]; exact nofun
    · rw [upd_ne y]; exact h1
/-- x[k] = d for a list of one's own or of the store -/
def gItem (i : Nat) (fi : Ev) (d : D) (ρ : Rho) : M Rho := match ρ[i]? with
  | some (some (.own ds)) => bd (fi ρ) fun k => match k with
    | .int z => match ixN ds.length z with
      | some j => ret (ρ.set i (some (.own (ds.set j d))))
      | none => dv
    | _ => dv
  | some (some (.val (.ref n))) => bd (fi ρ) fun k S => match k with
    | .int z => match S[n]? with
      | some (.lst ds) => match ixN ds.length z with
        | some j => .ok ρ (S.set n (.lst (ds.set j d)))
        | none => .div
      | _ => .div
    | _ => .div
  | _ => dv
theorem sg_item (hN : X.N[i]? = some x) (hv : Vis X.env.scope x) (hi : SB X T W b fi) (hd : (x == ("__debug__" : Str)) = false := by decide) (hcd : (x == ("__classdict__" : Str)) = false := by decide)
    (ha : ∀ v, assign (.Subscript (.Name x p) b pos) X.env v = (do
      let ov ← holding [v] (eval (.Name x p) X.env)
      let iv ← holding [v, ov] (eval b X.env)
      standAt pos
      holding [v, ov, iv] (setItem ov iv v)
      release [v, ov, iv] []) := by intro _; rfl) : SG X T W (.Subscript (.Name x p) b pos) (gItem i fi) := by
  refine ⟨pg_imp (pg_sub (pe_var hN hv hd hcd) hi.pe set_list ha) fun v σ H Q ⟨d, ρ, G0, G, S, is, ag, wf, o⟩ => ?_⟩
  unfold gItem at o
  rcases q : ρ[i]? with _ | _ | sl
  · rw [q] at o; exact o.elim
  · rw [q] at o; exact o.elim
  · rw [q] at o
    cases sl with
    | mak c fs => exact o.elim
    | own ds =>
      obtain ⟨a, xs, z, nf, nm, hx, hr⟩ := own_at ag.ag q
      refine ⟨_, z, ρ, G, S, ag.ag, wf, ?_⟩
      unfold bd at o
      dsimp only at o
      cases q1 : fi ρ S with
      | div => rw [q1] at o; exact o
      | exc cc fs S' =>
        rw [q1] at o
        intro G' H' cls dx k w r
        exact o σ G' H' cls dx (ag.kp.trans k) w r
      | ok kd S1 =>
        rw [q1] at o
        intro G1 H1 w k1 w1 i1
        dsimp only at o
        cases kd <;> try exact o.elim
        case int kz =>
          cases b_int i1
          dsimp only at o
          have ag1 := ag.keep wf k1
          obtain ⟨a', xs', z', nf', nm', hx', hr'⟩ := own_at ag1.ag q
          rw [z] at z'
          cases z'
          cases q2 : ixN ds.length kz with
          | none => rw [q2] at o; exact o.elim
          | some j =>
            rw [q2] at o
            obtain ⟨g1, g2, g3⟩ := ag1.chg w1 q z hx' nf' nm' (IsL.set ((wf.lean k1).is is) j hr')
            exact ⟨a, xs', kz, j, rfl, rfl, hx', by rw [← hr'.len]; exact q2, o σ G1 _ g1 g2 ((wf.lean k1).trans g3)⟩
    | val d0 =>
      cases d0 <;> try exact o.elim
      case ref n =>
        obtain ⟨u, z, hu⟩ := ag.ag.get i _ q
        have hu' : IsB T G H (.ref n) u := .inl hu
        obtain ⟨a, hm, rfl⟩ := b_ref hu'
        refine ⟨_, z, ρ, G, S, ag.ag, wf, ?_⟩
        unfold bd at o
        dsimp only at o
        cases q1 : fi ρ S with
        | div => rw [q1] at o; exact o
        | exc cc fs S' =>
          rw [q1] at o
          intro G' H' cls dx k w r
          exact o σ G' H' cls dx (ag.kp.trans k) w r
        | ok kd S1 =>
          rw [q1] at o
          intro G1 H1 w k1 w1 i1
          dsimp only at o
          cases kd <;> try exact o.elim
          case int kz =>
            cases b_int i1
            dsimp only at o
            rcases q2 : S1[n]? with _ | ob
            · rw [q2] at o; exact o.elim
            · rw [q2] at o
              cases ob with
              | ins c fs => exact o.elim
              | lst ds =>
                dsimp only at o
                obtain ⟨a', h1, xs, h2, h3⟩ := w1.ob n _ q2
                have hm1 : G1.m[n]? = some a := by
                  obtain ⟨l, e, _⟩ := k1.st
                  rw [e, List.getElem?_append_left (List.getElem?_eq_some_iff.mp hm).1]
                  exact hm
                rw [hm1] at h1
                cases h1
                cases q3 : ixN ds.length kz with
                | none => rw [q3] at o; exact o.elim
                | some j =>
                  rw [q3] at o
                  have ag1 := ag.keep wf k1
                  obtain ⟨g2, g3, g4⟩ := w1.put hm1 (List.getElem?_eq_some_iff.mp q2).1 (IsL.set ((wf.lean k1).is is) j h3)
                  exact ⟨a, xs, kz, j, rfl, rfl, h2, by rw [← h3.len]; exact q3, o σ G1 _ (ag1.keep w1 g4) g2 ((wf.lean k1).trans g3)⟩
end
end LS

set_option Elab.async false
set_option linter.all false
set_option maxRecDepth 100000
set_option maxHeartbeats 1000000
namespace LS
open PySem L2 PySem.Spec
open PyProof.Rows hiding St

/-! ## 15. what is walked -/
/-- where items come from: a list, a tuple, a text -/
inductive Sk where
  | lst (a : Addr)
  | tup (a : Addr)
  | str (z : Str)
def Sk.At (K : PySem.W.Frag) (H : Hp) : Sk → List V → Prop
  | .lst a, xs => SqL K H a xs
  | .tup a, xs => SqT K H a xs
  | .str z, xs => xs = z.cps.toList.map fun c => V.str ⟨#[c]⟩
def Sk.v : Sk → V
  | .lst a => .ref a
  | .tup a => .ref a
  | .str z => .str z
def Sk.fp : Sk → List Addr
  | .lst a => [a]
  | .tup a => [a]
  | .str _ => []
/-- the iterator at I has come to i -/
def Sk.Cur (t : Tok) (I : Addr) (i : Nat) (h : Heap) : Sk → Prop
  | .lst a => h.IsListIter I a i
  | .tup a => h.IsTupleIter I a i
  | .str z => h.IsStrIter I (strIterType z) z t i
def Sk.J (K : PySem.W.Frag) : Sk → It
  | .lst a => Itl K a
  | .tup a => Itt K a
  | .str z => Its z
section
variable {X : Cx} {pins : List (Addr × Obj)} {σ : St} {H : Hp} {s : Shared} {xs ys : List V} {k k1 k2 : Sk} {t : Tok} {I : Addr} {i : Nat} {h h' : Heap}
theorem Sk.cur_keep (st : k.Cur t I i h) (q : ∀ o, h.get? I = some o → h'.get? I = some o) : k.Cur t I i h' := by
  cases k with
  | lst a => exact (show h.IsListIter I a i from st).at q
  | tup a => exact (show h.IsTupleIter I a i from st).at q
  | str z => exact let ⟨o, ho, r⟩ := (show h.IsStrIter I (strIterType z) z t i from st); ⟨o, q o ho, r⟩
theorem Sk.cur_obj (st : k.Cur t I i h) : ∃ o, h.get? I = some o ∧ ∀ v, o.data ≠ .cell v := by
  cases k with
  | lst a => obtain ⟨o, e, c, d⟩ := (show h.IsListIter I a i from st); exact ⟨o, e, fun v z => by rw [d] at z; cases z⟩
  | tup a => obtain ⟨o, e, c, d⟩ := (show h.IsTupleIter I a i from st); exact ⟨o, e, fun v z => by rw [d] at z; cases z⟩
  | str y => obtain ⟨o, e, c, d⟩ := (show h.IsStrIter I (strIterType y) y t i from st); exact ⟨o, e, fun v z => by rw [d] at z; cases z⟩
theorem Sk.inj (J : Inv X pins σ H s) (a : k.At X.K H xs) (b : k.At X.K H ys) : xs = ys := by
  cases k with
  | lst p => exact J.list_inj a b
  | tup p => exact J.tuple_inj a b
  | str z => exact (show xs = _ from a).trans (show ys = _ from b).symm
theorem Sk.draws (J : Inv X pins σ H s) (a : k.At X.K H xs) (hc : X.calm = true) (ne : I ∉ k.fp) :
    ∃ (Pv : Nat → Value → Prop) (Sv : Nat → Heap → Prop), Draws X.prog X.w X.A.in1 I (I :: k.fp) xs.length Pv Sv ∧ (∀ i u, Pv i u → ∃ x, xs[i]? = some x ∧ RelV x u) ∧ (∀ i, k.Cur t I i s.heap → Sv i s.heap) ∧ (∀ i h, Sv i h → k.Cur t I i h) := by
  have hh : X.A.in1.handled = none := J.ok.hd hc
  cases k with
  | lst p =>
    obtain ⟨its, rv, pl, _⟩ := J.list a
    have l := rv.length
    have e : xs.length = its.toArray.size := by rw [l]; simp
    rw [e]
    refine ⟨_, _, .list hh I p (fun z => ne (by simp [Sk.fp, z])) its.toArray, fun i u hu => ?_, fun i c => ⟨c, pl.isList⟩, fun i h st => st.1⟩
    have hl : i < xs.length := by rw [e]; exact (Array.getElem?_eq_some_iff.mp hu).1
    obtain ⟨u', hu', r⟩ := rv.get (List.getElem?_eq_getElem hl)
    have hu2 : its[i]? = some u := by simpa using hu
    rw [hu2] at hu'
    cases hu'
    exact ⟨_, List.getElem?_eq_getElem hl, r⟩
  | tup p =>
    obtain ⟨its, rv, pl, _⟩ := J.tuple a
    have l := rv.length
    have e : xs.length = its.toArray.size := by rw [l]; simp
    rw [e]
    refine ⟨_, _, .tuple hh I p (fun z => ne (by simp [Sk.fp, z])) its.toArray, fun i u hu => ?_, fun i c => ⟨c, show s.heap.IsTuple p its.toArray from pl⟩, fun i h st => st.1⟩
    have hl : i < xs.length := by rw [e]; exact (Array.getElem?_eq_some_iff.mp hu).1
    obtain ⟨u', hu', r⟩ := rv.get (List.getElem?_eq_getElem hl)
    have hu2 : its[i]? = some u := by simpa using hu
    rw [hu2] at hu'
    cases hu'
    exact ⟨_, List.getElem?_eq_getElem hl, r⟩
  | str z =>
    have a' : xs = z.cps.toList.map fun c => V.str ⟨#[c]⟩ := a
    have e : xs.length = z.cps.size := by rw [a']; simp
    rw [e]
    refine ⟨_, _, .text hh I z t, fun i u ⟨c, w, hu, hv⟩ => ⟨.str ⟨#[c]⟩, ?_, ⟨w, hv⟩⟩, fun i c => c, fun i h st => st⟩
    rw [a']; simp [hu]
/-- it begins -/
theorem Sk.begins {u : Value} (J : Inv X pins σ H s) (a : k.At X.K H xs) (r : RelV k.v u) :
    ∃ (o : Obj) (Q : Heap → Prop) (t : Tok), Begins u o Q ∧ Q s.heap ∧ (∀ h I, h.get? I = some o → k.Cur t I 0 h) ∧ ∀ b ∈ k.fp, b < s.heap.objs.size := by
  cases k with
  | lst p =>
    cases r
    obtain ⟨its, rv, pl, _⟩ := J.list a
    exact ⟨_, _, 0, begins_list p its.toArray, pl.isList, fun h I e => ⟨_, e, rfl, rfl⟩, fun b hb => by
      have e : b = p := by simpa [Sk.fp] using hb
      subst e; exact pl.lt⟩
  | tup p =>
    cases r
    obtain ⟨its, rv, pl, _⟩ := J.tuple a
    refine ⟨_, _, 0, begins_tuple p its.toArray, show s.heap.IsTuple p its.toArray from pl, fun h I e => ⟨_, e, rfl, rfl⟩, fun b hb => ?_⟩
    have e : b = p := by simpa [Sk.fp] using hb
    subst e
    obtain ⟨o, ho, _⟩ := pl
    exact Heap.lt_size ho
  | str z =>
    obtain ⟨t, rfl⟩ := r
    exact ⟨_, _, t, begins_text z t, trivial, fun h I e => ⟨_, e, rfl, rfl⟩, fun b hb => nomatch hb⟩
/-- its own iterator -/
theorem Sk.pie {u : Value} {tg : Expr} {R : It → Hp → Prop} (J : Inv X pins σ H s) (a : k.At X.K H xs) (r : RelV k.v u) (q : R (k.J X.K) H) : wpAny (model X.prog X.w) X.A (pyIter u) (PIE X pins σ tg R) X.xe s := by
  cases k with
  | lst p =>
    cases r
    obtain ⟨its, rv, pl, _⟩ := J.list a
    exact wpAny_pyIter_list pl.isList (pi_one (tk := s.toks) J _ (turn_list p _) ⟨_, Heap.get?_push_size _ rfl, rfl, rfl⟩ q)
  | tup p =>
    cases r
    obtain ⟨its, rv, pl, _⟩ := J.tuple a
    exact wpAny_pyIter_tuple (show s.heap.IsTuple p its.toArray from pl) (pi_one (tk := s.toks) J _ (turn_tuple p _) ⟨_, Heap.get?_push_size _ rfl, rfl, rfl⟩ q)
  | str z =>
    obtain ⟨t, rfl⟩ := r
    cases ha : z.cps.all (· < 128)
    · exact wpAny_pyIter_wide ha (pi_one (tk := s.toks) J _ (turn_str _ z t "str_iterator" (.inr rfl)) ⟨_, Heap.get?_push_size _ rfl, rfl, rfl⟩ q)
    · exact wpAny_pyIter_ascii ha (pi_one (tk := s.toks) J _ (turn_str _ z t "str_ascii_iterator" (.inl rfl)) ⟨_, Heap.get?_push_size _ rfl, rfl, rfl⟩ q)
end

/-! ### zip of any two -/
def Itzz (K : PySem.W.Frag) (k1 k2 : Sk) : It :=
  ⟨fun i H => ∃ xs ys : List V, k1.At K H xs ∧ k2.At K H ys ∧ i < xs.length ∧ i < ys.length,
    fun i H v H' => ∃ T x y, v = .ref T ∧ H T = none ∧ H' = upd H T (.tup [x, y]) ∧ (∀ xs, k1.At K H xs → xs[i]? = some x) ∧ ∀ ys, k2.At K H ys → ys[i]? = some y,
    fun i H => ∃ xs ys : List V, k1.At K H xs ∧ k2.At K H ys ∧ i = min xs.length ys.length⟩
theorem mem5 {c z TI TO i1 i2 : Addr} (h : c ∈ [z, TI, TO, i1, i2]) : c = z ∨ c = TI ∨ c = TO ∨ c = i1 ∨ c = i2 := by simpa using h
theorem turn_zz {P : Program} {w : World} {K : PySem.W.Frag} {elts : List Expr} {kk : Nat} {tpos : Pos} {k1 k2 : Sk} {t1 t2 : Tok} {z TI TO i1 i2 : Addr} (D : ZipSep2 z TI TO i1 i2 (i1 :: k1.fp) (i2 :: k2.fp)) (n1 : i1 ∉ k1.fp) (n2 : i2 ∉ k2.fp) :
    Turn P w K (.Tuple elts kk tpos) (Itzz K k1 k2) [z, TI, TO, i1, i2] z (fun i h => IsZip h z TI TO .none ∧ IsTupOf2 h TI (.ref i1) (.ref i2) ∧ (∃ x y, IsTupOf2 h TO x y) ∧ k1.Cur t1 i1 i h ∧ k2.Cur t2 i2 i h) where
  mem := by simp
  obj := fun i h st c hc => by
    obtain ⟨hz, hTI, ⟨x, y, hTO⟩, h1, h2⟩ := st
    rcases mem5 hc with q | q | q | q | q
    · rw [q]; exact ⟨_, hz, fun v q => nomatch q⟩
    · rw [q]; exact ⟨_, hTI, fun v q => nomatch q⟩
    · rw [q]; exact ⟨_, hTO, fun v q => nomatch q⟩
    · rw [q]; exact Sk.cur_obj h1
    · rw [q]; exact Sk.cur_obj h2
  keep := fun i h h' st k => by
    obtain ⟨hz, hTI, ⟨x, y, hTO⟩, h1, h2⟩ := st
    exact ⟨k z (by simp) _ hz, k TI (by simp) _ hTI, ⟨x, y, k TO (by simp) _ hTO⟩, Sk.cur_keep h1 fun o q => k i1 (by simp) o q, Sk.cur_keep h2 fun o q => k i2 (by simp) o q⟩
  item := by
    intro X hP hw hK hc i pins s σ H E J hf st hg
    subst hP hw hK
    obtain ⟨hz, hTI, ⟨x0, y0, hTO⟩, h1, h2⟩ := st
    obtain ⟨xs, ys, ax, ay, lx, ly⟩ := hg
    obtain ⟨P1, S1, D1, r1, in1, out1⟩ := Sk.draws (t := t1) J ax hc n1
    obtain ⟨P2, S2, D2, r2, in2, out2⟩ := Sk.draws (t := t2) J ay hc n2
    have hzl : z < s.heap.objs.size := Heap.lt_size hz
    refine wpAny_pyNext_zipD2_item D D1 D2 hz hTI hTO (in1 i h1) (in2 i h2) lx ly fun u1 u2 h' tk p1 p2 z' TO' c1 c2 hT hsz hk => ?_
    obtain ⟨x, hx, ru⟩ := r1 i u1 p1
    obtain ⟨y, hy, ru2⟩ := r2 i u2 p2
    refine ⟨_, rfl, wpAny_letOwnedTupleGo_zip (s := { s with heap := h', toks := tk }) z' fun h'' z'' sb => ?_⟩
    have hT2 : h''.get? s.heap.objs.size = some { cls := .type "tuple", data := .seq #[u1, u2] } := (sb.2 _ (Nat.ne_of_gt hzl)).trans hT
    have new : ObjOk X.prog X.w (upd H s.heap.objs.size (.tup [x, y])) h'' s.heap.objs.size (.tup [x, y]) :=
      ⟨by show 2 ≤ sizeLine; decide, [u1, u2], .cons ru (.cons ru2 .nil), ⟨_, hT2, rfl, _, rfl⟩⟩
    have J1 : Inv X pins σ (upd H s.heap.objs.size (.tup [x, y])) { s with heap := h'', toks := tk } :=
      J.turnedNew (t' := tk) (ch := [z, TI, TO, i1, i2]) (fun c o hb q => (sb.2 c (fun q' => hb (by simp [q']))).trans (hk c o (fun q' => hb (by simp [q'])) (fun q' => hb (by simp [q'])) (fun q' => hb (by simp [q'])) (fun q' => hb (by simp [q'])) q)) hf (Nat.le_refl _) new
    refine ⟨.ref s.heap.objs.size, _, J1, rfl, ⟨_, x, y, rfl, J.hok.fresh (Nat.le_refl _), rfl, fun l hl => by rw [Sk.inj J hl ax]; exact hx, fun l hl => by rw [Sk.inj J hl ay]; exact hy⟩, ⟨z'', ?_, ⟨u1, u2, ?_⟩, ?_, ?_⟩, fun c hcm => ?_⟩
    · exact (sb.2 _ D.TIz).trans (hk _ _ D.TIz D.TITO D.TIi1 D.TIi2 hTI)
    · exact (sb.2 _ D.TOz).trans TO'
    · exact Sk.cur_keep (out1 _ _ c1) fun o q => (sb.2 _ D.zi1.symm).trans q
    · exact Sk.cur_keep (out2 _ _ c2) fun o q => (sb.2 _ D.zi2.symm).trans q
    · have hlt : c < s.heap.objs.size := by
        rcases mem5 hcm with q | q | q | q | q
        · rw [q]; exact hzl
        · rw [q]; exact Heap.lt_size hTI
        · rw [q]; exact Heap.lt_size hTO
        · rw [q]; obtain ⟨_, e1, _⟩ := Sk.cur_obj h1; exact Heap.lt_size e1
        · rw [q]; obtain ⟨_, e2, _⟩ := Sk.cur_obj h2; exact Heap.lt_size e2
      rw [upd_ne (Nat.ne_of_lt hlt)]
      exact (hf c hcm).1
  done := by
    intro X hP hw hK hc i pins s σ H E J hf st hg
    subst hP hw hK
    obtain ⟨hz, hTI, ⟨x0, y0, hTO⟩, h1, h2⟩ := st
    obtain ⟨xs, ys, ax, ay, e⟩ := hg
    obtain ⟨P1, S1, D1, r1, in1, out1⟩ := Sk.draws (t := t1) J ax hc n1
    obtain ⟨P2, S2, D2, r2, in2, out2⟩ := Sk.draws (t := t2) J ay hc n2
    exact wpAny_pyNext_zipD2_end D D1 D2 hz hTI hTO (in1 i h1) (in2 i h2) (by omega) (by omega) (by omega) fun h' tk hk => ⟨rfl, J.turnedL (t' := tk) (ch := [z, TI, TO, i1, i2]) (fun c o hb q =>
      hk c o (fun q' => hb (by simp [q'])) (fun q' => hb (by simp [q'])) (fun q' => hb (by simp [q'])) (fun q' => hb (by simp [q'])) q) hf⟩
  self := fun A i s Q E st h => wpAny_pyIter_zip st.1 h

/-! ### enumerate of any -/
def Itee (K : PySem.W.Frag) (k : Sk) : It :=
  ⟨fun i H => ∃ xs : List V, k.At K H xs ∧ i < xs.length,
    fun i H v H' => ∃ T x, v = .ref T ∧ H T = none ∧ H' = upd H T (.tup [.int (i : Nat), x]) ∧ ∀ xs, k.At K H xs → xs[i]? = some x,
    fun i H => ∃ xs : List V, k.At K H xs ∧ i = xs.length⟩
theorem turn_ee {P : Program} {w : World} {K : PySem.W.Frag} {elts : List Expr} {kk : Nat} {tpos : Pos} {k : Sk} {t : Tok} {e it : Addr} (ne : e ≠ it) (nf : it ∉ k.fp) (nf2 : e ∉ k.fp) :
    Turn P w K (.Tuple elts kk tpos) (Itee K k) [e, it] e (fun i h => (∃ old, IsEnum h e it ((i : Nat) : Int) old) ∧ k.Cur t it i h) where
  mem := by simp
  obj := fun i h st b hb => by
    obtain ⟨⟨old, he⟩, hi⟩ := st
    have e' : b = e ∨ b = it := by simpa using hb
    rcases e' with z | z
    · rw [z]; exact ⟨_, he, fun v q => nomatch q⟩
    · rw [z]; exact Sk.cur_obj hi
  keep := fun i h h' st k => let ⟨⟨old, he⟩, hi⟩ := st; ⟨⟨old, k e (by simp) _ he⟩, Sk.cur_keep hi fun o q => k it (by simp) o q⟩
  item := by
    intro X hP hw hK hc i pins s σ H E J hf st hg
    subst hP hw hK
    obtain ⟨⟨old, he⟩, hit⟩ := st
    obtain ⟨xs, ax, lx⟩ := hg
    obtain ⟨Pv, Sv, D, r, inn, out⟩ := Sk.draws (t := t) J ax hc nf
    have hel : e < s.heap.objs.size := Heap.lt_size he
    have hil : it < s.heap.objs.size := by obtain ⟨_, q, _⟩ := Sk.cur_obj hit; exact Heap.lt_size q
    have hef : e ∉ it :: k.fp := fun z => (List.mem_cons.mp z).elim ne nf2
    refine wpAny_pyNext_enum_itemD D he (inn i hit) lx ne hef fun u h' tk pu ho hit' hT hsz hk => ?_
    obtain ⟨x, hx, ru⟩ := r i u pu
    refine ⟨_, rfl, wpAny_letOwnedTupleGo_enum (s := { s with heap := h', toks := tk + 1 }) ho fun h'' he' sb => ?_⟩
    have hT2 : h''.get? s.heap.objs.size = some { cls := .type "tuple", data := .seq #[.int i tk, u] } := (sb.2 _ (Nat.ne_of_gt hel)).trans hT
    have new : ObjOk X.prog X.w (upd H s.heap.objs.size (.tup [.int (i : Nat), x])) h'' s.heap.objs.size (.tup [.int (i : Nat), x]) :=
      ⟨by show 2 ≤ sizeLine; decide, [.int i tk, u], .cons ⟨_, rfl⟩ (.cons ru .nil), ⟨_, hT2, rfl, _, rfl⟩⟩
    have J1 : Inv X pins σ (upd H s.heap.objs.size (.tup [.int (i : Nat), x])) { s with heap := h'', toks := tk + 1 } :=
      J.turnedNew (ch := [e, it]) (fun b ob hb q => (sb.2 b (fun z => hb (by simp [z]))).trans (hk b ob (fun z => hb (by simp [z])) (fun z => hb (by simp [z])) q)) hf (Nat.le_refl _) new
    refine ⟨.ref s.heap.objs.size, _, J1, rfl, ⟨_, x, rfl, J.hok.fresh (Nat.le_refl _), rfl, fun ys hy => by rw [Sk.inj J hy ax]; exact hx⟩, ⟨⟨u, ?_⟩, Sk.cur_keep (out _ _ hit') fun o q => (sb.2 it (Ne.symm ne)).trans q⟩, fun b hb => ?_⟩
    · have e1 : ((i + 1 : Nat) : Int) = (i : Int) + 1 := by omega
      rw [e1]; exact he'
    · have hb' : b < s.heap.objs.size := by
        have e' : b = e ∨ b = it := by simpa using hb
        rcases e' with z | z
        · rw [z]; exact hel
        · rw [z]; exact hil
      rw [upd_ne (Nat.ne_of_lt hb')]
      exact (hf b hb).1
  done := by
    intro X hP hw hK hc i pins s σ H E J hf st hg
    subst hP hw hK
    obtain ⟨⟨old, he⟩, hit⟩ := st
    obtain ⟨xs, ax, lx⟩ := hg
    obtain ⟨Pv, Sv, D, r, inn, out⟩ := Sk.draws (t := t) J ax hc nf
    obtain ⟨f0, f1, f2, f3, f4, f5⟩ := hf it (by simp)
    subst lx
    exact wpAny_pyNext_enum_endD D he (inn _ hit) fun h' eb => ⟨rfl, J.turned (t' := s.toks) (fun b o hb q => eb b o hb q) f0 f1 f3 f4 f5⟩
  self := fun A i s Q E st h => let ⟨⟨_, he⟩, _⟩ := st; wpAny_pyIter_enum he h

/-! ### enumerate(v) begins -/
theorem meets_enum1 {v : Value} {o : Obj} {H : Heap → Prop} (B : Begins v o H) :
    Meets (Builtin.«enumerate.__new__» ⟨[.type "enumerate", v], []⟩) (fun _ R s => H s.heap ∧
      R (.ok (.ret (.ref (s.heap.push o).objs.size))) { s with heap := (s.heap.push o).push { cls := .type "enumerate", data := .fields #[.none, .bool false, .ref s.heap.objs.size, rawInt 0, .none, .none] } }) :=
  .of_wp fun prog w A R s h => by
    obtain ⟨hp, g, d, tk, os⟩ := s; obtain ⟨h1, h⟩ := h
    have hsub := sub_enumerate
    have q1 : ∀ {A' : Around} {E : Value → Shared → Prop} {Q : Value → Shared → Prop}, Q (.ref hp.objs.size) ⟨hp.push o, g, d, tk, os⟩ → wpAny (model prog w) A' (pyIter v) Q E ⟨hp, g, d, tk, os⟩ :=
      fun q => B.iter prog w _ _ ⟨hp, g, d, tk, os⟩ _ h1 q
    wp_walk using q1
    refine wpAny_stack_any fun st => wpAny_pure ?_
    split
    · rename_i c _ _ _ _ _
      cases (c == Value.type "enumerate")
      · wp_walk using q1
        exact ⟨_, rfl, h⟩
      · wp_walk using q1
        exact ⟨_, rfl, h⟩
    · wp_walk using q1
      exact ⟨_, rfl, h⟩
theorem enum_begins1 {prog : Program} {w : World} {A : Around} {E : Value → Shared → Prop} {s : Shared} {v : Value} {o : Obj} {H : Heap → Prop} {Q : Value → Shared → Prop} (B : Begins v o H) (h1 : H s.heap)
    (h : ∀ h', IsEnum h' (s.heap.objs.size + 1) s.heap.objs.size 0 .none → h'.get? s.heap.objs.size = some o → h'.objs.size = s.heap.objs.size + 2 →
      (∀ b o, s.heap.get? b = some o → h'.get? b = some o) → Q (.ref (s.heap.objs.size + 1)) { s with heap := h' }) :
    wpAny (model prog w) A (call (.type "enumerate") [v]) Q E s := by
  refine callType_new F.called_enumerate (by decide) (F.typeCall_enumerate_1 _) (F.newCall_enumerate_1 _) (fun obj => F.args_object_init_2 obj _) F.entry_enumerate_new
    (meets_enum1 B) ⟨h1, ?_⟩
  have hz : (s.heap.push o).objs.size = s.heap.objs.size + 1 := Heap.size_push ..
  show _ ∧ _
  rw [hz]
  have he : IsEnum ((s.heap.push o).push { cls := .type "enumerate", data := .fields #[.none, .bool false, .ref s.heap.objs.size, rawInt 0, .none, .none] }) (s.heap.objs.size + 1) s.heap.objs.size 0 .none := by
    have := Heap.get?_push_size (s.heap.push o) (o := { cls := .type "enumerate", data := .fields #[.none, .bool false, .ref s.heap.objs.size, rawInt 0, .none, .none] }) rfl
    rw [hz] at this; exact this
  refine ⟨⟨_, he, rfl⟩, h _ he (Heap.get?_push_of_some _ (Heap.get?_push_size _ B.free)) (by rw [Heap.size_push, hz]) fun b o x => Heap.get?_push_of_some _ (Heap.get?_push_of_some _ x)⟩
end LS

set_option Elab.async false
set_option linter.all false
set_option maxRecDepth 100000
set_option maxHeartbeats 1000000
namespace LS
open PySem L2 PySem.Spec
open PyProof.Rows hiding St

/-! ## 16. iterables -/
/-- the items ds come out, one by one, while C holds -/
structure ItOk (T : Tb) (C : Gh → Hp → Prop) (J : It) (ds : List D) : Prop where
  go : ∀ i G H, i < ds.length → C G H → J.go i H
  stop : ∀ G H, C G H → J.stop ds.length H
  yld : ∀ i G H x H', i < ds.length → C G H → J.yld i H x H' → ∃ G' d, Kp G H G' H' ∧ (∀ S, Wf T G H S → Wf T G' H' S) ∧ ds[i]? = some d ∧ Is T G' H' d x
theorem ItOk.mono {T : Tb} {C C' : Gh → Hp → Prop} {J : It} {ds : List D} (h : ItOk T C J ds) (i : ∀ G H, C' G H → C G H) : ItOk T C' J ds :=
  ⟨fun j G H l c => h.go j G H l (i G H c), fun G H c => h.stop G H (i G H c), fun j G H x H' l c y => h.yld j G H x H' l (i G H c) y⟩
/-- b: for a loop (only the frozen stays), else for a comprehension -/
def tI (T : Tb) (W : WX) (b : Bool) (f : Rho → M (List D)) : TI := fun σ H R => ∃ ρ G S, Ag T G H σ ρ ∧ Wf T G H S ∧
  match f ρ S with
  | .ok ds S' => ∀ G' H' J, Kp G H G' H' → Wf T G' H' S' → ItOk T (fun G2 H2 => Lean G' H' G2 H2 ∧ (b = false → Kp G' H' G2 H2) ∧ ∃ S2, Wf T G2 H2 S2) J ds → R J H'
  | .exc c fs S' => ∀ G' H' cls dx, Kp G H G' H' → Wf T G' H' S' → IsX T G' H' c fs cls dx → W cls dx σ H'
  | .div => False
structure SI (X : Cx) (T : Tb) (W : WX) (b : Bool) (tg it : Expr) (f : Rho → M (List D)) : Prop where
  pi : PI X tg it (tI T W b f)
theorem pi_imp {X : Cx} {tg it : Expr} {t u : TI} (h : PI X tg it t) (i : ∀ σ H R, u σ H R → t σ H R) : PI X tg it u := ⟨fun pins s σ H R I q => h.run pins s σ H R I (i σ H R q)⟩
def chr (c : Nat) : D := .str ⟨#[c]⟩
/-- all that may be walked plainly -/
def itemsA (d : D) (S : Sto) : Option (List D) := match d with
  | .str z => some (z.cps.toList.map chr)
  | d => itemsO d S
def walkM (d : D) : M (List D) := fun S => match d with
  | .ref _ => .div
  | d => match itemsA d S with
    | some ds => .ok ds S
    | none => .div
section
variable {X : Cx} {T : Tb} {W : WX} {e a c o tg it : Expr} {f fa fb fc : Ev} {pos p2 p apos : Pos} {es ts : List Expr} {x : Str} {i : Nat} {b : Bool} {G : Gh} {H : Hp} {S : Sto} {d : D} {v : V} {ds : List D}
theorem isL_chrs {z : Str} : ∀ l : List Nat, IsL T G H (l.map chr) (l.map fun c => V.str ⟨#[c]⟩)
  | [] => IsL.nil
  | c :: l => IsL.cons (by unfold chr Is; rfl) (isL_chrs (z := z) l)
theorem walk_ok {S' : Sto} (h : walkM d S = .ok ds S') : S' = S ∧ itemsA d S = some ds ∧ ∀ n, d ≠ .ref n := by
  unfold walkM at h
  cases d with
  | ref n => cases h
  | _ =>
    dsimp only at h
    split at h
    · rename_i q; cases h; exact ⟨rfl, q, fun _ z => nomatch z⟩
    · cases h
theorem walk_or : (∃ ds, walkM d S = .ok ds S) ∨ walkM d S = .div := by
  cases h : walkM d S with
  | ok ds S' => rw [(walk_ok h).1]; exact .inl ⟨ds, rfl⟩
  | div => exact .inr rfl
  | exc c fs S' =>
    exfalso
    unfold walkM at h
    cases d with
    | ref n => cases h
    | _ => dsimp only at h; split at h <;> cases h
/-- the source of a value's items, and how long it stays -/
theorem src_of (hT : T.K = X.K) {bb : Bool} (wf : Wf T G H S) (h : IsB T G H d v) (hb : bb = true → Is T G H d v) (q : walkM d S = .ok ds S) :
    ∃ (k : Sk) (xs : List V), v = k.v ∧ k.At X.K H xs ∧ IsL T G H ds xs ∧ ∀ G2 H2, Lean G H G2 H2 → (bb = false → Kp G H G2 H2) → k.At X.K H2 xs := by
  obtain ⟨_, e, nr⟩ := walk_ok q
  cases d with
  | str z =>
    cases b_str h
    cases (Option.some.inj e)
    exact ⟨.str z, _, rfl, rfl, isL_chrs (z := z) _, fun _ _ _ _ => rfl⟩
  | tup xs =>
    cases (Option.some.inj e)
    obtain ⟨a, us, rfl, t, r⟩ := b_tup h
    exact ⟨.tup a, us, rfl, hT ▸ t.sq, r, fun G2 H2 l _ => hT ▸ (l.tup t).sq⟩
  | scr xs =>
    cases (Option.some.inj e)
    obtain ⟨a, us, rfl, t, r⟩ := b_scr h
    exact ⟨.lst a, us, rfl, hT ▸ t.sq, r, fun G2 H2 l _ => hT ▸ (l.scr t).sq⟩
  | lst xs =>
    cases (Option.some.inj e)
    cases bb with
    | true =>
      have h' := hb rfl
      unfold Is at h'
      obtain ⟨a, us, rfl, f, t, r⟩ := h'
      exact ⟨.lst a, us, rfl, SqL.of t, r, fun G2 H2 l _ => SqL.of ((l.eq a f).trans t)⟩
    | false =>
      obtain ⟨a, us, rfl, nm, t, r⟩ := b_lst wf h
      exact ⟨.lst a, us, rfl, SqL.of t, r, fun G2 H2 l k => SqL.of ((k rfl).kp a _ t nm (fun _ z => nomatch z))⟩
  | ref n => exact absurd rfl (nr n)
  | _ => cases e
/-! ### the kinds -/
theorem itok_sk {K : PySem.W.Frag} {C : Gh → Hp → Prop} {k : Sk} {xs : List V} (stay : ∀ G2 H2, C G2 H2 → k.At K H2 xs ∧ IsL T G2 H2 ds xs) : ItOk T C (k.J K) ds := by
  have fin : ∀ i G H x, C G H → i < ds.length → xs[i]? = some x → ∃ G' d, Kp G H G' H ∧ (∀ S, Wf T G H S → Wf T G' H S) ∧ ds[i]? = some d ∧ Is T G' H d x := fun i G H x c l e => by
    obtain ⟨v, e', r⟩ := (stay G H c).2.get (List.getElem?_eq_getElem l)
    rw [e] at e'
    cases e'
    exact ⟨G, _, .refl _ _, fun _ w => w, List.getElem?_eq_getElem l, r⟩
  have ln : ∀ G H, C G H → ds.length = xs.length := fun G H c => (stay G H c).2.len
  cases k with
  | lst a =>
    refine ⟨fun i G H l c => ?_, fun G H c => ⟨xs, (stay G H c).1, by rw [ln G H c]; exact Nat.le_refl _⟩, fun i G H x H' l c y => ?_⟩
    · have l2 : i < xs.length := by rw [← ln G H c]; exact l
      exact ⟨xs, _, (stay G H c).1, List.getElem?_eq_getElem l2⟩
    · obtain ⟨rfl, y⟩ := y
      exact fin i G _ x c l (y xs (stay G _ c).1)
  | tup a =>
    refine ⟨fun i G H l c => ?_, fun G H c => ⟨xs, (stay G H c).1, by rw [ln G H c]; exact Nat.le_refl _⟩, fun i G H x H' l c y => ?_⟩
    · have l2 : i < xs.length := by rw [← ln G H c]; exact l
      exact ⟨xs, _, (stay G H c).1, List.getElem?_eq_getElem l2⟩
    · obtain ⟨rfl, y⟩ := y
      exact fin i G _ x c l (y xs (stay G _ c).1)
  | str z =>
    have sz : ∀ G H, C G H → ds.length = z.cps.size := fun G H c => by
      rw [ln G H c, show xs = _ from (stay G H c).1]; simp
    refine ⟨fun i G H l c => ?_, fun G H c => ?_, fun i G H x H' l c y => ?_⟩
    · show i < z.cps.size
      rw [← sz G H c]; exact l
    · show z.cps.size ≤ ds.length
      rw [sz G H c]; exact Nat.le_refl _
    · obtain ⟨rfl, ch, hc, rfl⟩ := y
      refine fin i G _ _ c l ?_
      rw [show xs = _ from (stay G _ c).1]
      simp [hc]
def zipD (ds es : List D) : List D := List.zipWith (fun a b => .tup [a, b]) ds es
theorem pair_new {T' : Addr} {x y : V} {dx dy : D} (hn : H T' = none) (h1 : Is T G H dx x) (h2 : Is T G H dy y) :
    Kp G H (G.add T') (L2.upd H T' (.tup [x, y])) ∧ (∀ S, Wf T G H S → Wf T (G.add T') (L2.upd H T' (.tup [x, y])) S) ∧ ∀ S, Wf T G H S → Is T (G.add T') (L2.upd H T' (.tup [x, y])) (.tup [dx, dy]) (.ref T') := by
  refine ⟨(kp_upd hn).add hn, fun S w => (w.lay (o := .tup [x, y]) hn fun _ z => nomatch z).2.1, fun S w => ?_⟩
  have l := (w.lay (o := .tup [x, y]) hn fun _ z => nomatch z).2.2
  exact is_tup (.inr rfl) upd_same (.cons (l.is h1) (.cons (l.is h2) .nil))
theorem itok_zz {K : PySem.W.Frag} {C : Gh → Hp → Prop} {k1 k2 : Sk} {xs ys : List V} {es : List D} (hw : ∀ G H, C G H → ∃ S, Wf T G H S) (st1 : ∀ G2 H2, C G2 H2 → k1.At K H2 xs ∧ IsL T G2 H2 ds xs) (st2 : ∀ G2 H2, C G2 H2 → k2.At K H2 ys ∧ IsL T G2 H2 es ys) :
    ItOk T C (Itzz K k1 k2) (zipD ds es) := by
  have ln : (zipD ds es).length = min ds.length es.length := by unfold zipD; simp
  refine ⟨fun i G H l c => ?_, fun G H c => ?_, fun i G H x H' l c y => ?_⟩
  · rw [ln] at l
    exact ⟨xs, ys, (st1 G H c).1, (st2 G H c).1, by rw [← (st1 G H c).2.len]; omega, by rw [← (st2 G H c).2.len]; omega⟩
  · exact ⟨xs, ys, (st1 G H c).1, (st2 G H c).1, by rw [ln, (st1 G H c).2.len, (st2 G H c).2.len]⟩
  · obtain ⟨T', x1, x2, rfl, hn, rfl, y1, y2⟩ := y
    rw [ln] at l
    have l1 : i < ds.length := by omega
    have l2 : i < es.length := by omega
    obtain ⟨v1, e1, r1⟩ := (st1 G H c).2.get (List.getElem?_eq_getElem l1)
    obtain ⟨v2, e2, r2⟩ := (st2 G H c).2.get (List.getElem?_eq_getElem l2)
    rw [y1 xs (st1 G H c).1] at e1
    rw [y2 ys (st2 G H c).1] at e2
    cases e1
    cases e2
    obtain ⟨S, w⟩ := hw G H c
    obtain ⟨k, w', r⟩ := pair_new hn r1 r2
    refine ⟨_, _, k, w', ?_, r S w⟩
    unfold zipD
    rw [List.getElem?_zipWith, List.getElem?_eq_getElem l1, List.getElem?_eq_getElem l2]
def enD : Nat → List D → List D
  | _, [] => []
  | n, d :: r => .tup [.int (n : Nat), d] :: enD (n + 1) r
theorem enD_len : ∀ (n : Nat) (l : List D), (enD n l).length = l.length
  | _, [] => rfl
  | n, d :: r => by unfold enD; rw [List.length_cons, enD_len, List.length_cons]
theorem enD_get : ∀ (n : Nat) (l : List D) (i : Nat), (enD n l)[i]? = l[i]?.map fun d => .tup [.int ((n + i : Nat) : Int), d]
  | _, [], i => by unfold enD; simp
  | n, d :: r, 0 => by unfold enD; simp
  | n, d :: r, i + 1 => by
    unfold enD
    rw [List.getElem?_cons_succ, List.getElem?_cons_succ, enD_get, Nat.add_right_comm, Nat.add_assoc]
theorem itok_ee {K : PySem.W.Frag} {C : Gh → Hp → Prop} {k : Sk} {xs : List V} (hw : ∀ G H, C G H → ∃ S, Wf T G H S) (st : ∀ G2 H2, C G2 H2 → k.At K H2 xs ∧ IsL T G2 H2 ds xs) : ItOk T C (Itee K k) (enD 0 ds) := by
  refine ⟨fun i G H l c => ?_, fun G H c => ?_, fun i G H x H' l c y => ?_⟩
  · rw [enD_len] at l
    exact ⟨xs, (st G H c).1, by rw [← (st G H c).2.len]; exact l⟩
  · exact ⟨xs, (st G H c).1, by rw [enD_len, (st G H c).2.len]⟩
  · obtain ⟨T', x1, rfl, hn, rfl, y1⟩ := y
    rw [enD_len] at l
    obtain ⟨v1, e1, r1⟩ := (st G H c).2.get (List.getElem?_eq_getElem l)
    rw [y1 xs (st G H c).1] at e1
    cases e1
    obtain ⟨S, w⟩ := hw G H c
    obtain ⟨k, w', r⟩ := pair_new (dx := .int (i : Nat)) (x := .int (i : Nat)) hn (by unfold Is; rfl) r1
    refine ⟨_, _, k, w', ?_, r S w⟩
    rw [enD_get, List.getElem?_eq_getElem l, Nat.zero_add]
    rfl
def rngD (lo : Int) (n : Nat) : List D := (List.range n).map fun i => .int (lo + (i : Nat))
theorem itok_r {C : Gh → Hp → Prop} {lo : Int} {n : Nat} : ItOk T C (Itr lo n) (rngD lo n) := by
  have ln : (rngD lo n).length = n := by unfold rngD; simp
  refine ⟨fun i G H l c => by rw [ln] at l; exact l, fun G H c => by rw [ln]; exact Nat.le_refl _, fun i G H x H' l c y => ?_⟩
  rw [ln] at l
  obtain ⟨rfl, rfl⟩ := y
  refine ⟨G, .int (lo + (i : Nat)), .refl _ _, fun _ w => w, ?_, by unfold Is; rfl⟩
  unfold rngD
  simp [l]

/-! ### the rules -/
def iSk (K : PySem.W.Frag) (te : TE) : TI := fun σ H R => te σ H fun v H1 => ∃ (k : Sk) (xs : List V), v = k.v ∧ k.At K H1 xs ∧ R (k.J K) H1
theorem pi_sk {te : TE} (he : PE X e te) : PI X tg e (iSk X.K te) := by
  refine ⟨fun pins s σ H R I h => thn (he.run pins s σ H _ I h) fun v s1 ⟨y, H1, I1, r1, k, xs, ex, a, q⟩ => ?_⟩
  subst ex
  exact Sk.pie I1 a r1 q
def iZz (K : PySem.W.Frag) (ta : TA) : TI := fun σ H R => ta σ H fun vs H1 => ∃ (k1 k2 : Sk) (xs ys : List V), vs = [k1.v, k2.v] ∧ k1.At K H1 xs ∧ k2.At K H1 ys ∧ R (Itzz K k1 k2) H1
theorem notfp {k : Sk} {n j : Nat} (h : ∀ b ∈ k.fp, b < n) : n + j ∉ k.fp := fun z => absurd (h _ z) (by
  show ¬ (n + j < n)
  omega)
theorem pi_zz {e2 : Expr} {ta : TA} {elts : List Expr} {kk : Nat} {tpos : Pos} (hg : Gl X "zip") (hm : X.mg "zip" = none) (ha : PA X [e, e2] ta)
    (hs : starEach [e, e2] X.env = (false, eval e X.env) :: starEach [e2] X.env := by rfl) (hpl : (backTo pos (starEach [e2] X.env)).any (·.1) = false := by rfl) :
    PI X (.Tuple elts kk tpos) (.Call (.Name "zip" p) [e, e2] [] pos) (iZz X.K ta) := by
  refine ⟨fun pins s σ H R I h => ?_⟩
  refine Call_ (ld_blt I hg hm PyProof.Rows.boot_zip (PyProof.Rows.callWith_type1 (thn (ha.run pos pins s σ H _ I h) fun us s1 ⟨vs, H1, I1, r1, q1⟩ => ?_) hs hpl))
  obtain ⟨k1, k2, xs, ys, ex, a1, a2, q1⟩ := q1
  subst ex
  cases r1 with
  | cons r rr =>
    cases rr with
    | cons r' rr =>
      cases rr
      obtain ⟨o1, Q1, t1, B1, b1, c1, f1⟩ := Sk.begins I1 a1 r
      obtain ⟨o2, Q2, t2, B2, b2, c2, f2⟩ := Sk.begins I1 a2 r'
      have fresh5 : ∀ c, c ∈ [s1.heap.objs.size + 4, s1.heap.objs.size + 2, s1.heap.objs.size + 3, s1.heap.objs.size, s1.heap.objs.size + 1] → FpOk X pins H1 c := fun c hcm => by
        have hle : s1.heap.objs.size ≤ c := by
          rcases mem5 hcm with z | z | z | z | z
          · rw [z]; exact Nat.le_add_right _ _
          · rw [z]; exact Nat.le_add_right _ _
          · rw [z]; exact Nat.le_add_right _ _
          · rw [z]; exact Nat.le_refl _
          · rw [z]; exact Nat.le_add_right _ _
        exact I1.fpOk hle (I1.hok.fresh hle)
      refine zip_begins2 B1 B2 b1 b2 fun h' hz hTI hTO h1 h2 hsz hk => wpAny_pyIter_zip hz ?_
      have I2 : Inv X pins σ H1 { s1 with heap := h' } := I1.kept (t' := s1.toks) hk
      exact ⟨s1.heap.objs.size + 4, [s1.heap.objs.size + 4, s1.heap.objs.size + 2, s1.heap.objs.size + 3, s1.heap.objs.size, s1.heap.objs.size + 1], _, _, H1, rfl, I2,
        turn_zz (t1 := t1) (t2 := t2) (zip_sep2 f1 f2) (notfp (j := 0) f1) (notfp (j := 1) f2), ⟨hz, hTI, ⟨_, _, hTO⟩, c1 _ _ h1, c2 _ _ h2⟩, fresh5, q1⟩
def iEe (K : PySem.W.Frag) (ta : TA) : TI := fun σ H R => ta σ H fun vs H1 => ∃ (k : Sk) (xs : List V), vs = [k.v] ∧ k.At K H1 xs ∧ R (Itee K k) H1
theorem pi_ee {ta : TA} {elts : List Expr} {kk : Nat} {tpos : Pos} (hg : Gl X "enumerate") (hm : X.mg "enumerate" = none) (ha : PA X [e] ta) (hs : starEach [e] X.env = [(false, eval e X.env)] := by rfl) :
    PI X (.Tuple elts kk tpos) (.Call (.Name "enumerate" p) [e] [] pos) (iEe X.K ta) := by
  refine ⟨fun pins s σ H R I h => ?_⟩
  refine Call_ (ld_blt I hg hm PyProof.Rows.boot_enumerate (PyProof.Rows.callWith_type1 (thn (ha.run pos pins s σ H _ I h) fun us s1 ⟨vs, H1, I1, r1, q1⟩ => ?_) hs rfl))
  obtain ⟨k, xs, ex, a, q⟩ := q1
  subst ex
  cases r1 with
  | cons r rr =>
    cases rr
    obtain ⟨o1, Q1, t1, B1, b1, c1, f1⟩ := Sk.begins I1 a r
    refine enum_begins1 B1 b1 fun h' he hit hsz hk => wpAny_pyIter_enum he ?_
    have I2 : Inv X pins σ H1 { s1 with heap := h' } := I1.kept (t' := s1.toks) hk
    refine ⟨s1.heap.objs.size + 1, [s1.heap.objs.size + 1, s1.heap.objs.size], _, _, H1, rfl, I2, turn_ee (t := t1) (Nat.succ_ne_self _) (notfp (j := 0) f1) (notfp (j := 1) f1), ⟨⟨.none, he⟩, c1 _ _ hit⟩, fun b hb => ?_, q⟩
    have e' : b = s1.heap.objs.size + 1 ∨ b = s1.heap.objs.size := by simpa using hb
    have hle : s1.heap.objs.size ≤ b := by
      rcases e' with z | z
      · rw [z]; exact Nat.le_add_right _ _
      · rw [z]; exact Nat.le_refl _
    exact I1.fpOk hle (I1.hok.fresh hle)
def iE (f : Ev) : Rho → M (List D) := fun ρ => bd (f ρ) walkM
theorem si_core {bb : Bool} {R0 : Gh → Hp → D → V → Prop} (hT : T.K = X.K) (h : PE X e (tX T W R0 f)) (rb : ∀ G H d v, R0 G H d v → IsB T G H d v) (rt : bb = true → ∀ G H d v, R0 G H d v → Is T G H d v) : SI X T W bb tg e (iE f) := by
  refine ⟨pi_imp (pi_sk h) fun σ H R ⟨ρ, G, S, ag, wf, o⟩ => ⟨ρ, G, S, ag, wf, ?_⟩⟩
  unfold iE bd at o
  cases q : f ρ S with
  | div => rw [q] at o; exact o
  | exc c fs S' => rw [q] at o; exact o
  | ok d S' =>
    rw [q] at o
    intro G' H' v k w r
    dsimp only at o
    rcases walk_or (d := d) (S := S') with ⟨ds, e1⟩ | e1
    · rw [e1] at o
      obtain ⟨sk, xs, rfl, a, r1, st⟩ := src_of hT w (rb _ _ _ _ r) (fun z => rt z _ _ _ _ r) e1
      exact ⟨sk, xs, rfl, a, o G' H' _ k w (itok_sk fun G2 H2 c => ⟨st G2 H2 c.1 c.2.1, c.1.isL r1⟩)⟩
    · rw [e1] at o; exact o.elim
theorem si_e {bb : Bool} (h : SE X T W e f) (hT : T.K = X.K := by rfl) : SI X T W bb tg e (iE f) := si_core hT h.pe (fun _ _ _ _ r => .inl r) fun _ _ _ _ _ r => r
theorem si_b (h : SB X T W e f) (hT : T.K = X.K := by rfl) : SI X T W false tg e (iE f) := si_core hT h.pe (fun _ _ _ _ r => r) nofun
theorem isBL_of : ∀ {ds : List D} {vs : List V}, IsL T G H ds vs → IsBL T G H ds vs
  | [], vs, h => by unfold IsL at h; subst h; rfl
  | d :: ds, vs, h => by
    unfold IsL at h
    obtain ⟨x, r, e, h1, h2⟩ := h
    exact ⟨x, r, e, .inl h1, isBL_of h2⟩
def zipM (ds : List D) : M (List D) := match ds with
  | [a, b] => bd (walkM a) fun xs => bd (walkM b) fun ys => ret (zipD xs ys)
  | _ => dv
def enM (ds : List D) : M (List D) := match ds with
  | [a] => bd (walkM a) fun xs => ret (enD 0 xs)
  | _ => dv
def intM (d : D) (k : Int → M (List D)) : M (List D) := match d with
  | .int j => k j
  | _ => dv
def rng1M (ds : List D) : M (List D) := match ds with
  | [d] => intM d fun j => if -(2 ^ 62) ≤ j ∧ j < 2 ^ 62 then ret (rngD 0 j.toNat) else dv
  | _ => dv
def rng2M (ds : List D) : M (List D) := match ds with
  | [d, d2] => intM d fun i => intM d2 fun j => if -(2 ^ 62) ≤ i ∧ i < 2 ^ 62 ∧ -(2 ^ 62) ≤ j ∧ j < 2 ^ 62 then ret (rngD i (j - i).toNat) else dv
  | _ => dv
def iA (k : List D → M (List D)) (fl : Rho → M (List D)) : Rho → M (List D) := fun ρ => bd (fl ρ) k
variable {fl : Rho → M (List D)}
theorem si_zipC {bb : Bool} {R0 : Gh → Hp → List D → List V → Prop} {e2 : Expr} {elts : List Expr} {kk : Nat} {tpos : Pos} (hT : T.K = X.K) (hg : Gl X "zip") (hm : X.mg "zip" = none) (h : PA X [e, e2] (tX T W R0 fl))
    (rb : ∀ G H d v, R0 G H d v → IsBL T G H d v) (rt : bb = true → ∀ G H d v, R0 G H d v → IsL T G H d v)
    (hs : starEach [e, e2] X.env = (false, eval e X.env) :: starEach [e2] X.env) (hpl : (backTo pos (starEach [e2] X.env)).any (·.1) = false) : SI X T W bb (.Tuple elts kk tpos) (.Call (.Name "zip" p) [e, e2] [] pos) (iA zipM fl) := by
  refine ⟨pi_imp (pi_zz hg hm h hs hpl) fun σ H R ⟨ρ, G, S, ag, wf, o⟩ => ⟨ρ, G, S, ag, wf, ?_⟩⟩
  unfold iA bd at o
  cases q : fl ρ S with
  | div => rw [q] at o; exact o
  | exc c fs S' => rw [q] at o; exact o
  | ok ds S' =>
    rw [q] at o
    intro G' H' vs k w r
    dsimp only at o
    match ds, r, o with
    | [], _, o => exact o.elim
    | [_], _, o => exact o.elim
    | _ :: _ :: _ :: _, _, o => exact o.elim
    | [d1, d2], r, o =>
      have r0 := rb _ _ _ _ r
      obtain ⟨v1, r1, rfl, i1, v2, r2, rfl, i2, rfl⟩ := r0
      have j1 : bb = true → Is T G' H' d1 v1 := fun z => by
        have := rt z _ _ _ _ r
        unfold IsL at this
        obtain ⟨_, _, e, a, _⟩ := this
        cases e; exact a
      have j2 : bb = true → Is T G' H' d2 v2 := fun z => by
        have := rt z _ _ _ _ r
        unfold IsL IsL at this
        obtain ⟨_, _, e, _, _, _, e2, a, _⟩ := this
        cases e; cases e2; exact a
      unfold zipM bd at o
      dsimp only at o
      rcases walk_or (d := d1) (S := S') with ⟨xs, e1⟩ | e1
      · rw [e1] at o
        dsimp only at o
        rcases walk_or (d := d2) (S := S') with ⟨ys, e2⟩ | e2
        · rw [e2] at o
          obtain ⟨k1, us, rfl, a1, q1, st1⟩ := src_of hT w i1 j1 e1
          obtain ⟨k2, us2, rfl, a2, q2, st2⟩ := src_of hT w i2 j2 e2
          exact ⟨k1, k2, us, us2, rfl, a1, a2, o G' H' _ k w (itok_zz (fun _ _ c => c.2.2) (fun G2 H2 c => ⟨st1 G2 H2 c.1 c.2.1, c.1.isL q1⟩) fun G2 H2 c => ⟨st2 G2 H2 c.1 c.2.1, c.1.isL q2⟩)⟩
        · rw [e2] at o; exact o.elim
      · rw [e1] at o; exact o.elim
theorem si_zip {bb : Bool} {e2 : Expr} {elts : List Expr} {kk : Nat} {tpos : Pos} (hg : Gl X "zip") (hm : X.mg "zip" = none) (h : SA X T W [e, e2] fl) (hT : T.K = X.K := by rfl)
    (hs : starEach [e, e2] X.env = (false, eval e X.env) :: starEach [e2] X.env := by rfl) (hpl : (backTo pos (starEach [e2] X.env)).any (·.1) = false := by rfl) : SI X T W bb (.Tuple elts kk tpos) (.Call (.Name "zip" p) [e, e2] [] pos) (iA zipM fl) :=
  si_zipC hT hg hm h.pa (fun _ _ _ _ r => isBL_of r) (fun _ _ _ _ _ r => r) hs hpl
theorem si_zipB {e2 : Expr} {elts : List Expr} {kk : Nat} {tpos : Pos} (hg : Gl X "zip") (hm : X.mg "zip" = none) (h : SAB X T W [e, e2] fl) (hT : T.K = X.K := by rfl)
    (hs : starEach [e, e2] X.env = (false, eval e X.env) :: starEach [e2] X.env := by rfl) (hpl : (backTo pos (starEach [e2] X.env)).any (·.1) = false := by rfl) : SI X T W false (.Tuple elts kk tpos) (.Call (.Name "zip" p) [e, e2] [] pos) (iA zipM fl) :=
  si_zipC hT hg hm h.pa (fun _ _ _ _ r => r) nofun hs hpl
theorem si_enC {bb : Bool} {R0 : Gh → Hp → List D → List V → Prop} {elts : List Expr} {kk : Nat} {tpos : Pos} (hT : T.K = X.K) (hg : Gl X "enumerate") (hm : X.mg "enumerate" = none) (h : PA X [e] (tX T W R0 fl))
    (rb : ∀ G H d v, R0 G H d v → IsBL T G H d v) (rt : bb = true → ∀ G H d v, R0 G H d v → IsL T G H d v)
    (hs : starEach [e] X.env = [(false, eval e X.env)]) : SI X T W bb (.Tuple elts kk tpos) (.Call (.Name "enumerate" p) [e] [] pos) (iA enM fl) := by
  refine ⟨pi_imp (pi_ee hg hm h hs) fun σ H R ⟨ρ, G, S, ag, wf, o⟩ => ⟨ρ, G, S, ag, wf, ?_⟩⟩
  unfold iA bd at o
  cases q : fl ρ S with
  | div => rw [q] at o; exact o
  | exc c fs S' => rw [q] at o; exact o
  | ok ds S' =>
    rw [q] at o
    intro G' H' vs k w r
    dsimp only at o
    match ds, r, o with
    | [], _, o => exact o.elim
    | _ :: _ :: _, _, o => exact o.elim
    | [d1], r, o =>
      have r0 := rb _ _ _ _ r
      obtain ⟨v1, r1, rfl, i1, rfl⟩ := r0
      have j1 : bb = true → Is T G' H' d1 v1 := fun z => by
        have := rt z _ _ _ _ r
        unfold IsL at this
        obtain ⟨_, _, e, a, _⟩ := this
        cases e; exact a
      unfold enM bd at o
      dsimp only at o
      rcases walk_or (d := d1) (S := S') with ⟨xs, e1⟩ | e1
      · rw [e1] at o
        obtain ⟨k1, us, rfl, a1, q1, st1⟩ := src_of hT w i1 j1 e1
        exact ⟨k1, us, rfl, a1, o G' H' _ k w (itok_ee (fun _ _ c => c.2.2) fun G2 H2 c => ⟨st1 G2 H2 c.1 c.2.1, c.1.isL q1⟩)⟩
      · rw [e1] at o; exact o.elim
theorem si_enum {bb : Bool} {elts : List Expr} {kk : Nat} {tpos : Pos} (hg : Gl X "enumerate") (hm : X.mg "enumerate" = none) (h : SA X T W [e] fl) (hT : T.K = X.K := by rfl) (hs : starEach [e] X.env = [(false, eval e X.env)] := by rfl) : SI X T W bb (.Tuple elts kk tpos) (.Call (.Name "enumerate" p) [e] [] pos) (iA enM fl) :=
  si_enC hT hg hm h.pa (fun _ _ _ _ r => isBL_of r) (fun _ _ _ _ _ r => r) hs
theorem si_enumB {elts : List Expr} {kk : Nat} {tpos : Pos} (hg : Gl X "enumerate") (hm : X.mg "enumerate" = none) (h : SAB X T W [e] fl) (hT : T.K = X.K := by rfl) (hs : starEach [e] X.env = [(false, eval e X.env)] := by rfl) : SI X T W false (.Tuple elts kk tpos) (.Call (.Name "enumerate" p) [e] [] pos) (iA enM fl) :=
  si_enC hT hg hm h.pa (fun _ _ _ _ r => r) nofun hs
theorem isL1 {d : D} {vs : List V} (h : IsL T G H [d] vs) : ∃ v, vs = [v] ∧ Is T G H d v := by
  unfold IsL at h
  obtain ⟨v, r, rfl, h1, h2⟩ := h
  unfold IsL at h2
  subst h2
  exact ⟨v, rfl, h1⟩
theorem isL2 {d e : D} {vs : List V} (h : IsL T G H [d, e] vs) : ∃ v w, vs = [v, w] ∧ Is T G H d v ∧ Is T G H e w := by
  unfold IsL at h
  obtain ⟨v, r, rfl, h1, h2⟩ := h
  obtain ⟨w, rfl, h3⟩ := isL1 h2
  exact ⟨v, w, rfl, h1, h3⟩
theorem is_int' {i : Int} {v : V} (h : Is T G H (.int i) v) : v = .int i := by unfold Is at h; exact h
theorem si_rng1 {bb : Bool} (hg : Gl X "range") (hm : X.mg "range" = none) (h : SA X T W [e] fl) (hs : starEach [e] X.env = [(false, eval e X.env)] := by rfl) : SI X T W bb tg (.Call (.Name "range" p) [e] [] pos) (iA rng1M fl) := by
  refine ⟨pi_imp (pi_range1 hg hm h.pa hs) fun σ H R ⟨ρ, G, S, ag, wf, o⟩ => ⟨ρ, G, S, ag, wf, ?_⟩⟩
  unfold iA bd at o
  cases q : fl ρ S with
  | div => rw [q] at o; exact o
  | exc c fs S' => rw [q] at o; exact o
  | ok ds S' =>
    rw [q] at o
    intro G' H' vs k w r
    dsimp only at o
    unfold rng1M at o
    match ds, r, o with
    | [], _, o => exact o.elim
    | _ :: _ :: _, _, o => exact o.elim
    | [d], r, o =>
      obtain ⟨v, rfl, i1⟩ := isL1 r
      cases d <;> try exact o.elim
      case int j =>
        cases is_int' i1
        unfold intM at o
        dsimp only at o
        by_cases c : -(2 ^ 62) ≤ j ∧ j < 2 ^ 62
        · rw [if_pos c] at o
          exact ⟨_, rfl, c.1, c.2, o G' H' _ k w itok_r⟩
        · rw [if_neg c] at o; exact o.elim
theorem si_rng2 {bb : Bool} {e2 : Expr} (hg : Gl X "range") (hm : X.mg "range" = none) (h : SA X T W [e, e2] fl) (hs : starEach [e, e2] X.env = [(false, eval e X.env), (false, eval e2 X.env)] := by rfl) (hs2 : starEach [e2] X.env = [(false, eval e2 X.env)] := by rfl) :
    SI X T W bb tg (.Call (.Name "range" p) [e, e2] [] pos) (iA rng2M fl) := by
  refine ⟨pi_imp (pi_range2 hg hm h.pa hs hs2) fun σ H R ⟨ρ, G, S, ag, wf, o⟩ => ⟨ρ, G, S, ag, wf, ?_⟩⟩
  unfold iA bd at o
  cases q : fl ρ S with
  | div => rw [q] at o; exact o
  | exc c fs S' => rw [q] at o; exact o
  | ok ds S' =>
    rw [q] at o
    intro G' H' vs k w r
    dsimp only at o
    unfold rng2M at o
    match ds, r, o with
    | [], _, o => exact o.elim
    | [_], _, o => exact o.elim
    | _ :: _ :: _ :: _, _, o => exact o.elim
    | [d, d2], r, o =>
      obtain ⟨v, v2, rfl, i1, i2⟩ := isL2 r
      cases d <;> try exact o.elim
      case int i =>
        cases d2 <;> try exact o.elim
        case int j =>
          cases is_int' i1
          cases is_int' i2
          unfold intM at o
          dsimp only at o
          by_cases c : -(2 ^ 62) ≤ i ∧ i < 2 ^ 62 ∧ -(2 ^ 62) ≤ j ∧ j < 2 ^ 62
          · rw [if_pos c] at o
            exact ⟨_, _, rfl, c, o G' H' _ k w itok_r⟩
          · rw [if_neg c] at o; exact o.elim

/-! ## 17. for -/
def forM (g : D → Rho → M Rho) (b : Sx) : List D → Sx
  | [], ρ => ret (.nx ρ)
  | d :: ds, ρ => bd (g d ρ) fun ρ1 => bd (b ρ1) fun r => match r with
    | .nx ρ2 => forM g b ds ρ2
    | .ct ρ2 => forM g b ds ρ2
    | .bk ρ2 => ret (.nx ρ2)
    | .rt d => ret (.rt d)
def sFor (fi : Rho → M (List D)) (g : D → Rho → M Rho) (b : Sx) : Sx := fun ρ => bd (fi ρ) fun ds => forM g b ds ρ
variable {body : List Stmt} {fi : Rho → M (List D)} {g : D → Rho → M Rho} {sb : Sx}
theorem ss_for (hp : PassesOwn (model X.prog X.w) X.A X.env X.xe) (hc : X.calm = true) (hi : SI X T W true tg it fi) (hg : SG X T W tg g) (hb : SSs X T W body sb)
    (hs : ∀ x, foldedSetIterable it X.env x = pure x := by intro _; rfl) : SS X T W (.For tg it body [] pos) (sFor fi g sb) := by
  refine ⟨ps_imp (ps_for hp hc hi.pi hg.pg hb.pss hs) fun E σ H ⟨ρ, G0, G, S, ag, wf, o⟩ => ⟨ρ, G, S, ag.ag, wf, ?_⟩⟩
  unfold sFor bd at o
  cases q : fi ρ S with
  | div => rw [q] at o; exact o
  | exc c fs S' =>
    rw [q] at o
    intro G' H' cls dx k w' r
    exact o σ G' H' cls dx (ag.kp.trans k) w' r
  | ok ds S' =>
    rw [q] at o
    dsimp only at o
    intro G1 H1 J k1 w1 it
    have ag1 := ag.keep wf k1
    have o1 : OutS X T W G0 G1 H1 E (forM g sb ds ρ S') := OutS.shift (wf.lean k1) o
    refine ⟨fun i m σ' H' => m = ds.length - i ∧ i ≤ ds.length ∧ ∃ ρ' G' S2, StAg X T G0 G' H' σ' ρ' ∧ Wf T G' H' S2 ∧ Lean G1 H1 G' H' ∧ OutS X T W G0 G' H' E (forM g sb (ds.drop i) ρ' S2), ⟨ds.length, rfl, Nat.zero_le _, ρ, G1, S', ag1, w1, .refl, o1⟩, ?_⟩
    rintro i m σ2 H2 ⟨rfl, hi2, ρ2, G2, S2, ag2, w2, l2, o2⟩
    have C : Lean G1 H1 G2 H2 ∧ (true = false → Kp G1 H1 G2 H2) ∧ ∃ S2, Wf T G2 H2 S2 := ⟨l2, nofun, S2, w2⟩
    by_cases hl : i < ds.length
    · refine .inr ⟨it.go i G2 H2 hl C, fun σ' H' => i + 1 ≤ ds.length ∧ ∃ ρ' G' S2, StAg X T G0 G' H' σ' ρ' ∧ Wf T G' H' S2 ∧ Lean G1 H1 G' H' ∧ OutS X T W G0 G' H' E (forM g sb (ds.drop (i + 1)) ρ' S2), fun σ' H' n => ⟨ds.length - (i + 1), by omega, rfl, n⟩, fun x H3 y => ?_⟩
      obtain ⟨G3, d, k3, w3, e3, i3⟩ := it.yld i G2 H2 x H3 hl C y
      have ed : ds.drop i = d :: ds.drop (i + 1) := by
        rw [List.drop_eq_getElem_cons hl]
        rw [List.getElem?_eq_getElem hl] at e3
        cases e3; rfl
      rw [ed] at o2
      refine ⟨d, ρ2, G0, G3, S2, i3, ag2.keep w2 k3, w3 S2 w2, ?_⟩
      have l3 := l2.trans (w2.lean k3)
      have o3 : OutS X T W G0 G3 H3 E (forM g sb (d :: ds.drop (i + 1)) ρ2 S2) := OutS.shift (w2.lean k3) o2
      unfold forM bd at o3
      dsimp only at o3
      cases q4 : g d ρ2 S2 with
      | div => rw [q4] at o3; exact o3
      | exc c fs S4 => rw [q4] at o3; exact o3
      | ok ρ4 S4 =>
        rw [q4] at o3
        dsimp only at o3
        intro σ4 G4 H4 ag4 w4 l4
        refine ⟨ρ4, G0, G4, S4, ag4, w4, ?_⟩
        have o4 := OutS.shift l4 o3
        cases q5 : sb ρ4 S4 with
        | div => rw [q5] at o4; exact o4
        | exc c fs S5 => rw [q5] at o4; exact o4
        | ok r S5 =>
          rw [q5] at o4
          cases r with
          | nx ρ5 => exact fun σ5 G5 H5 a5 w5 l5 => ⟨hl, ρ5, G5, S5, a5, w5, (l3.trans l4).trans l5, OutS.shift l5 o4⟩
          | ct ρ5 => exact fun σ5 G5 H5 a5 w5 l5 => ⟨hl, ρ5, G5, S5, a5, w5, (l3.trans l4).trans l5, OutS.shift l5 o4⟩
          | bk ρ5 => exact o4
          | rt d5 => exact o4
    · have e : i = ds.length := by omega
      subst e
      rw [List.drop_length] at o2
      exact .inl ⟨it.stop G2 H2 C, o2 σ2 G2 H2 ag2 w2 .refl⟩

/-! ## 18. while -/
def whN (t : Rho → M Bool) (b : Sx) : Nat → Sx
  | 0 => fun _ => dv
  | n + 1 => fun ρ => bd (t ρ) fun k => if k = true then bd (b ρ) fun r => match r with
    | .nx ρ2 => whN t b n ρ2
    | .ct ρ2 => whN t b n ρ2
    | .bk ρ2 => ret (.nx ρ2)
    | .rt d => ret (.rt d)
    else ret (.nx ρ)
def fuel : Nat := 18446744073709551616
/-- as many turns as anybody will see -/
def sWhile (t : Rho → M Bool) (b : Sx) : Sx := whN t b fuel
theorem whN_more {t : Rho → M Bool} {b : Sx} : ∀ {n : Nat} {ρ : Rho} {S : Sto} {r : Res Fl}, whN t b n ρ S = r → r ≠ .div → ∀ m, n ≤ m → whN t b m ρ S = r
  | 0, ρ, S, r, h, nd, _, _ => absurd h.symm nd
  | n + 1, ρ, S, r, h, nd, 0, l => absurd l (Nat.not_succ_le_zero n)
  | n + 1, ρ, S, r, h, nd, m + 1, l => by
    unfold whN bd at h ⊢
    dsimp only at h ⊢
    cases q : t ρ S with
    | div => rw [q] at h; exact absurd h.symm nd
    | exc c fs S1 => rw [q] at h; exact h
    | ok k S1 =>
      rw [q] at h
      dsimp only at h ⊢
      cases k with
      | false => exact h
      | true =>
        rw [if_pos rfl] at h ⊢
        cases q2 : b ρ S1 with
        | div => rw [q2] at h; exact absurd h.symm nd
        | exc c fs S2 => rw [q2] at h; exact h
        | ok fl S2 =>
          rw [q2] at h
          cases fl with
          | nx ρ2 => exact whN_more h nd m (Nat.le_of_succ_le_succ l)
          | ct ρ2 => exact whN_more h nd m (Nat.le_of_succ_le_succ l)
          | bk ρ2 => exact h
          | rt d => exact h
theorem while_n {t : Rho → M Bool} {b : Sx} {n : Nat} {ρ : Rho} {S : Sto} {r : Res Fl} (h : whN t b n ρ S = r) (nd : r ≠ .div) (l : n ≤ fuel) : sWhile t b ρ S = r := whN_more h nd fuel l
theorem while_of {t : Rho → M Bool} {b : Sx} {ρ : Rho} {S : Sto} (nd : sWhile t b ρ S ≠ .div) : ∃ n, whN t b n ρ S = sWhile t b ρ S := ⟨fuel, rfl⟩
theorem ss_while {t : Rho → M Bool} (hp : PassesOwn (model X.prog X.w) X.A X.env X.xe) (hc : ST X T W c t) (hb : SSs X T W body sb) : SS X T W (.While c body [] pos) (sWhile t sb) := by
  refine ⟨ps_imp (ps_while hp hc.pt hb.pss) fun E σ H ⟨ρ, G0, G, S, ag, wf, o⟩ => ?_⟩
  obtain ⟨n, e⟩ := while_of o.nd
  rw [← e] at o
  refine ⟨fun m σ' H' => ∃ ρ' G' S2, StAg X T G0 G' H' σ' ρ' ∧ Wf T G' H' S2 ∧ OutS X T W G0 G' H' E (whN t sb m ρ' S2), ⟨n, ρ, G, S, ag, wf, o⟩, ?_⟩
  rintro m σ2 H2 ⟨ρ2, G2, S2, ag2, w2, o2⟩
  cases m with
  | zero => exact o2.elim
  | succ m =>
    refine ⟨ρ2, G2, S2, ag2.ag, w2, ?_⟩
    unfold whN at o2
    refine OutS.bind o2 ag2 w2 fun k S3 G3 H3 v k3 ag3 w3 i o3 => ?_
    cases i
    cases k with
    | false =>
      rw [if_neg Bool.false_ne_true] at o3 ⊢
      exact o3 σ2 G3 H3 ag3 w3 .refl
    | true =>
      rw [if_pos rfl] at o3 ⊢
      refine ⟨fun σ' H' => ∃ ρ' G' S2, StAg X T G0 G' H' σ' ρ' ∧ Wf T G' H' S2 ∧ OutS X T W G0 G' H' E (whN t sb m ρ' S2), fun σ' H' n => ⟨m, Nat.lt_succ_self m, n⟩, ρ2, G0, G3, S3, ag3, w3, ?_⟩
      unfold bd at o3
      cases q5 : sb ρ2 S3 with
      | div => rw [q5] at o3; exact o3
      | exc c fs S5 => rw [q5] at o3; exact o3
      | ok r S5 =>
        rw [q5] at o3
        cases r with
        | nx ρ5 => exact fun σ5 G5 H5 a5 w5 l5 => ⟨ρ5, G5, S5, a5, w5, OutS.shift l5 o3⟩
        | ct ρ5 => exact fun σ5 G5 H5 a5 w5 l5 => ⟨ρ5, G5, S5, a5, w5, OutS.shift l5 o3⟩
        | bk ρ5 => exact o3
        | rt d5 => exact o3
end
end LS

set_option Elab.async false
set_option linter.all false
set_option maxRecDepth 100000
set_option maxHeartbeats 1000000
namespace LS
open PySem L2 PySem.Spec
open PyProof.Rows hiding St

/-! ## 19. comprehensions -/
/-- nothing is raised within -/
def WF : WX := fun _ _ _ _ => False
theorem takes_wf {X : Cx} : Takes X WF := fun _ _ ⟨_, _, _, _, _, _, _, _, _, _, _, _, _, _, _, _, w⟩ => False.elim w
def wipeR (ρ : Rho) : List Nat → Rho
  | [] => ρ
  | v :: vs => (wipeR ρ vs).set v none
section
variable {X : Cx} {T : Tb} {W : WX} {G G1 G' : Gh} {H H1 H' : Hp} {S : Sto} {σ : St} {ρ : Rho} {i : Nat} {vs : List Nat}
theorem Ag.setNone (g : Ag T G H σ ρ) : Ag T G H (σ.set i none) (ρ.set i none) := by
  have look : ∀ (j : Nat) (s : Sl), (ρ.set i none)[j]? = some (some s) → j ≠ i ∧ ρ[j]? = some (some s) := fun j s e => by
    by_cases q : j = i
    · subst q
      by_cases l : j < ρ.length
      · rw [List.getElem?_set_self l] at e; cases e
      · rw [List.getElem?_eq_none (by simpa using l)] at e; cases e
    · rw [List.getElem?_set_ne (Ne.symm q)] at e; exact ⟨q, e⟩
  refine ⟨by simp [g.len], fun j s e => ?_, fun j k s t v n e1 e2 m1 m2 z => ?_⟩
  · obtain ⟨q, e⟩ := look j s e
    rw [List.getElem?_set_ne (Ne.symm q)]
    exact g.get j s e
  · obtain ⟨q1, e1⟩ := look j s e1
    obtain ⟨q2, e2⟩ := look k t e2
    rw [List.getElem?_set_ne (Ne.symm q1)] at z
    rw [List.getElem?_set_ne (Ne.symm q2)]
    exact g.ap j k s t v n e1 e2 m1 m2 z
theorem Ag.wipe (g : Ag T G H σ ρ) : ∀ vs, Ag T G H (L2.wipe σ vs) (wipeR ρ vs)
  | [] => g
  | v :: vs => (g.wipe vs).setNone
theorem wipe_get {σ : St} {j : Nat} : ∀ {vs : List Nat}, (wipe σ vs)[j]? = if j ∈ vs ∧ j < σ.length then some none else σ[j]?
  | [] => by simp [L2.wipe]
  | v :: vs => by
    unfold L2.wipe
    by_cases e : v = j
    · subst e
      by_cases l : v < σ.length
      · rw [List.getElem?_set_self (by rw [wipe_length]; exact l), if_pos ⟨List.mem_cons_self .., l⟩]
      · rw [List.getElem?_eq_none (by rw [List.length_set, wipe_length]; omega), if_neg (fun z => l z.2), List.getElem?_eq_none (by omega)]
    · rw [List.getElem?_set_ne e, wipe_get (vs := vs)]
      have q : j ∈ v :: vs ↔ j ∈ vs := by simp [Ne.symm e]
      simp only [q]
theorem wipe_set {x : Option V} (h : i ∈ vs) : wipe (σ.set i x) vs = wipe σ vs := by
  refine List.ext_getElem? fun j => ?_
  rw [wipe_get, wipe_get, List.length_set]
  by_cases q : j = i
  · subst q
    by_cases l : j < σ.length
    · rw [if_pos ⟨h, l⟩, if_pos ⟨h, l⟩]
    · rw [if_neg (fun z => l z.2), if_neg (fun z => l z.2), List.getElem?_eq_none (by simpa using l), List.getElem?_eq_none (by simpa using l)]
  · rw [List.getElem?_set_ne (Ne.symm q)]
theorem wipe_wipe : wipe (wipe σ vs) vs = wipe σ vs := by
  refine List.ext_getElem? fun j => ?_
  rw [wipe_get, wipe_length, wipe_get]
  split <;> rfl
theorem Kp.far {a : Addr} {o : HO} (k : Kp G H G' H') (h1 : ¬ G.F a) (h2 : a ∉ G.m) (h3 : H a = some o) (h4 : ∀ ps, o ≠ .tbl ps) : ¬ G'.F a ∧ a ∉ G'.m ∧ H' a = some o := by
  refine ⟨fun q => ?_, fun q => ?_, k.kp a o h3 h2 h4⟩
  · rcases k.new a q with z | z
    · exact h1 z
    · rw [z] at h3; cases h3
  · obtain ⟨r, e, n⟩ := k.st
    rw [e] at q
    rcases List.mem_append.mp q with z | z
    · exact h2 z
    · rw [n a z] at h3; cases h3
theorem Kp.at {a : Addr} {o : HO} (k : Kp G H G' H') (n : H a = Option.none) : Kp G H G' (L2.upd H' a o) :=
  ⟨k.fr, k.new, k.st, fun b u h1 h2 h3 => by rw [upd_ne (ne_of_none h1 n)]; exact k.kp b u h1 h2 h3, fun b h => by
    by_cases e : b = a
    · rw [e, upd_same]; exact nofun
    · rw [upd_ne e]; exact k.is b h⟩
theorem ne_F {a b : Addr} (nf : ¬ G.F a) (f : G.F b) : b ≠ a := fun e => nf (by rw [← e]; exact f)
theorem lean_at {a : Addr} {o : HO} (nf : ¬ G.F a) : Lean G H G (L2.upd H a o) := ⟨fun _ f => f, fun b f => by rw [upd_ne (ne_F nf f)], ⟨[], by simp⟩⟩
theorem Wf.out {a : Addr} {o : HO} (w : Wf T G H S) (nf : ¬ G.F a) (nm : a ∉ G.m) : Wf T G (L2.upd H a o) S := by
  refine ⟨w.fm, fun b f => ?_, w.len, w.nd, fun j ob e => ?_⟩
  · obtain ⟨u, h1, h2⟩ := w.fs b f
    exact ⟨u, by rw [upd_ne (ne_F nf f)]; exact h1, h2⟩
  · obtain ⟨b, h1, h2⟩ := w.ob j ob e
    refine ⟨b, h1, lean_ob (lean_at nf) ?_ h2⟩
    rw [upd_ne]
    rintro rfl
    exact nm (List.mem_of_getElem? h1)
end
/-- no list of one's own is new in the slots -/
def Old (σ : St) (ρ : Rho) (σ' : St) (ρ' : Rho) : Prop := ∀ (i : Nat) (s : Sl), ρ'[i]? = some (some s) → s.mine = true → ρ[i]? = some (some s) ∧ σ'[i]? = σ[i]?
theorem Old.refl {σ : St} {ρ : Rho} : Old σ ρ σ ρ := fun _ _ e _ => ⟨e, rfl⟩
theorem Old.trans {σ σ1 σ2 : St} {ρ ρ1 ρ2 : Rho} (a : Old σ ρ σ1 ρ1) (b : Old σ1 ρ1 σ2 ρ2) : Old σ ρ σ2 ρ2 := fun i s e m => by
  obtain ⟨e1, q1⟩ := b i s e m
  obtain ⟨e2, q2⟩ := a i s e1 m
  exact ⟨e2, q1.trans q2⟩
theorem Old.setV {σ : St} {ρ : Rho} {i : Nat} {d : D} {v : V} (h : i < ρ.length) : Old σ ρ (σ.set i (some v)) (ρ.set i (some (.val d))) := fun j s e m => by
  rw [rho_get h] at e
  by_cases q : j = i
  · rw [if_pos q] at e; cases e; cases m
  · rw [if_neg q] at e
    exact ⟨e, List.getElem?_set_ne (Ne.symm q)⟩
/-- targets of a block: names and pairs of names -/
structure SGb (X : Cx) (T : Tb) (vs : List Nat) (tg : Expr) (g : D → Rho → M Rho) : Prop where
  pg : PG X tg fun v σ H Q => ∃ d ρ G S, Is T G H d v ∧ Ag T G H σ ρ ∧ Wf T G H S ∧
    match g d ρ S with
    | .ok ρ' S' => ∀ σ', Ag T G H σ' ρ' → Wf T G H S' → wipe σ' vs = wipe σ vs → Old σ ρ σ' ρ' → Q σ' H
    | _ => False
structure SGbs (X : Cx) (T : Tb) (vs : List Nat) (ts : List Expr) (g : List D → Rho → M Rho) : Prop where
  pgs : PGs X ts fun us σ H Q => ∃ ds ρ G S, IsL T G H ds us ∧ Ag T G H σ ρ ∧ Wf T G H S ∧
    match g ds ρ S with
    | .ok ρ' S' => ∀ σ', Ag T G H σ' ρ' → Wf T G H S' → wipe σ' vs = wipe σ vs → Old σ ρ σ' ρ' → Q σ' H
    | _ => False
section
variable {X : Cx} {T : Tb} {W : WX} {e a b c o tg : Expr} {f fa fb fi : Ev} {pos p2 p apos : Pos} {es ts : List Expr} {x : Str} {i : Nat} {vs : List Nat} {g : D → Rho → M Rho} {gs : List D → Rho → M Rho}
theorem sgb_name (hN : X.N.Nodup) (hi : X.N[i]? = some x) (hv : i ∈ vs) (hx : Loc X.env.scope x) (hf : X.fn x = true ∨ X.env.scope.names.lookup x = some .local := by first | exact .inl rfl | exact .inr rfl | assumption) : SGb X T vs (.Name x pos) (gNm i) := by
  refine ⟨pg_imp (pg_name hN hi hx hf) fun v σ H Q ⟨d, ρ, G, S, is, ag, wf, o⟩ => ?_⟩
  unfold gNm at o
  by_cases c : i < ρ.length
  · rw [if_pos c] at o
    exact o _ (ag.setV c is) wf (wipe_set hv) (.setV c)
  · rw [if_neg c] at o; exact o.elim
theorem sgbs_nil : SGbs X T vs [] gNone := by
  refine ⟨pgs_imp pgs_nil fun v σ H Q ⟨ds, ρ, G, S, is, ag, wf, o⟩ => ?_⟩
  cases ds with
  | cons d r => exact o.elim
  | nil =>
    unfold IsL at is
    exact ⟨is, o σ ag wf rfl .refl⟩
theorem sgbs_cons (h : SGb X T vs e g) (k : SGbs X T vs ts gs) (hs : (assignEach (e :: ts) X.env).map (·.2) = assign e X.env :: (assignEach ts X.env).map (·.2) := by rfl) : SGbs X T vs (e :: ts) (gMore g gs) := by
  refine ⟨pgs_imp (pgs_cons h.pg k.pgs hs) fun v σ H Q ⟨ds, ρ, G, S, is, ag, wf, o⟩ => ?_⟩
  cases ds with
  | nil => exact o.elim
  | cons d r =>
    unfold IsL at is
    obtain ⟨y, ys, rfl, h1, h2⟩ := is
    refine ⟨y, ys, rfl, d, ρ, G, S, h1, ag, wf, ?_⟩
    unfold gMore bd at o
    dsimp only at o
    cases q : g d ρ S with
    | div => rw [q] at o; exact o
    | exc cc fs S' => rw [q] at o; exact o
    | ok ρ' S' =>
      rw [q] at o
      dsimp only at o ⊢
      intro σ' ag' wf' l od
      refine ⟨r, ρ', G, S', h2, ag', wf', ?_⟩
      cases q2 : gs r ρ' S' with
      | div => rw [q2] at o; exact o
      | exc cc fs S2 => rw [q2] at o; exact o
      | ok ρ2 S2 =>
        rw [q2] at o
        exact fun σ2 a2 w2 l2 od2 => o σ2 a2 w2 (l2.trans l) (od.trans od2)
theorem sgb_tup {k n : Nat} (hc : X.calm = true) (h : SGbs X T vs ts gs) (hT : T.K = X.K := by rfl) (hn : (assignEach ts X.env).length = n := by rfl) (hst : (assignEach ts X.env).findIdx? (·.1) = none := by rfl) : SGb X T vs (.Tuple ts k pos) (gTp n gs) := by
  refine ⟨pg_imp (pg_tup hc h.pgs hn hst) fun v σ H Q ⟨d, ρ, G, S, is, ag, wf, o⟩ => ?_⟩
  cases d <;> try exact o.elim
  case tup ds =>
    obtain ⟨a, xs, rfl, t, r⟩ := b_tup (.inl is)
    unfold gTp at o
    dsimp only at o
    by_cases c : ds.length = n
    · rw [if_pos c] at o
      exact ⟨a, xs, rfl, hT ▸ t.sq, by rw [← r.len]; exact c, ds, ρ, G, S, r, ag, wf, o⟩
    · rw [if_neg c] at o; exact o.elim

structure STs (X : Cx) (T : Tb) (W : WX) (es : List Expr) (f : Rho → M Bool) : Prop where
  pts : PTs X es (tX T W rEq f)
def yes : Rho → M Bool := fun _ => ret true
theorem sts_nil : STs X T W [] yes := ⟨⟨fun pins s σ H Q I h => pts_nil.run pins s σ H Q I (by
  obtain ⟨ρ, G, S, ag, wf, o⟩ := h
  exact o.now wf rfl)⟩⟩
theorem sts_one {t : Rho → M Bool} (h : ST X T W c t) : STs X T W [c] t := ⟨pts_one h.pt⟩

def lcM (g : D → Rho → M Rho) (t : Rho → M Bool) (e : Ev) (ρ : Rho) : List D → M (List D)
  | [] => ret []
  | d :: ds => bd (g d ρ) fun ρ1 => bd (t ρ1) fun k => if k = true then bd (e ρ1) fun y => bd (lcM g t e ρ ds) fun ys => ret (y :: ys) else lcM g t e ρ ds
def nox {α : Type} (m : M α) : M α := fun S => match m S with
  | .ok a S' => .ok a S'
  | _ => .div
def lcN (fi : Rho → M (List D)) (g : D → Rho → M Rho) (t : Rho → M Bool) (e : Ev) (vs : List Nat) : Rho → M (List D) := fun ρ => bd (fi ρ) fun ds => if ds.length ≤ sizeLine then nox (lcM g t e (wipeR ρ vs) ds) else dv
variable {elt iter : Expr} {ifs : List Expr} {scope : Scope} {own : List (Str × Nat)} {ft : Rho → M Bool} {fe : Ev} {fl : Rho → M (List D)}
theorem tlc_of {bb : Bool} {σ : St} {H : Hp} {Q : VK} {g : D → Rho → M Rho} {fl : Rho → M (List D)} {ft : Rho → M Bool} {fe : Ev} {vs : List Nat} (h : tN T W (lcN fl g ft fe vs) σ H Q) :
    tLc (tI T W false fl) (fun v σ H Q => ∃ d ρ G S, Is T G H d v ∧ Ag T G H σ ρ ∧ Wf T G H S ∧
      match g d ρ S with
      | .ok ρ' S' => ∀ σ', Ag T G H σ' ρ' → Wf T G H S' → wipe σ' vs = wipe σ vs → Old σ ρ σ' ρ' → Q σ' H
      | _ => False) (tX T WF rEq ft) (tX T WF (rIs T) fe) vs σ H Q := by
  obtain ⟨ρ, G, S, ag, wf, o⟩ := h
  refine ⟨ρ, G, S, ag, wf, ?_⟩
  unfold lcN bd at o
  cases q : fl ρ S with
  | div => rw [q] at o; exact o
  | exc c fs S' => rw [q] at o; exact o
  | ok ds S' =>
    rw [q] at o
    dsimp only at o ⊢
    intro G1 H1 J k1 w1 it A hA
    have c : ds.length ≤ sizeLine := by
      refine Classical.byContradiction fun c => ?_
      rw [if_neg c] at o; exact o
    rw [if_pos c] at o
    unfold nox at o
    cases q2 : lcM g ft fe (wipeR ρ vs) ds S' with
    | div => rw [q2] at o; exact o.elim
    | exc c fs S' => rw [q2] at o; exact o.elim
    | ok dsf Sf =>
      rw [q2] at o
      dsimp only at o
      have nl : ∀ (xs : List V) ps, HO.lst xs ≠ .tbl ps := fun _ _ z => nomatch z
      refine ⟨fun i m H' => m = ds.length - i ∧ i ≤ ds.length ∧ ∃ G' S2 acc es es2, Kp G1 H1 G' H' ∧ Wf T G' H' S2 ∧ ¬ G'.F A ∧ A ∉ G'.m ∧ H' A = some (.lst acc) ∧ IsL T G' H' es acc ∧ es.length ≤ i ∧ lcM g ft fe (wipeR ρ vs) (ds.drop i) S2 = .ok es2 Sf ∧ es ++ es2 = dsf,
        ⟨ds.length, rfl, Nat.zero_le _, G1, S', [], [], dsf, kp_upd hA, w1.upd hA, w1.nof hA, w1.nom hA, upd_same, IsL.nil, Nat.le_refl _, q2, rfl⟩, ?_⟩
      rintro i m H2 ⟨rfl, hi2, G2, S2, acc, es, es2, k2, w2, nf2, nm2, hA2, r2, le2, e2, fin2⟩
      have C : Lean G1 H1 G2 H2 ∧ (false = false → Kp G1 H1 G2 H2) ∧ ∃ S2, Wf T G2 H2 S2 := ⟨w1.lean k2, fun _ => k2, S2, w2⟩
      by_cases hl : i < ds.length
      · refine .inr ⟨it.go i G2 H2 hl C, fun H' => i + 1 ≤ ds.length ∧ ∃ G' S2 acc es es2, Kp G1 H1 G' H' ∧ Wf T G' H' S2 ∧ ¬ G'.F A ∧ A ∉ G'.m ∧ H' A = some (.lst acc) ∧ IsL T G' H' es acc ∧ es.length ≤ i + 1 ∧ lcM g ft fe (wipeR ρ vs) (ds.drop (i + 1)) S2 = .ok es2 Sf ∧ es ++ es2 = dsf,
          fun H' n => ⟨ds.length - (i + 1), by omega, rfl, n⟩, fun x H3 y => ?_⟩
        obtain ⟨G3, d, k3, w3, e3, i3⟩ := it.yld i G2 H2 x H3 hl C y
        have ed : ds.drop i = d :: ds.drop (i + 1) := by
          rw [List.drop_eq_getElem_cons hl]
          rw [List.getElem?_eq_getElem hl] at e3
          cases e3; rfl
        rw [ed] at e2
        have w3 := w3 S2 w2
        obtain ⟨nf3, nm3, hA3⟩ := k3.far nf2 nm2 hA2 (nl _)
        have r3 := (w2.lean k3).isL r2
        have kk3 := k2.trans k3
        have ag3 : Ag T G3 H3 (wipe σ vs) (wipeR ρ vs) := (ag.keep wf (k1.trans kk3)).wipe vs
        refine ⟨d, wipeR ρ vs, G3, S2, i3, ag3, w3, ?_⟩
        unfold lcM bd at e2
        cases q4 : g d (wipeR ρ vs) S2 with
        | div => rw [q4] at e2; cases e2
        | exc c fs S4 => rw [q4] at e2; cases e2
        | ok ρ4 S4 =>
          rw [q4] at e2
          dsimp only at e2 ⊢
          intro σ4 ag4 w4 wp _
          refine ⟨wp.trans wipe_wipe, ρ4, G3, S4, ag4, w4, ?_⟩
          cases q5 : ft ρ4 S4 with
          | div => rw [q5] at e2; cases e2
          | exc c fs S5 => rw [q5] at e2; cases e2
          | ok b S5 =>
            rw [q5] at e2
            dsimp only at e2
            rintro G5 H5 _ k5 w5 rfl
            obtain ⟨nf5, nm5, hA5⟩ := k5.far nf3 nm3 hA3 (nl _)
            have r5 := (w4.lean k5).isL r3
            cases b with
            | false =>
              rw [if_neg Bool.false_ne_true] at e2 ⊢
              exact ⟨hl, G5, S5, acc, es, es2, kk3.trans k5, w5, nf5, nm5, hA5, r5, Nat.le_succ_of_le le2, e2, fin2⟩
            | true =>
              rw [if_pos rfl] at e2 ⊢
              refine ⟨ρ4, G5, S5, ag4.keep w4 k5, w5, ?_⟩
              cases q6 : fe ρ4 S5 with
              | div => rw [q6] at e2; cases e2
              | exc c fs S6 => rw [q6] at e2; cases e2
              | ok y6 S6 =>
                rw [q6] at e2
                dsimp only at e2
                intro G6 H6 v6 k6 w6 i6
                obtain ⟨nf6, nm6, hA6⟩ := k6.far nf5 nm5 hA5 (nl _)
                have r6 := (w5.lean k6).isL r5
                cases q7 : lcM g ft fe (wipeR ρ vs) (ds.drop (i + 1)) S6 with
                | div => rw [q7] at e2; cases e2
                | exc c fs S7 => rw [q7] at e2; cases e2
                | ok ys S7 =>
                  rw [q7] at e2
                  cases e2
                  have le6 := r6.len
                  refine ⟨acc, hA6, by omega, hl, G6, S6, acc ++ [v6], es ++ [y6], ys, ((kk3.trans k5).trans k6).at hA, w6.out nf6 nm6, nf6, nm6, upd_same, (lean_at nf6).isL (r6.app (.cons i6 .nil)), by simp; omega, q7, by simp [← fin2]⟩
      · have e : i = ds.length := by omega
        subst e
        rw [List.drop_length] at e2
        cases e2
        rw [List.append_nil] at fin2
        subst fin2
        refine .inl ⟨it.stop G2 H2 C, o G2 H2 A (k1.trans k2) w2 (k1.none hA) nf2 nm2 ⟨acc, hA2, r2⟩⟩
/-- what a new list for a name must give, from the statement's side -/
theorem own_in {E : Ends} {σ : St} {H : Hp} {fn : Rho → M (List D)} (h : tS X T W (sOwn i fn) E σ H) : tN T W fn σ H (fun x H1 => gName i x σ H1 E.nx) := by
  obtain ⟨ρ, G0, G, S, ag, wf, o⟩ := h
  refine ⟨ρ, G, S, ag.ag, wf, ?_⟩
  unfold sOwn bd at o
  cases q : fn ρ S with
  | div => rw [q] at o; exact o
  | exc c fs S' =>
    rw [q] at o
    exact fun G' H' cls dx k w' r => o σ G' H' cls dx (ag.kp.trans k) w' r
  | ok ds S' =>
    rw [q] at o
    intro G' H' a k w' n nf nm ⟨xs, hx', hr⟩
    dsimp only at o
    by_cases c : i < ρ.length
    · rw [if_pos c] at o
      have ag' := ag.keep wf k
      have n0 : G0.h a = none := ag.kp.none n
      have hσ : i < σ.length := by rw [ag.ag.len]; exact c
      refine o _ G' H' ⟨ag'.ag.setO c ⟨a, xs, rfl, nf, nm, hx', hr⟩ (ag_fresh (G' := G') (H' := H') ag.ag n), ag'.kp, fun j s b e m z => ?_⟩ w' (wf.lean k)
      rw [rho_get c] at e
      rw [rho_get hσ] at z
      by_cases p : j = i
      · rw [if_pos p] at e z; cases e; cases z; exact ⟨n0, nofun⟩
      · rw [if_neg p] at e z
        exact ag.own j s b e m z
    · rw [if_neg c] at o; exact o.elim
theorem set_in {E : Ends} {σ : St} {H : Hp} {fn : Rho → M (List D)} (h : tS X T W (sSet i (eN fn)) E σ H) : tN T W fn σ H (fun x H1 => gName i x σ H1 E.nx) := by
  obtain ⟨ρ, G0, G, S, ag, wf, o⟩ := h
  refine ⟨ρ, G, S, ag.ag, wf, ?_⟩
  unfold sSet eN bd at o
  dsimp only at o
  cases q : fn ρ S with
  | div => rw [q] at o; exact o
  | exc c fs S' =>
    rw [q] at o
    exact fun G' H' cls dx k w' r => o σ G' H' cls dx (ag.kp.trans k) w' r
  | ok ds S' =>
    rw [q] at o
    intro G' H' a k w' n nf nm ⟨xs, hx', hr⟩
    dsimp only [ret] at o
    by_cases c : i < ρ.length
    · rw [if_pos c] at o
      have ag2 := ag.keep wf k
      have w2 := w'.add nm hx' fun _ z => nomatch z
      have k2 := k.add n
      have ag3 := ag.keep wf k2
      exact o _ _ H' (ag3.setV c (is_lst (.inr rfl) hx' (lean_add.isL hr))) w2 (wf.lean k2)
    · rw [if_neg c] at o; exact o.elim
theorem sn_lc (hc : X.calm = true) (hN : X.N.Nodup) (hi : SI X T W false tg iter fl) (ok : BlkOk X.N X.env.scope scope own)
    (hg : ∀ (s : Shared) (H : Hp) (C : Addr) (cl : List (Str × Addr)) (fp : List Addr), SGb (X.blk s H scope (compEnvC scope cl C X.env) fp) T (own.map (·.2)) tg g)
    (ht : ∀ (s : Shared) (H : Hp) (C : Addr) (cl : List (Str × Addr)) (fp : List Addr), STs (X.blk s H scope (compEnvC scope cl C X.env) fp) T WF ifs ft)
    (he : ∀ (s : Shared) (H : Hp) (C : Addr) (cl : List (Str × Addr)) (fp : List Addr), SE (X.blk s H scope (compEnvC scope cl C X.env) fp) T WF elt fe)
    (hs : ∀ x, foldedSetIterable iter X.env x = pure x := by intro _; rfl) : SN X T W (.ListComp elt [⟨tg, iter, ifs, 0⟩] scope pos) (lcN fl g ft fe (own.map (·.2))) := by
  exact ⟨pe_imp (pe_lc hc hN hi.pi ok (fun s H C cl fp => (hg s H C cl fp).pg) (fun s H C cl fp => (ht s H C cl fp).pts) (fun s H C cl fp => (he s H C cl fp).pe) hs) fun σ H Q h => tlc_of (bb := true) h⟩
/-- name = [..], the name a plain local: the list is the name's own -/
theorem ss_ownLc {x : Str} {py spos : Pos} (hc : X.calm = true) (hN : X.N.Nodup) (hx : X.N[i]? = some x) (hxl : X.env.scope.names.lookup x = some .local) (hsw : swapsWith (.ListComp elt [⟨tg, iter, ifs, 0⟩] scope pos) (some (.Name x py)) spos.line X.env = pure true)
    (hi : SI X T W false tg iter fl) (ok : BlkOk X.N X.env.scope scope own)
    (hg : ∀ (s : Shared) (H : Hp) (C : Addr) (cl : List (Str × Addr)) (fp : List Addr), SGb (X.blk s H scope (compEnvC scope cl C X.env) fp) T (own.map (·.2)) tg g)
    (ht : ∀ (s : Shared) (H : Hp) (C : Addr) (cl : List (Str × Addr)) (fp : List Addr), STs (X.blk s H scope (compEnvC scope cl C X.env) fp) T WF ifs ft)
    (he : ∀ (s : Shared) (H : Hp) (C : Addr) (cl : List (Str × Addr)) (fp : List Addr), SE (X.blk s H scope (compEnvC scope cl C X.env) fp) T WF elt fe)
    (hs : ∀ x, foldedSetIterable iter X.env x = pure x := by intro _; rfl) : SS X T W (.Assign [.Name x py] (.ListComp elt [⟨tg, iter, ifs, 0⟩] scope pos) spos) (sOwn i (lcN fl g ft fe (own.map (·.2)))) :=
  ⟨ps_imp (ps_setLc hc hN hx hxl hsw hi.pi ok (fun s H C cl fp => (hg s H C cl fp).pg) (fun s H C cl fp => (ht s H C cl fp).pts) (fun s H C cl fp => (he s H C cl fp).pe) hs) fun E σ H h => tlc_of (bb := true) (own_in h)⟩
theorem ss_setLc {x : Str} {py spos : Pos} (hc : X.calm = true) (hN : X.N.Nodup) (hx : X.N[i]? = some x) (hxl : X.env.scope.names.lookup x = some .local) (hsw : swapsWith (.ListComp elt [⟨tg, iter, ifs, 0⟩] scope pos) (some (.Name x py)) spos.line X.env = pure true)
    (hi : SI X T W false tg iter fl) (ok : BlkOk X.N X.env.scope scope own)
    (hg : ∀ (s : Shared) (H : Hp) (C : Addr) (cl : List (Str × Addr)) (fp : List Addr), SGb (X.blk s H scope (compEnvC scope cl C X.env) fp) T (own.map (·.2)) tg g)
    (ht : ∀ (s : Shared) (H : Hp) (C : Addr) (cl : List (Str × Addr)) (fp : List Addr), STs (X.blk s H scope (compEnvC scope cl C X.env) fp) T WF ifs ft)
    (he : ∀ (s : Shared) (H : Hp) (C : Addr) (cl : List (Str × Addr)) (fp : List Addr), SE (X.blk s H scope (compEnvC scope cl C X.env) fp) T WF elt fe)
    (hs : ∀ x, foldedSetIterable iter X.env x = pure x := by intro _; rfl) : SS X T W (.Assign [.Name x py] (.ListComp elt [⟨tg, iter, ifs, 0⟩] scope pos) spos) (sSet i (eN (lcN fl g ft fe (own.map (·.2))))) :=
  ⟨ps_imp (ps_setLc hc hN hx hxl hsw hi.pi ok (fun s H C cl fp => (hg s H C cl fp).pg) (fun s H C cl fp => (ht s H C cl fp).pts) (fun s H C cl fp => (he s H C cl fp).pe) hs) fun E σ H h => tlc_of (bb := true) (set_in h)⟩
end
end LS

set_option Elab.async false
set_option linter.all false
set_option maxRecDepth 100000
set_option maxHeartbeats 1000000
namespace LS
open PySem L2 PySem.Spec
open PyProof.Rows hiding St

/-! ## 20. a def by its body -/
def rho0 (m : Nat) (ds : List D) : Rho := ds.map (fun d => some (.val d)) ++ List.replicate (m - ds.length) none
def fnM (m : Nat) (s : Sx) (ds : List D) : M D := bd (s (rho0 m ds)) fun r => match r with
  | .nx _ => ret .non
  | .rt d => ret d
  | _ => dv
section
variable {T : Tb} {G : Gh} {H : Hp} {S : Sto} {N ps : List Str} {vs : List V} {ds : List D}
theorem ag_start (r : IsL T G H ds vs) : Ag T G H (start N vs) (rho0 N.length ds) := by
  have ln := r.len
  have look : ∀ (i : Nat) (sl : Sl), (rho0 N.length ds)[i]? = some (some sl) → ∃ d, ds[i]? = some d ∧ sl = .val d := fun i sl e => by
    unfold rho0 at e
    by_cases c : i < ds.length
    · rw [List.getElem?_append_left (by simpa using c), List.getElem?_map, List.getElem?_eq_getElem c] at e
      cases e
      exact ⟨_, List.getElem?_eq_getElem c, rfl⟩
    · rw [List.getElem?_append_right (by simpa using c), List.getElem?_replicate] at e
      split at e <;> cases e
  refine ⟨?_, fun i sl e => ?_, fun i j s t v n e1 e2 m1 m2 => ?_⟩
  · unfold rho0 L2.start
    rw [List.length_append, List.length_append, List.length_map, List.length_map, List.length_replicate, List.length_replicate, ln]
  · obtain ⟨d, e1, rfl⟩ := look i sl e
    obtain ⟨v, e2, h⟩ := r.get e1
    refine ⟨v, ?_, h⟩
    unfold L2.start
    rw [List.getElem?_append_left (by rw [List.length_map]; exact (List.getElem?_eq_some_iff.mp e2).1), List.getElem?_map, e2]
    rfl
  · obtain ⟨d, _, rfl⟩ := look i s e1
    cases m1
theorem rho0_val {i : Nat} {s : Sl} (e : (rho0 N.length ds)[i]? = some (some s)) : s.mine = false := by
  unfold rho0 at e
  by_cases c : i < ds.length
  · rw [List.getElem?_append_left (by simpa using c), List.getElem?_map, List.getElem?_eq_getElem c] at e
    cases e; rfl
  · rw [List.getElem?_append_right (by simpa using c), List.getElem?_replicate] at e
    split at e <;> cases e
theorem stag_start {X : Cx} (r : IsL T G H ds vs) : StAg X T ⟨G, H, none⟩ G H (start N vs) (rho0 N.length ds) := ⟨ag_start r, .refl G H, fun i s a e m z => by rw [rho0_val e] at m; cases m⟩
end
/-- a def reckons what its body reckons -/
theorem fng_den {gb : Bool} {P : Program} {w : World} {K : PySem.W.Frag} {mg : Str → Option Value} {base : Heap} {T : Tb} {k : Nat} {x qual : Str} {st : Stmt} {f : Addr} {fd : FuncData} {N ps : List Str} {sx : Sx}
    (F : Fun K x qual st f fd) (Z : FnScope N ps (defScope st))
    (body : ∀ (cv : Value) (A : Around) (out : List Env) (s : Shared) (H : Hp) (E : XK), RoomG gb k (A.deeper (envOfC qual (defScope st) s.heap.objs.size f cv)) →
      SSs (cxOf (L2.CX P w) P w K mg base N qual (defScope st) f cv A out s H E) T (fun cls d _ H => E cls d H) (defBody st) sx) : FnG gb P w K mg base (k + 1) f fd ps (spOf T ps.length (fnM N.length sx)) := by
  refine fng_of F Z (fun vs H Q E h => h.1) fun cv A out s H vs Q E hr h => ⟨_, (body cv A out s H E hr).pss, ?_⟩
  obtain ⟨ln, ds, G, S, r, w, o⟩ := h
  refine ⟨rho0 N.length ds, ⟨G, H, none⟩, G, S, stag_start r, w, ?_⟩
  unfold fnM bd at o
  cases q : sx (rho0 N.length ds) S with
  | div => rw [q] at o; exact o
  | exc c fs S' =>
    rw [q] at o
    exact fun σ' G' H' cls dx k w r => o G' H' cls dx k w r
  | ok r S' =>
    rw [q] at o
    cases r with
    | nx ρ => exact fun σ' G' H' a w l => o G' H' .non a.kp w is_non
    | rt d => exact fun G' H' v k w i => o G' H' v k w i
    | bk ρ => exact o.elim
    | ct ρ => exact o.elim
/-- its first argument never looked at (a classmethod's class) -/
def spOf1 (T : Tb) (n : Nat) (f : List D → M D) : Sp := fun vs H Q E => ∃ c vs', vs = c :: vs' ∧ spOf T n f vs' H Q E
def fnM1 (m : Nat) (s : Sx) (ds : List D) : M D := bd (s (none :: rho0 (m - 1) ds)) fun r => match r with
  | .nx _ => ret .non
  | .rt d => ret d
  | _ => dv
theorem start_cons {y : Str} {N : List Str} {c : V} {vs : List V} : start (y :: N) (c :: vs) = some c :: start N vs := by
  unfold L2.start
  rw [List.map_cons, List.cons_append, List.length_cons, List.length_cons, Nat.add_sub_add_right]
theorem Ag.cons {T : Tb} {G : Gh} {H : Hp} {σ : St} {ρ : Rho} {v : Option V} (g : Ag T G H σ ρ) : Ag T G H (v :: σ) (none :: ρ) := by
  refine ⟨by simp [g.len], fun i sl e => ?_, fun i j s t u n e1 e2 m1 m2 z => ?_⟩
  · cases i with
    | zero => cases e
    | succ i => exact g.get i sl e
  · cases i with
    | zero => cases e1
    | succ i =>
      cases j with
      | zero => cases e2
      | succ j => exact g.ap i j s t u (fun q => n (congrArg Nat.succ q)) e1 e2 m1 m2 z
theorem fng_den1 {gb : Bool} {P : Program} {w : World} {K : PySem.W.Frag} {mg : Str → Option Value} {base : Heap} {T : Tb} {k n : Nat} {x qual y : Str} {st : Stmt} {f : Addr} {fd : FuncData} {N ps : List Str} {sx : Sx}
    (F : Fun K x qual st f fd) (Z : FnScope (y :: N) (y :: ps) (defScope st))
    (body : ∀ (cv : Value) (A : Around) (out : List Env) (s : Shared) (H : Hp) (E : XK), RoomG gb k (A.deeper (envOfC qual (defScope st) s.heap.objs.size f cv)) →
      SSs (cxOf (L2.CX P w) P w K mg base (y :: N) qual (defScope st) f cv A out s H E) T (fun cls d _ H => E cls d H) (defBody st) sx) : FnG gb P w K mg base (k + 1) f fd (y :: ps) (spOf1 T ps.length (fnM1 (N.length + 1) sx)) := by
  refine fng_of F Z (fun vs H Q E h => by obtain ⟨c, vs', rfl, h, _⟩ := h; exact congrArg Nat.succ h) fun cv A out s H vs Q E hr h => ⟨_, (body cv A out s H E hr).pss, ?_⟩
  obtain ⟨c, vs', rfl, ln, ds, G, S, r, w, o⟩ := h
  rw [start_cons]
  refine ⟨none :: rho0 N.length ds, ⟨G, H, none⟩, G, S, ⟨(ag_start r).cons, .refl G H, fun i s a e m z => ?_⟩, w, ?_⟩
  · cases i with
    | zero => cases e
    | succ i => rw [rho0_val (N := N) (ds := ds) (i := i) e] at m; cases m
  unfold fnM1 bd at o
  rw [Nat.add_sub_cancel] at o
  cases q : sx (none :: rho0 N.length ds) S with
  | div => rw [q] at o; exact o
  | exc c fs S' =>
    rw [q] at o
    exact fun σ' G' H' cls dx k w r => o G' H' cls dx k w r
  | ok r S' =>
    rw [q] at o
    cases r with
    | nx ρ => exact fun σ' G' H' a w l => o G' H' .non a.kp w is_non
    | rt d => exact fun G' H' v k w i => o G' H' v k w i
    | bk ρ => exact o.elim
    | ct ρ => exact o.elim

/-! ## 21. fields -/
/-- the class c has the field f at place j -/
structure CF (T : Tb) (c : Nat) (f : Str) (j : Nat) : Prop where
  cl : Cls T.K (T.ca c)
  na : NoAttr T.K (T.ca c) f
  at_ : (T.cf c)[j]? = some f
  nd : (T.cf c).Nodup
  sm : (T.cf c).length < 1000
theorem zip_look {f : Str} : ∀ {l : List Str} {xs : List V} {j : Nat}, l.Nodup → l[j]? = some f → (l.zip xs).lookup f = xs[j]?
  | [], xs, j, _, e => by simp at e
  | g :: l, [], j, _, _ => by simp
  | g :: l, x :: xs, 0, _, e => by
    have e' : g = f := Option.some.inj e
    subst e'
    simp [List.lookup]
  | g :: l, x :: xs, j + 1, n, e => by
    have n' := List.nodup_cons.mp n
    have e' : l[j]? = some f := e
    have ne : ¬ f = g := fun z => n'.1 (z ▸ List.mem_of_getElem? e')
    have h := zip_look (xs := xs) n'.2 e'
    rw [List.zip_cons_cons, List.lookup_cons, show (f == g) = false from beq_false_of_ne ne, h]
    rfl
theorem zip_put {f : Str} {y : V} : ∀ {l : List Str} {xs : List V} {j : Nat}, l.Nodup → l[j]? = some f → j < xs.length → putF f y (l.zip xs) = l.zip (xs.set j y)
  | [], xs, j, _, e, _ => by simp at e
  | g :: l, [], j, _, _, h => absurd h (Nat.not_lt_zero _)
  | g :: l, x :: xs, 0, _, e, _ => by
    have e' : g = f := Option.some.inj e
    subst e'
    simp [putF]
  | g :: l, x :: xs, j + 1, n, e, h => by
    have n' := List.nodup_cons.mp n
    have e' : l[j]? = some f := e
    have ne : ¬ g = f := fun z => n'.1 (z ▸ List.mem_of_getElem? e')
    rw [List.zip_cons_cons, List.set_cons_succ, List.zip_cons_cons]
    unfold putF
    rw [if_neg ne, zip_put n'.2 e' (Nat.lt_of_succ_lt_succ h)]
theorem put_new {f : Str} {y : V} : ∀ {l : List Str} {xs : List V}, f ∉ l → l.length = xs.length → putF f y (l.zip xs) = (l ++ [f]).zip (xs ++ [y])
  | [], [], _, _ => rfl
  | g :: l, x :: xs, n, e => by
    rw [List.zip_cons_cons, List.cons_append, List.cons_append, List.zip_cons_cons]
    unfold putF
    rw [if_neg (fun z : g = f => n (by rw [z]; exact List.mem_cons_self ..)), put_new (fun z => n (List.mem_cons_of_mem _ z)) (Nat.succ.inj e)]
def fldF (alts : List (Nat × Nat)) (c : Nat) (fs : List D) : Option D := match alts.lookup c with
  | some j => fs[j]?
  | none => none
def fldM (alts : List (Nat × Nat)) (d : D) : M D := fun S => match d with
  | .obj c fs => match fldF alts c fs with
    | some x => .ok x S
    | none => .div
  | .ref n => match S[n]? with
    | some (.ins c fs) => match fldF alts c fs with
      | some x => .ok x S
      | none => .div
    | _ => .div
  | _ => .div
section
variable {X : Cx} {T : Tb} {W : WX} {e a c o tg : Expr} {f fa fb : Ev} {pos p2 p apos : Pos} {es : List Expr} {x fn : Str} {i : Nat} {alts : List (Nat × Nat)} {G : Gh} {H : Hp} {S : Sto}
theorem mem_lookN {l : List (Nat × Nat)} {a b : Nat} (h : l.lookup a = some b) : (a, b) ∈ l := by
  induction l with
  | nil => cases h
  | cons q l ih =>
    rw [List.lookup_cons] at h
    by_cases e : a = q.1
    · rw [show (a == q.1) = true from beq_iff_eq.mpr e] at h
      cases h
      rw [e]; exact List.mem_cons_self ..
    · rw [show (a == q.1) = false from beq_false_of_ne e] at h
      exact List.mem_cons_of_mem _ (ih h)
theorem fldF_of {cc : Nat} {fs : List D} {y : D} (hA : ∀ q ∈ alts, CF T q.1 fn q.2) (h : fldF alts cc fs = some y) : ∃ j, CF T cc fn j ∧ fs[j]? = some y := by
  unfold fldF at h
  cases q : alts.lookup cc with
  | none => rw [q] at h; cases h
  | some j => rw [q] at h; exact ⟨j, hA (cc, j) (mem_lookN q), h⟩
theorem fld_full {cc j : Nat} {fs : List D} {xs : List V} {y : D} (C : CF T cc fn j) (ln : xs.length = (T.cf cc).length) (r : IsL T G H fs xs) (e : fs[j]? = some y) : ∃ v, ((T.cf cc).zip xs).lookup fn = some v ∧ Is T G H y v := by
  obtain ⟨v, e1, h⟩ := r.get e
  exact ⟨v, by rw [zip_look C.nd C.at_, e1], h⟩
theorem se_fld (h : SE X T W e f) (hA : ∀ q ∈ alts, CF T q.1 fn q.2) (hb : attributeBase e fn X.env (eval e X.env) = eval e X.env := by rfl) (hT : T.K = X.K := by rfl) : SE X T W (.Attribute e fn pos) (e1 (fldM alts) f) := by
  refine ⟨pe_imp (pe_fld h.pe hb) fun σ H Q ⟨ρ, G, S, ag, wf, o⟩ => ⟨ρ, G, S, ag, wf, o.bind fun d S1 G1 H1 v k1 w1 i1 o1 => ?_⟩⟩
  unfold fldM at o1
  cases d with
  | obj cc fs =>
    unfold rIs Is at i1
    obtain ⟨p, dx, xs, rfl, ff, hx, ln, r⟩ := i1
    dsimp only at o1
    cases q : fldF alts cc fs with
    | none => rw [q] at o1; exact o1.elim
    | some y =>
      rw [q] at o1
      obtain ⟨j, C, e⟩ := fldF_of hA q
      obtain ⟨u, e2, r2⟩ := fld_full C ln r e
      exact ⟨p, T.ca cc, dx, _, u, rfl, hx, hT ▸ C.cl, hT ▸ C.na, e2, o1.now w1 r2⟩
  | ref n =>
    unfold rIs Is at i1
    obtain ⟨p, hm, rfl⟩ := i1
    dsimp only at o1
    rcases q0 : S1[n]? with _ | ob
    · rw [q0] at o1; exact o1.elim
    · rw [q0] at o1
      cases ob with
      | lst ds => exact o1.elim
      | ins cc fs =>
        dsimp only at o1
        obtain ⟨p', h1, dx, xs, hx, ln, r⟩ := w1.ob n _ q0
        rw [hm] at h1
        cases h1
        cases q : fldF alts cc fs with
        | none => rw [q] at o1; exact o1.elim
        | some y =>
          rw [q] at o1
          obtain ⟨j, C, e⟩ := fldF_of hA q
          obtain ⟨u, e2, r2⟩ := fld_full C ln r e
          exact ⟨p, T.ca cc, dx, _, u, rfl, hx, hT ▸ C.cl, hT ▸ C.na, e2, o1.now w1 r2⟩
  | _ => exact o1.elim
/-- of an instance in the making -/
def eFldM (i : Nat) (alts : List (Nat × Nat)) : Ev := fun ρ => match ρ[i]? with
  | some (some (.mak c fs)) => match fldF alts c fs with
    | some d => ret d
    | none => dv
  | _ => dv
theorem se_fldM (hN : X.N[i]? = some x) (hv : Vis X.env.scope x) (hA : ∀ q ∈ alts, CF T q.1 fn q.2) (hd : (x == ("__debug__" : Str)) = false := by decide) (hcd : (x == ("__classdict__" : Str)) = false := by decide)
    (hb : attributeBase (.Name x p) fn X.env (eval (.Name x p) X.env) = eval (.Name x p) X.env := by rfl) (hT : T.K = X.K := by rfl) : SE X T W (.Attribute (.Name x p) fn pos) (eFldM i alts) := by
  refine ⟨pe_imp (pe_fld (pe_var hN hv hd hcd) hb) fun σ H Q ⟨ρ, G, S, ag, wf, o⟩ => ?_⟩
  unfold eFldM at o
  rcases q : ρ[i]? with _ | _ | sl
  · rw [q] at o; exact o.elim
  · rw [q] at o; exact o.elim
  · rw [q] at o
    cases sl with
    | val d => exact o.elim
    | own ds => exact o.elim
    | mak cc fs =>
      dsimp only at o
      obtain ⟨v, h1, a, dx, xs, rfl, nf, nm, hx, l1, l2, r⟩ := ag.get i _ q
      cases q2 : fldF alts cc fs with
      | none => rw [q2] at o; exact o.elim
      | some y =>
        rw [q2] at o
        obtain ⟨j, C, e⟩ := fldF_of hA q2
        obtain ⟨u, e1, r2⟩ := r.get e
        have jl : j < fs.length := (List.getElem?_eq_some_iff.mp e).1
        refine ⟨_, h1, a, T.ca cc, dx, _, u, rfl, hx, hT ▸ C.cl, hT ▸ C.na, ?_, o.now wf r2⟩
        rw [zip_look (C.nd.sublist (List.take_sublist ..)) (by rw [List.getElem?_take, if_pos jl]; exact C.at_), e1]
/-- self.f = e while the instance is made; or of an instance of the store -/
def sAttr (i : Nat) (alts : List (Nat × Nat)) (f : Ev) : Sx := fun ρ => bd (f ρ) fun d => match ρ[i]? with
  | some (some (.mak c fs)) => match alts.lookup c with
    | some j => if j = fs.length then ret (.nx (ρ.set i (some (.mak c (fs ++ [d]))))) else dv
    | none => dv
  | some (some (.val (.ref n))) => fun S => match S[n]? with
    | some (.ins c fs) => match alts.lookup c with
      | some j => if j < fs.length then .ok (.nx ρ) (S.set n (.ins c (fs.set j d))) else .div
      | none => .div
    | _ => .div
  | _ => dv
end
end LS

set_option Elab.async false
set_option linter.all false
set_option maxRecDepth 100000
set_option maxHeartbeats 1000000
namespace LS
open PySem L2 PySem.Spec
open PyProof.Rows hiding St

section
variable {X : Cx} {T : Tb} {W : WX} {e a c o tg : Expr} {f fa fb : Ev} {pos p2 p apos pos' : Pos} {es : List Expr} {x fn : Str} {i : Nat} {alts : List (Nat × Nat)} {G : Gh} {H : Hp} {S : Sto}
/-- the instance in the making in a slot is changed -/
theorem StAg.chgM {G0 : Bs} {σ : St} {ρ : Rho} {b : Addr} {o' : HO} {cc : Nat} {fs gs : List D} (g : StAg X T G0 G H σ ρ) (w : Wf T G H S) (q : ρ[i]? = some (some (.mak cc fs))) (z : σ[i]? = some (some (.ref b))) (nf : ¬ G.F b) (nm : b ∉ G.m)
    (r : SlIs T G (L2.upd H b o') (.mak cc gs) (.ref b)) : StAg X T G0 G (L2.upd H b o') σ (ρ.set i (some (.mak cc gs))) ∧ Wf T G (L2.upd H b o') S ∧ Lean G H G (L2.upd H b o') := by
  have c : i < ρ.length := (List.getElem?_eq_some_iff.mp q).1
  obtain ⟨own0, me0⟩ := g.own i _ b q rfl z
  have l : Lean G H G (L2.upd H b o') := lean_at nf
  refine ⟨⟨⟨by rw [List.length_set]; exact g.ag.len, fun j sl e => ?_, fun j k s t v n e1 e2 m1 m2 y => ?_⟩, g.kp.at own0, fun j s a e m y => ?_⟩, w.out nf nm, l⟩
  · rw [rho_get c] at e
    by_cases p : j = i
    · rw [if_pos p] at e
      cases e
      subst p
      exact ⟨_, z, r⟩
    · rw [if_neg p] at e
      obtain ⟨v, h1, h2⟩ := g.ag.get j sl e
      refine ⟨v, h1, ?_⟩
      have apart : sl.mine = true → v ≠ .ref b := fun m y => g.ag.ap i j _ sl _ (Ne.symm p) q e rfl m z (y ▸ h1)
      cases sl with
      | val d => exact l.is h2
      | own ds =>
        obtain ⟨a2, ys, e2, u1, u2, u3, u4⟩ := h2
        have ne : a2 ≠ b := fun y => apart rfl (e2.trans (congrArg V.ref y))
        exact ⟨a2, ys, e2, u1, u2, by rw [upd_ne ne]; exact u3, l.isL u4⟩
      | mak c2 fs2 =>
        obtain ⟨a2, dx, ys, e2, u1, u2, u3, u5, u6, u4⟩ := h2
        have ne : a2 ≠ b := fun y => apart rfl (e2.trans (congrArg V.ref y))
        exact ⟨a2, dx, ys, e2, u1, u2, by rw [upd_ne ne]; exact u3, u5, u6, l.isL u4⟩
  · have old : ∀ (j : Nat) (s : Sl), (ρ.set i (some (.mak cc gs)))[j]? = some (some s) → s.mine = true → ∃ s', ρ[j]? = some (some s') ∧ s'.mine = true := fun j s e m => by
      rw [rho_get c] at e
      by_cases p : j = i
      · subst p; exact ⟨_, q, rfl⟩
      · rw [if_neg p] at e; exact ⟨s, e, m⟩
    obtain ⟨s', f1, f2⟩ := old j s e1 m1
    obtain ⟨t', f3, f4⟩ := old k t e2 m2
    exact g.ag.ap j k s' t' v n f1 f3 f2 f4 y
  · rw [rho_get c] at e
    by_cases p : j = i
    · rw [if_pos p] at e; cases e; subst p; rw [z] at y; cases y; exact ⟨own0, fun c fs e => by cases e; exact me0 _ _ rfl⟩
    · rw [if_neg p] at e
      exact g.own j s a e m y
theorem Wf.putI {n : Nat} {b : Addr} {cc : Nat} {fs : List D} {dx : Addr} {xs : List V} (w : Wf T G H S) (hm : G.m[n]? = some b) (hn : n < S.length) (ln : xs.length = (T.cf cc).length) (r : IsL T G H fs xs) :
    Wf T G (L2.upd H b (.ins (T.ca cc) dx ((T.cf cc).zip xs))) (S.set n (.ins cc fs)) ∧ Lean G H G (L2.upd H b (.ins (T.ca cc) dx ((T.cf cc).zip xs))) ∧ Kp G H G (L2.upd H b (.ins (T.ca cc) dx ((T.cf cc).zip xs))) := by
  have am : b ∈ G.m := List.mem_of_getElem? hm
  have ne : ∀ c, G.F c → c ≠ b := fun c f e => w.fm c f (e ▸ am)
  have l : Lean G H G (L2.upd H b (.ins (T.ca cc) dx ((T.cf cc).zip xs))) := ⟨fun _ f => f, fun c f => by rw [upd_ne (ne c f)], ⟨[], by simp⟩⟩
  refine ⟨⟨w.fm, fun c f => ?_, by rw [List.length_set]; exact w.len, w.nd, fun j ob e => ?_⟩, l, ⟨fun _ f => f, fun _ f => .inl f, ⟨[], by simp, fun _ z => nomatch z⟩, fun c u h1 h2 _ => ?_, fun c h1 => ?_⟩⟩
  · obtain ⟨u, h1, h2⟩ := w.fs c f
    exact ⟨u, by rw [upd_ne (ne c f)]; exact h1, h2⟩
  · rw [rho_get hn] at e
    by_cases q : j = n
    · rw [if_pos q] at e
      cases e
      subst q
      exact ⟨b, hm, dx, xs, upd_same, ln, l.isL r⟩
    · rw [if_neg q] at e
      obtain ⟨c, h1, h2⟩ := w.ob j ob e
      refine ⟨c, h1, lean_ob l ?_ h2⟩
      rw [upd_ne]
      rintro rfl
      obtain ⟨l1, e1⟩ := List.getElem?_eq_some_iff.mp h1
      obtain ⟨l2, e2⟩ := List.getElem?_eq_some_iff.mp hm
      exact q ((List.getElem_inj w.nd).mp (e1.trans e2.symm))
  · rw [upd_ne]
    · exact h1
    · rintro rfl
      exact h2 am
  · by_cases y : c = b
    · rw [y, upd_same]; exact nofun
    · rw [upd_ne y]; exact h1
theorem ss_attr {pt : Pos} (hN : X.N[i]? = some x) (hv : Vis X.env.scope x) (he : SE X T W e f) (hA : ∀ q ∈ alts, CF T q.1 fn q.2) (hs : swapsWith e (some (.Attribute (.Name x p) fn pos')) pos.line X.env = pure false := by rfl)
    (hd : (x == ("__debug__" : Str)) = false := by decide) (hcd : (x == ("__classdict__" : Str)) = false := by decide) (hT : T.K = X.K := by rfl) : SS X T W (.Assign [.Attribute (.Name x p) fn pos'] e pos) (sAttr i alts f) := by
  refine ⟨ps_imp (ps_fld (pe_var hN hv hd hcd) he.pe hs) fun E σ H ⟨ρ, G0, G, S, ag, wf, o⟩ => ⟨ρ, G, S, ag.ag, wf, OutS.bind o ag wf fun d S1 G1 H1 y k1 ag1 w1 r1 o1 => ?_⟩⟩
  rcases q : ρ[i]? with _ | _ | sl
  · rw [q] at o1; exact o1.elim
  · rw [q] at o1; exact o1.elim
  · rw [q] at o1
    cases sl with
    | own ds => exact o1.elim
    | mak cc fs =>
      dsimp only at o1
      obtain ⟨v, h1, b, dx, xs, rfl, nf, nm, hx, l1, l2, r⟩ := ag1.ag.get i _ q
      cases q2 : alts.lookup cc with
      | none => rw [q2] at o1; exact o1.elim
      | some j =>
        rw [q2] at o1
        dsimp only at o1
        by_cases c : j = fs.length
        · rw [if_pos c] at o1
          have C := hA (cc, j) (mem_lookN q2)
          have at_ := C.at_
          have jl : j < (T.cf cc).length := (List.getElem?_eq_some_iff.mp at_).1
          have sm := C.sm
          have l3 : ((T.cf cc).take fs.length).length = xs.length := by rw [List.length_take]; omega
          refine ⟨_, h1, b, T.ca cc, dx, _, rfl, hx, hT ▸ C.cl, hT ▸ C.na, by rw [List.length_zip]; exact Nat.lt_of_le_of_lt (Nat.min_le_right _ _) (by have := C.sm; show xs.length < 1000; have : (T.cf cc).length < 1000 := C.sm; omega), ?_⟩
          have ni : fn ∉ (T.cf cc).take fs.length := fun z => by
            obtain ⟨m, hm⟩ := List.mem_iff_getElem?.mp z
            rw [List.getElem?_take] at hm
            split at hm
            · rename_i ml
              obtain ⟨u1, e1⟩ := List.getElem?_eq_some_iff.mp hm
              obtain ⟨u2, e2⟩ := List.getElem?_eq_some_iff.mp at_
              have := (List.getElem_inj C.nd).mp (e1.trans e2.symm)
              omega
            · cases hm
          have tk : (T.cf cc).take (fs ++ [d]).length = (T.cf cc).take fs.length ++ [fn] := by
            rw [List.length_append, List.length_singleton, List.take_add_one, ← c, at_]; rfl
          have hp : putF fn y (((T.cf cc).take fs.length).zip xs) = ((T.cf cc).take (fs ++ [d]).length).zip (xs ++ [y]) := by rw [put_new ni l3, tk]
          rw [hp]
          obtain ⟨g1, g2, g3⟩ := ag1.chgM (o' := .ins (T.ca cc) dx (((T.cf cc).take (fs ++ [d]).length).zip (xs ++ [y]))) (gs := fs ++ [d]) w1 q h1 nf nm
            ⟨b, dx, xs ++ [y], rfl, nf, nm, upd_same, by rw [List.length_append, List.length_append, l1]; rfl, by rw [List.length_append]; show fs.length + 1 ≤ _; omega, (lean_at nf).isL (r.app (.cons r1 .nil))⟩
          exact o1 σ G1 _ g1 g2 g3
        · rw [if_neg c] at o1; exact o1.elim
    | val d0 =>
      cases d0 with
      | ref n =>
        dsimp only at o1
        obtain ⟨v, h1, hv2⟩ := ag1.ag.get i _ q
        have hv3 : IsB T G1 H1 (.ref n) v := .inl hv2
        obtain ⟨b, hm, rfl⟩ := b_ref hv3
        rcases q0 : S1[n]? with _ | ob
        · rw [q0] at o1; exact o1.elim
        · rw [q0] at o1
          cases ob with
          | lst ds => exact o1.elim
          | ins cc fs =>
            dsimp only at o1
            obtain ⟨b', z1, dx, xs, hx, ln, r⟩ := w1.ob n _ q0
            rw [hm] at z1
            cases z1
            cases q2 : alts.lookup cc with
            | none => rw [q2] at o1; exact o1.elim
            | some j =>
              rw [q2] at o1
              dsimp only at o1
              by_cases c : j < fs.length
              · rw [if_pos c] at o1
                have C := hA (cc, j) (mem_lookN q2)
                have sm := C.sm
                have l4 := r.len
                refine ⟨_, h1, b, T.ca cc, dx, _, rfl, hx, hT ▸ C.cl, hT ▸ C.na, by rw [List.length_zip]; exact Nat.lt_of_le_of_lt (Nat.min_le_right _ _) (by have := C.sm; show xs.length < 1000; have : (T.cf cc).length < 1000 := C.sm; omega), ?_⟩
                rw [zip_put C.nd C.at_ (by omega)]
                obtain ⟨g1, g2, g3⟩ := w1.putI (dx := dx) hm (List.getElem?_eq_some_iff.mp q0).1 (show (xs.set j y).length = _ by rw [List.length_set]; exact ln) (IsL.set r1 j r)
                exact o1 σ G1 _ (ag1.keep w1 g3) g1 g2
              · rw [if_neg c] at o1; exact o1.elim
      | _ => exact o1.elim

/-! ## 22. instances made -/
def spMk (T : Tb) (c : Nat) (n : Option Nat) (g : List D → M (List D)) : Sp := fun vs H Q E => ∃ x vs', vs = .ref x :: vs' ∧ (∀ k, n = some k → vs'.length = k) ∧ ∃ (ds : List D) (B : Bs) (G : Gh) (S : Sto) (dx : Addr), IsL T G H ds vs' ∧ Wf T G H S ∧ Kp B.g B.h G H ∧ B.h x = none ∧
  ¬ G.F x ∧ x ∉ G.m ∧ H x = some (.ins (T.ca c) dx []) ∧
  match g ds S with
  | .ok fs S' => ∀ G' H' dx' xs, Kp B.g B.h G' H' → Wf T G' H' S' → ¬ G'.F x → x ∉ G'.m → H' x = some (.ins (T.ca c) dx' ((T.cf c).zip xs)) → xs.length = (T.cf c).length → IsL T G' H' fs xs → Q .non H'
  | .exc cc fs S' => ∀ G' H' cls dx', Kp B.g B.h G' H' → Wf T G' H' S' → IsX T G' H' cc fs cls dx' → E cls dx' H'
  | .div => False
def mkM (m c nf : Nat) (s : Sx) (ds : List D) : M (List D) := bd (s (some (.mak c []) :: rho0 (m - 1) ds)) fun r => match r with
  | .nx ρ => match ρ[0]? with
    | some (some (Sl.mak c' fs)) => if c' = c ∧ fs.length = nf then ret fs else dv
    | _ => dv
  | _ => dv
theorem mk_start {N : List Str} {vs : List V} {ds : List D} {B : Bs} {cc : Nat} {b dx : Addr} (r : IsL T G H ds vs) (k : Kp B.g B.h G H) (n : B.h b = none) (me : B.me = some b) (nf : ¬ G.F b) (nm : b ∉ G.m) (hx : H b = some (.ins (T.ca cc) dx [])) :
    StAg X T B G H (some (.ref b) :: L2.start N vs) (some (.mak cc []) :: rho0 N.length ds) := by
  have g := ag_start (N := N) r
  have sv : ∀ (i : Nat) (s : Sl), (rho0 N.length ds)[i]? = some (some s) → s.mine = false := fun i s e => rho0_val (N := N) (ds := ds) e
  refine ⟨⟨by simp [g.len], fun i sl e => ?_, fun i j s t u n e1 e2 m1 m2 z => ?_⟩, k, fun i s a e m z => ?_⟩
  · cases i with
    | zero => cases e; exact ⟨_, rfl, b, dx, [], rfl, nf, nm, hx, rfl, Nat.zero_le _, IsL.nil⟩
    | succ i => exact g.get i sl e
  · cases i with
    | zero =>
      cases j with
      | zero => exact absurd rfl n
      | succ j => rw [sv j t e2] at m2; cases m2
    | succ i => rw [sv i s e1] at m1; cases m1
  · cases i with
    | zero => cases z; exact ⟨n, fun _ _ _ => me⟩
    | succ i => rw [sv i s e] at m; cases m
section
variable {gb : Bool} {P : Program} {w : World} {K : PySem.W.Frag} {mg : Str → Option Value} {base : Heap} {k cc nf : Nat} {qual y z : Str} {st : Stmt} {ff : Addr} {fd : FuncData} {N ps : List Str} {sx : Sx}
theorem mk_ends {N : List Str} {vs : List V} {ds : List D} {Q : VK} {E : XK} {B : Bs} {b dx : Addr} {env : Expr} {XC : Cx} (hnf : (T.cf cc).length = nf) (r : IsL T G H ds vs) (w : Wf T G H S) (kk : Kp B.g B.h G H) (n : B.h b = none) (me : B.me = some b) (nF : ¬ G.F b) (nm : b ∉ G.m) (hx : H b = some (.ins (T.ca cc) dx []))
    (o : match mkM (N.length + 1) cc nf sx ds S with
      | .ok fs S' => ∀ G' H' dx' xs, Kp B.g B.h G' H' → Wf T G' H' S' → ¬ G'.F b → b ∉ G'.m → H' b = some (.ins (T.ca cc) dx' ((T.cf cc).zip xs)) → xs.length = (T.cf cc).length → IsL T G' H' fs xs → Q .non H'
      | .exc c2 fs S' => ∀ G' H' cls dx', Kp B.g B.h G' H' → Wf T G' H' S' → IsX T G' H' c2 fs cls dx' → E cls dx' H'
      | .div => False) :
    tS XC T (fun cls d _ H => E cls d H) sx { nx := fun _ H' => Q .non H', rt := Q } (some (.ref b) :: L2.start N vs) H := by
  refine ⟨some (.mak cc []) :: rho0 N.length ds, B, G, S, mk_start r kk n me nF nm hx, w, ?_⟩
  unfold mkM bd at o
  rw [Nat.add_sub_cancel] at o
  cases q : sx (some (.mak cc []) :: rho0 N.length ds) S with
  | div => rw [q] at o; exact o
  | exc c fs S' =>
    rw [q] at o
    exact fun σ' G' H' cls dx k w r => o G' H' cls dx k w r
  | ok r S' =>
    rw [q] at o
    cases r with
    | rt d => exact o.elim
    | bk ρ => exact o.elim
    | ct ρ => exact o.elim
    | nx ρ =>
      dsimp only at o
      intro σ' G' H' ag w' l
      rcases q0 : ρ[0]? with _ | _ | sl
      · rw [q0] at o; exact o.elim
      · rw [q0] at o; exact o.elim
      · rw [q0] at o
        cases sl with
        | val d => exact o.elim
        | own d => exact o.elim
        | mak c' fs =>
          dsimp only at o
          by_cases c : c' = cc ∧ fs.length = nf
          · rw [if_pos c] at o
            obtain ⟨rfl, c⟩ := c
            obtain ⟨v, h1, b', dx', xs, rfl, u1, u2, u3, u4, u5, u6⟩ := ag.ag.get 0 _ q0
            have e0 := (ag.own 0 _ _ q0 rfl h1).2 _ _ rfl
            rw [me] at e0
            cases e0
            rw [List.take_of_length_le (by omega)] at u3
            exact o G' H' dx' xs ag.kp w' u1 u2 u3 (by omega) u6
          · rw [if_neg c] at o; exact o.elim
/-- __init__(self, a, ..) -/
theorem fnp_init (F : Fun K "__init__" qual st ff fd) (Z : FnScope (y :: N) (y :: ps) (defScope st)) (hb : Binds K fd (y :: ps) []) (hnf : (T.cf cc).length = nf)
    (body : ∀ (cv : Value) (A : Around) (out : List Env) (s : Shared) (H : Hp) (E : XK), RoomG gb k (A.deeper (envOfC qual (defScope st) s.heap.objs.size ff cv)) →
      SSs (cxOf (L2.CX P w) P w K mg base (y :: N) qual (defScope st) ff cv A out s H E) T (fun cls d _ H => E cls d H) (defBody st) sx) : FnP gb P w K mg base (k + 1) ff (spMk T cc (some ps.length) (mkM (N.length + 1) cc nf sx)) := by
  refine (fng_of (sp := spMk T cc (some ps.length) (mkM (N.length + 1) cc nf sx)) F Z (fun vs H Q E h => by obtain ⟨c, vs', rfl, h, _⟩ := h; exact congrArg Nat.succ (h _ rfl)) fun cv A out s H vs Q E hr h => ⟨_, (body cv A out s H E hr).pss, ?_⟩).byP0 hb
  obtain ⟨b, vs', rfl, ln, ds, B, G, S, dx, r, w, kk, n, nF, nm, hx, o⟩ := h
  rw [start_cons]
  exact mk_ends (B := ⟨B.g, B.h, some b⟩) (env := .Name "" ⟨0, 0, 0, 0⟩) hnf r w kk n rfl nF nm hx o
/-- __init__(self, *rows) -/
theorem fnp_inits {params : Arguments} {bodyL : List Stmt} {scope : Scope} {kV doc pm cdv ct oc : Value} {an od : Option Addr} {osl : Array (Option Value)} (lk : K.lookup ff = some ⟨oc, od, .func (PySem.W.fnOf "__init__" qual params bodyL scope .none kV doc pm an cdv ct), osl⟩) (hcd : PySem.W.codeIn K cdv qual = true) (Z : FnScope (y :: z :: N) [y, z] scope) (hnf : (T.cf cc).length = nf)
    (hb : ∀ us rest : List Value, us.length = 1 → bindArgs (PySem.W.fnOf "__init__" qual params bodyL scope .none kV doc pm an cdv ct) ⟨us ++ rest, []⟩ = (newTuple rest >>= fun t => pure ([y].zip us ++ [(z, t)])))
    (body : ∀ (cv : Value) (A : Around) (out : List Env) (s : Shared) (H : Hp) (E : XK), RoomG false k (A.deeper (envOfC qual scope s.heap.objs.size ff cv)) →
      SSs (cxOf (L2.CX P w) P w K mg base (y :: z :: N) qual scope ff cv A out s H E) T (fun cls d _ H => E cls d H) bodyL sx) :
    FnP false P w K mg base (k + 1) ff (spMk T cc none fun ds => if ds.length ≤ sizeLine then mkM (N.length + 2) cc nf sx [.tup ds] else dv) := by
  refine fnp_of (FnR.imp (StX.fn_star (ps := [y]) (pv := z) (sp := spMk T cc (some 1) (mkM (N.length + 2) cc nf sx)) lk hcd Z StX.cxUp hb fun A out s H vs Q E hr h => ⟨_, (body cdv A out s H E ⟨hr, nofun⟩).pss, ?_⟩) fun vs H Q E h => ?_)
  · obtain ⟨b, vs', rfl, ln, ds, B, G, S, dx, r, w, kk, n, nF, nm, hx, o⟩ := h
    rw [start_cons]
    exact mk_ends (B := ⟨B.g, B.h, some b⟩) (N := z :: N) (env := .Name "" ⟨0, 0, 0, 0⟩) hnf r w kk n rfl nF nm hx o
  · obtain ⟨b, vs', rfl, ln, ds, B, G, S, dx, r, w, kk, n, nF, nm, hx, o⟩ := h
    dsimp only at o
    by_cases c : ds.length ≤ sizeLine
    · rw [if_pos c] at o
      refine ⟨[.ref b], vs', rfl, rfl, by rw [← r.len]; exact c, fun p hp => ?_⟩
      have pb : b ≠ p := fun e => by rw [e, hp] at hx; cases hx
      obtain ⟨k2, w2, l2⟩ := w.lay (o := .tup vs') hp fun _ z => nomatch z
      refine ⟨b, [.ref p], rfl, fun k e => by cases e; rfl, [.tup ds], B, G.add p, S, dx, .cons (is_tup (.inr rfl) upd_same (l2.isL r)) .nil, w2, kk.trans k2, n, fun f => f.elim nF pb, nm, by rw [upd_ne pb]; exact hx, o⟩
    · rw [if_neg c] at o; exact o.elim
end
def okN (n : Option Nat) (m : Nat) : Bool := match n with
  | some k => m == k
  | none => true
/-- a frozen instance; an instance of the store -/
def eMk (c : Nat) (n : Option Nat) (g : List D → M (List D)) (fl : Rho → M (List D)) : Ev := fun ρ => bd (fl ρ) fun ds => if okN n ds.length = true then bd (g ds) fun fs => ret (.obj c fs) else dv
def eMkS (c : Nat) (n : Option Nat) (g : List D → M (List D)) (fl : Rho → M (List D)) : Ev := fun ρ => bd (fl ρ) fun ds => if okN n ds.length = true then bd (g ds) fun fs S => Res.ok (D.ref S.length) (S ++ [.ins c fs]) else dv
theorem Wf.push {b : Addr} {ob : Ob} (w : Wf T G H S) (nf : ¬ G.F b) (nm : b ∉ G.m) (h : ObIs T G H ob b) : Wf T ⟨G.F, G.m ++ [b]⟩ H (S ++ [ob]) ∧ Lean G H ⟨G.F, G.m ++ [b]⟩ H := by
  have l : Lean G H ⟨G.F, G.m ++ [b]⟩ H := ⟨fun _ f => f, fun _ _ => rfl, ⟨[b], rfl⟩⟩
  refine ⟨⟨fun a f z => ?_, w.fs, by rw [List.length_append, List.length_append, w.len]; rfl, ?_, fun i o e => ?_⟩, l⟩
  · rcases List.mem_append.mp z with z | z
    · exact w.fm a f z
    · cases List.mem_singleton.mp z
      exact nf f
  · rw [List.nodup_append]
    refine ⟨w.nd, List.nodup_cons.mpr ⟨nofun, List.nodup_nil⟩, fun a ha c hc => ?_⟩
    cases List.mem_singleton.mp hc
    exact fun e => nm (e ▸ ha)
  · by_cases c : i < S.length
    · rw [List.getElem?_append_left c] at e
      obtain ⟨a, h1, h2⟩ := w.ob i o e
      exact ⟨a, by rw [List.getElem?_append_left (by rw [w.len]; exact c)]; exact h1, lean_ob l rfl h2⟩
    · rw [List.getElem?_append_right (by omega)] at e
      obtain ⟨q1, q2⟩ := List.getElem?_eq_some_iff.mp e
      have q0 : i - S.length = 0 := by simp at q1; omega
      have q3 : i = G.m.length := by rw [w.len]; omega
      refine ⟨b, by rw [q3, List.getElem?_append_right (Nat.le_refl _), Nat.sub_self]; rfl, ?_⟩
      simp only [q0] at e
      cases e
      exact lean_ob l rfl h
theorem Kp.push {G' : Gh} {H' : Hp} {b : Addr} (k : Kp G H G' H') (n : H b = Option.none) : Kp G H ⟨G'.F, G'.m ++ [b]⟩ H' := by
  obtain ⟨l, e, h⟩ := k.st
  refine ⟨k.fr, k.new, ⟨l ++ [b], by show G'.m ++ [b] = _; rw [e, List.append_assoc], fun a ha => ?_⟩, k.kp, k.is⟩
  rcases List.mem_append.mp ha with z | z
  · exact h a z
  · cases List.mem_singleton.mp z; exact n
/-- C(..): a new instance and its dict, then __init__, by a promise -/
def tMkP (W : WX) (C : Addr) (sp : Sp) (t : TA) : TE := fun σ H Q => t σ H fun vs H1 => ∀ x dx, H1 x = none → H1 dx = none → dx ≠ x →
  sp (.ref x :: vs) (L2.upd (L2.upd H1 dx (.own x)) x (.ins C dx [])) (fun v H2 => v = .non ∧ Q (.ref x) H2) (fun cls d H' => W cls d σ H')
variable {gb : Bool} {k : Nat} {ff C : Addr} {sp : Sp} {fl : Rho → M (List D)} {cc : Nat} {nn : Option Nat} {g : List D → M (List D)}
theorem run_mkP {pins : List (Addr × Obj)} {σ : St} {H : Hp} {s : Shared} {Q : VK} {us : List Value} {vs : List V} (Mz : Mk X.K C ff) (F : FnP gb X.prog X.w X.K X.mg X.base k ff sp) (hr : RoomG gb (k + 1) X.A) (tk : Takes X W) (I : Inv X pins σ H s) (r : Vals vs us)
    (h : ∀ x dx, H x = none → H dx = none → dx ≠ x → sp (.ref x :: vs) (L2.upd (L2.upd H dx (.own x)) x (.ins C dx [])) (fun v H2 => v = .non ∧ Q (.ref x) H2) (fun cls d H' => W cls d σ H')) :
    wpAny (model X.prog X.w) X.A (call (.ref C) us) (EP X pins σ Q) X.xe s := by
  have hq := h (s.heap.objs.size + 1) s.heap.objs.size (I.hok.fresh (Nat.le_succ _)) (I.hok.fresh (Nat.le_refl _)) (Nat.ne_of_lt (Nat.lt_succ_self _))
  have I2 := Inv.made (C := C) I
  have r2 : Vals (V.ref (s.heap.objs.size + 1) :: vs) (Value.ref (s.heap.objs.size + 1) :: us) := .cons rfl r
  refine wpAny_call (make_map (f := ff) I.kIn Mz.makes Mz.init (beq_iff_eq.mp Mz.fn) (codeAny_mono (F _ X.stack _ _ (Value.ref (s.heap.objs.size + 1) :: us) _ _ _ (hr.make C us []) (I2.env0.make C us []) r2 hq) fun r s' hq' => ?_))
  cases r with
  | error e => exact passAt tk σ pins _ _ e s' I2 hq'
  | ok fl =>
    cases fl with
    | ret u =>
      obtain ⟨v, H', I3, rv, ev, q3⟩ := I2.after hq'
      subst ev
      exact ⟨rv, ⟨V.ref (s.heap.objs.size + 1), H', I3, rfl, q3⟩⟩
    | next => exact False.elim hq'
    | brk => exact False.elim hq'
    | cont => exact False.elim hq'
theorem pe_mkP {t : TA} (Mz : Mk X.K C ff) (F : FnP gb X.prog X.w X.K X.mg X.base k ff sp) (hr : RoomG gb (k + 1) X.A) (hg : Gl X x) (hm : X.mg x = some (.ref C)) (tk : Takes X W) (ha : PA X (e :: es) t) (hdb : (x == ("__debug__" : Str)) = false := by decide)
    (he : starEach (e :: es) X.env = (false, eval e X.env) :: starEach es X.env := by rfl) (hpl : (backTo pos (starEach es X.env)).any (·.1) = false := by rfl) : PE X (.Call (.Name x p) (e :: es) [] pos) (tMkP W C sp t) := by
  refine ⟨fun pins s σ H Q I h => ?_⟩
  refine wpAny_Call_Name_kw (ld_glob I hg hm ?_ hdb)
  exact PySem.W.callWith_K (h₀ := X.base) I.ok.mod.kin Mz.kp (thn (ha.run pos pins s σ H _ I h) fun us s1 ⟨vs, H1, I1, r, q⟩ => ⟨I1.kIn, run_mkP Mz F hr tk I1 r q⟩) he hpl
/-- C(*e) -/
theorem pe_mkP1 {te : TE} (Mz : Mk X.K C ff) (F : FnP gb X.prog X.w X.K X.mg X.base k ff sp) (hr : RoomG gb (k + 1) X.A) (hg : Gl X x) (hm : X.mg x = some (.ref C)) (tk : Takes X W) (he : PE X e te) (hd : (x == ("__debug__" : Str)) = false := by decide)
    (hst : starEach [.Starred e p2] X.env = [(true, eval e X.env)] := by rfl) :
    PE X (.Call (.Name x p) [.Starred e p2] [] pos) (fun σ H Q => te σ H fun y H1 => ∃ b xs, y = V.ref b ∧ (SqT X.K H1 b xs ∨ SqL X.K H1 b xs) ∧ ∀ x dx, H1 x = none → H1 dx = none → dx ≠ x →
      sp (.ref x :: xs) (L2.upd (L2.upd H1 dx (.own x)) x (.ins C dx [])) (fun v H2 => v = .non ∧ Q (.ref x) H2) (fun cls d H' => W cls d σ H')) := by
  refine ⟨fun pins s σ H Q I h => ?_⟩
  refine wpAny_Call_Name_kw (ld_glob I hg hm ?_ hd)
  refine PySem.W.callWith_S (h₀ := X.base) I.ok.mod.kin Mz.kp (thn (he.run pins s σ H _ I h) fun v s1 ⟨y, H1, I1, ry, b, xs, ey, hxs, q⟩ => ?_) hst
  subst ey
  obtain rfl : v = Value.ref b := ry
  exact StX.star_any I1 hxs fun us s2 I2 rv => ⟨I2.kIn, run_mkP Mz F hr tk I2 rv q⟩
theorem mk_in {σ : St} {vs : List V} {ds : List D} {Q : VK} {b dx : Addr} (w : Wf T G H S) (r : IsL T G H ds vs) (hn : ∀ k, nn = some k → ds.length = k) (n1 : H b = none) (n2 : H dx = none) (ne : dx ≠ b)
    (o : match g ds S with
      | .ok fs S' => ∀ G' H' dx' xs, Kp G H G' H' → Wf T G' H' S' → ¬ G'.F b → b ∉ G'.m → H' b = some (.ins (T.ca cc) dx' ((T.cf cc).zip xs)) → xs.length = (T.cf cc).length → IsL T G' H' fs xs → Q (.ref b) H'
      | .exc c2 fs S' => ∀ G' H' cls dx', Kp G H G' H' → Wf T G' H' S' → IsX T G' H' c2 fs cls dx' → W cls dx' σ H'
      | .div => False) :
    spMk T cc nn g (.ref b :: vs) (L2.upd (L2.upd H dx (.own b)) b (.ins (T.ca cc) dx [])) (fun v H2 => v = .non ∧ Q (.ref b) H2) (fun cls d H' => W cls d σ H') := by
  have n3 : L2.upd H dx (.own b) b = none := by rw [upd_ne (Ne.symm ne)]; exact n1
  have k1 : Kp G H G (L2.upd H dx (.own b)) := kp_upd n2
  have w1 := w.upd (o := .own b) n2
  have k2 : Kp G (L2.upd H dx (.own b)) G (L2.upd (L2.upd H dx (.own b)) b (.ins (T.ca cc) dx [])) := kp_upd n3
  have w2 := w1.upd (o := .ins (T.ca cc) dx []) n3
  refine ⟨b, vs, rfl, fun k e => by rw [← r.len]; exact hn k e, ds, ⟨G, H, none⟩, G, S, dx, (w.lean (k1.trans k2)).isL r, w2, k1.trans k2, n1, w.nof n1, w.nom n1, upd_same, ?_⟩
  cases q : g ds S with
  | div => rw [q] at o; exact o
  | exc c2 fs S' => rw [q] at o; exact o
  | ok fs S' =>
    rw [q] at o
    exact fun G' H' dx' xs k w nf nm hx ln r => ⟨rfl, o G' H' dx' xs k w nf nm hx ln r⟩
theorem tmk_of {σ : St} {ds : List D} {vs : List V} {Q : VK} (w : Wf T G H S) (r : IsL T G H ds vs) (o : Out T W σ G H (rIs T) Q ((if okN nn ds.length = true then bd (g ds) fun fs => ret (D.obj cc fs) else dv) S)) :
    ∀ x dx, H x = none → H dx = none → dx ≠ x → spMk T cc nn g (.ref x :: vs) (L2.upd (L2.upd H dx (.own x)) x (.ins (T.ca cc) dx [])) (fun v H2 => v = .non ∧ Q (.ref x) H2) (fun cls d H' => W cls d σ H') := by
  intro b dx n1 n2 ne
  have c : okN nn ds.length = true := by
    refine Classical.byContradiction fun c => ?_
    rw [if_neg c] at o; exact o
  rw [if_pos c] at o
  refine mk_in w r (fun k e => by subst e; exact beq_iff_eq.mp c) n1 n2 ne ?_
  unfold bd at o
  cases q : g ds S with
  | div => rw [q] at o; exact o
  | exc c2 fs S' => rw [q] at o; exact o
  | ok fs S' =>
    rw [q] at o
    intro G' H' dx' xs k w' nf nm hx ln r'
    have z := o (G'.add b) H' (.ref b) (k.add n1) (w'.add nm hx fun _ z => nomatch z)
    refine z ?_
    unfold rIs Is
    exact ⟨b, dx', xs, rfl, .inr rfl, hx, ln, lean_add.isL r'⟩
theorem tmkS_of {σ : St} {ds : List D} {vs : List V} {Q : VK} (w : Wf T G H S) (r : IsL T G H ds vs) (o : Out T W σ G H (rIs T) Q ((if okN nn ds.length = true then bd (g ds) fun fs S => Res.ok (D.ref S.length) (S ++ [.ins cc fs]) else dv) S)) :
    ∀ x dx, H x = none → H dx = none → dx ≠ x → spMk T cc nn g (.ref x :: vs) (L2.upd (L2.upd H dx (.own x)) x (.ins (T.ca cc) dx [])) (fun v H2 => v = .non ∧ Q (.ref x) H2) (fun cls d H' => W cls d σ H') := by
  intro b dx n1 n2 ne
  have c : okN nn ds.length = true := by
    refine Classical.byContradiction fun c => ?_
    rw [if_neg c] at o; exact o
  rw [if_pos c] at o
  refine mk_in w r (fun k e => by subst e; exact beq_iff_eq.mp c) n1 n2 ne ?_
  unfold bd at o
  cases q : g ds S with
  | div => rw [q] at o; exact o
  | exc c2 fs S' => rw [q] at o; exact o
  | ok fs S' =>
    rw [q] at o
    intro G' H' dx' xs k w' nf nm hx ln r'
    obtain ⟨w2, l2⟩ := w'.push (ob := .ins cc fs) nf nm ⟨dx', xs, hx, ln, r'⟩
    refine o _ H' (.ref b) (k.push n1) w2 ?_
    unfold rIs Is
    refine ⟨b, ?_, rfl⟩
    show (G'.m ++ [b])[S'.length]? = some b
    rw [← w'.len, List.getElem?_append_right (Nat.le_refl _), Nat.sub_self]; rfl
theorem se_mk (Mz : Mk X.K (T.ca cc) ff) (F : FnP gb X.prog X.w X.K X.mg X.base k ff (spMk T cc nn g)) (hr : RoomG gb (k + 1) X.A) (hg : Gl X x) (hm : X.mg x = some (.ref (T.ca cc))) (tk : Takes X W) (ha : SA X T W (e :: es) fl) (hdb : (x == ("__debug__" : Str)) = false := by decide)
    (he : starEach (e :: es) X.env = (false, eval e X.env) :: starEach es X.env := by rfl) (hpl : (backTo pos (starEach es X.env)).any (·.1) = false := by rfl) : SE X T W (.Call (.Name x p) (e :: es) [] pos) (eMk cc nn g fl) :=
  ⟨pe_imp (pe_mkP Mz F hr hg hm tk ha.pa hdb he hpl) fun σ H Q ⟨ρ, G, S, ag, wf, o⟩ => ⟨ρ, G, S, ag, wf, o.bind fun ds S1 G1 H1 vs k1 w1 i1 o1 => tmk_of w1 i1 o1⟩⟩
theorem se_mkS (Mz : Mk X.K (T.ca cc) ff) (F : FnP gb X.prog X.w X.K X.mg X.base k ff (spMk T cc nn g)) (hr : RoomG gb (k + 1) X.A) (hg : Gl X x) (hm : X.mg x = some (.ref (T.ca cc))) (tk : Takes X W) (ha : SA X T W (e :: es) fl) (hdb : (x == ("__debug__" : Str)) = false := by decide)
    (he : starEach (e :: es) X.env = (false, eval e X.env) :: starEach es X.env := by rfl) (hpl : (backTo pos (starEach es X.env)).any (·.1) = false := by rfl) : SE X T W (.Call (.Name x p) (e :: es) [] pos) (eMkS cc nn g fl) :=
  ⟨pe_imp (pe_mkP Mz F hr hg hm tk ha.pa hdb he hpl) fun σ H Q ⟨ρ, G, S, ag, wf, o⟩ => ⟨ρ, G, S, ag, wf, o.bind fun ds S1 G1 H1 vs k1 w1 i1 o1 => tmkS_of w1 i1 o1⟩⟩
/-- the items of a list or a tuple, for *e -/
def itsM (d : D) : M (List D) := fun S => match d with
  | .tup ds => .ok ds S
  | .lst ds => .ok ds S
  | .scr ds => .ok ds S
  | _ => .div
theorem its_at {d : D} {v : V} {ds : List D} {S' : Sto} (hT : T.K = X.K) (h : Is T G H d v) (q : itsM d S = .ok ds S') : S' = S ∧ ∃ b xs, v = .ref b ∧ (SqT X.K H b xs ∨ SqL X.K H b xs) ∧ IsL T G H ds xs := by
  cases d with
  | tup ys =>
    cases q
    unfold Is at h
    obtain ⟨a, xs, e, t, r⟩ := h
    exact ⟨rfl, a, xs, e, .inl (hT ▸ t.sq), r⟩
  | lst ys =>
    cases q
    unfold Is at h
    obtain ⟨a, xs, e, f, t, r⟩ := h
    exact ⟨rfl, a, xs, e, .inr (SqL.of t), r⟩
  | scr ys =>
    cases q
    unfold Is at h
    obtain ⟨a, xs, e, t, r⟩ := h
    exact ⟨rfl, a, xs, e, .inr (hT ▸ t.sq), r⟩
  | _ => cases q
theorem its_or {d : D} : (∃ ds, itsM d S = .ok ds S) ∨ itsM d S = .div := by
  cases d <;> first | exact .inl ⟨_, rfl⟩ | exact .inr rfl
def aStar1 (f : Ev) : Rho → M (List D) := fun ρ => bd (f ρ) itsM
theorem se_mkStar (Mz : Mk X.K (T.ca cc) ff) (F : FnP gb X.prog X.w X.K X.mg X.base k ff (spMk T cc nn g)) (hr : RoomG gb (k + 1) X.A) (hg : Gl X x) (hm : X.mg x = some (.ref (T.ca cc))) (tk : Takes X W) (he : SE X T W e f) (hT : T.K = X.K := by rfl) (hd : (x == ("__debug__" : Str)) = false := by decide)
    (hst : starEach [.Starred e p2] X.env = [(true, eval e X.env)] := by rfl) : SE X T W (.Call (.Name x p) [.Starred e p2] [] pos) (eMk cc nn g (aStar1 f)) := by
  refine ⟨pe_imp (pe_mkP1 Mz F hr hg hm tk he.pe hd hst) fun σ H Q ⟨ρ, G, S, ag, wf, o⟩ => ⟨ρ, G, S, ag, wf, ?_⟩⟩
  have o2 : Out T W σ G H (rIs T) Q (bd (f ρ) (fun d => bd (itsM d) fun ds => if okN nn ds.length = true then bd (g ds) fun fs => ret (D.obj cc fs) else dv) S) := by
    refine cast (congrArg _ ?_) o
    unfold eMk aStar1 bd
    dsimp only
    cases f ρ S <;> rfl
  refine o2.bind fun d S1 G1 H1 v k1 w1 i1 o1 => ?_
  unfold bd at o1
  rcases its_or (d := d) (S := S1) with ⟨ds, q⟩ | q
  · obtain ⟨_, b, xs, rfl, sq, r⟩ := its_at hT i1 q
    rw [q] at o1
    exact ⟨b, xs, rfl, sq, tmk_of w1 r o1⟩
  · rw [q] at o1; exact o1.elim
/-- f(*e) -/
theorem sa_star1 {es' : List Expr} {fl : Rho → M (List D)} (he : SE X T W e f) (hr : SA X T W es' fl) (hT : T.K = X.K := by rfl) (hs : starEach (.Starred e p :: es') X.env = (true, eval e X.env) :: starEach es' X.env := by rfl) :
    SA X T W (.Starred e p :: es') (fun ρ => bd (f ρ) fun d => bd (itsM d) fun ds => bd (fl ρ) fun es => ret (ds ++ es)) := by
  refine ⟨pa_imp (StX.pa_star he.pe hr.pa hs) fun σ H Q ⟨ρ, G, S, ag, wf, o⟩ => ⟨ρ, G, S, ag, wf, o.bind fun d S1 G1 H1 v k1 w1 i1 o1 => ?_⟩⟩
  rcases its_or (d := d) (S := S1) with ⟨ds, q⟩ | q
  · obtain ⟨_, b, xs, rfl, sq, r⟩ := its_at hT i1 q
    unfold bd at o1
    rw [q] at o1
    exact ⟨b, xs, rfl, sq, ρ, G1, S1, ag.keep wf k1, w1, Out.bind o1 fun es S2 G2 H2 vs k2 w2 i2 o2 => o2.now w2 (((w1.lean k2).isL r).app i2)⟩
  · unfold bd at o1
    rw [q] at o1; exact o1.elim
end
end LS

set_option Elab.async false
set_option linter.all false
set_option maxRecDepth 100000
set_option maxHeartbeats 1000000
namespace LS
open PySem L2 PySem.Spec
open PyProof.Rows hiding St
open ClX

/-! ## 23. isinstance -/
/-- what a class must have for isinstance of its instances -/
structure IC (T : Tb) (c : Nat) : Prop where
  cl : Cls T.K (T.ca c)
  ha : PySem.W.findIn T.K (.ref (T.ca c)) "__class__" = some (some (.builtin "object.__class__"))
  hn : PySem.W.specialIn T.K (.builtin "object.__class__") "__get__" = some (some (.builtin "getset_descriptor.__get__"))
  tk : PySem.W.takesIn T.K (.builtin "object.__class__") = some true
  mr : PySem.W.mroIn T.K (T.ca c) (.type "object") = some true
/-- a data's class: a built-in's name or an own class -/
def tyOf (d : D) (S : Sto) : Sum String Nat := match d with
  | .non => .inl "NoneType"
  | .bl _ => .inl "bool"
  | .int _ => .inl "int"
  | .str _ => .inl "str"
  | .tup _ => .inl "tuple"
  | .lst _ => .inl "list"
  | .scr _ => .inl "list"
  | .obj c _ => .inr c
  | .ref n => match S[n]? with
    | some (.ins c _) => .inr c
    | _ => .inl "list"
def six : List String := ["NoneType", "bool", "int", "str", "tuple", "list"]
def isTy (a b : String) : Bool := a == b || (a == "bool" && b == "int")
/-- isinstance(x, T): T a built-in type; own: the classes that are none of it -/
def isTyM (b : String) (own : List Nat) (d : D) : M D := fun S => match tyOf d S with
  | .inl a => .ok (.bl (isTy a b)) S
  | .inr c => if c ∈ own then .ok (.bl false) S else .div
/-- isinstance(x, C), C an own class -/
def isClM (own : List (Nat × Bool)) (d : D) : M D := fun S => match tyOf d S with
  | .inl a => .ok (.bl false) S
  | .inr c => match own.lookup c with
    | some b => .ok (.bl b) S
    | none => .div
theorem mem_lookB {l : List (Nat × Bool)} {a : Nat} {b : Bool} (h : l.lookup a = some b) : (a, b) ∈ l := by
  induction l with
  | nil => cases h
  | cons q l ih =>
    rw [List.lookup_cons] at h
    by_cases e : a = q.1
    · rw [show (a == q.1) = true from beq_iff_eq.mpr e] at h
      cases h
      rw [e]; exact List.mem_cons_self ..
    · rw [show (a == q.1) = false from beq_false_of_ne e] at h
      exact List.mem_cons_of_mem _ (ih h)
section
variable {X : Cx} {T : Tb} {W : WX} {e a c o tg : Expr} {f fa fb : Ev} {pos p2 p apos pos' : Pos} {es : List Expr} {x fn : Str} {i : Nat} {G : Gh} {H : Hp} {S : Sto}
theorem ty_of {d : D} {v : V} (hT : T.K = X.K) (w : Wf T G H S) (h : IsB T G H d v) (hI : ∀ c, tyOf d S = .inr c → IC T c) (hS : ∀ n, d = .ref n → n < S.length) :
    TyX X.K H v (match tyOf d S with | .inl a => .type a | .inr c => .ref (T.ca c)) ∧ ∀ a, tyOf d S = .inl a → a ∈ six := by
  cases d with
  | non => cases (b_non h); exact ⟨.base .non, fun a e => by cases e; decide⟩
  | bl b => cases (b_bl h); exact ⟨.base (.bl b), fun a e => by cases e; decide⟩
  | int b => cases (b_int h); exact ⟨.base (.int b), fun a e => by cases e; decide⟩
  | str b => cases (b_str h); exact ⟨.base (.str b), fun a e => by cases e; decide⟩
  | tup ds =>
    obtain ⟨p, xs, rfl, t, r⟩ := b_tup h
    refine ⟨?_, fun a e => by cases e; decide⟩
    rcases t with ⟨_, t⟩ | ⟨o, its, n, h1, h2, _⟩
    · exact .base (.tup t)
    · exact .kTuple (hT ▸ h1) h2
  | lst ds =>
    obtain ⟨p, xs, rfl, _, t, r⟩ := b_lst w h
    exact ⟨.base (.lst t), fun a e => by cases e; decide⟩
  | scr ds =>
    obtain ⟨p, xs, rfl, t, r⟩ := b_scr h
    refine ⟨?_, fun a e => by cases e; decide⟩
    rcases t with ⟨_, t⟩ | ⟨o, its, n, h1, h2, _⟩
    · rcases t with t | ⟨o, t⟩
      · exact .base (.lst t)
      · exact .base (.frz t)
    · exact .kList (hT ▸ h1) h2
  | obj c fs =>
    have I := hI c rfl
    rcases h with h | ⟨_, _, _, z, _⟩
    · unfold Is at h
      obtain ⟨p, dx, xs, rfl, ff, hx, _⟩ := h
      exact ⟨.base (.ins hx (hT ▸ I.cl) (hT ▸ I.ha) (hT ▸ I.hn) (hT ▸ I.tk) (hT ▸ I.mr)), fun a e => by cases e⟩
    · cases z
  | ref n =>
    obtain ⟨p, hm, rfl⟩ := b_ref h
    have l := hS n rfl
    have e := List.getElem?_eq_getElem l
    obtain ⟨p', h1, h2⟩ := w.ob n _ e
    rw [hm] at h1
    cases h1
    unfold tyOf at hI ⊢
    dsimp only at hI ⊢
    rw [e] at hI ⊢
    cases q : S[n] with
    | lst ds =>
      rw [q] at h2
      obtain ⟨xs, hx, _⟩ := h2
      exact ⟨.base (.lst hx), fun a e => by cases e; decide⟩
    | ins c fs =>
      rw [q] at h2 hI
      have I := hI c rfl
      obtain ⟨dx, xs, hx, _⟩ := h2
      exact ⟨.base (.ins hx (hT ▸ I.cl) (hT ▸ I.ha) (hT ▸ I.hn) (hT ▸ I.tk) (hT ▸ I.mr)), fun a e => by cases e⟩
theorem ref_lt {n : Nat} {v : V} (w : Wf T G H S) (h : IsB T G H (.ref n) v) : n < S.length := by
  obtain ⟨p, hm, _⟩ := b_ref h
  rw [← w.len]; exact (List.getElem?_eq_some_iff.mp hm).1
theorem kit6 (a b : String) (h : a ∈ six) (hb : b ∈ ["int", "bool", "str", "tuple", "list"]) : kitB a b = some (isTy a b) := by
  have : ∀ a ∈ six, ∀ b ∈ (["int", "bool", "str", "tuple", "list"] : List String), kitB a b = some (isTy a b) := by decide +kernel
  exact this a h b hb
theorem se_isTy {b : String} {own : List Nat} {y : Str} {q : Pos} (he : SB X T W e f) (hg : Gl X "isinstance") (hm : X.mg "isinstance" = none) (hg2 : Gl X y) (hm2 : X.mg y = none) (hv2 : bootBuiltins y = some (.type b)) (hb : b ∈ ["int", "bool", "str", "tuple", "list"])
    (hO : ∀ c ∈ own, IC T c ∧ PySem.W.kitOne T.K (.ref (T.ca c)) (.type b) = some false) (hn2 : y ≠ "__name__" := by decide) (hd2 : (y == ("__debug__" : Str)) = false := by decide) (hT : T.K = X.K := by rfl)
    (hs : starEach [e, .Name y q] X.env = (false, eval e X.env) :: starEach [.Name y q] X.env := by rfl) (hs2 : starEach [.Name y q] X.env = (false, eval (.Name y q) X.env) :: starEach [] X.env := by rfl) (hpl : (backTo pos (starEach [.Name y q] X.env)).any (·.1) = false := by rfl) :
    SE X T W (.Call (.Name "isinstance" p) [e, .Name y q] [] pos) (e1 (isTyM b own) f) := by
  refine ⟨pe_imp (pe_callB call_isi hg hm (by rfl) (pa_cons he.pe (pa_cons (pe_bltn (v := .ty b) hg2 hm2 hv2 rfl hn2 hd2) pa_nil hs2) hs) (by decide) (by decide) hs hpl) fun σ H Q ⟨ρ, G, S, ag, wf, o⟩ => ⟨ρ, G, S, ag, wf, o.bind fun d S1 G1 H1 v k1 w1 i1 o1 => ?_⟩⟩
  have hI : ∀ c, tyOf d S1 = .inr c → c ∈ own := fun c z => by
    unfold isTyM at o1
    rw [z] at o1
    dsimp only at o1
    by_cases m : c ∈ own
    · exact m
    · rw [if_neg m] at o1; exact o1.elim
  have hlt : ∀ n, d = .ref n → n < S1.length := fun n z => by subst z; exact ref_lt w1 i1
  obtain ⟨t, n6⟩ := ty_of hT w1 i1 (fun c z => (hO c (hI c z)).1) hlt
  show ∃ (x c : V) (t u : Value) (b' : Bool), _
  unfold isTyM at o1
  cases q1 : tyOf d S1 with
  | inl a =>
    rw [q1] at o1 t
    exact ⟨v, .ty b, _, _, isTy a b, rfl, .ty b, t, kit_ty (kit6 a b (n6 a q1) hb), o1.now w1 (is_bl _)⟩
  | inr c =>
    rw [q1] at o1 t
    have m := hI c q1
    dsimp only at o1
    rw [if_pos m] at o1
    exact ⟨v, .ty b, _, _, false, rfl, .ty b, t, hT ▸ (hO c m).2, o1.now w1 (is_bl _)⟩
theorem se_isCl {cc : Nat} {own : List (Nat × Bool)} {y : Str} {q : Pos} (he : SB X T W e f) (hg : Gl X "isinstance") (hm : X.mg "isinstance" = none) (hg2 : Gl X y) (hm2 : X.mg y = some (.ref (T.ca cc)))
    (hB : ∀ a ∈ six, PySem.W.kitOne T.K (.type a) (.ref (T.ca cc)) = some false) (hO : ∀ q ∈ own, IC T q.1 ∧ PySem.W.kitOne T.K (.ref (T.ca q.1)) (.ref (T.ca cc)) = some q.2) (hd2 : (y == ("__debug__" : Str)) = false := by decide) (hT : T.K = X.K := by rfl)
    (hs : starEach [e, .Name y q] X.env = (false, eval e X.env) :: starEach [.Name y q] X.env := by rfl) (hs2 : starEach [.Name y q] X.env = (false, eval (.Name y q) X.env) :: starEach [] X.env := by rfl) (hpl : (backTo pos (starEach [.Name y q] X.env)).any (·.1) = false := by rfl) :
    SE X T W (.Call (.Name "isinstance" p) [e, .Name y q] [] pos) (e1 (isClM own) f) := by
  refine ⟨pe_imp (pe_callB call_isi hg hm (by rfl) (pa_cons he.pe (pa_cons (pe_glob (v := .ref (T.ca cc)) hg2 hm2 rfl hd2) pa_nil hs2) hs) (by decide) (by decide) hs hpl) fun σ H Q ⟨ρ, G, S, ag, wf, o⟩ => ⟨ρ, G, S, ag, wf, o.bind fun d S1 G1 H1 v k1 w1 i1 o1 => ?_⟩⟩
  have hI : ∀ c, tyOf d S1 = .inr c → ∃ b, own.lookup c = some b := fun c z => by
    unfold isClM at o1
    rw [z] at o1
    dsimp only at o1
    cases m : own.lookup c with
    | some b => exact ⟨b, rfl⟩
    | none => rw [m] at o1; exact o1.elim
  have hlt : ∀ n, d = .ref n → n < S1.length := fun n z => by subst z; exact ref_lt w1 i1
  obtain ⟨t, n6⟩ := ty_of hT w1 i1 (fun c z => let ⟨b, m⟩ := hI c z; (hO _ (mem_lookB m)).1) hlt
  show ∃ (x c : V) (t u : Value) (b' : Bool), _
  unfold isClM at o1
  cases q1 : tyOf d S1 with
  | inl a =>
    rw [q1] at o1 t
    exact ⟨v, .ref (T.ca cc), _, _, false, rfl, .own _, t, hT ▸ hB a (n6 a q1), o1.now w1 (is_bl _)⟩
  | inr c =>
    rw [q1] at o1 t
    obtain ⟨b, m⟩ := hI c q1
    dsimp only at o1
    rw [m] at o1
    exact ⟨v, .ref (T.ca cc), _, _, b, rfl, .own _, t, hT ▸ (hO _ (mem_lookB m)).2, o1.now w1 (is_bl _)⟩

/-! ## 24. properties, classmethods, keywords -/
theorem se_prop {cc j : Nat} {f0 : Str} {pa ga : Addr} {fd : FuncData} {k : Nat} {gb : Bool} (h : SE X T W e f) (C : CF T cc f0 j) (hp : PropOf X.K (T.ca cc) fn pa ga) (F : FnOk X.prog X.w X.K X.mg X.base CX0 k ga fd ["self"] (getSp (T.ca cc) f0)) (hr : RoomG gb (k + 1) X.A) (hb : Binds X.K fd ["self"] [])
    (hab : attributeBase e fn X.env (eval e X.env) = eval e X.env := by rfl) (hT : T.K = X.K := by rfl) : SE X T W (.Attribute e fn pos) (e1 (fldM [(cc, j)]) f) := by
  refine ⟨pe_imp (pe_prop (E := fun _ _ _ => True) h.pe (hT ▸ C.cl) hp F hr.rm hb .nil pass0 hab) fun σ H Q ⟨ρ, G, S, ag, wf, o⟩ => ⟨ρ, G, S, ag, wf, o.bind fun d S1 G1 H1 v k1 w1 i1 o1 => ?_⟩⟩
  have one : ∀ {c' : Nat} {fs : List D} {y : D}, fldF [(cc, j)] c' fs = some y → c' = cc ∧ fs[j]? = some y := fun {c' fs y} z => by
    unfold fldF at z
    by_cases q : c' = cc
    · subst q; simp [List.lookup] at z; exact ⟨rfl, z⟩
    · rw [List.lookup_cons, show (c' == cc) = false from beq_false_of_ne q] at z; cases z
  unfold fldM at o1
  cases d with
  | obj c' fs =>
    unfold rIs Is at i1
    obtain ⟨p, dx, xs, rfl, ff, hx, ln, r⟩ := i1
    dsimp only at o1
    cases q : fldF [(cc, j)] c' fs with
    | none => rw [q] at o1; exact o1.elim
    | some y =>
      rw [q] at o1
      obtain ⟨rfl, e⟩ := one q
      obtain ⟨u, e2, r2⟩ := fld_full C ln r e
      exact ⟨p, dx, _, rfl, hx, p, dx, _, u, rfl, hx, e2, o1.now w1 r2⟩
  | ref n =>
    unfold rIs Is at i1
    obtain ⟨p, hm, rfl⟩ := i1
    dsimp only at o1
    rcases q0 : S1[n]? with _ | ob
    · rw [q0] at o1; exact o1.elim
    · rw [q0] at o1
      cases ob with
      | lst ds => exact o1.elim
      | ins c' fs =>
        dsimp only at o1
        obtain ⟨p', h1, dx, xs, hx, ln, r⟩ := w1.ob n _ q0
        rw [hm] at h1
        cases h1
        cases q : fldF [(cc, j)] c' fs with
        | none => rw [q] at o1; exact o1.elim
        | some y =>
          rw [q] at o1
          obtain ⟨rfl, e⟩ := one q
          obtain ⟨u, e2, r2⟩ := fld_full C ln r e
          exact ⟨p, dx, _, rfl, hx, p, dx, _, u, rfl, hx, e2, o1.now w1 r2⟩
  | _ => exact o1.elim
variable {k n : Nat} {ff : Addr} {sp : Sp} {fl : Rho → M (List D)} {g : List D → M D} {gb : Bool}
/-- the callee's code -/
theorem run_pc {pins : List (Addr × Obj)} {σ : St} {H : Hp} {s : Shared} {Q : VK} {us : List Value} {vs : List V} (F : FnP gb X.prog X.w X.K X.mg X.base k ff sp) (hr : RoomG gb k X.A) (tk : Takes X W) (I : Inv X pins σ H s) (r : Vals vs us) (h : sp vs H Q (fun cls d H' => W cls d σ H')) :
    codeAny (model X.prog X.w) X.A (.call (.ref ff) ⟨us, []⟩) (fun r s' => match r with | .ok (.ret v) => EP X pins σ Q v s' | .ok _ => False | .error e => X.xe e s') s := by
  refine codeAny_mono (F X.A X.stack s H us vs Q _ hr I.env0 r h) fun r s' hq => ?_
  cases r with
  | error e => exact passAt tk σ pins H s e s' I hq
  | ok fl =>
    cases fl with
    | ret u => exact I.after hq
    | next => exact False.elim hq
    | brk => exact False.elim hq
    | cont => exact False.elim hq
def tCm (W : WX) (C : Addr) (sp : Sp) (t : TA) : TE := fun σ H Q => t σ H fun vs H2 => sp (.ref C :: vs) H2 Q (fun cls d H' => W cls d σ H')
theorem pe_cmP {C pa : Addr} {mc : Value} {m y : Str} {q : Pos} {t : TA} {pl : Sem Bool} (r : CRead X.K C mc) (c : CMet X.K C mc m pa ff) (F : FnP gb X.prog X.w X.K X.mg X.base k ff sp) (hr : RoomG gb k X.A) (tk : Takes X W) (hg : Gl X y) (hm : X.mg y = some (.ref C)) (ha : PA X (e :: es) t)
    (hd : (y == ("__debug__" : Str)) = false := by decide) (hst : starEach (e :: es) X.env = (false, eval e X.env) :: starEach es X.env := by rfl) (hpl : (backTo pos (starEach es X.env)).any (·.1) = false := by rfl)
    (ht : eval (.Call (.Attribute (.Name y q) m apos) (e :: es) [] pos) X.env = (do
      let ov ← eval (.Name y q) X.env
      standAt apos.atName
      let (f, first) ← holding [ov] (getMethod ov m pl)
      callWith pos f first (backTo pos (starEach (e :: es) X.env)) (backToKw pos (keywordEach [] X.env))) := by rfl) :
    PE X (.Call (.Attribute (.Name y q) m apos) (e :: es) [] pos) (tCm W C sp t) := by
  refine ⟨fun pins s σ H Q I h => ?_⟩
  refine PySem.W.methodCall_KW (pl := pl) (thn ((pe_glob (v := .ref C) (pos := q) hg hm rfl hd).run pins s σ H (fun v H1 => v = .ref C ∧ H1 = H) I ⟨rfl, rfl⟩) fun u s1 ⟨x, H1, I1, rx, ex, eH⟩ => ?_) ht
  subst ex
  subst eH
  obtain rfl : u = Value.ref C := rx
  refine getmethcm_ok I1 r c fun s2 I2 => ?_
  refine callwith_cm I2 (base_none I1 (Nat.le_refl _)) c.fi (thn (ha.run pos _ s2 σ H1 _ I2 h) fun us s3 ⟨vs, H2, I3, rv, q2⟩ => ⟨⟨pin_at I3, I3.kIn⟩, ?_⟩) hst hpl
  have z : wpAny (model X.prog X.w) X.A (call (.ref s1.heap.objs.size) us) (EP X ((s1.heap.objs.size, PySem.W.methodObj (.ref ff) (.ref C)) :: pins) σ Q) X.xe s3 :=
    wpAny_call (PySem.W.method_call (pin_at I3) (run_pc (us := .ref C :: us) (vs := .ref C :: vs) F hr tk I3 (.cons rfl rv) q2))
  exact thn z fun _ _ y => unpinE y
/-- C.m(e, ..), a classmethod that does not look at its class -/
theorem se_cm {C pa : Addr} {mc : Value} {m y : Str} {q : Pos} {pl : Sem Bool} (r : CRead X.K C mc) (c : CMet X.K C mc m pa ff) (F : FnP gb X.prog X.w X.K X.mg X.base k ff (spOf1 T n g)) (hr : RoomG gb k X.A) (tk : Takes X W) (hg : Gl X y) (hm : X.mg y = some (.ref C)) (ha : SA X T W (e :: es) fl)
    (hd : (y == ("__debug__" : Str)) = false := by decide) (hst : starEach (e :: es) X.env = (false, eval e X.env) :: starEach es X.env := by rfl) (hpl : (backTo pos (starEach es X.env)).any (·.1) = false := by rfl)
    (ht : eval (.Call (.Attribute (.Name y q) m apos) (e :: es) [] pos) X.env = (do
      let ov ← eval (.Name y q) X.env
      standAt apos.atName
      let (f, first) ← holding [ov] (getMethod ov m pl)
      callWith pos f first (backTo pos (starEach (e :: es) X.env)) (backToKw pos (keywordEach [] X.env))) := by rfl) :
    SE X T W (.Call (.Attribute (.Name y q) m apos) (e :: es) [] pos) (eFn n g fl) := by
  refine ⟨pe_imp (pe_cmP r c F hr tk hg hm ha.pa hd hst hpl ht) fun σ H Q ⟨ρ, G, S, ag, wf, o⟩ => ⟨ρ, G, S, ag, wf, o.bind fun ds S1 G1 H1 vs k1 w1 i1 o1 => ?_⟩⟩
  exact ⟨.ref C, vs, rfl, Out.fnn o1 w1 i1⟩
end
end LS

set_option Elab.async false
set_option linter.all false
set_option maxRecDepth 100000
set_option maxHeartbeats 1000000
namespace LS
open PySem L2 PySem.Spec
open PyProof.Rows hiding St
open ClX

/-! ## 25. keywords -/
def perm {α : Type} : List Nat → List α → List α
  | [], _ => []
  | i :: p, l => match l[i]? with
    | some a => a :: perm p l
    | none => perm p l
theorem vals_get {vs : List V} {us : List Value} (r : Vals vs us) (i : Nat) : (∃ v u, vs[i]? = some v ∧ us[i]? = some u ∧ RelV v u) ∨ (vs[i]? = none ∧ us[i]? = none) := by
  by_cases h : i < vs.length
  · obtain ⟨u, h1, h2⟩ := r.get (List.getElem?_eq_getElem h)
    exact .inl ⟨_, u, List.getElem?_eq_getElem h, h1, h2⟩
  · exact .inr ⟨List.getElem?_eq_none (by omega), List.getElem?_eq_none (by rw [← r.length]; omega)⟩
theorem vals_perm {vs : List V} {us : List Value} (r : Vals vs us) : ∀ p : List Nat, Vals (perm p vs) (perm p us)
  | [] => .nil
  | i :: p => by
    unfold perm
    rcases vals_get r i with ⟨v, u, h1, h2, h3⟩ | ⟨h1, h2⟩
    · rw [h1, h2]; exact .cons h3 (vals_perm r p)
    · rw [h1, h2]; exact vals_perm r p
section
variable {X : Cx} {T : Tb} {W : WX} {e a c o tg : Expr} {f fa fb : Ev} {pos p2 p apos pos' kpos : Pos} {es : List Expr} {x fn : Str} {i : Nat} {G : Gh} {H : Hp} {S : Sto}
theorem isL_perm {ds : List D} {vs : List V} (r : IsL T G H ds vs) : ∀ p : List Nat, IsL T G H (perm p ds) (perm p vs)
  | [] => IsL.nil
  | i :: p => by
    unfold perm
    by_cases h : i < ds.length
    · obtain ⟨v, h1, h2⟩ := r.get (List.getElem?_eq_getElem h)
      rw [List.getElem?_eq_getElem h, h1]
      exact IsL.cons h2 (isL_perm r p)
    · rw [List.getElem?_eq_none (by omega), List.getElem?_eq_none (by rw [← r.len]; omega)]
      exact isL_perm r p
/-- n positional values, then keywords named ks: the parameters' order is perm pi of all -/
structure KwB (K : PySem.W.Frag) (fd : FuncData) (ps : List Str) (n : Nat) (ks : List Str) (pi : List Nat) : Prop where
  to : ∀ (s : Shared) (us ws : List Value), K.In s.heap → us.length = n → ws.length = ks.length → BindsTo s fd ⟨us, ks.zip ws⟩ (ps.zip (perm pi (us ++ ws)))
structure SK (X : Cx) (T : Tb) (W : WX) (kws : List Keyword) (f : Rho → M (List D)) : Prop where
  pk : PK X kws (tX T W (rL T) f)
theorem pk_imp {X : Cx} {kws : List Keyword} {t u : TA} (h : PK X kws t) (i : ∀ σ H Q, u σ H Q → t σ H Q) : PK X kws u := ⟨fun pos pins s σ H Q I q => h.run pos pins s σ H Q I (i σ H Q q)⟩
variable {kws : List Keyword} {fl fk : Rho → M (List D)} {nm : Option Str} {g : List D → M D} {n k : Nat} {ps ks : List Str} {pi : List Nat} {fd : FuncData} {ff : Addr} {gb : Bool} {sp : Sp}
theorem sk_nil : SK X T W [] aNil := ⟨pk_imp pk_nil fun σ H Q ⟨ρ, G, S, ag, wf, o⟩ => o.now wf IsL.nil⟩
theorem sk_cons (h : SE X T W e f) (r : SK X T W kws fk) : SK X T W (⟨nm, e, kpos⟩ :: kws) (aCons f fk) := by
  refine ⟨pk_imp (pk_cons h.pe r.pk) fun σ H Q ⟨ρ, G, S, ag, wf, o⟩ => ⟨ρ, G, S, ag, wf, o.bind fun x S1 G1 H1 v k1 w1 i1 o1 => ?_⟩⟩
  refine ⟨ρ, G1, S1, ag.keep wf k1, w1, o1.bind fun ds S2 G2 H2 vs k2 w2 i2 o2 => ?_⟩
  exact o2.now w2 (IsL.cons ((w1.lean k2).is i1) i2)
theorem run_kw {pins : List (Addr × Obj)} {σ : St} {H : Hp} {s : Shared} {Q : VK} {us ws : List Value} {vs zs : List V} (F : FnG gb X.prog X.w X.K X.mg X.base k ff fd ps sp) (hr : RoomG gb k X.A) (hb : KwB X.K fd ps n ks pi) (tk : Takes X W)
    (I : Inv X pins σ H s) (r : Vals vs us) (rz : Vals zs ws) (l1 : vs.length = n) (l2 : zs.length = ks.length) (h : sp (perm pi (vs ++ zs)) H Q (fun cls d H' => W cls d σ H')) : wpAny (model X.prog X.w) X.A (call (.ref ff) us (ks.zip ws)) (EP X pins σ Q) X.xe s := by
  have r2 := vals_perm (r.append rz) pi
  refine wpAny_call (codeAny_mono (F.go X.A X.stack s H ⟨us, ks.zip ws⟩ _ _ Q _ hr I.env0 (hb.to s us ws I.kIn (r.length.symm.trans l1) (rz.length.symm.trans l2)) r2 h) fun r s' hq => ?_)
  cases r with
  | error e => exact passAt tk σ pins H s e s' I hq
  | ok fl =>
    cases fl with
    | ret u => exact I.after hq
    | next => exact False.elim hq
    | brk => exact False.elim hq
    | cont => exact False.elim hq
def tKw (W : WX) (n m : Nat) (pi : List Nat) (sp : Sp) (t tk : TA) : TE := fun σ H Q => t σ H fun vs H1 => tk σ H1 fun zs H2 => vs.length = n ∧ zs.length = m ∧ sp (perm pi (vs ++ zs)) H2 Q (fun cls d H' => W cls d σ H')
theorem pe_kw {t tk : TA} (F : FnG gb X.prog X.w X.K X.mg X.base k ff fd ps sp) (hr : RoomG gb k X.A) (hg : Gl X x) (hm : X.mg x = some (.ref ff)) (hk : PySem.W.keepIn X.K (.ref ff) = true) (hb : KwB X.K fd ps n ks pi) (tks : Takes X W)
    (ha : PA X (e :: es) t) (hkw : PK X kws tk) (hall : (backToKw pos (keywordEach kws X.env)).all (·.1.isSome) = true := by rfl) (hks : (backToKw pos (keywordEach kws X.env)).filterMap (·.1) = ks := by rfl)
    (hdb : (x == ("__debug__" : Str)) = false := by decide) (he : starEach (e :: es) X.env = (false, eval e X.env) :: starEach es X.env := by rfl)
    (hpl : ((backTo pos (starEach (e :: es) X.env)).any (·.1) || (backToKw pos (keywordEach kws X.env)).any (·.1.isNone)) = false := by rfl) :
    PE X (.Call (.Name x p) (e :: es) kws pos) (tKw W n ks.length pi sp t tk) := by
  refine ⟨fun pins s σ H Q I h => ?_⟩
  refine wpAny_Call_Name_kw (ld_glob I hg hm ?_ hdb)
  refine PySem.W.callWith_KW (h₀ := X.base) I.ok.mod.kin hk hall (thn (ha.run pos pins s σ H _ I h) fun us s1 ⟨vs, H1, I1, r, q⟩ => ?_) hpl he
  refine thn (hkw.run pos pins s1 σ H1 _ I1 q) fun ws s2 ⟨zs, H2, I2, rz, l1, l2, q2⟩ => ⟨I2.kIn, ?_⟩
  rw [hks]
  exact run_kw F hr hb tks I2 r rz l1 l2 q2
theorem pe_kw0 {tk : TA} (F : FnG gb X.prog X.w X.K X.mg X.base k ff fd ps sp) (hr : RoomG gb k X.A) (hg : Gl X x) (hm : X.mg x = some (.ref ff)) (hk : PySem.W.keepIn X.K (.ref ff) = true) (hb : KwB X.K fd ps 0 ks pi) (tks : Takes X W)
    (hkw : PK X kws tk) (hall : (backToKw pos (keywordEach kws X.env)).all (·.1.isSome) = true := by rfl) (hks : (backToKw pos (keywordEach kws X.env)).filterMap (·.1) = ks := by rfl)
    (hdb : (x == ("__debug__" : Str)) = false := by decide)
    (hpl : ((backTo pos (starEach [] X.env)).any (·.1) || (backToKw pos (keywordEach kws X.env)).any (·.1.isNone)) = false := by rfl) :
    PE X (.Call (.Name x p) [] kws pos) (tKw W 0 ks.length pi sp tNil tk) := by
  refine ⟨fun pins s σ H Q I h => ?_⟩
  refine wpAny_Call_Name_kw (ld_glob I hg hm ?_ hdb)
  refine PySem.W.callWith_KW0 (h₀ := X.base) I.ok.mod.kin hk hall ?_ hpl
  refine thn (hkw.run pos pins s σ H _ I h) fun ws s2 ⟨zs, H2, I2, rz, l1, l2, q2⟩ => ⟨I2.kIn, ?_⟩
  rw [hks]
  exact run_kw (us := []) (vs := []) F hr hb tks I2 .nil rz rfl l2 q2
def eKw (n m : Nat) (pi : List Nat) (np : Nat) (g : List D → M D) (fl fk : Rho → M (List D)) : Ev := fun ρ => bd (fl ρ) fun ds => bd (fk ρ) fun es => if ds.length = n ∧ es.length = m ∧ (perm pi (ds ++ es)).length = np then g (perm pi (ds ++ es)) else dv
theorem kw_fin {np : Nat} {σ : St} {ds es : List D} {vs zs : List V} {Q : VK} (w : Wf T G H S) (r : IsL T G H ds vs) (r2 : IsL T G H es zs) {m : Nat} (o : Out T W σ G H (rIs T) Q ((if ds.length = n ∧ es.length = m ∧ (perm pi (ds ++ es)).length = np then g (perm pi (ds ++ es)) else dv) S)) :
    vs.length = n ∧ zs.length = m ∧ spOf T np g (perm pi (vs ++ zs)) H Q (fun cls d H' => W cls d σ H') := by
  by_cases c : ds.length = n ∧ es.length = m ∧ (perm pi (ds ++ es)).length = np
  · rw [if_pos c] at o
    have r3 := isL_perm (r.app r2) pi
    exact ⟨by rw [← r.len]; exact c.1, by rw [← r2.len]; exact c.2.1, sp_of o w r3 (by rw [← r3.len]; exact c.2.2)⟩
  · rw [if_neg c] at o; exact o.elim
theorem se_kw {np : Nat} (F : FnG gb X.prog X.w X.K X.mg X.base k ff fd ps (spOf T np g)) (hr : RoomG gb k X.A) (hg : Gl X x) (hm : X.mg x = some (.ref ff)) (hk : PySem.W.keepIn X.K (.ref ff) = true) (hb : KwB X.K fd ps n ks pi) (tks : Takes X W)
    (ha : SA X T W (e :: es) fl) (hkw : SK X T W kws fk) (hall : (backToKw pos (keywordEach kws X.env)).all (·.1.isSome) = true := by rfl) (hks : (backToKw pos (keywordEach kws X.env)).filterMap (·.1) = ks := by rfl)
    (hdb : (x == ("__debug__" : Str)) = false := by decide) (he : starEach (e :: es) X.env = (false, eval e X.env) :: starEach es X.env := by rfl)
    (hpl : ((backTo pos (starEach (e :: es) X.env)).any (·.1) || (backToKw pos (keywordEach kws X.env)).any (·.1.isNone)) = false := by rfl) :
    SE X T W (.Call (.Name x p) (e :: es) kws pos) (eKw n ks.length pi np g fl fk) := by
  refine ⟨pe_imp (pe_kw F hr hg hm hk hb tks ha.pa hkw.pk hall hks hdb he hpl) fun σ H Q ⟨ρ, G, S, ag, wf, o⟩ => ⟨ρ, G, S, ag, wf, o.bind fun ds S1 G1 H1 vs k1 w1 i1 o1 => ?_⟩⟩
  refine ⟨ρ, G1, S1, ag.keep wf k1, w1, o1.bind fun es S2 G2 H2 zs k2 w2 i2 o2 => ?_⟩
  exact kw_fin w2 ((w1.lean k2).isL i1) i2 o2
theorem se_kw0 {np : Nat} (F : FnG gb X.prog X.w X.K X.mg X.base k ff fd ps (spOf T np g)) (hr : RoomG gb k X.A) (hg : Gl X x) (hm : X.mg x = some (.ref ff)) (hk : PySem.W.keepIn X.K (.ref ff) = true) (hb : KwB X.K fd ps 0 ks pi) (tks : Takes X W)
    (hkw : SK X T W kws fk) (hall : (backToKw pos (keywordEach kws X.env)).all (·.1.isSome) = true := by rfl) (hks : (backToKw pos (keywordEach kws X.env)).filterMap (·.1) = ks := by rfl)
    (hdb : (x == ("__debug__" : Str)) = false := by decide)
    (hpl : ((backTo pos (starEach [] X.env)).any (·.1) || (backToKw pos (keywordEach kws X.env)).any (·.1.isNone)) = false := by rfl) :
    SE X T W (.Call (.Name x p) [] kws pos) (eKw 0 ks.length pi np g aNil fk) := by
  refine ⟨pe_imp (pe_kw0 F hr hg hm hk hb tks hkw.pk hall hks hdb hpl) fun σ H Q ⟨ρ, G, S, ag, wf, o⟩ => ?_⟩
  refine ⟨ρ, G, S, ag, wf, (show Out T W σ G H (rIs T) Q (bd (fk ρ) (fun es => if ([] : List D).length = 0 ∧ es.length = ks.length ∧ (perm pi ([] ++ es)).length = np then g (perm pi ([] ++ es)) else dv) S) from o).bind fun es S1 G1 H1 zs k1 w1 i1 o1 => ?_⟩
  exact kw_fin w1 (vs := []) IsL.nil i1 o1
end
end LS

set_option Elab.async false
set_option linter.all false
set_option maxRecDepth 100000
set_option maxHeartbeats 1000000
namespace LS
open PySem L2 PySem.Spec
open PyProof.Rows hiding St
open ClX

/-! ## 26. repr -/
mutual
theorem py_nodict : ∀ (d : D) (p : PyData), toPy d = some p → p.hasDict = false
  | .non, p, e => by unfold toPy at e; cases e; rfl
  | .bl b, p, e => by unfold toPy at e; cases e; rfl
  | .int i, p, e => by unfold toPy at e; cases e; rfl
  | .str s, p, e => by unfold toPy at e; cases e; rfl
  | .tup xs, p, e => by
    unfold toPy at e
    cases q : toPys xs with
    | none => rw [q] at e; cases e
    | some ps => rw [q] at e; cases e; exact pys_nodict xs ps q
  | .lst xs, p, e => by
    unfold toPy at e
    cases q : toPys xs with
    | none => rw [q] at e; cases e
    | some ps => rw [q] at e; cases e; exact pys_nodict xs ps q
  | .scr xs, p, e => by
    unfold toPy at e
    cases q : toPys xs with
    | none => rw [q] at e; cases e
    | some ps => rw [q] at e; cases e; exact pys_nodict xs ps q
  | .obj c fs, p, e => by unfold toPy at e; cases e
  | .ref n, p, e => by unfold toPy at e; cases e
theorem pys_nodict : ∀ (ds : List D) (ps : List PyData), toPys ds = some ps → PyData.hasDictAll ps = false
  | [], ps, e => by unfold toPys at e; cases e; rfl
  | d :: ds, ps, e => by
    unfold toPys at e
    cases q : toPy d with
    | none => rw [q] at e; cases e
    | some p =>
      cases q2 : toPys ds with
      | none => rw [q, q2] at e; cases e
      | some r =>
        rw [q, q2] at e
        cases e
        unfold PyData.hasDictAll
        rw [py_nodict d p q, pys_nodict ds r q2]; rfl
end
def okShow (p : PyData) : Bool := p.showable && decide (p.depth ≤ 40) && decide (p.shown.length ≤ sizeLine)
def reprD (d : D) : M D := match toPy d with
  | some p => if okShow p = true then ret (.str p.shown) else dv
  | none => dv
section
variable {X : Cx} {T : Tb} {W : WX}
def rRepr (K : PySem.W.Frag) : List V → Hp → VK → Prop := fun xs H Q => ∃ (v : V) (p : PyData), xs = [v] ∧ Dp K H v p ∧ p.hasDict = false ∧ okShow p = true ∧ Q (.str p.shown) H
theorem call_reprA (hg : X.A.guards = some []) (hu : X.A.units + 64 < cLine) : CallR X (.builtin "repr") (rRepr X.K) := by
  intro pins s σ H xs us Q I r h
  obtain ⟨v, p, rfl, dp, nd, ok, q⟩ := h
  obtain ⟨u, rfl, ru⟩ := vals1 r
  unfold okShow at ok
  simp only [Bool.and_eq_true, decide_eq_true_eq] at ok
  obtain ⟨⟨sh, dpt⟩, sz⟩ := ok
  have cont : ∀ {a : Addr}, u = .ref a → wpAny (model X.prog X.w) X.A (call (.builtin "repr") [u]) (EP X pins σ Q) X.xe s := fun {a} e => by
    subst e
    obtain ⟨as, rd⟩ := Dp.reads I p v _ dp ru
    exact repr_of_reads' rd sh (PyData.noDict_hsm nd) hg (by omega) (fun _ _ e => e) (fun h' u tk hk => ⟨.str p.shown, H, I.kept (t' := tk) hk, ⟨u, rfl⟩, q⟩) sz
  cases dp with
  | non =>
    cases (show u = Value.none from ru)
    exact P.repr_of_none ⟨.str _, H, I.tok _, ⟨_, rfl⟩, q⟩
  | bl b =>
    cases (show u = Value.bool b from ru)
    exact P.repr_of_bool ⟨.str _, H, I.tok _, ⟨_, rfl⟩, q⟩
  | int i =>
    obtain ⟨t, rfl⟩ := (show ∃ t, u = Value.int i t from ru)
    exact P.repr_of_int (of_decide_eq_true sh) ⟨.str _, H, I.tok _, ⟨_, rfl⟩, q⟩
  | str z =>
    obtain ⟨t, rfl⟩ := (show ∃ t, u = Value.str z t from ru)
    exact P.repr_of_str ⟨.str _, H, I.tok _, ⟨_, rfl⟩, q⟩ sz
  | lst _ _ => exact cont ru
  | tup _ _ => exact cont ru
theorem dp_b {G : Gh} {H : Hp} {S : Sto} {d : D} {p : PyData} {v : V} (w : Wf T G H S) (h : IsB T G H d v) (e : toPy d = some p) : Dp T.K H v p := by
  rcases h with h | ⟨ds, a, xs, rfl, rfl, _, hx, r⟩
  · exact is_dp d p v e h
  · unfold toPy at e
    cases q : toPys ds with
    | none => rw [q] at e; cases e
    | some ps =>
      rw [q] at e
      cases e
      exact .lst (SqL.of hx) (isL_dp ds ps xs q r)
theorem ok_repr (hT : T.K = X.K) : OkC X T W (g1 reprD) (rRepr X.K) := by
  intro σ G H S ds vs Q w r o
  match ds, r, o with
  | [], _, o => exact o.elim
  | _ :: _ :: _, _, o => exact o.elim
  | [d], r, o =>
    obtain ⟨v, r1, rfl, i1, rfl⟩ := r
    unfold g1 reprD at o
    dsimp only at o
    cases q : toPy d with
    | none => rw [q] at o; exact o.elim
    | some p =>
      rw [q] at o
      dsimp only at o
      by_cases c : okShow p = true
      · rw [if_pos c] at o
        exact ⟨v, p, rfl, hT ▸ dp_b w i1 q, py_nodict d p q, c, o.now w (is_str _)⟩
      · rw [if_neg c] at o; exact o.elim
variable {e : Expr} {p pos : Pos} {fl : Rho → M (List D)} {gb : Bool} {k : Nat}
theorem se_repr (hr : RoomG true k X.A) (hg : Gl X "repr") (hm : X.mg "repr" = none) (ha : SAB X T W [e] fl) (hT : T.K = X.K := by rfl)
    (he : starEach [e] X.env = (false, eval e X.env) :: starEach [] X.env := by rfl) (hpl : (backTo pos (starEach [] X.env)).any (·.1) = false := by rfl) : SE X T W (.Call (.Name "repr" p) [e] [] pos) (eCall (g1 reprD) fl) :=
  se_callB (call_reprA (hr.gd rfl) hr.u64) (ok_repr hT) hg hm (by rfl) ha (by decide) (by decide) he hpl
end
end LS

set_option Elab.async false
set_option linter.all false
set_option maxRecDepth 100000
set_option maxHeartbeats 1000000
namespace LS
open PySem L2 PySem.Spec
open PyProof.Rows hiding St
open ClX

/-! ## 27. lists for the store, frozen slots -/
def eNS (f : Rho → M (List D)) : Ev := fun ρ => bd (f ρ) fun ds S => .ok (.ref S.length) (S ++ [.lst ds])
section
variable {X : Cx} {T : Tb} {W : WX} {e a b c o tg : Expr} {f fa fb : Ev} {pos p2 p apos pos' kpos : Pos} {es : List Expr} {x fn : Str} {i : Nat} {G : Gh} {H : Hp} {S : Sto} {st : Stmt} {s : Sx}
theorem SN.seS {f : Rho → M (List D)} (h : SN X T W e f) : SE X T W e (eNS f) := by
  refine ⟨pe_imp h.pe fun σ H Q ⟨ρ, G, S, ag, wf, o⟩ => ⟨ρ, G, S, ag, wf, ?_⟩⟩
  unfold eNS bd at o
  cases q : f ρ S with
  | ok ds S' =>
    rw [q] at o
    intro G' H' a k w n nf nm ⟨xs, hx, hi⟩
    obtain ⟨w2, l2⟩ := w.push (ob := .lst ds) nf nm ⟨xs, hx, hi⟩
    refine o _ H' (.ref a) (k.push n) w2 ?_
    unfold rIs Is
    refine ⟨a, ?_, rfl⟩
    show (G'.m ++ [a])[S'.length]? = some a
    rw [← w.len, List.getElem?_append_right (Nat.le_refl _), Nat.sub_self]; rfl
  | exc c fs S' => rw [q] at o; exact o
  | div => rw [q] at o; exact o
/-- from here on the list in slot i is not changed any more -/
def frz (i : Nat) (ρ : Rho) : Rho := match ρ[i]? with
  | some (some (.own ds)) => ρ.set i (some (.val (.lst ds)))
  | _ => ρ
def sFrz (i : Nat) (s : Sx) : Sx := fun ρ => s (frz i ρ)
theorem StAg.frz {G0 : Bs} {σ : St} {ρ : Rho} (g : StAg X T G0 G H σ ρ) (w : Wf T G H S) (i : Nat) : ∃ G', StAg X T G0 G' H σ (frz i ρ) ∧ Wf T G' H S ∧ Lean G H G' H := by
  unfold LS.frz
  split
  · rename_i ds q
    obtain ⟨a, xs, z, nf, nm, hx, hr⟩ := own_at g.ag q
    have own0 := (g.own i _ a q rfl z).1
    have c : i < ρ.length := (List.getElem?_eq_some_iff.mp q).1
    refine ⟨G.add a, ⟨⟨by rw [List.length_set]; exact g.ag.len, fun j sl e => ?_, fun j k s t v n e1 e2 m1 m2 y => ?_⟩, g.kp.add own0, fun j s b e m y => ?_⟩, (w.add nm hx fun _ z => nomatch z), lean_add⟩
    · rw [rho_get c] at e
      by_cases pj : j = i
      · rw [if_pos pj] at e
        cases e
        subst pj
        exact ⟨_, z, is_lst (.inr rfl) hx (lean_add.isL hr)⟩
      · rw [if_neg pj] at e
        obtain ⟨v, h1, h2⟩ := g.ag.get j sl e
        refine ⟨v, h1, ?_⟩
        have apart : sl.mine = true → v ≠ .ref a := fun m y => g.ag.ap i j _ sl _ (Ne.symm pj) q e rfl m z (y ▸ h1)
        cases sl with
        | val d => exact lean_add.is h2
        | own ds =>
          obtain ⟨a2, ys, e2, u1, u2, u3, u4⟩ := h2
          exact ⟨a2, ys, e2, fun f => f.elim u1 fun y => apart rfl (e2.trans (congrArg V.ref y)), u2, u3, lean_add.isL u4⟩
        | mak c2 fs2 =>
          obtain ⟨a2, dx, ys, e2, u1, u2, u3, u5, u6, u4⟩ := h2
          exact ⟨a2, dx, ys, e2, fun f => f.elim u1 fun y => apart rfl (e2.trans (congrArg V.ref y)), u2, u3, u5, u6, lean_add.isL u4⟩
    · have old : ∀ (j : Nat) (s : Sl), (ρ.set i (some (.val (.lst ds))))[j]? = some (some s) → s.mine = true → ρ[j]? = some (some s) := fun j s e m => by
        rw [rho_get c] at e
        by_cases pj : j = i
        · rw [if_pos pj] at e; cases e; cases m
        · rw [if_neg pj] at e; exact e
      exact g.ag.ap j k s t v n (old j s e1 m1) (old k t e2 m2) m1 m2 y
    · rw [rho_get c] at e
      by_cases pj : j = i
      · rw [if_pos pj] at e; cases e; cases m
      · rw [if_neg pj] at e
        exact g.own j s b e m y
  · exact ⟨G, g, w, .refl⟩
theorem ss_frz (i : Nat) (h : SS X T W st s) : SS X T W st (sFrz i s) := ⟨ps_imp h.ps fun E σ H ⟨ρ, G0, G, S, ag, wf, o⟩ => by
  obtain ⟨G', ag', w', l⟩ := ag.frz wf i
  exact ⟨LS.frz i ρ, G0, G', S, ag', w', OutS.shift l o⟩⟩

/-! ## 28. built-ins by name -/
variable {fl : Rho → M (List D)} {gb : Bool} {k : Nat}
theorem w_len (hm : X.mg "len" = none) (ha : SAB X T W [e] fl) (hg : Gl X "len" := by rfl) (hT : T.K = X.K := by rfl) (he : starEach [e] X.env = (false, eval e X.env) :: starEach [] X.env := by rfl) (hpl : (backTo pos (starEach [] X.env)).any (·.1) = false := by rfl) : SE X T W (.Call (.Name "len" p) [e] [] pos) (eCall (g1 lenD) fl) :=
  se_callB call_len (ok_len hT) hg hm (by rfl) ha (by decide) (by decide) he hpl
theorem w_all (hc : X.calm = true) (hm : X.mg "all" = none) (ha : SAB X T W [e] fl) (hg : Gl X "all" := by rfl) (hT : T.K = X.K := by rfl) (he : starEach [e] X.env = (false, eval e X.env) :: starEach [] X.env := by rfl) (hpl : (backTo pos (starEach [] X.env)).any (·.1) = false := by rfl) : SE X T W (.Call (.Name "all" p) [e] [] pos) (eCall (g1 allD) fl) :=
  se_callB (cr_all hc) (ok_all hT) hg hm (by rfl) ha (by decide) (by decide) he hpl
theorem w_any (hc : X.calm = true) (hm : X.mg "any" = none) (ha : SAB X T W [e] fl) (hg : Gl X "any" := by rfl) (hT : T.K = X.K := by rfl) (he : starEach [e] X.env = (false, eval e X.env) :: starEach [] X.env := by rfl) (hpl : (backTo pos (starEach [] X.env)).any (·.1) = false := by rfl) : SE X T W (.Call (.Name "any" p) [e] [] pos) (eCall (g1 anyD) fl) :=
  se_callB (cr_any hc) (ok_any hT) hg hm (by rfl) ha (by decide) (by decide) he hpl
theorem w_sum (hc : X.calm = true) (hm : X.mg "sum" = none) (ha : SAB X T W [e] fl) (hg : Gl X "sum" := by rfl) (hT : T.K = X.K := by rfl) (he : starEach [e] X.env = (false, eval e X.env) :: starEach [] X.env := by rfl) (hpl : (backTo pos (starEach [] X.env)).any (·.1) = false := by rfl) : SE X T W (.Call (.Name "sum" p) [e] [] pos) (eCall (g1 sumD) fl) :=
  se_callB (cr_sum hc) (ok_sum hT) hg hm (by rfl) ha (by decide) (by decide) he hpl
theorem w_max (hc : X.calm = true) (hm : X.mg "max" = none) (ha : SAB X T W [e] fl) (hg : Gl X "max" := by rfl) (hT : T.K = X.K := by rfl) (he : starEach [e] X.env = (false, eval e X.env) :: starEach [] X.env := by rfl) (hpl : (backTo pos (starEach [] X.env)).any (·.1) = false := by rfl) : SE X T W (.Call (.Name "max" p) [e] [] pos) (eCall (g1 maxD) fl) :=
  se_callB (cr_max hc) (ok_max hT) hg hm (by rfl) ha (by decide) (by decide) he hpl
theorem w_min (hc : X.calm = true) (hm : X.mg "min" = none) (ha : SAB X T W [e] fl) (hg : Gl X "min" := by rfl) (hT : T.K = X.K := by rfl) (he : starEach [e] X.env = (false, eval e X.env) :: starEach [] X.env := by rfl) (hpl : (backTo pos (starEach [] X.env)).any (·.1) = false := by rfl) : SE X T W (.Call (.Name "min" p) [e] [] pos) (eCall (g1 minD) fl) :=
  se_callB (cr_min hc) (ok_min hT) hg hm (by rfl) ha (by decide) (by decide) he hpl
theorem w_max2 (hc : X.calm = true) (hm : X.mg "max" = none) (ha : SAB X T W [e, a] fl) (hg : Gl X "max" := by rfl) (he : starEach [e, a] X.env = (false, eval e X.env) :: starEach [a] X.env := by rfl) (hpl : (backTo pos (starEach [a] X.env)).any (·.1) = false := by rfl) : SE X T W (.Call (.Name "max" p) [e, a] [] pos) (eCall (g2 max2D) fl) :=
  se_callB (call_max2 hc) ok_max2 hg hm (by rfl) ha (by decide) (by decide) he hpl
theorem w_min2 (hc : X.calm = true) (hm : X.mg "min" = none) (ha : SAB X T W [e, a] fl) (hg : Gl X "min" := by rfl) (he : starEach [e, a] X.env = (false, eval e X.env) :: starEach [a] X.env := by rfl) (hpl : (backTo pos (starEach [a] X.env)).any (·.1) = false := by rfl) : SE X T W (.Call (.Name "min" p) [e, a] [] pos) (eCall (g2 min2D) fl) :=
  se_callB (call_min2 hc) ok_min2 hg hm (by rfl) ha (by decide) (by decide) he hpl
theorem w_abs (hm : X.mg "abs" = none) (ha : SAB X T W [e] fl) (hg : Gl X "abs" := by rfl) (he : starEach [e] X.env = (false, eval e X.env) :: starEach [] X.env := by rfl) (hpl : (backTo pos (starEach [] X.env)).any (·.1) = false := by rfl) : SE X T W (.Call (.Name "abs" p) [e] [] pos) (eCall (g1 absD) fl) :=
  se_callB call_abs ok_abs hg hm (by rfl) ha (by decide) (by decide) he hpl
theorem w_int (hm : X.mg "int" = none) (ha : SAB X T W [e] fl) (hg : Gl X "int" := by rfl) (he : starEach [e] X.env = (false, eval e X.env) :: starEach [] X.env := by rfl) (hpl : (backTo pos (starEach [] X.env)).any (·.1) = false := by rfl) : SE X T W (.Call (.Name "int" p) [e] [] pos) (eCall (g1 intD) fl) :=
  se_callT call_intA ok_int hg hm (by rfl) ha (by decide) (by decide) he hpl
theorem w_str (hm : X.mg "str" = none) (ha : SAB X T W [e] fl) (hg : Gl X "str" := by rfl) (he : starEach [e] X.env = (false, eval e X.env) :: starEach [] X.env := by rfl) (hpl : (backTo pos (starEach [] X.env)).any (·.1) = false := by rfl) : SE X T W (.Call (.Name "str" p) [e] [] pos) (eCall (g1 strD) fl) :=
  se_callT call_str_int ok_str hg hm (by rfl) ha (by decide) (by decide) he hpl
theorem w_divmod (hm : X.mg "divmod" = none) (ha : SAB X T W [e, a] fl) (hg : Gl X "divmod" := by rfl) (he : starEach [e, a] X.env = (false, eval e X.env) :: starEach [a] X.env := by rfl) (hpl : (backTo pos (starEach [a] X.env)).any (·.1) = false := by rfl) : SE X T W (.Call (.Name "divmod" p) [e, a] [] pos) (eCall (g2 divmodD) fl) :=
  se_callB call_divmod ok_divmod hg hm (by rfl) ha (by decide) (by decide) he hpl
theorem w_tuple (hm : X.mg "tuple" = none) (ha : SAB X T W [e] fl) (hg : Gl X "tuple" := by rfl) (hT : T.K = X.K := by rfl) (he : starEach [e] X.env = (false, eval e X.env) :: starEach [] X.env := by rfl) (hpl : (backTo pos (starEach [] X.env)).any (·.1) = false := by rfl) : SE X T W (.Call (.Name "tuple" p) [e] [] pos) (eCall (g1 tupleD) fl) :=
  se_callT call_tuple_of (ok_tuple hT) hg hm (by rfl) ha (by decide) (by decide) he hpl
theorem w_list (hm : X.mg "list" = none) (ha : SAB X T W [e] fl) (hg : Gl X "list" := by rfl) (hT : T.K = X.K := by rfl) (he : starEach [e] X.env = (false, eval e X.env) :: starEach [] X.env := by rfl) (hpl : (backTo pos (starEach [] X.env)).any (·.1) = false := by rfl) : SN X T W (.Call (.Name "list" p) [e] [] pos) (listN fl) :=
  sn_list hg hm (by rfl) ha hT he hpl
theorem w_repr (hr : RoomG true k X.A) (hm : X.mg "repr" = none) (ha : SAB X T W [e] fl) (hg : Gl X "repr" := by rfl) (hT : T.K = X.K := by rfl) (he : starEach [e] X.env = (false, eval e X.env) :: starEach [] X.env := by rfl) (hpl : (backTo pos (starEach [] X.env)).any (·.1) = false := by rfl) : SE X T W (.Call (.Name "repr" p) [e] [] pos) (eCall (g1 reprD) fl) :=
  se_repr hr hg hm ha hT he hpl
end
end LS

set_option Elab.async false
set_option linter.all false
set_option maxRecDepth 100000
set_option maxHeartbeats 1000000
namespace LS
open PySem L2 PySem.Spec
open PyProof.Rows hiding St
open ClX

/-! ## 29. short forms for printed derivations -/
section
variable {X : Cx} {T : Tb} {W : WX} {e a b c o tg : Expr} {f fa fb fi : Ev} {pos p2 p apos pos' kpos : Pos} {es ts : List Expr} {x fn : Str} {G : Gh} {H : Hp} {S : Sto} {st : Stmt} {s : Sx} {vs : List Nat}
theorem v (i : Nat) (hN : X.N[i]? = some x := by rfl) (hv : Vis X.env.scope x := by first | exact .inl rfl | exact .inr (.inl rfl) | exact .inr (.inr rfl)) (hd : (x == ("__debug__" : Str)) = false := by decide) (hcd : (x == ("__classdict__" : Str)) = false := by decide) : SE X T W (.Name x pos) (eVar i) := se_var hN hv hd hcd
theorem vb (i : Nat) (hN : X.N[i]? = some x := by rfl) (hv : Vis X.env.scope x := by first | exact .inl rfl | exact .inr (.inl rfl) | exact .inr (.inr rfl)) (hd : (x == ("__debug__" : Str)) = false := by decide) (hcd : (x == ("__classdict__" : Str)) = false := by decide) : SB X T W (.Name x pos) (eLook i) := sb_look hN hv hd hcd
theorem vm (i : Nat) (alts : List (Nat × Nat)) (hA : ∀ q ∈ alts, CF T q.1 fn q.2) (hN : X.N[i]? = some x := by rfl) (hv : Vis X.env.scope x := by first | exact .inl rfl | exact .inr (.inl rfl) | exact .inr (.inr rfl)) (hd : (x == ("__debug__" : Str)) = false := by decide) (hcd : (x == ("__classdict__" : Str)) = false := by decide)
    (hb : attributeBase (.Name x p) fn X.env (eval (.Name x p) X.env) = eval (.Name x p) X.env := by rfl) (hT : T.K = X.K := by rfl) : SE X T W (.Attribute (.Name x p) fn pos) (eFldM i alts) := se_fldM hN hv hA hd hcd hb hT
theorem tn (i : Nat) (nd : X.N.Nodup) (hi : X.N[i]? = some x := by rfl) (hx : Loc X.env.scope x := by first | exact .inl rfl | exact .inr rfl) (hf : X.fn x = true ∨ X.env.scope.names.lookup x = some .local := by first | exact .inl rfl | exact .inr rfl) : SG X T W (.Name x pos) (gNm i) := sg_name nd hi hx hf
theorem tbn (i : Nat) (nd : X.N.Nodup) (hi : X.N[i]? = some x := by rfl) (hv : i ∈ vs := by decide) (hx : Loc X.env.scope x := by first | exact .inl rfl | exact .inr rfl) (hf : X.fn x = true ∨ X.env.scope.names.lookup x = some .local := by first | exact .inl rfl | exact .inr rfl) : SGb X T vs (.Name x pos) (gNm i) := sgb_name nd hi hv hx hf
theorem xset (i : Nat) (nd : X.N.Nodup) (h : SE X T W e f) (hi : X.N[i]? = some x := by rfl) (hx : Loc X.env.scope x := by first | exact .inl rfl | exact .inr rfl) (hs : swapsWith e (some (.Name x pos')) pos.line X.env = pure false := by rfl)
    (hf : X.fn x = true ∨ X.env.scope.names.lookup x = some .local := by first | exact .inl rfl | exact .inr rfl) : SS X T W (.Assign [.Name x pos'] e pos) (sSet i f) := ss_set nd hi hx h hs hf
theorem xown {fn : Rho → M (List D)} (i : Nat) (nd : X.N.Nodup) (h : SN X T W e fn) (hi : X.N[i]? = some x := by rfl) (hx : Loc X.env.scope x := by first | exact .inl rfl | exact .inr rfl) (hs : swapsWith e (some (.Name x pos')) pos.line X.env = pure false := by rfl)
    (hf : X.fn x = true ∨ X.env.scope.names.lookup x = some .local := by first | exact .inl rfl | exact .inr rfl) : SS X T W (.Assign [.Name x pos'] e pos) (sOwn i fn) := ss_own nd hi hx h hs hf
theorem xretO (i : Nat) (hN : X.N[i]? = some x := by rfl) (hv : Vis X.env.scope x := by first | exact .inl rfl | exact .inr (.inl rfl) | exact .inr (.inr rfl)) (hd : (x == ("__debug__" : Str)) = false := by decide) (hcd : (x == ("__classdict__" : Str)) = false := by decide) : SS X T W (.Return (some (.Name x p)) pos) (sRetO i) := ss_retO hN hv hd hcd
theorem xapp {fl : Rho → M (List D)} (i : Nat) (ha : SA X T W (e :: es) fl) (hN : X.N[i]? = some x := by rfl) (hv : Vis X.env.scope x := by first | exact .inl rfl | exact .inr (.inl rfl) | exact .inr (.inr rfl)) (hs0 : swapsWith (.Call (.Attribute (.Name x p) "append" apos) (e :: es) [] p2) none pos.line X.env = pure false := by rfl)
    (hd : (x == ("__debug__" : Str)) = false := by decide) (hcd : (x == ("__classdict__" : Str)) = false := by decide)
    (hbase : attributeBase (.Name x p) "append" X.env (eval (.Name x p) X.env) = eval (.Name x p) X.env := by rfl)
    (hfew : ((backTo p2 (starEach (e :: es) X.env)).all (fun z => !z.1) && (backToKw p2 (keywordEach [] X.env)).all (fun z => z.1.isSome)
      && decide ((e :: es).length + ([] : List Keyword).length + (if ([] : List Keyword).isEmpty then 0 else 1) < 30)) = true := by rfl)
    (hline : (apos.endLine == p2.line) = true := by rfl) (hs : starEach (e :: es) X.env = (false, eval e X.env) :: starEach es X.env := by rfl) (hplain : (backTo p2 (starEach es X.env)).any (·.1) = false := by rfl) :
    SS X T W (.Expr (.Call (.Attribute (.Name x p) "append" apos) (e :: es) [] p2) pos) (sMut i kApp fl) :=
  ss_mut PySem.F.slot_list_append (by rfl) mt_append ok_app hN hv ha hs0 hd hcd hbase hfew hline hs hplain
theorem xitem (i : Nat) (hi : SB X T W b fi) (hN : X.N[i]? = some x := by rfl) (hv : Vis X.env.scope x := by first | exact .inl rfl | exact .inr (.inl rfl) | exact .inr (.inr rfl)) (hd : (x == ("__debug__" : Str)) = false := by decide) (hcd : (x == ("__classdict__" : Str)) = false := by decide)
    (ha : ∀ v, assign (.Subscript (.Name x p) b pos) X.env v = (do
      let ov ← holding [v] (eval (.Name x p) X.env)
      let iv ← holding [v, ov] (eval b X.env)
      standAt pos
      holding [v, ov, iv] (setItem ov iv v)
      release [v, ov, iv] []) := by intro _; rfl) : SG X T W (.Subscript (.Name x p) b pos) (gItem i fi) := sg_item hN hv hi hd hcd ha
end
end LS

set_option Elab.async false
set_option linter.all false
set_option maxRecDepth 100000
set_option maxHeartbeats 1000000
namespace LS
open PySem L2 PySem.Spec
open PyProof.Rows hiding St
open ClX

/-! ## 30. what printed texts lean on -/
/-- a def with *args in the written part -/
structure FunS (K : PySem.W.Frag) (x qual : Str) (st : Stmt) (f : Addr) : Prop where
  ex : ∃ (oc : Value) (od : Option Addr) (kV doc pm : Value) (an : Option Addr) (cdv ct : Value) (osl : Array (Option Value)),
    K.lookup f = some ⟨oc, od, .func (PySem.W.fnOf x qual (defArgs st) (defBody st) (defScope st) .none kV doc pm an cdv ct), osl⟩ ∧ PySem.W.codeIn K cdv qual = true
/-- a block's names, checked by reckoning -/
def kindIs (a b : NameKind) : Bool := a == b
def blkB (N : List Str) (sc : List (Str × NameKind)) (scope : Scope) (own : List (Str × Nat)) : Bool :=
  scope.names.all (fun y => scope.names.lookup y.1 == some y.2) && own.all (fun p => N[p.2]? == some p.1) &&
  scope.names.all (fun y => !(y.2 == .free) || (sc.lookup y.1 == some .cell || sc.lookup y.1 == some .free)) &&
  scope.names.all (fun y => !(y.2 == .local || y.2 == .cell) || ((own.map (·.1)).contains y.1 || !N.contains y.1))
theorem blk_of {N : List Str} {sc scope : Scope} {own : List (Str × Nat)} (hk : scope.kind = .function) (h : blkB N sc.names scope own = true) : BlkOk N sc scope own := by
  unfold blkB at h
  simp only [Bool.and_eq_true, List.all_eq_true] at h
  obtain ⟨⟨⟨h1, h2⟩, h3⟩, h4⟩ := h
  refine ⟨hk, fun y hy => eq_of_beq (h1 y hy), fun p hp => eq_of_beq (h2 p hp), fun y hy e => ?_, fun y hy e => ?_⟩
  · have z := h3 y hy
    rw [e] at z
    simp only [beq_self_eq_true, Bool.not_true, Bool.false_or, Bool.or_eq_true, beq_iff_eq] at z
    exact z
  · have z := h4 y hy
    have e2 : (y.2 == .local || y.2 == .cell) = true := by
      rcases e with e | e <;> rw [e] <;> rfl
    rw [e2] at z
    simp only [Bool.not_true, Bool.false_or, Bool.or_eq_true, List.contains_eq_mem, decide_eq_true_eq, Bool.not_eq_true', decide_eq_false_iff_not] at z
    exact z
def tCh (g g' : D → D → M D) (fa fb fc : Ev) : Rho → M Bool := fun ρ => bd (tChB g g' fa fb fc ρ) blOf
def aSt (f : Ev) (fl : Rho → M (List D)) : Rho → M (List D) := fun ρ => bd (f ρ) fun d => bd (itsM d) fun ds => bd (fl ρ) fun es => ret (ds ++ es)
section
variable {X : Cx} {T : Tb} {W : WX} {e a b c o tg : Expr} {f fa fb fi : Ev} {pos p2 p apos pos' kpos px py pt pt2 : Pos} {es ts : List Expr} {x y fn : Str} {G : Gh} {H : Hp} {S : Sto} {st : Stmt} {s : Sx} {vs : List Nat}
theorem xattr (i : Nat) (alts : List (Nat × Nat)) (he : SE X T W e f) (hA : ∀ q ∈ alts, CF T q.1 fn q.2) (hN : X.N[i]? = some x := by rfl) (hv : Vis X.env.scope x := by first | exact .inl rfl | exact .inr (.inl rfl) | exact .inr (.inr rfl)) (hs : swapsWith e (some (.Attribute (.Name x p) fn pos')) pos.line X.env = pure false := by rfl)
    (hd : (x == ("__debug__" : Str)) = false := by decide) (hcd : (x == ("__classdict__" : Str)) = false := by decide) (hT : T.K = X.K := by rfl) : SS X T W (.Assign [.Attribute (.Name x p) fn pos'] e pos) (sAttr i alts f) := ss_attr (pt := pos) hN hv he hA hs hd hcd hT
theorem xpar {fl : Rho → M (List D)} {kt k2 : Nat} (i j : Nat) (nd : X.N.Nodup) (ha : SA X T W [a, b] fl) (hc : X.calm = true := by rfl) (hi : X.N[i]? = some x := by rfl) (hj : X.N[j]? = some y := by rfl) (hij : i ≠ j := by decide)
    (hx : X.env.scope.names.lookup x = some .local := by rfl) (hy : X.env.scope.names.lookup y = some .local := by rfl)
    (hw : swappedStores [.Tuple [.Name x px, .Name y py] kt pt] (.Tuple [a, b] k2 pt2) X.env = pure (some [x, y]) := by rfl)
    (hs : swapsWithSole [.Tuple [.Name x px, .Name y py] kt pt] (.Tuple [a, b] k2 pt2) pos.line X.env = pure false := by rfl) : SS X T W (.Assign [.Tuple [.Name x px, .Name y py] kt pt] (.Tuple [a, b] k2 pt2) pos) (sPar i j fl) := ss_par hc nd hi hj hij hx hy ha hw hs
end
end LS

set_option Elab.async false
set_option linter.all false
set_option maxRecDepth 100000
set_option maxHeartbeats 1000000
namespace LS
open PySem L2 PySem.Spec
open PyProof.Rows hiding St
open ClX

section
variable {X : Cx} {T : Tb} {W : WX} {a b c : Expr} {pos : Pos} {t ta tb : Rho → M Bool} {fa fb : Ev}
theorem se_sindex {apos : Pos} (ha : SB X T W a fa) (hb : SB X T W b fb) (hs : starEach [b] X.env = [(false, eval b X.env)] := by rfl) (hbase : attributeBase a "index" X.env (eval a X.env) = eval a X.env := by rfl) (hline : (apos.endLine == pos.line) = true := by rfl) :
    SE X T W (.Call (.Attribute a "index" apos) [b] [] pos) (m2 sindexD fa fb) := ⟨pe_imp (pe_m1 PySem.F.slot_str_index (by rfl) mt_sindex ha.pe hb.pe hs hbase hline) (tM1_of (X := X) (ok_sindex (X := X)))⟩
/-- a test by cases -/
def tIf (t ta tb : Rho → M Bool) : Rho → M Bool := fun ρ => bd (t ρ) fun k => if k = true then ta ρ else tb ρ
theorem st_ifx (h : ST X T W c t) (ha : ST X T W a ta) (hb : ST X T W b tb) : ST X T W (.IfExp c a b pos) (tIf t ta tb) := by
  refine ⟨⟨fun pins s σ H Q I q => ?_⟩⟩
  obtain ⟨ρ, G, S, ag, wf, o⟩ := q
  have q1 : tX T W rEq t σ H (fun k H1 => if k = true then tX T W rEq ta σ H1 Q else tX T W rEq tb σ H1 Q) := ⟨ρ, G, S, ag, wf, Out.bind (show Out T W σ G H rEq Q (bd (t ρ) (fun k => if k = true then ta ρ else tb ρ) S) from o) fun k S1 G1 H1 v k1 w1 i1 o1 => by
    cases i1
    cases k with
    | true => exact ⟨ρ, G1, S1, ag.keep wf k1, w1, o1⟩
    | false => exact ⟨ρ, G1, S1, ag.keep wf k1, w1, o1⟩⟩
  refine isTrue_IfExp (thn (h.pt.run pins s σ H _ I q1) fun k s1 ⟨H1, I1, q2⟩ => ?_)
  cases k with
  | true => exact ha.pt.run pins s1 σ H1 Q I1 q2
  | false => exact hb.pt.run pins s1 σ H1 Q I1 q2
end
section
variable {X : Cx} {T : Tb} {W : WX} {e : Expr} {es : List Expr} {p pos : Pos} {x : Str} {kws : List Keyword} {fl fk : Rho → M (List D)} {g : List D → M D} {n k m np : Nat} {ps ks : List Str} {pi : List Nat} {fd : FuncData} {ff : Addr} {gb : Bool}
theorem xkw (F : FnG gb X.prog X.w X.K X.mg X.base k ff fd ps (spOf T np g)) (hr : RoomG gb k X.A) (hg : Gl X x) (hm : X.mg x = some (.ref ff)) (hk : PySem.W.keepIn X.K (.ref ff) = true) (hb : KwB X.K fd ps n ks pi) (tks : Takes X W)
    (ha : SA X T W (e :: es) fl) (hkw : SK X T W kws fk) (hmk : ks.length = m := by rfl) (hall : (backToKw pos (keywordEach kws X.env)).all (·.1.isSome) = true := by rfl) (hks : (backToKw pos (keywordEach kws X.env)).filterMap (·.1) = ks := by rfl)
    (hdb : (x == ("__debug__" : Str)) = false := by decide) (he : starEach (e :: es) X.env = (false, eval e X.env) :: starEach es X.env := by rfl)
    (hpl : ((backTo pos (starEach (e :: es) X.env)).any (·.1) || (backToKw pos (keywordEach kws X.env)).any (·.1.isNone)) = false := by rfl) :
    SE X T W (.Call (.Name x p) (e :: es) kws pos) (eKw n m pi np g fl fk) := by
  subst hmk
  exact se_kw F hr hg hm hk hb tks ha hkw hall hks hdb he hpl
theorem xkw0 (F : FnG gb X.prog X.w X.K X.mg X.base k ff fd ps (spOf T np g)) (hr : RoomG gb k X.A) (hg : Gl X x) (hm : X.mg x = some (.ref ff)) (hk : PySem.W.keepIn X.K (.ref ff) = true) (hb : KwB X.K fd ps 0 ks pi) (tks : Takes X W)
    (hkw : SK X T W kws fk) (hmk : ks.length = m := by rfl) (hall : (backToKw pos (keywordEach kws X.env)).all (·.1.isSome) = true := by rfl) (hks : (backToKw pos (keywordEach kws X.env)).filterMap (·.1) = ks := by rfl)
    (hdb : (x == ("__debug__" : Str)) = false := by decide)
    (hpl : ((backTo pos (starEach [] X.env)).any (·.1) || (backToKw pos (keywordEach kws X.env)).any (·.1.isNone)) = false := by rfl) :
    SE X T W (.Call (.Name x p) [] kws pos) (eKw 0 m pi np g aNil fk) := by
  subst hmk
  exact se_kw0 F hr hg hm hk hb tks hkw hall hks hdb hpl
end
/-! ## 31. a, b = e1, e2 with lists of one's own among them -/
def SlL (T : Tb) (G : Gh) (H : Hp) : List Sl → List V → Prop
  | [], vs => vs = []
  | s :: ss, vs => ∃ x r, vs = x :: r ∧ SlIs T G H s x ∧ SlL T G H ss r
/-- values and new lists; b: how many are known already (they are told apart from the new ones) -/
def tSX (T : Tb) (W : WX) (f : Rho → M (List Sl)) : TA := fun σ H Q => ∃ ρ G S, Ag T G H σ ρ ∧ Wf T G H S ∧
  match f ρ S with
  | .ok ss S' => ∀ G' H' vs, Kp G H G' H' → Wf T G' H' S' → SlL T G' H' ss vs → (∀ s ∈ ss, ∀ c fs, s ≠ .mak c fs) → (∀ (i : Nat) (s : Sl) (a : Addr), ss[i]? = some s → s.mine = true → vs[i]? = some (.ref a) → H a = none) →
      (∀ (i j : Nat) (s t : Sl) (v : V), i ≠ j → ss[i]? = some s → ss[j]? = some t → s.mine = true → t.mine = true → vs[i]? = some v → vs[j]? ≠ some v) → Q vs H'
  | .exc c fs S' => ∀ G' H' cls dx, Kp G H G' H' → Wf T G' H' S' → IsX T G' H' c fs cls dx → W cls dx σ H'
  | .div => False
structure SX (X : Cx) (T : Tb) (W : WX) (es : List Expr) (f : Rho → M (List Sl)) : Prop where
  pa : PA X es (tSX T W f)
def xNil : Rho → M (List Sl) := fun _ => ret []
def xV (f : Ev) (g : Rho → M (List Sl)) : Rho → M (List Sl) := fun ρ => bd (f ρ) fun d => bd (g ρ) fun ss => ret (.val d :: ss)
def xN (f : Rho → M (List D)) (g : Rho → M (List Sl)) : Rho → M (List Sl) := fun ρ => bd (f ρ) fun ds => bd (g ρ) fun ss => ret (.own ds :: ss)
section
variable {X : Cx} {T : Tb} {W : WX} {e a b c o tg : Expr} {f fa fb fi : Ev} {pos p2 p apos pos' kpos px py pz pt pt2 : Pos} {es ts : List Expr} {x y z fn : Str} {G G' : Gh} {H H' : Hp} {S S' : Sto} {st : Stmt} {s : Sx} {g : Rho → M (List Sl)} {fnn : Rho → M (List D)} {i j l : Nat}
theorem sx_nil : SX X T W [] xNil := ⟨pa_imp pa_nil fun σ H Q ⟨ρ, G, S, ag, wf, o⟩ => o G H [] (.refl _ _) wf rfl (fun _ h => nomatch h) (fun _ _ _ h => by simp at h) fun _ _ _ _ _ _ h => by simp at h⟩
theorem sx_v (h : SE X T W e f) (k : SX X T W es g) (hs : starEach (e :: es) X.env = (false, eval e X.env) :: starEach es X.env := by rfl) : SX X T W (e :: es) (xV f g) := by
  refine ⟨pa_imp (pa_cons h.pe k.pa hs) fun σ H Q ⟨ρ, G, S, ag, wf, o⟩ => ⟨ρ, G, S, ag, wf, ?_⟩⟩
  unfold xV bd at o
  cases q : f ρ S with
  | div => rw [q] at o; exact o
  | exc c fs S' => rw [q] at o; exact o
  | ok d S1 =>
    rw [q] at o
    dsimp only at o
    intro G1 H1 v k1 w1 i1
    refine ⟨ρ, G1, S1, ag.keep wf k1, w1, ?_⟩
    cases q2 : g ρ S1 with
    | div => rw [q2] at o; exact o
    | exc c fs S' => rw [q2] at o; exact fun G' H' cls dx k w r => o G' H' cls dx (k1.trans k) w r
    | ok ss S2 =>
      rw [q2] at o
      intro G2 H2 vs k2 w2 r2 nm2 fr2 ap2
      refine o G2 H2 (v :: vs) (k1.trans k2) w2 ⟨v, vs, rfl, (w1.lean k2).is i1, r2⟩ (fun s hs c fs e => ?_) (fun i s a h1 h2 h3 => ?_) fun i j s t u n h1 h2 m1 m2 h3 => ?_
      · rcases List.mem_cons.mp hs with rfl | hs
        · cases e
        · exact nm2 s hs c fs e
      · cases i with
        | zero => cases h1; cases h2
        | succ i => exact k1.none (fr2 i s a h1 h2 h3)
      · cases i with
        | zero => cases h1; cases m1
        | succ i =>
          cases j with
          | zero => cases h2; cases m2
          | succ j => exact ap2 i j s t u (fun e => n (congrArg Nat.succ e)) h1 h2 m1 m2 h3
theorem sx_n (h : SN X T W e fnn) (k : SX X T W es g) (hs : starEach (e :: es) X.env = (false, eval e X.env) :: starEach es X.env := by rfl) : SX X T W (e :: es) (xN fnn g) := by
  refine ⟨pa_imp (pa_cons h.pe k.pa hs) fun σ H Q ⟨ρ, G, S, ag, wf, o⟩ => ⟨ρ, G, S, ag, wf, ?_⟩⟩
  unfold xN bd at o
  cases q : fnn ρ S with
  | div => rw [q] at o; exact o
  | exc c fs S' => rw [q] at o; exact o
  | ok ds S1 =>
    rw [q] at o
    dsimp only at o
    intro G1 H1 b k1 w1 n1 nf nm hx
    refine ⟨ρ, G1, S1, ag.keep wf k1, w1, ?_⟩
    cases q2 : g ρ S1 with
    | div => rw [q2] at o; exact o
    | exc c fs S' => rw [q2] at o; exact fun G' H' cls dx k w r => o G' H' cls dx (k1.trans k) w r
    | ok ss S2 =>
      rw [q2] at o
      intro G2 H2 vs k2 w2 r2 nm2 fr2 ap2
      obtain ⟨xs, hx, hr⟩ := hx
      obtain ⟨u1, u2, u3⟩ := k2.far nf nm hx (fun _ z => nomatch z)
      refine o G2 H2 (.ref b :: vs) (k1.trans k2) w2 ⟨.ref b, vs, rfl, ⟨b, xs, rfl, u1, u2, u3, (w1.lean k2).isL hr⟩, r2⟩ (fun s hs c fs e => ?_) (fun i s a h1 h2 h3 => ?_) fun i j s t u n h1 h2 m1 m2 h3 h4 => ?_
      · rcases List.mem_cons.mp hs with rfl | hs
        · cases e
        · exact nm2 s hs c fs e
      · cases i with
        | zero => cases h3; exact n1
        | succ i => exact k1.none (fr2 i s a h1 h2 h3)
      · have hb : H1 b ≠ none := by rw [hx]; exact nofun
        have far : ∀ (i : Nat) (s : Sl), ss[i]? = some s → s.mine = true → vs[i]? ≠ some (.ref b) := fun i s h1 h2 h3 => hb (fr2 i s b h1 h2 h3)
        cases i with
        | zero =>
          cases h3
          cases j with
          | zero => exact n rfl
          | succ j => exact far j t h2 m2 h4
        | succ i =>
          cases j with
          | zero => cases h4; exact far i s h1 m1 h3
          | succ j => exact ap2 i j s t u (fun e => n (congrArg Nat.succ e)) h1 h2 m1 m2 h3 h4
/-- one slot is stored anew -/
theorem StAg.setS {G0 : Bs} {σ : St} {ρ : Rho} {sl : Sl} {v : V} (g : StAg X T G0 G H σ ρ) (h : i < ρ.length) (r : SlIs T G H sl v) (nm : ∀ c fs, sl ≠ .mak c fs) (n0 : ∀ a, sl.mine = true → v = .ref a → G0.h a = none)
    (ap : sl.mine = true → ∀ (j : Nat) (s : Sl), j ≠ i → ρ[j]? = some (some s) → s.mine = true → σ[j]? ≠ some (some v)) : StAg X T G0 G H (σ.set i (some v)) (ρ.set i (some sl)) := by
  have hσ : i < σ.length := by rw [g.ag.len]; exact h
  refine ⟨⟨by simp [g.ag.len], fun j s' e => ?_, fun j k s t w ne e1 e2 m1 m2 z => ?_⟩, g.kp, fun j s a e m z => ?_⟩
  · rw [rho_get h] at e
    rw [rho_get hσ]
    by_cases q : j = i
    · rw [if_pos q] at e ⊢
      cases e
      exact ⟨_, rfl, r⟩
    · rw [if_neg q] at e ⊢
      exact g.ag.get j s' e
  · rw [rho_get h] at e1 e2
    rw [rho_get hσ] at z ⊢
    by_cases q1 : j = i
    · rw [if_pos q1] at z e1
      cases z
      cases e1
      rw [if_neg (fun q2 => ne (q1.trans q2.symm))] at e2 ⊢
      exact ap m1 k t (fun q2 => ne (q1.trans q2.symm)) e2 m2
    · rw [if_neg q1] at e1 z
      by_cases q2 : k = i
      · rw [if_pos q2] at e2 ⊢
        cases e2
        intro w'
        cases w'
        exact ap m2 j s q1 e1 m1 z
      · rw [if_neg q2] at e2 ⊢
        exact g.ag.ap j k s t w ne e1 e2 m1 m2 z
  · rw [rho_get h] at e
    rw [rho_get hσ] at z
    by_cases q : j = i
    · rw [if_pos q] at e z
      cases e
      cases z
      exact ⟨n0 a m rfl, fun c fs e => absurd e (nm c fs)⟩
    · rw [if_neg q] at e z
      exact g.own j s a e m z
/-- an old slot's thing is not a new one -/
theorem old_ne {σ : St} {ρ : Rho} {b : Addr} (g : Ag T G H σ ρ) (n : H b = none) (q : ρ[j]? = some (some sl)) (m : sl.mine = true) : σ[j]? ≠ some (some (.ref b)) := fun z => by
  obtain ⟨v, h1, h2⟩ := g.get j sl q
  rw [z] at h1
  cases h1
  cases sl with
  | val d => cases m
  | own ds => obtain ⟨a', xs, e', _, _, h, _⟩ := h2; cases e'; rw [n] at h; cases h
  | mak c fs => obtain ⟨a', dx, xs, e', _, _, h, _⟩ := h2; cases e'; rw [n] at h; cases h
def sPX2 (i j : Nat) (g : Rho → M (List Sl)) : Sx := fun ρ => bd (g ρ) fun ss => match ss with
  | [s, t] => if i < ρ.length ∧ j < ρ.length then ret (.nx ((ρ.set i (some s)).set j (some t))) else dv
  | _ => dv
def sPX3 (i j l : Nat) (g : Rho → M (List Sl)) : Sx := fun ρ => bd (g ρ) fun ss => match ss with
  | [s, t, u] => if i < ρ.length ∧ j < ρ.length ∧ l < ρ.length then ret (.nx (((ρ.set i (some s)).set j (some t)).set l (some u))) else dv
  | _ => dv
theorem mine_ref {s : Sl} {v : V} (h : SlIs T G H s v) (m : s.mine = true) : ∃ b, v = .ref b := by
  cases s with
  | val d => cases m
  | own ds => obtain ⟨a, xs, e, _⟩ := h; exact ⟨a, e⟩
  | mak c fs => obtain ⟨a, dx, xs, e, _⟩ := h; exact ⟨a, e⟩
theorem ss_px2 {kt k2 : Nat} (hc : X.calm = true) (hN : X.N.Nodup) (hi : X.N[i]? = some x) (hj : X.N[j]? = some y) (hij : i ≠ j)
    (hx : X.env.scope.names.lookup x = some .local) (hy : X.env.scope.names.lookup y = some .local) (ha : SX X T W [a, b] g)
    (hw : swappedStores [.Tuple [.Name x px, .Name y py] kt pt] (.Tuple [a, b] k2 pt2) X.env = pure (some [x, y]))
    (hs : swapsWithSole [.Tuple [.Name x px, .Name y py] kt pt] (.Tuple [a, b] k2 pt2) pos.line X.env = pure false) : SS X T W (.Assign [.Tuple [.Name x px, .Name y py] kt pt] (.Tuple [a, b] k2 pt2) pos) (sPX2 i j g) := by
  refine ⟨ps_imp (ps_par hc hN hi hj hij hx hy ha.pa hw hs) fun E σ H ⟨ρ, G0, G, S, ag, wf, o⟩ => ⟨ρ, G, S, ag.ag, wf, ?_⟩⟩
  unfold sPX2 bd at o
  cases q : g ρ S with
  | div => rw [q] at o; exact o
  | exc c fs S' =>
    rw [q] at o
    exact fun G' H' cls dx k w r => o σ G' H' cls dx (ag.kp.trans k) w r
  | ok ss S' =>
    rw [q] at o
    intro G' H' vs k w r nm fr ap
    match ss, r, o with
    | [], _, o => exact o.elim
    | [_], _, o => exact o.elim
    | _ :: _ :: _ :: _, _, o => exact o.elim
    | [s, t], r, o =>
      obtain ⟨v1, r1, rfl, i1, v2, r2, rfl, i2, rfl⟩ := r
      dsimp only at o
      by_cases c : i < ρ.length ∧ j < ρ.length
      · rw [if_pos c] at o
        have ag' := ag.keep wf k
        have fresh : ∀ (n : Nat) (u : Sl) (b : Addr), [s, t][n]? = some u → u.mine = true → [v1, v2][n]? = some (.ref b) → H b = none := fr
        have a1 : StAg X T G0 G' H' (σ.set i (some v1)) (ρ.set i (some s)) := ag'.setS c.1 i1 (fun c fs => nm s (by simp) c fs) (fun b m e => ag.kp.none (fresh 0 s b rfl m (by rw [e]; rfl))) fun m n u _ q mu => by
          obtain ⟨b, rfl⟩ := mine_ref i1 m
          exact old_ne ag.ag (fresh 0 s b rfl m rfl) q mu
        refine ⟨v1, v2, rfl, o _ G' H' (a1.setS (by rw [List.length_set]; exact c.2) i2 (fun c fs => nm t (by simp) c fs) (fun b m e => ag.kp.none (fresh 1 t b rfl m (by rw [e]; rfl))) fun m n u nj q mu => ?_) w (wf.lean k)⟩
        obtain ⟨b, rfl⟩ := mine_ref i2 m
        rw [rho_get c.1] at q
        rw [rho_get (by rw [ag.ag.len]; exact c.1)]
        by_cases e : n = i
        · rw [if_pos e] at q ⊢
          cases q
          exact fun z => ap 0 1 s t v1 (by decide) rfl rfl mu m rfl (by rw [Option.some.inj z]; rfl)
        · rw [if_neg e] at q ⊢
          exact old_ne ag.ag (fresh 1 t b rfl m rfl) q mu
      · rw [if_neg c] at o; exact o.elim
theorem ss_px3 {kt k2 : Nat} (hc : X.calm = true) (hN : X.N.Nodup) (hi : X.N[i]? = some x) (hj : X.N[j]? = some y) (hl : X.N[l]? = some z) (hij : i ≠ j) (hil : i ≠ l) (hjl : j ≠ l)
    (hx : X.env.scope.names.lookup x = some .local) (hy : X.env.scope.names.lookup y = some .local) (hz : X.env.scope.names.lookup z = some .local) (ha : SX X T W [a, b, c] g)
    (hw : swappedStores [.Tuple [.Name x px, .Name y py, .Name z pz] kt pt] (.Tuple [a, b, c] k2 pt2) X.env = pure (some [x, y, z]))
    (hs : swapsWithSole [.Tuple [.Name x px, .Name y py, .Name z pz] kt pt] (.Tuple [a, b, c] k2 pt2) pos.line X.env = pure false) : SS X T W (.Assign [.Tuple [.Name x px, .Name y py, .Name z pz] kt pt] (.Tuple [a, b, c] k2 pt2) pos) (sPX3 i j l g) := by
  refine ⟨ps_imp (ps_par3 hc hN hi hj hl hij hil hjl hx hy hz ha.pa hw hs) fun E σ H ⟨ρ, G0, G, S, ag, wf, o⟩ => ⟨ρ, G, S, ag.ag, wf, ?_⟩⟩
  unfold sPX3 bd at o
  cases q : g ρ S with
  | div => rw [q] at o; exact o
  | exc c fs S' =>
    rw [q] at o
    exact fun G' H' cls dx k w r => o σ G' H' cls dx (ag.kp.trans k) w r
  | ok ss S' =>
    rw [q] at o
    intro G' H' vs k w r nm fr ap
    match ss, r, o with
    | [], _, o => exact o.elim
    | [_], _, o => exact o.elim
    | [_, _], _, o => exact o.elim
    | _ :: _ :: _ :: _ :: _, _, o => exact o.elim
    | [s, t, u], r, o =>
      obtain ⟨v1, r1, rfl, i1, v2, r2, rfl, i2, v3, r3, rfl, i3, rfl⟩ := r
      dsimp only at o
      by_cases cc : i < ρ.length ∧ j < ρ.length ∧ l < ρ.length
      · rw [if_pos cc] at o
        have ag' := ag.keep wf k
        have fresh : ∀ (n : Nat) (w : Sl) (b : Addr), [s, t, u][n]? = some w → w.mine = true → [v1, v2, v3][n]? = some (.ref b) → H b = none := fr
        have a1 : StAg X T G0 G' H' (σ.set i (some v1)) (ρ.set i (some s)) := ag'.setS cc.1 i1 (fun c fs => nm s (by simp) c fs) (fun b m e => ag.kp.none (fresh 0 s b rfl m (by rw [e]; rfl))) fun m n w _ q mu => by
          obtain ⟨b, rfl⟩ := mine_ref i1 m
          exact old_ne ag.ag (fresh 0 s b rfl m rfl) q mu
        have hσi : i < σ.length := by rw [ag.ag.len]; exact cc.1
        have a2 : StAg X T G0 G' H' ((σ.set i (some v1)).set j (some v2)) ((ρ.set i (some s)).set j (some t)) := a1.setS (by rw [List.length_set]; exact cc.2.1) i2 (fun c fs => nm t (by simp) c fs) (fun b m e => ag.kp.none (fresh 1 t b rfl m (by rw [e]; rfl))) fun m n w nj q mu => by
          obtain ⟨b, rfl⟩ := mine_ref i2 m
          rw [rho_get cc.1] at q
          rw [rho_get hσi]
          by_cases e : n = i
          · rw [if_pos e] at q ⊢
            cases q
            exact fun z => ap 0 1 s t v1 (by decide) rfl rfl mu m rfl (by rw [Option.some.inj z]; rfl)
          · rw [if_neg e] at q ⊢
            exact old_ne ag.ag (fresh 1 t b rfl m rfl) q mu
        refine ⟨v1, v2, v3, rfl, o _ G' H' (a2.setS (by rw [List.length_set, List.length_set]; exact cc.2.2) i3 (fun c fs => nm u (by simp) c fs) (fun b m e => ag.kp.none (fresh 2 u b rfl m (by rw [e]; rfl))) fun m n w nj q mu => ?_) w (wf.lean k)⟩
        obtain ⟨b, rfl⟩ := mine_ref i3 m
        have l1 : j < (ρ.set i (some s)).length := by rw [List.length_set]; exact cc.2.1
        have l2 : j < (σ.set i (some v1)).length := by rw [List.length_set, ag.ag.len]; exact cc.2.1
        rw [rho_get l1] at q
        rw [rho_get l2]
        by_cases e : n = j
        · rw [if_pos e] at q ⊢
          cases q
          exact fun z => ap 1 2 t u v2 (by decide) rfl rfl mu m rfl (by rw [Option.some.inj z]; rfl)
        · rw [if_neg e] at q ⊢
          rw [rho_get cc.1] at q
          rw [rho_get hσi]
          by_cases e : n = i
          · rw [if_pos e] at q ⊢
            cases q
            exact fun z => ap 0 2 s u v1 (by decide) rfl rfl mu m rfl (by rw [Option.some.inj z]; rfl)
          · rw [if_neg e] at q ⊢
            exact old_ne ag.ag (fresh 2 u b rfl m rfl) q mu
      · rw [if_neg cc] at o; exact o.elim
theorem xownLc {fl : Rho → M (List D)} {gg : D → Rho → M Rho} {ft : Rho → M Bool} {fe : Ev} {elt tg iter : Expr} {ifs : List Expr} {scope : Scope} {own : List (Str × Nat)} {py spos : Pos} (i : Nat) (hN : X.N.Nodup) (hi : SI X T W false tg iter fl) (ok : BlkOk X.N X.env.scope scope own)
    (hg : ∀ (s : Shared) (H : Hp) (C : Addr) (cl : List (Str × Addr)) (fp : List Addr), SGb (X.blk s H scope (compEnvC scope cl C X.env) fp) T (own.map (·.2)) tg gg)
    (ht : ∀ (s : Shared) (H : Hp) (C : Addr) (cl : List (Str × Addr)) (fp : List Addr), STs (X.blk s H scope (compEnvC scope cl C X.env) fp) T WF ifs ft)
    (he : ∀ (s : Shared) (H : Hp) (C : Addr) (cl : List (Str × Addr)) (fp : List Addr), SE (X.blk s H scope (compEnvC scope cl C X.env) fp) T WF elt fe)
    (hc : X.calm = true := by rfl) (hx : X.N[i]? = some x := by rfl) (hk : X.env.scope.kind = .function := by rfl) (hxl : X.env.scope.names.lookup x = some .local := by rfl) (hl : (py.line == pos.line) = true := by rfl) (ha : (scope.names.any fun (n, k) => n == x && (k == .local || k == .cell)) = false := by rfl)
    (hs : ∀ x, foldedSetIterable iter X.env x = pure x := by intro _; rfl) (hp : spos.line = pos.line := by rfl) : SS X T W (.Assign [.Name x py] (.ListComp elt [⟨tg, iter, ifs, 0⟩] scope pos) spos) (sOwn i (lcN fl gg ft fe (own.map (·.2)))) :=
  ss_ownLc hc hN hx hxl (sw_true hk hxl hl ha) hi ok hg ht he hs
theorem xsetLc {fl : Rho → M (List D)} {gg : D → Rho → M Rho} {ft : Rho → M Bool} {fe : Ev} {elt tg iter : Expr} {ifs : List Expr} {scope : Scope} {own : List (Str × Nat)} {py spos : Pos} (i : Nat) (hN : X.N.Nodup) (hi : SI X T W false tg iter fl) (ok : BlkOk X.N X.env.scope scope own)
    (hg : ∀ (s : Shared) (H : Hp) (C : Addr) (cl : List (Str × Addr)) (fp : List Addr), SGb (X.blk s H scope (compEnvC scope cl C X.env) fp) T (own.map (·.2)) tg gg)
    (ht : ∀ (s : Shared) (H : Hp) (C : Addr) (cl : List (Str × Addr)) (fp : List Addr), STs (X.blk s H scope (compEnvC scope cl C X.env) fp) T WF ifs ft)
    (he : ∀ (s : Shared) (H : Hp) (C : Addr) (cl : List (Str × Addr)) (fp : List Addr), SE (X.blk s H scope (compEnvC scope cl C X.env) fp) T WF elt fe)
    (hc : X.calm = true := by rfl) (hx : X.N[i]? = some x := by rfl) (hk : X.env.scope.kind = .function := by rfl) (hxl : X.env.scope.names.lookup x = some .local := by rfl) (hl : (py.line == pos.line) = true := by rfl) (ha : (scope.names.any fun (n, k) => n == x && (k == .local || k == .cell)) = false := by rfl)
    (hs : ∀ x, foldedSetIterable iter X.env x = pure x := by intro _; rfl) : SS X T W (.Assign [.Name x py] (.ListComp elt [⟨tg, iter, ifs, 0⟩] scope pos) spos) (sSet i (eN (lcN fl gg ft fe (own.map (·.2))))) :=
  ss_setLc hc hN hx hxl (sw_true hk hxl hl ha) hi ok hg ht he hs
theorem xpx2 {kt k2 : Nat} (i j : Nat) (nd : X.N.Nodup) (ha : SX X T W [a, b] g) (hc : X.calm = true := by rfl) (hi : X.N[i]? = some x := by rfl) (hj : X.N[j]? = some y := by rfl) (hij : i ≠ j := by decide)
    (hx : X.env.scope.names.lookup x = some .local := by rfl) (hy : X.env.scope.names.lookup y = some .local := by rfl)
    (hw : swappedStores [.Tuple [.Name x px, .Name y py] kt pt] (.Tuple [a, b] k2 pt2) X.env = pure (some [x, y]) := by rfl)
    (hs : swapsWithSole [.Tuple [.Name x px, .Name y py] kt pt] (.Tuple [a, b] k2 pt2) pos.line X.env = pure false := by rfl) : SS X T W (.Assign [.Tuple [.Name x px, .Name y py] kt pt] (.Tuple [a, b] k2 pt2) pos) (sPX2 i j g) := ss_px2 hc nd hi hj hij hx hy ha hw hs
theorem xpx3 {kt k2 : Nat} (i j l : Nat) (nd : X.N.Nodup) (ha : SX X T W [a, b, c] g) (hc : X.calm = true := by rfl) (hi : X.N[i]? = some x := by rfl) (hj : X.N[j]? = some y := by rfl) (hl : X.N[l]? = some z := by rfl) (hij : i ≠ j := by decide) (hil : i ≠ l := by decide) (hjl : j ≠ l := by decide)
    (hx : X.env.scope.names.lookup x = some .local := by rfl) (hy : X.env.scope.names.lookup y = some .local := by rfl) (hz : X.env.scope.names.lookup z = some .local := by rfl)
    (hw : swappedStores [.Tuple [.Name x px, .Name y py, .Name z pz] kt pt] (.Tuple [a, b, c] k2 pt2) X.env = pure (some [x, y, z]) := by rfl)
    (hs : swapsWithSole [.Tuple [.Name x px, .Name y py, .Name z pz] kt pt] (.Tuple [a, b, c] k2 pt2) pos.line X.env = pure false := by rfl) : SS X T W (.Assign [.Tuple [.Name x px, .Name y py, .Name z pz] kt pt] (.Tuple [a, b, c] k2 pt2) pos) (sPX3 i j l g) := ss_px3 hc nd hi hj hl hij hil hjl hx hy hz ha hw hs
end
end LS

set_option Elab.async false
set_option linter.all false
set_option maxRecDepth 100000
set_option maxHeartbeats 1000000
namespace LS
open PySem L2 PySem.Spec
open PyProof.Rows hiding St
open ClX

/-! ## 32. the law's own call -/
theorem room_caller : callerA.guards = some [] := by rfl
section
variable {T : Tb} {G : Gh} {H : Hp}
theorem isL_ints : ∀ zs : List Int, IsL T G H (zs.map D.int) (zs.map V.int)
  | [] => IsL.nil
  | z :: zs => IsL.cons (by unfold Is; rfl) (isL_ints zs)
end
/-- the script's tracked heap -/
def hpOf (K : PySem.W.Frag) (p : Addr) (o : Obj) (zs : List V) : Hp := fun b => if b = p ∧ K.lookup p = Option.none then some (.frz o (.lst zs)) else Option.none
theorem hpOf_some {K : PySem.W.Frag} {p b : Addr} {o : Obj} {zs : List V} {u : HO} (h : hpOf K p o zs b = some u) : b = p ∧ K.lookup p = Option.none ∧ u = .frz o (.lst zs) := by
  unfold hpOf at h
  by_cases c : b = p ∧ K.lookup p = Option.none
  · rw [if_pos c] at h; cases h; exact ⟨c.1, c.2, rfl⟩
  · rw [if_neg c] at h; cases h
theorem law_ls {P : Program} {w : World} {K : PySem.W.Frag} {mg mb : Str → Option Value} {T : Tb} {k : Nat} {fa p : Addr} {fd : FuncData} {x : Str} {f : List D → M D} {st : Shared} {us : List Value} {zs : List Int} {Se : Sto}
    (inK : K.In st.heap) (nsG : st.heap.Ns mainGlobals mg) (nsB : st.heap.Ns builtinsNs mb) (bt : ∀ x : Str, x ≠ "__name__" → mb x = bootBuiltins x) (lim : st.heap.NoLimit) (gens : st.gens = #[])
    (hp : st.heap.get? p = some { cls := .type "list", data := .seq us.toArray }) (iu : IntsAre us zs) (small : zs.length ≤ sizeLine) (room : RoomG true k callerA) (hT : T.K = K)
    (F : ∀ base : Heap, K.In base → base.Ns mainGlobals mg → FnG true P w K mg base k fa fd [x] (spOf T 1 f)) (bind : ∀ (s : Shared) (u : Value), BindsTo s fd ⟨[u], []⟩ [(x, u)])
    (plain : f [.scr (zs.map .int)] [] = .ok (.bl true) Se) :
    codeAny (model P w) callerA (.call (.ref fa) ⟨[.ref p], []⟩) (fun r s' => r = .ok (.ret (.bool true)) ∧ OldK st.heap s'.heap ∧ s'.os = st.os ∧ AllBare s'.gens) st := by
  have vu := vals_ints iu
  have lu := iu.length
  let o : Obj := { cls := .type "list", data := .seq us.toArray }
  let Hs : Hp := hpOf K p o (zs.map V.int)
  have only : ∀ b u, Hs b = some u → b = p ∧ K.lookup p = Option.none ∧ u = .frz o (.lst (zs.map V.int)) := fun b u h => hpOf_some h
  have ok : HOk P w Hs st.heap := fun b u h => by
    obtain ⟨rfl, _, rfl⟩ := only b u h
    exact ⟨hp, by rw [List.length_map]; exact small, us, _, vu, hp⟩
  have stays : ∀ {b : Addr} {ob : Obj}, st.heap.get? b = some ob → Hs b = Option.none → (hidT st.heap Hs).get? b = some ob := fun e n => hidT_get e n
  have dictN : ∀ {b : Addr} {ob : Obj} {es : Array DictEntry} {ep : Nat}, st.heap.get? b = some ob → ob.data = .dict es ep → Hs b = Option.none := fun {b ob es ep} e d => by
    cases q : Hs b with
    | none => rfl
    | some u =>
      obtain ⟨rfl, _⟩ := only b u q
      rw [hp] at e
      cases e
      exact nomatch (show Data.seq us.toArray _ = Data.dict es ep from d)
  have nsOf : ∀ {b : Addr} {m : Str → Option Value}, st.heap.Ns b m → (hidT st.heap Hs).Ns b m := fun {b m} z => by
    obtain ⟨ob, es, ep, e, d, r⟩ := z
    exact ⟨ob, es, ep, stays e (dictN e d), d, r⟩
  have kin : K.In (hidT st.heap Hs) := fun b ob e => stays (inK b ob e) (by
    cases q : Hs b with
    | none => rfl
    | some u =>
      obtain ⟨rfl, n, _⟩ := only b u q
      rw [n] at e; cases e)
  have md : Mod K mg (hidT st.heap Hs) := by
    obtain ⟨mc, l1, l2⟩ := lim
    exact ⟨kin, nsOf nsG, ⟨mb, nsOf nsB, bt⟩, mc, nsOf l1, l2⟩
  have env : Env0 P w K mg (hidT st.heap Hs) callerA [] st Hs := ⟨rfl, md, fun b ob e => of_hidT e, Nat.le_of_eq (hidT_size _ _), trivial, (fun b hb => nomatch hb), ok, .of_eq gens⟩
  let G : Gh := ⟨fun b => Hs b ≠ Option.none, []⟩
  have frozen : ∀ b, Hs b ≠ Option.none → ∃ u, Hs b = some u ∧ ∀ ps, u ≠ .tbl ps := fun b h => by
    cases q : Hs b with
    | none => exact absurd q h
    | some u =>
      obtain ⟨_, _, e⟩ := only b u q
      exact ⟨u, rfl, fun ps z => by rw [e] at z; cases z⟩
  have wf : Wf T G Hs [] := ⟨(fun _ _ h => nomatch h), frozen, rfl, List.nodup_nil, fun i ob e => by simp at e⟩
  have scr : ScrAt T G Hs p (zs.map V.int) := by
    cases q : K.lookup p with
    | none =>
      have e : Hs p = some (.frz o (.lst (zs.map V.int))) := if_pos ⟨rfl, q⟩
      exact .inl ⟨fun z => (by rw [e] at z; cases z), .inr ⟨o, e⟩⟩
    | some ob =>
      have e := inK p ob q
      rw [hp] at e
      cases e
      exact .inr (hT ▸ ⟨_, us.toArray, _, q, rfl, rfl, rfl, by rw [List.size_toArray, lu]; exact small, by simpa using vu⟩)
  have sp : spOf T 1 f [.ref p] Hs (fun v _ => v = .bl true) fun _ _ _ => False := by
    refine ⟨rfl, [.scr (zs.map .int)], G, [], IsL.cons (by unfold Is; exact ⟨p, _, rfl, scr, isL_ints zs⟩) IsL.nil, wf, ?_⟩
    rw [plain]
    intro G' H' v _ _ h
    unfold Is at h
    exact h
  refine codeAny_mono ((F _ kin (nsOf nsG)).go callerA [] st Hs ⟨[.ref p], []⟩ [.ref p] [.ref p] _ _ room env (bind st (.ref p)) (.cons rfl .nil) sp) fun r s' h => ?_
  cases r with
  | error e =>
    obtain ⟨_, _, _, _, _, _, _, _, _, _, _, _, z⟩ := h
    exact z.elim
  | ok fl =>
    cases fl with
    | next => exact h.elim
    | brk => exact h.elim
    | cont => exact h.elim
    | ret u =>
      obtain ⟨v, H', os, bare, un, ok', rv, q⟩ := h
      have q : v = .bl true := q
      subst q
      cases (show u = Value.bool true from rv)
      refine ⟨rfl, OldK.of_keep fun b ob e => ?_, os, bare⟩
      cases q : Hs b with
      | none => exact un.keep b ob e q (fun z => nomatch z) fun z => nomatch z
      | some u =>
        obtain ⟨_, _, rfl⟩ := only b u q
        obtain ⟨e1, _⟩ := ok b _ q
        obtain ⟨e2, _⟩ := ok' b _ (un.frzs b o _ q)
        rw [e] at e1
        cases e1
        exact e2
/-- the end of a row: the law's def reckons f, and f of every script is True -/
theorem walk_ls {l : PySem.W.OpenLaw} {n k : Nat} {q : Program} {loose : List Str} {XP : (Str → Option Value) → Heap → Prop} {YP : World → Heap → Prop} {d : DefRec} {K : Params → PySem.W.Frag} {x : Str} {f : List D → M D}
    (hn : l.most = some n) (big : n ≤ sizeLine) (nd : d.params.defaults = []) (room : Room k callerA) (hY : ∀ (w : World) (h : Heap), YP w h → (K w.params).In h)
    (plain : ∀ zs : List Int, zs.length ≤ n → (∀ z ∈ zs, Builtin.Int.intBits z ≤ 1048576) → ∃ Se, f [.scr (zs.map .int)] [] = .ok (.bl true) Se)
    (F : ∀ (w : World) (mg : Str → Option Value) (fa : Addr) (h : Heap), (K w.params).In h → h.Ns mainGlobals mg → mg d.name = some (.ref fa) →
      ∃ (fd : FuncData) (T : Tb), (∀ (s : Shared) (u : Value), BindsTo s fd ⟨[u], []⟩ [(x, u)]) ∧ T.K = K w.params ∧ ∀ base : Heap, FnG true l.prog w (K w.params) mg base k fa fd [x] (spOf T 1 f)) :
    PySem.W.WalkO q loose XP YP l.row.toRowW d [] (fun f vs => PySem.call f vs) := by
  refine Att.attach_callB hn nd fun w s₀ s₁ mg mb fa o pm cd doc a vs ns G Y ho hd hcd hmg hobj hints hlen hbits hg => ?_
  have inK := hY w _ Y
  obtain ⟨fd, T, hb, hT, hF⟩ := F w mg fa _ inK G.T.g hmg
  obtain ⟨Se, hp⟩ := plain ns hlen hbits
  exact law_ls inK G.T.g G.T.b G.T.builtins G.T.nolimit hg hobj hints (Nat.le_trans hlen big) ⟨room, fun _ => room_caller⟩ hT (fun base _ _ => hF base) hb hp
end LS

set_option Elab.async false
set_option linter.all false
set_option maxRecDepth 100000
set_option maxHeartbeats 1000000
namespace LS
open PySem L2 PySem.Spec
open PyProof.Rows hiding St
open ClX

/-! ## 33. x += e, extend, list(range(..)) -/
def sAug (i : Nat) (k : Int → Int → Int) (f : Ev) : Sx := fun ρ => match ρ[i]? with
  | some (some (.val (.int a))) => bd (f ρ) fun d => match d with
    | .int b => ret (.nx (ρ.set i (some (.val (.int (k a b))))))
    | _ => dv
  | _ => dv
section
variable {X : Cx} {T : Tb} {W : WX} {e a b c o tg : Expr} {f fa fb fi : Ev} {pos p2 p apos pos' kpos px py pz pt pt2 : Pos} {es ts : List Expr} {x y z fn : Str} {G G' : Gh} {H H' : Hp} {S S' : Sto} {st : Stmt} {s : Sx} {g : Rho → M (List Sl)} {i j l : Nat}
theorem xaug {op : Operator} {k : Int → Int → Int} (i : Nat) (ho : PIp X op (ipI k)) (nd : X.N.Nodup) (h : SE X T W e f) (hi : X.N[i]? = some x := by rfl) (hx : Loc X.env.scope x := by first | exact .inl rfl | exact .inr rfl)
    (hf : X.fn x = true ∨ X.env.scope.names.lookup x = some .local := by first | exact .inl rfl | exact .inr rfl) : SS X T W (.AugAssign (.Name x pos') op e pos) (sAug i k f) := by
  refine ⟨ps_imp (ps_aug nd hi hx h.pe ho hf) fun E σ H ⟨ρ, G0, G, S, ag, wf, o⟩ => ?_⟩
  unfold sAug at o
  rcases q : ρ[i]? with _ | _ | sl
  · rw [q] at o; exact o.elim
  · rw [q] at o; exact o.elim
  · rw [q] at o
    cases sl with
    | own ds => exact o.elim
    | mak c fs => exact o.elim
    | val d =>
      cases d with
      | int n =>
        dsimp only at o
        obtain ⟨v, h1, h2⟩ := ag.ag.get i _ q
        have e1 : v = .int n := is_int' (T := T) (G := G) (H := H) h2
        subst e1
        refine ⟨_, h1, ρ, G, S, ag.ag, wf, OutS.bind o ag wf fun d S1 G1 H1 w k1 ag1 w1 i1 o1 => ?_⟩
        cases d with
        | int m =>
          cases is_int' i1
          exact ⟨n, m, rfl, rfl, o1 _ G1 H1 (ag1.setV (List.getElem?_eq_some_iff.mp q).1 (by unfold Is; rfl)) w1 .refl⟩
        | _ => exact o1.elim
      | _ => exact o.elim
theorem xext {fl : Rho → M (List D)} (i : Nat) (ha : SA X T W (e :: es) fl) (hN : X.N[i]? = some x := by rfl) (hv : Vis X.env.scope x := by first | exact .inl rfl | exact .inr (.inl rfl) | exact .inr (.inr rfl)) (hs0 : swapsWith (.Call (.Attribute (.Name x p) "extend" apos) (e :: es) [] p2) none pos.line X.env = pure false := by rfl)
    (hd : (x == ("__debug__" : Str)) = false := by decide) (hcd : (x == ("__classdict__" : Str)) = false := by decide)
    (hbase : attributeBase (.Name x p) "extend" X.env (eval (.Name x p) X.env) = eval (.Name x p) X.env := by rfl)
    (hfew : ((backTo p2 (starEach (e :: es) X.env)).all (fun z => !z.1) && (backToKw p2 (keywordEach [] X.env)).all (fun z => z.1.isSome)
      && decide ((e :: es).length + ([] : List Keyword).length + (if ([] : List Keyword).isEmpty then 0 else 1) < 30)) = true := by rfl)
    (hline : (apos.endLine == p2.line) = true := by rfl) (hs : starEach (e :: es) X.env = (false, eval e X.env) :: starEach es X.env := by rfl) (hplain : (backTo p2 (starEach es X.env)).any (·.1) = false := by rfl) :
    SS X T W (.Expr (.Call (.Attribute (.Name x p) "extend" apos) (e :: es) [] p2) pos) (sMut i kExt fl) :=
  ss_mut PySem.F.slot_list_extend (by rfl) mt_extend ok_ext hN hv ha hs0 hd hcd hbase hfew hline hs hplain
/-- list(range(a, b)) -/
def lrN (fa fb : Ev) : Rho → M (List D) := fun ρ => bd (fa ρ) fun x => bd (fb ρ) fun y => intM x fun i => intM y fun j =>
  if -(2 ^ 62) ≤ i ∧ i < 2 ^ 62 ∧ -(2 ^ 62) ≤ j ∧ j < 2 ^ 62 ∧ (j - i).toNat ≤ 2 ^ 24 then ret (rngD i (j - i).toNat) else dv
theorem isL_rng {lo : Int} : ∀ l : List Nat, IsL T G H (l.map fun i => D.int (lo + (i : Nat))) (l.map fun i => V.int (lo + (i : Nat)))
  | [] => IsL.nil
  | i :: l => IsL.cons (by unfold Is; rfl) (isL_rng l)
theorem sn_lr {q : Pos} (hm : X.mg "list" = none) (hm2 : X.mg "range" = none) (ha : SB X T W a fa) (hb : SB X T W b fb) (hc : X.calm = true := by rfl) (hg : Gl X "list" := by rfl) (hg2 : Gl X "range" := by rfl)
    (na : starEach [a, b] X.env = (false, eval a X.env) :: starEach [b] X.env := by rfl) (nb : starEach [b] X.env = (false, eval b X.env) :: starEach [] X.env := by rfl)
    (hp : (backTo q (starEach [b] X.env)).any (·.1) = false := by rfl)
    (nc : starEach [.Call (.Name "range" p2) [a, b] [] q] X.env = (false, eval (.Call (.Name "range" p2) [a, b] [] q) X.env) :: starEach [] X.env := by rfl) :
    SN X T W (.Call (.Name "list" p) [.Call (.Name "range" p2) [a, b] [] q] [] pos) (lrN fa fb) := by
  refine ⟨pe_imp (pe_listRg hc hg hm (prg_2 hg2 hm2 ha.pe hb.pe na nb hp) nc) fun σ H Q ⟨ρ, G, S, ag, wf, o⟩ => ⟨ρ, G, S, ag, wf, ?_⟩⟩
  unfold lrN bd at o
  cases q : fa ρ S with
  | div => rw [q] at o; exact o
  | exc c fs S' => rw [q] at o; exact o
  | ok x S1 =>
    rw [q] at o
    dsimp only at o
    intro G1 H1 v k1 w1 i1
    refine ⟨ρ, G1, S1, ag.keep wf k1, w1, ?_⟩
    cases q2 : fb ρ S1 with
    | div => rw [q2] at o; exact o
    | exc c fs S' => rw [q2] at o; exact fun G' H' cls dx k w r => o G' H' cls dx (k1.trans k) w r
    | ok y S2 =>
      rw [q2] at o
      dsimp only at o
      intro G2 H2 w k2 w2 i2
      cases x <;> try exact o.elim
      case int i =>
        cases y <;> try exact o.elim
        case int j =>
          cases b_int i1
          cases b_int i2
          unfold intM at o
          dsimp only at o
          by_cases c : -(2 ^ 62) ≤ i ∧ i < 2 ^ 62 ∧ -(2 ^ 62) ≤ j ∧ j < 2 ^ 62 ∧ (j - i).toNat ≤ 2 ^ 24
          · rw [if_pos c] at o
            refine ⟨i, j, rfl, rfl, ⟨c.1, c.2.1, c.2.2.1, c.2.2.2.1, c.2.2.2.2⟩, fun p hp => ?_⟩
            have w3 := w2.upd (o := .lst (rgV i j)) hp
            exact o G2 _ p ((k1.trans k2).trans (kp_upd hp)) w3 ((k1.trans k2).none hp) (w2.nof hp) (w2.nom hp) ⟨_, upd_same, (w2.lean (kp_upd hp)).isL (isL_rng _)⟩
          · rw [if_neg c] at o; exact o.elim

/-! ## 34. a, b = e1, e2 where a name is captured: the tuple is laid, then unpacked -/
theorem slL_kp (w : Wf T G H S) (k : Kp G H G' H') : ∀ {ss : List Sl} {vs : List V}, SlL T G H ss vs → SlL T G' H' ss vs
  | [], vs, h => h
  | s :: ss, vs, h => by
    obtain ⟨v, r, e, h1, h2⟩ := h
    exact ⟨v, r, e, w.slIs k h1, slL_kp w k h2⟩
theorem xpx2c {kt k2 : Nat} (i j : Nat) (nd : X.N.Nodup) (ha : SX X T W [a, b] g) (hc : X.calm = true := by rfl) (hi : X.N[i]? = some x := by rfl) (hj : X.N[j]? = some y := by rfl) (hij : i ≠ j := by decide)
    (hx : Loc X.env.scope x := by first | exact .inl rfl | exact .inr rfl) (hfx : X.fn x = true ∨ X.env.scope.names.lookup x = some .local := by first | exact .inl rfl | exact .inr rfl)
    (hy : Loc X.env.scope y := by first | exact .inl rfl | exact .inr rfl) (hfy : X.fn y = true ∨ X.env.scope.names.lookup y = some .local := by first | exact .inl rfl | exact .inr rfl)
    (hs : swapsWithSole [.Tuple [.Name x px, .Name y py] kt pt] (.Tuple [a, b] k2 pt2) pos.line X.env = pure false := by rfl) (hw : swappedStores [.Tuple [.Name x px, .Name y py] kt pt] (.Tuple [a, b] k2 pt2) X.env = pure none := by rfl)
    (h1 : (assignEach [.Tuple [.Name x px, .Name y py] kt pt] X.env).map (·.2) = [assign (.Tuple [.Name x px, .Name y py] kt pt) X.env] := by rfl)
    (q1 : (assignEach [.Name x px, .Name y py] X.env).map (·.2) = assign (.Name x px) X.env :: (assignEach [.Name y py] X.env).map (·.2) := by rfl) (q2 : (assignEach [.Name y py] X.env).map (·.2) = assign (.Name y py) X.env :: (assignEach [] X.env).map (·.2) := by rfl)
    (q3 : (assignEach [.Name x px, .Name y py] X.env).length = 2 := by rfl) (q4 : (assignEach [.Name x px, .Name y py] X.env).findIdx? (·.1) = none := by rfl) :
    SS X T W (.Assign [.Tuple [.Name x px, .Name y py] kt pt] (.Tuple [a, b] k2 pt2) pos) (sPX2 i j g) := by
  refine ⟨ps_imp (ps_asg (pe_tup ha.pa) (pg_tup hc (pgs_cons (pg_name nd hi hx hfx) (pgs_cons (pg_name nd hj hy hfy) pgs_nil q2) q1) q3 q4) hs hw h1) fun E σ H ⟨ρ, G0, G, S, ag, wf, o⟩ => ⟨ρ, G, S, ag.ag, wf, ?_⟩⟩
  unfold sPX2 bd at o
  cases q : g ρ S with
  | div => rw [q] at o; exact o
  | exc c fs S' =>
    rw [q] at o
    exact fun G' H' cls dx k w r => o σ G' H' cls dx (ag.kp.trans k) w r
  | ok ss S' =>
    rw [q] at o
    intro G' H' vs k w r nm fr ap
    match ss, r, o with
    | [], _, o => exact o.elim
    | [_], _, o => exact o.elim
    | _ :: _ :: _ :: _, _, o => exact o.elim
    | [s, t], r, o =>
      have rr := r
      obtain ⟨v1, r1, rfl, i1, v2, r2, rfl, i2, rfl⟩ := r
      refine ⟨by show 2 ≤ sizeLine; decide, fun p hp => ?_⟩
      dsimp only at o
      have kp2 : Kp G' H' G' (L2.upd H' p (.tup [v1, v2])) := kp_upd hp
      have w2 := w.upd (o := .tup [v1, v2]) hp
      have j1 := w.slIs kp2 i1
      have j2 := w.slIs kp2 i2
      by_cases c : i < ρ.length ∧ j < ρ.length
      · rw [if_pos c] at o
        have ag' := ag.keep wf (k.trans kp2)
        have fresh : ∀ (n : Nat) (u : Sl) (b : Addr), [s, t][n]? = some u → u.mine = true → [v1, v2][n]? = some (.ref b) → H b = none := fr
        have a1 : StAg X T G0 G' (L2.upd H' p (.tup [v1, v2])) (σ.set i (some v1)) (ρ.set i (some s)) := ag'.setS c.1 j1 (fun c fs => nm s (by simp) c fs) (fun b m e => ag.kp.none (fresh 0 s b rfl m (by rw [e]; rfl))) fun m n u _ q mu => by
          obtain ⟨b, rfl⟩ := mine_ref i1 m
          exact old_ne ag.ag (fresh 0 s b rfl m rfl) q mu
        refine ⟨p, [v1, v2], rfl, .inl (Rd.of upd_same), rfl, v1, [v2], rfl, v2, [], rfl, rfl, ?_⟩
        refine o _ G' _ (a1.setS (by rw [List.length_set]; exact c.2) j2 (fun c fs => nm t (by simp) c fs) (fun b m e => ag.kp.none (fresh 1 t b rfl m (by rw [e]; rfl))) fun m n u nj q mu => ?_) w2 (wf.lean (k.trans kp2))
        obtain ⟨b, rfl⟩ := mine_ref i2 m
        rw [rho_get c.1] at q
        rw [rho_get (by rw [ag.ag.len]; exact c.1)]
        by_cases e : n = i
        · rw [if_pos e] at q ⊢
          cases q
          exact fun z => ap 0 1 s t v1 (by decide) rfl rfl mu m rfl (by rw [Option.some.inj z]; rfl)
        · rw [if_neg e] at q ⊢
          exact old_ne ag.ag (fresh 1 t b rfl m rfl) q mu
      · rw [if_neg c] at o; exact o.elim
end
end LS

set_option Elab.async false
set_option linter.all false
set_option maxRecDepth 100000
set_option maxHeartbeats 1000000
namespace LS
open PySem L2 PySem.Spec
open PyProof.Rows hiding St
open ClX

/-! ## 35. facts about isinstance, from facts that are read off the written part -/
section
variable {K : PySem.W.Frag} {C D' : Addr} {t : String}
theorem kit_self : PySem.W.kitOne K (.ref C) (.ref C) = some true := if_pos (beq_self_eq_true _)
theorem kit_ct (hm : PySem.W.mroIn K C (.type t) = some false) (ht : PySem.W.kitMeta t = true := by decide +kernel) : PySem.W.kitOne K (.ref C) (.type t) = some false := by
  unfold PySem.W.kitOne
  rw [if_neg (show ¬ ((Value.ref C == Value.type t) = true) from fun z => nomatch eq_of_beq z)]
  show (if PySem.W.kitMeta t = true then PySem.W.subIn K (.ref C) (.type t) else none) = some false
  rw [if_pos ht]
  exact hm
theorem kit_cc (h1 : PySem.W.isClsIn K D' = true) (h2 : PySem.W.typeIn K (.ref D') = some (.type "type")) (hm : PySem.W.mroIn K C (.ref D') = some false) (ne : C ≠ D') : PySem.W.kitOne K (.ref C) (.ref D') = some false := by
  unfold PySem.W.kitOne
  rw [if_neg (show ¬ ((Value.ref C == Value.ref D') = true) from fun z => ne (Value.ref.inj (eq_of_beq z)))]
  show (if ((PySem.W.clsIn K D').isSome && PySem.W.typeIn K (.ref D') == some (.type "type")) = true then PySem.W.subIn K (.ref C) (.ref D') else none) = some false
  rw [if_pos (by rw [h2, show (PySem.W.clsIn K D').isSome = true from h1]; rfl)]
  exact hm
theorem mro6 (a : String) (h : a ∈ six) : ∃ l, PySem.fastBuiltinMro a = some l ∧ l.all (fun v => match v with | .type _ => true | _ => false) = true := by
  have : ∀ a ∈ six, (match PySem.fastBuiltinMro a with | some l => l.all (fun v => match v with | .type _ => true | _ => false) | none => false) = true := by decide +kernel
  have z := this a h
  cases q : PySem.fastBuiltinMro a with
  | none => rw [q] at z; cases z
  | some l => rw [q] at z; exact ⟨l, rfl, z⟩
theorem kit_tc (h1 : PySem.W.isClsIn K C = true) (h2 : PySem.W.typeIn K (.ref C) = some (.type "type")) : ∀ a ∈ six, PySem.W.kitOne K (.type a) (.ref C) = some false := by
  intro a ha
  obtain ⟨l, e, hl⟩ := mro6 a ha
  unfold PySem.W.kitOne
  rw [if_neg (show ¬ ((Value.type a == Value.ref C) = true) from fun z => nomatch eq_of_beq z)]
  show (if ((PySem.W.clsIn K C).isSome && PySem.W.typeIn K (.ref C) == some (.type "type")) = true then (PySem.fastBuiltinMro a).map (·.contains (.ref C)) else none) = some false
  rw [if_pos (by rw [h2, show (PySem.W.clsIn K C).isSome = true from h1]; rfl), e]
  show some (l.contains (Value.ref C)) = some false
  have n : l.contains (Value.ref C) = false := by
    cases q : l.contains (Value.ref C) with
    | false => rfl
    | true =>
      have m := List.contains_iff_mem.mp q
      have z := List.all_eq_true.mp hl _ m
      cases z
  rw [n]
end
end LS

set_option Elab.async false
set_option linter.all false
set_option maxRecDepth 100000
set_option maxHeartbeats 1000000
namespace LS
open PySem L2 PySem.Spec
open PyProof.Rows hiding St
open ClX

/-! ## 36. comprehensions of two clauses -/
def lcM2 (g : D → Rho → M Rho) (t : Rho → M Bool) (fi : Rho → M (List D)) (g1 : D → Rho → M Rho) (t1 : Rho → M Bool) (e : Ev) (vs1 : List Nat) (ρ : Rho) : List D → M (List D)
  | [] => ret []
  | d :: ds => bd (g d ρ) fun ρ1 => bd (t ρ1) fun k => if k = true then bd (fi ρ1) fun ds1 => bd (lcM g1 t1 e (wipeR ρ1 vs1) ds1) fun ys => bd (lcM2 g t fi g1 t1 e vs1 ρ ds) fun zs => ret (ys ++ zs) else lcM2 g t fi g1 t1 e vs1 ρ ds
def lcN2 (fl : Rho → M (List D)) (g : D → Rho → M Rho) (t : Rho → M Bool) (fi : Rho → M (List D)) (g1 : D → Rho → M Rho) (t1 : Rho → M Bool) (e : Ev) (vs vs1 : List Nat) : Rho → M (List D) := fun ρ => bd (fl ρ) fun ds => bd (nox (lcM2 g t fi g1 t1 e vs1 (wipeR ρ vs) ds)) fun ys => if ys.length ≤ sizeLine then ret ys else dv
/-- the heap without the list that is being made -/
def hide (A : Addr) (H : Hp) : Hp := fun b => if b = A then Option.none else H b
section
variable {T : Tb} {G G' : Gh} {H H' : Hp} {S : Sto} {A : Addr} {σ : St} {ρ : Rho}
theorem hide_ne {b : Addr} (n : b ≠ A) : hide A H b = H b := if_neg n
theorem hide_some {b : Addr} {o : HO} (h : hide A H b = some o) : b ≠ A ∧ H b = some o := by
  by_cases e : b = A
  · unfold hide at h; rw [if_pos e] at h; cases h
  · rw [hide_ne e] at h; exact ⟨e, h⟩
theorem hide_upd {o : HO} : hide A (L2.upd H A o) = hide A H := by
  funext b
  by_cases e : b = A
  · unfold hide; rw [if_pos e, if_pos e]
  · rw [hide_ne e, hide_ne e, upd_ne e]
theorem Kp.hide (k : Kp G H G' H') : Kp G (LS.hide A H) G' (LS.hide A H') where
  fr := k.fr
  new := fun a f => (k.new a f).imp id fun n => by
    by_cases e : a = A
    · unfold LS.hide; rw [if_pos e]
    · rw [hide_ne e]; exact n
  st := by
    obtain ⟨l, e, n⟩ := k.st
    refine ⟨l, e, fun a h => ?_⟩
    by_cases e : a = A
    · unfold LS.hide; rw [if_pos e]
    · rw [hide_ne e]; exact n a h
  kp := fun a o h hm ht => by
    obtain ⟨n, h⟩ := hide_some h
    rw [hide_ne n]; exact k.kp a o h hm ht
  is := fun a h => by
    by_cases e : a = A
    · exact absurd (by unfold LS.hide; rw [if_pos e]) h
    · rw [hide_ne e] at h ⊢; exact k.is a h
theorem lean_hide (nf : ¬ G.F A) : Lean G H G (hide A H) := ⟨fun _ f => f, fun b f => hide_ne (ne_F nf f), ⟨[], by simp⟩⟩
theorem lean_unhide (nf : ¬ G.F A) : Lean G (hide A H) G H := ⟨fun _ f => f, fun b f => (hide_ne (ne_F nf f)).symm, ⟨[], by simp⟩⟩
theorem Wf.hide (w : Wf T G H S) (nf : ¬ G.F A) (nm : A ∉ G.m) : Wf T G (LS.hide A H) S := by
  refine ⟨w.fm, fun b f => ?_, w.len, w.nd, fun j ob e => ?_⟩
  · obtain ⟨u, h1, h2⟩ := w.fs b f
    exact ⟨u, by rw [hide_ne (ne_F nf f)]; exact h1, h2⟩
  · obtain ⟨b, h1, h2⟩ := w.ob j ob e
    refine ⟨b, h1, lean_ob (lean_hide nf) ?_ h2⟩
    rw [hide_ne]
    rintro rfl
    exact nm (List.mem_of_getElem? h1)
theorem Ag.unhide (g : Ag T G (LS.hide A H) σ ρ) (nf : ¬ G.F A) : Ag T G H σ ρ := by
  refine ⟨g.len, fun i s e => ?_, g.ap⟩
  obtain ⟨v, h1, h2⟩ := g.get i s e
  refine ⟨v, h1, ?_⟩
  have l := lean_unhide (H := H) nf
  cases s with
  | val d => exact l.is h2
  | own ds =>
    obtain ⟨a, xs, e, u1, u2, u3, u4⟩ := h2
    exact ⟨a, xs, e, u1, u2, (hide_some u3).2, l.isL u4⟩
  | mak c fs =>
    obtain ⟨a, dx, xs, e, u1, u2, u3, u5, u6, u4⟩ := h2
    exact ⟨a, dx, xs, e, u1, u2, (hide_some u3).2, u5, u6, l.isL u4⟩
theorem Ag.hide (g : Ag T G H σ ρ) (nf : ¬ G.F A) (n : ∀ (i : Nat) (s : Sl), ρ[i]? = some (some s) → s.mine = true → σ[i]? ≠ some (some (.ref A))) : Ag T G (LS.hide A H) σ ρ := by
  refine ⟨g.len, fun i s e => ?_, g.ap⟩
  obtain ⟨v, h1, h2⟩ := g.get i s e
  refine ⟨v, h1, ?_⟩
  have l := lean_hide (H := H) nf
  cases s with
  | val d => exact l.is h2
  | own ds =>
    obtain ⟨a, xs, rfl, u1, u2, u3, u4⟩ := h2
    have ne : a ≠ A := fun e => n i _ ‹_› rfl (by rw [h1, e])
    exact ⟨a, xs, rfl, u1, u2, by rw [hide_ne ne]; exact u3, l.isL u4⟩
  | mak c fs =>
    obtain ⟨a, dx, xs, rfl, u1, u2, u3, u5, u6, u4⟩ := h2
    have ne : a ≠ A := fun e => n i _ ‹_› rfl (by rw [h1, e])
    exact ⟨a, dx, xs, rfl, u1, u2, by rw [hide_ne ne]; exact u3, u5, u6, l.isL u4⟩
end
section
variable {X : Cx} {T : Tb} {W : WX} {elt tg iter tg1 iter1 : Expr} {ifs ifs1 : List Expr} {scope : Scope} {own : List (Str × Nat)} {pos : Pos} {fl fi : Rho → M (List D)} {g g1 : D → Rho → M Rho} {ft ft1 : Rho → M Bool} {fe : Ev} {vs vs1 : List Nat}
theorem tlc2_of {σ : St} {H : Hp} {Q : VK} (h : tN T W (lcN2 fl g ft fi g1 ft1 fe vs vs1) σ H Q) :
    tLc2 (tI T W false fl) (fun u σ H Q => ∃ d ρ G S, Is T G H d u ∧ Ag T G H σ ρ ∧ Wf T G H S ∧
      match g d ρ S with
      | .ok ρ' S' => ∀ σ', Ag T G H σ' ρ' → Wf T G H S' → wipe σ' vs = wipe σ vs → Old σ ρ σ' ρ' → Q σ' H
      | _ => False) (tX T WF rEq ft) (tI T WF true fi) (fun u σ H Q => ∃ d ρ G S, Is T G H d u ∧ Ag T G H σ ρ ∧ Wf T G H S ∧
      match g1 d ρ S with
      | .ok ρ' S' => ∀ σ', Ag T G H σ' ρ' → Wf T G H S' → wipe σ' vs1 = wipe σ vs1 → Old σ ρ σ' ρ' → Q σ' H
      | _ => False) (tX T WF rEq ft1) (tX T WF (rIs T) fe) vs vs1 σ H Q := by
  obtain ⟨ρ, G, S, ag, wf, o⟩ := h
  refine ⟨ρ, G, S, ag, wf, ?_⟩
  unfold lcN2 bd at o
  cases q : fl ρ S with
  | div => rw [q] at o; exact o
  | exc c fs S' => rw [q] at o; exact o
  | ok ds S' =>
    rw [q] at o
    dsimp only at o ⊢
    intro G1 H1 J k1 w1 it A hA
    unfold nox at o
    cases q2 : lcM2 g ft fi g1 ft1 fe vs1 (wipeR ρ vs) ds S' with
    | div => rw [q2] at o; exact o.elim
    | exc c fs S' => rw [q2] at o; exact o.elim
    | ok dsf Sf =>
      rw [q2] at o
      dsimp only at o
      have cz : dsf.length ≤ sizeLine := by
        refine Classical.byContradiction fun c => ?_
        rw [if_neg c] at o; exact o
      rw [if_pos cz] at o
      have nl : ∀ (xs : List V) ps, HO.lst xs ≠ .tbl ps := fun _ _ z => nomatch z
      refine ⟨fun i m H' => m = ds.length - i ∧ i ≤ ds.length ∧ ∃ G' S2 acc es es2, Kp G1 H1 G' H' ∧ Wf T G' H' S2 ∧ ¬ G'.F A ∧ A ∉ G'.m ∧ H' A = some (.lst acc) ∧ IsL T G' H' es acc ∧ lcM2 g ft fi g1 ft1 fe vs1 (wipeR ρ vs) (ds.drop i) S2 = .ok es2 Sf ∧ es ++ es2 = dsf,
        ⟨ds.length, rfl, Nat.zero_le _, G1, S', [], [], dsf, kp_upd hA, w1.upd hA, w1.nof hA, w1.nom hA, upd_same, IsL.nil, q2, rfl⟩, ?_⟩
      rintro i m H2 ⟨rfl, hi2, G2, S2, acc, es, es2, k2, w2, nf2, nm2, hA2, r2, e2, fin2⟩
      have C : Lean G1 H1 G2 H2 ∧ (false = false → Kp G1 H1 G2 H2) ∧ ∃ S2, Wf T G2 H2 S2 := ⟨w1.lean k2, fun _ => k2, S2, w2⟩
      rcases Nat.lt_or_ge i ds.length with hl | hl
      rotate_left
      · have e : i = ds.length := by omega
        subst e
        rw [List.drop_length] at e2
        cases e2
        rw [List.append_nil] at fin2
        subst fin2
        exact .inl ⟨it.stop G2 H2 C, o G2 H2 A (k1.trans k2) w2 (k1.none hA) nf2 nm2 ⟨acc, hA2, r2⟩⟩
      refine .inr ⟨it.go i G2 H2 hl C, fun H' => i + 1 ≤ ds.length ∧ ∃ G' S2 acc es es2, Kp G1 H1 G' H' ∧ Wf T G' H' S2 ∧ ¬ G'.F A ∧ A ∉ G'.m ∧ H' A = some (.lst acc) ∧ IsL T G' H' es acc ∧ lcM2 g ft fi g1 ft1 fe vs1 (wipeR ρ vs) (ds.drop (i + 1)) S2 = .ok es2 Sf ∧ es ++ es2 = dsf,
        fun H' n => ⟨ds.length - (i + 1), by omega, rfl, n⟩, fun x H3 y => ?_⟩
      obtain ⟨G3, d, k3, w3, e3, i3⟩ := it.yld i G2 H2 x H3 hl C y
      have ed : ds.drop i = d :: ds.drop (i + 1) := by
        rw [List.drop_eq_getElem_cons hl]
        rw [List.getElem?_eq_getElem hl] at e3
        cases e3; rfl
      rw [ed] at e2
      have w3 := w3 S2 w2
      obtain ⟨nf3, nm3, hA3⟩ := k3.far nf2 nm2 hA2 (nl _)
      have r3 := (w2.lean k3).isL r2
      have kk3 := k2.trans k3
      have agB : Ag T G3 H3 (wipe σ vs) (wipeR ρ vs) := (ag.keep wf (k1.trans kk3)).wipe vs
      -- nobody's own list is the new one
      have ag1h : Ag T G1 (hide A H1) σ ρ := (ag.keep wf k1).hide (w1.nof hA) fun i s e m => old_ne (ag.keep wf k1) hA e m
      have ag3h : Ag T G3 (hide A H3) (wipe σ vs) (wipeR ρ vs) := (ag1h.keep (w1.hide (w1.nof hA) (w1.nom hA)) kk3.hide).wipe vs
      refine ⟨d, wipeR ρ vs, G3, S2, i3, agB, w3, ?_⟩
      have noA : ∀ (i : Nat) (s : Sl), (wipeR ρ vs)[i]? = some (some s) → s.mine = true → (wipe σ vs)[i]? ≠ some (some (.ref A)) := fun i s e m z => by
        obtain ⟨v, h1, h2⟩ := ag3h.get i s e
        rw [z] at h1
        cases h1
        cases s with
        | val d => cases m
        | own ds => obtain ⟨a', xs, e', _, _, h, _⟩ := h2; cases e'; exact (hide_some h).1 rfl
        | mak c fs => obtain ⟨a', dx, xs, e', _, _, h, _⟩ := h2; cases e'; exact (hide_some h).1 rfl
      unfold lcM2 bd at e2
      cases q4 : g d (wipeR ρ vs) S2 with
      | div => rw [q4] at e2; cases e2
      | exc c fs S4 => rw [q4] at e2; cases e2
      | ok ρ4 S4 =>
        rw [q4] at e2
        dsimp only at e2 ⊢
        intro σ4 ag4 w4 wp od
        have noA4 : ∀ (i : Nat) (s : Sl), ρ4[i]? = some (some s) → s.mine = true → σ4[i]? ≠ some (some (.ref A)) := fun i s e m => by
          obtain ⟨e1, q1⟩ := od i s e m
          rw [q1]; exact noA i s e1 m
        have ag4h := ag4.hide nf3 noA4
        refine ⟨wp.trans wipe_wipe, ρ4, G3, S4, ag4, w4, ?_⟩
        cases q5 : ft ρ4 S4 with
        | div => rw [q5] at e2; cases e2
        | exc c fs S5 => rw [q5] at e2; cases e2
        | ok b S5 =>
          rw [q5] at e2
          dsimp only at e2
          rintro G5 H5 _ k5 w5 rfl
          obtain ⟨nf5, nm5, hA5⟩ := k5.far nf3 nm3 hA3 (nl _)
          have r5 := (w4.lean k5).isL r3
          cases b with
          | false =>
            rw [if_neg Bool.false_ne_true] at e2 ⊢
            exact ⟨hl, G5, S5, acc, es, es2, kk3.trans k5, w5, nf5, nm5, hA5, r5, e2, fin2⟩
          | true =>
            rw [if_pos rfl] at e2 ⊢
            refine ⟨ρ4, G5, S5, ag4.keep w4 k5, w5, ?_⟩
            cases q6 : fi ρ4 S5 with
            | div => rw [q6] at e2; cases e2
            | exc c fs S6 => rw [q6] at e2; cases e2
            | ok ds1 S6 =>
              rw [q6] at e2
              dsimp only at e2
              intro G6 H6 J1 k6 w6 it1
              obtain ⟨nf6, nm6, hA6⟩ := k6.far nf5 nm5 hA5 (nl _)
              have r6 := (w5.lean k6).isL r5
              have ag6h : Ag T G6 (hide A H6) σ4 ρ4 := (ag4h.keep (w4.hide nf3 nm3) k5.hide).keep (w5.hide nf5 nm5) k6.hide
              have kk6 := (kk3.trans k5).trans k6
              cases q7 : lcM g1 ft1 fe (wipeR ρ4 vs1) ds1 S6 with
              | div => rw [q7] at e2; cases e2
              | exc c fs S7 => rw [q7] at e2; cases e2
              | ok ys S7 =>
                rw [q7] at e2
                dsimp only at e2
                cases q8 : lcM2 g ft fi g1 ft1 fe vs1 (wipeR ρ vs) (ds.drop (i + 1)) S7 with
                | div => rw [q8] at e2; cases e2
                | exc c fs S8 => rw [q8] at e2; cases e2
                | ok zs S8 =>
                  rw [q8] at e2
                  cases e2
                  refine ⟨fun j m H' => m = ds1.length - j ∧ j ≤ ds1.length ∧ ∃ G' S' acc' es' ys', Kp G1 H1 G' H' ∧ Kp G6 (hide A H6) G' (hide A H') ∧ Wf T G' H' S' ∧ ¬ G'.F A ∧ A ∉ G'.m ∧ H' A = some (.lst acc') ∧ IsL T G' H' es' acc' ∧
                      lcM g1 ft1 fe (wipeR ρ4 vs1) (ds1.drop j) S' = .ok ys' S7 ∧ es' ++ (ys' ++ zs) = dsf,
                    ⟨ds1.length, rfl, Nat.zero_le _, G6, S6, acc, es, ys, kk6, .refl _ _, w6, nf6, nm6, hA6, r6, q7, fin2⟩, ?_⟩
                  rintro j m H7 ⟨rfl, hj, G7, S8', acc7, es7, ys7, k7, h7, w7, nf7, nm7, hA7, r7, e7, fin7⟩
                  have l67 : Lean G6 H6 G7 H7 := ((lean_hide nf6).trans ((w6.hide nf6 nm6).lean h7)).trans (lean_unhide nf7)
                  have C1 : Lean G6 H6 G7 H7 ∧ (true = false → Kp G6 H6 G7 H7) ∧ ∃ S2, Wf T G7 H7 S2 := ⟨l67, nofun, _, w7⟩
                  rcases Nat.lt_or_ge j ds1.length with hl1 | hl1
                  rotate_left
                  · have e : j = ds1.length := by omega
                    subst e
                    rw [List.drop_length] at e7
                    cases e7
                    exact .inl ⟨it1.stop G7 H7 C1, hl, G7, S7, acc7, es7, zs, k7, w7, nf7, nm7, hA7, r7, q8, fin7⟩
                  refine .inr ⟨it1.go j G7 H7 hl1 C1, fun H' => j + 1 ≤ ds1.length ∧ ∃ G' S' acc' es' ys', Kp G1 H1 G' H' ∧ Kp G6 (hide A H6) G' (hide A H') ∧ Wf T G' H' S' ∧ ¬ G'.F A ∧ A ∉ G'.m ∧ H' A = some (.lst acc') ∧ IsL T G' H' es' acc' ∧
                      lcM g1 ft1 fe (wipeR ρ4 vs1) (ds1.drop (j + 1)) S' = .ok ys' S7 ∧ es' ++ (ys' ++ zs) = dsf,
                    fun H' n => ⟨ds1.length - (j + 1), by omega, rfl, n⟩, fun x1 H8 y1 => ?_⟩
                  obtain ⟨G8, d1, k8, w8, e8, i8⟩ := it1.yld j G7 H7 x1 H8 hl1 C1 y1
                  have ed1 : ds1.drop j = d1 :: ds1.drop (j + 1) := by
                    rw [List.drop_eq_getElem_cons hl1]
                    rw [List.getElem?_eq_getElem hl1] at e8
                    cases e8; rfl
                  rw [ed1] at e7
                  have w8 := w8 _ w7
                  obtain ⟨nf8, nm8, hA8⟩ := k8.far nf7 nm7 hA7 (nl _)
                  have r8 := (w7.lean k8).isL r7
                  have ag8h : Ag T G8 (hide A H8) σ4 ρ4 := (ag6h.keep (w6.hide nf6 nm6) h7).keep (w7.hide nf7 nm7) k8.hide
                  have ag8 : Ag T G8 H8 (wipe σ4 vs1) (wipeR ρ4 vs1) := (ag8h.unhide nf8).wipe vs1
                  refine ⟨d1, wipeR ρ4 vs1, G8, _, i8, ag8, w8, ?_⟩
                  unfold lcM bd at e7
                  cases q9 : g1 d1 (wipeR ρ4 vs1) S8' with
                  | div => rw [q9] at e7; cases e7
                  | exc c fs S9 => rw [q9] at e7; cases e7
                  | ok ρ9 S9 =>
                    rw [q9] at e7
                    dsimp only at e7 ⊢
                    intro σ9 ag9 w9 wp9 _
                    refine ⟨wp9.trans wipe_wipe, ρ9, G8, S9, ag9, w9, ?_⟩
                    cases q10 : ft1 ρ9 S9 with
                    | div => rw [q10] at e7; cases e7
                    | exc c fs S10 => rw [q10] at e7; cases e7
                    | ok b1 S10 =>
                      rw [q10] at e7
                      dsimp only at e7
                      rintro G10 H10 _ k10 w10 rfl
                      obtain ⟨nf10, nm10, hA10⟩ := k10.far nf8 nm8 hA8 (nl _)
                      have r10 := (w9.lean k10).isL r8
                      cases b1 with
                      | false =>
                        rw [if_neg Bool.false_ne_true] at e7 ⊢
                        exact ⟨hl1, G10, S10, acc7, es7, ys7, (k7.trans k8).trans k10, (h7.trans k8.hide).trans k10.hide, w10, nf10, nm10, hA10, r10, e7, fin7⟩
                      | true =>
                        rw [if_pos rfl] at e7 ⊢
                        refine ⟨ρ9, G10, S10, ag9.keep w9 k10, w10, ?_⟩
                        cases q11 : fe ρ9 S10 with
                        | div => rw [q11] at e7; cases e7
                        | exc c fs S11 => rw [q11] at e7; cases e7
                        | ok y11 S11 =>
                          rw [q11] at e7
                          dsimp only at e7
                          intro G11 H11 v11 k11 w11 i11
                          obtain ⟨nf11, nm11, hA11⟩ := k11.far nf10 nm10 hA10 (nl _)
                          have r11 := (w10.lean k11).isL r10
                          cases q12 : lcM g1 ft1 fe (wipeR ρ4 vs1) (ds1.drop (j + 1)) S11 with
                          | div => rw [q12] at e7; cases e7
                          | exc c fs S12 => rw [q12] at e7; cases e7
                          | ok ys12 S12 =>
                            rw [q12] at e7
                            cases e7
                            have le11 := r11.len
                            have szz : es7.length < dsf.length := by rw [← fin7]; simp
                            refine ⟨acc7, hA11, by omega, hl1, G11, S11, acc7 ++ [v11], es7 ++ [y11], ys12, (((k7.trans k8).trans k10).trans k11).at hA, by rw [hide_upd]; exact ((h7.trans k8.hide).trans k10.hide).trans k11.hide, w11.out nf11 nm11, nf11, nm11, upd_same, (lean_at nf11).isL (r11.app (.cons i11 .nil)), q12, by simpa using fin7⟩
theorem sn_lc2 (hc : X.calm = true) (hN : X.N.Nodup) (hi : SI X T W false tg iter fl) (ok : BlkOk X.N X.env.scope scope own) (hv : ∀ i ∈ vs1, i ∈ own.map (·.2))
    (hg : ∀ (s : Shared) (H : Hp) (C : Addr) (cl : List (Str × Addr)) (fp : List Addr), SGb (X.blk s H scope (compEnvC scope cl C X.env) fp) T (own.map (·.2)) tg g)
    (ht : ∀ (s : Shared) (H : Hp) (C : Addr) (cl : List (Str × Addr)) (fp : List Addr), STs (X.blk s H scope (compEnvC scope cl C X.env) fp) T WF ifs ft)
    (hi1 : ∀ (s : Shared) (H : Hp) (C : Addr) (cl : List (Str × Addr)) (fp : List Addr), SI (X.blk s H scope (compEnvC scope cl C X.env) fp) T WF true tg1 iter1 fi)
    (hg1 : ∀ (s : Shared) (H : Hp) (C : Addr) (cl : List (Str × Addr)) (fp : List Addr), SGb (X.blk s H scope (compEnvC scope cl C X.env) fp) T vs1 tg1 g1)
    (ht1 : ∀ (s : Shared) (H : Hp) (C : Addr) (cl : List (Str × Addr)) (fp : List Addr), STs (X.blk s H scope (compEnvC scope cl C X.env) fp) T WF ifs1 ft1)
    (he : ∀ (s : Shared) (H : Hp) (C : Addr) (cl : List (Str × Addr)) (fp : List Addr), SE (X.blk s H scope (compEnvC scope cl C X.env) fp) T WF elt fe)
    (hs : ∀ x, foldedSetIterable iter X.env x = pure x := by intro _; rfl) (hs1 : ∀ env x, foldedSetIterable iter1 env x = pure x := by intro _ _; rfl) :
    SN X T W (.ListComp elt [⟨tg, iter, ifs, 0⟩, ⟨tg1, iter1, ifs1, 0⟩] scope pos) (lcN2 fl g ft fi g1 ft1 fe (own.map (·.2)) vs1) := by
  exact ⟨pe_imp (pe_lc2 hc hN hi.pi ok hv (fun s H C cl fp => (hg s H C cl fp).pg) (fun s H C cl fp => (ht s H C cl fp).pts) (fun s H C cl fp => (hi1 s H C cl fp).pi) (fun s H C cl fp => (hg1 s H C cl fp).pg) (fun s H C cl fp => (ht1 s H C cl fp).pts) (fun s H C cl fp => (he s H C cl fp).pe) hs hs1) fun σ H Q h => tlc2_of h⟩
theorem xownLc2 {x : Str} {py spos : Pos} (i : Nat) (hN : X.N.Nodup) (hi : SI X T W false tg iter fl) (ok : BlkOk X.N X.env.scope scope own) (hv : ∀ i ∈ vs1, i ∈ own.map (·.2))
    (hg : ∀ (s : Shared) (H : Hp) (C : Addr) (cl : List (Str × Addr)) (fp : List Addr), SGb (X.blk s H scope (compEnvC scope cl C X.env) fp) T (own.map (·.2)) tg g)
    (ht : ∀ (s : Shared) (H : Hp) (C : Addr) (cl : List (Str × Addr)) (fp : List Addr), STs (X.blk s H scope (compEnvC scope cl C X.env) fp) T WF ifs ft)
    (hi1 : ∀ (s : Shared) (H : Hp) (C : Addr) (cl : List (Str × Addr)) (fp : List Addr), SI (X.blk s H scope (compEnvC scope cl C X.env) fp) T WF true tg1 iter1 fi)
    (hg1 : ∀ (s : Shared) (H : Hp) (C : Addr) (cl : List (Str × Addr)) (fp : List Addr), SGb (X.blk s H scope (compEnvC scope cl C X.env) fp) T vs1 tg1 g1)
    (ht1 : ∀ (s : Shared) (H : Hp) (C : Addr) (cl : List (Str × Addr)) (fp : List Addr), STs (X.blk s H scope (compEnvC scope cl C X.env) fp) T WF ifs1 ft1)
    (he : ∀ (s : Shared) (H : Hp) (C : Addr) (cl : List (Str × Addr)) (fp : List Addr), SE (X.blk s H scope (compEnvC scope cl C X.env) fp) T WF elt fe)
    (hs : ∀ x, foldedSetIterable iter X.env x = pure x := by intro _; rfl) (hs1 : ∀ env x, foldedSetIterable iter1 env x = pure x := by intro _ _; rfl)
    (hc : X.calm = true := by rfl) (hx : X.N[i]? = some x := by rfl) (hk : X.env.scope.kind = .function := by rfl) (hxl : X.env.scope.names.lookup x = some .local := by rfl) (hl : (py.line == pos.line) = true := by rfl) (ha : (scope.names.any fun (n, k) => n == x && (k == .local || k == .cell)) = false := by rfl) :
    SS X T W (.Assign [.Name x py] (.ListComp elt [⟨tg, iter, ifs, 0⟩, ⟨tg1, iter1, ifs1, 0⟩] scope pos) spos) (sOwn i (lcN2 fl g ft fi g1 ft1 fe (own.map (·.2)) vs1)) :=
  ⟨ps_imp (ps_setLc2 hc hN hx hxl (sw_true hk hxl hl ha) hi.pi ok hv (fun s H C cl fp => (hg s H C cl fp).pg) (fun s H C cl fp => (ht s H C cl fp).pts) (fun s H C cl fp => (hi1 s H C cl fp).pi) (fun s H C cl fp => (hg1 s H C cl fp).pg) (fun s H C cl fp => (ht1 s H C cl fp).pts) (fun s H C cl fp => (he s H C cl fp).pe) hs hs1) fun E σ H h => tlc2_of (own_in h)⟩
theorem xsetLc2 {x : Str} {py spos : Pos} (i : Nat) (hN : X.N.Nodup) (hi : SI X T W false tg iter fl) (ok : BlkOk X.N X.env.scope scope own) (hv : ∀ i ∈ vs1, i ∈ own.map (·.2))
    (hg : ∀ (s : Shared) (H : Hp) (C : Addr) (cl : List (Str × Addr)) (fp : List Addr), SGb (X.blk s H scope (compEnvC scope cl C X.env) fp) T (own.map (·.2)) tg g)
    (ht : ∀ (s : Shared) (H : Hp) (C : Addr) (cl : List (Str × Addr)) (fp : List Addr), STs (X.blk s H scope (compEnvC scope cl C X.env) fp) T WF ifs ft)
    (hi1 : ∀ (s : Shared) (H : Hp) (C : Addr) (cl : List (Str × Addr)) (fp : List Addr), SI (X.blk s H scope (compEnvC scope cl C X.env) fp) T WF true tg1 iter1 fi)
    (hg1 : ∀ (s : Shared) (H : Hp) (C : Addr) (cl : List (Str × Addr)) (fp : List Addr), SGb (X.blk s H scope (compEnvC scope cl C X.env) fp) T vs1 tg1 g1)
    (ht1 : ∀ (s : Shared) (H : Hp) (C : Addr) (cl : List (Str × Addr)) (fp : List Addr), STs (X.blk s H scope (compEnvC scope cl C X.env) fp) T WF ifs1 ft1)
    (he : ∀ (s : Shared) (H : Hp) (C : Addr) (cl : List (Str × Addr)) (fp : List Addr), SE (X.blk s H scope (compEnvC scope cl C X.env) fp) T WF elt fe)
    (hs : ∀ x, foldedSetIterable iter X.env x = pure x := by intro _; rfl) (hs1 : ∀ env x, foldedSetIterable iter1 env x = pure x := by intro _ _; rfl)
    (hc : X.calm = true := by rfl) (hx : X.N[i]? = some x := by rfl) (hk : X.env.scope.kind = .function := by rfl) (hxl : X.env.scope.names.lookup x = some .local := by rfl) (hl : (py.line == pos.line) = true := by rfl) (ha : (scope.names.any fun (n, k) => n == x && (k == .local || k == .cell)) = false := by rfl) :
    SS X T W (.Assign [.Name x py] (.ListComp elt [⟨tg, iter, ifs, 0⟩, ⟨tg1, iter1, ifs1, 0⟩] scope pos) spos) (sSet i (eN (lcN2 fl g ft fi g1 ft1 fe (own.map (·.2)) vs1))) :=
  ⟨ps_imp (ps_setLc2 hc hN hx hxl (sw_true hk hxl hl ha) hi.pi ok hv (fun s H C cl fp => (hg s H C cl fp).pg) (fun s H C cl fp => (ht s H C cl fp).pts) (fun s H C cl fp => (hi1 s H C cl fp).pi) (fun s H C cl fp => (hg1 s H C cl fp).pg) (fun s H C cl fp => (ht1 s H C cl fp).pts) (fun s H C cl fp => (he s H C cl fp).pe) hs hs1) fun E σ H h => tlc2_of (set_in h)⟩
end
end LS

set_option Elab.async false
set_option linter.all false
set_option maxRecDepth 100000
set_option maxHeartbeats 1000000
namespace LS
open PySem L2 PySem.Spec
open PyProof.Rows hiding St
open ClX

/-! ## 37. truth as a value -/
def eNotT (fa : Ev) : Ev := fun ρ => bd (fa ρ) fun x => bd (truM x) fun k => ret (.bl (!k))
def eAndT (fa fb : Ev) : Ev := fun ρ => bd (fa ρ) fun x => bd (truM x) fun k => if k = true then fb ρ else ret x
def eOrT (fa fb : Ev) : Ev := fun ρ => bd (fa ρ) fun x => bd (truM x) fun k => if k = true then ret x else fb ρ
section
variable {X : Cx} {T : Tb} {W : WX} {a b : Expr} {rest : List Expr} {pos : Pos} {fa fb : Ev} {G : Gh} {H : Hp} {S : Sto}
theorem tru_split {α : Type} {x : D} {k : Bool → M α} {r : Res α} (h : bd (truM x) k S = r) : (∃ b, truD x S = some b ∧ k b S = r) ∨ r = .div := by
  unfold bd truM at h
  cases e : truD x S with
  | none => rw [e] at h; exact .inr h.symm
  | some b => rw [e] at h; exact .inl ⟨b, rfl, h⟩
theorem se_notT (ha : SB X T W a fa) (hT : T.K = X.K := by rfl) : SE X T W (.UnaryOp .Not a pos) (eNotT fa) := by
  refine ⟨pe_imp (pe_notT ha.pe) fun σ H Q ⟨ρ, G, S, ag, wf, o⟩ => ⟨ρ, G, S, ag, wf, o.bind fun x S1 G1 H1 v k1 w1 i1 o1 => ?_⟩⟩
  rcases tru_split (x := x) (S := S1) rfl with ⟨b, e, q⟩ | q
  · rw [← q] at o1
    exact ⟨b, truV_of hT w1 i1 e, o1.now w1 (is_bl _)⟩
  · rw [q] at o1; exact o1.elim
theorem se_andT (ha : SE X T W a fa) (hb : SE X T W (.BoolOp .And (b :: rest) pos) fb) (hT : T.K = X.K := by rfl) : SE X T W (.BoolOp .And (a :: b :: rest) pos) (eAndT fa fb) := by
  refine ⟨pe_imp (pe_andT ha.pe hb.pe) fun σ H Q ⟨ρ, G, S, ag, wf, o⟩ => ⟨ρ, G, S, ag, wf, o.bind fun x S1 G1 H1 v k1 w1 i1 o1 => ?_⟩⟩
  rcases tru_split (x := x) (S := S1) rfl with ⟨k, e, q⟩ | q
  · rw [← q] at o1
    refine ⟨k, truV_of hT w1 (.inl i1) e, ?_⟩
    cases k with
    | true => exact ⟨ρ, G1, S1, ag.keep wf k1, w1, o1⟩
    | false => exact o1.now w1 i1
  · rw [q] at o1; exact o1.elim
theorem se_orT (ha : SE X T W a fa) (hb : SE X T W (.BoolOp .Or (b :: rest) pos) fb) (hT : T.K = X.K := by rfl) : SE X T W (.BoolOp .Or (a :: b :: rest) pos) (eOrT fa fb) := by
  refine ⟨pe_imp (pe_orT ha.pe hb.pe) fun σ H Q ⟨ρ, G, S, ag, wf, o⟩ => ⟨ρ, G, S, ag, wf, o.bind fun x S1 G1 H1 v k1 w1 i1 o1 => ?_⟩⟩
  rcases tru_split (x := x) (S := S1) rfl with ⟨k, e, q⟩ | q
  · rw [← q] at o1
    refine ⟨k, truV_of hT w1 (.inl i1) e, ?_⟩
    cases k with
    | true => exact o1.now w1 i1
    | false => exact ⟨ρ, G1, S1, ag.keep wf k1, w1, o1⟩
  · rw [q] at o1; exact o1.elim
end
/-- a promise that asks nothing of guards, where they are known -/
theorem FnG.top {gb : Bool} {P : Program} {w : World} {K : PySem.W.Frag} {mg : Str → Option Value} {base : Heap} {k : Nat} {f : Addr} {fd : FuncData} {ps : List Str} {sp : Sp} (F : FnG gb P w K mg base k f fd ps sp) : FnG true P w K mg base k f fd ps sp :=
  ⟨F.len, fun A out s H args us vs Q E hr => F.go A out s H args us vs Q E ⟨hr.rm, fun _ => hr.gd rfl⟩⟩
end LS

set_option Elab.async false
set_option linter.all false
set_option maxRecDepth 100000
set_option maxHeartbeats 1000000
/-! ## 40. own special methods: len, str, repr, bool, == and != of an own object -/
namespace LS
open PySem L2 PySem.Spec
open PyProof.Rows hiding St
open ClX
section
variable {prog : Program} {w : World} {A : Around} {E : Value → Shared → Prop} {s : Shared} {K : PySem.W.Frag} {x C ff : Addr} {ox : Obj} {od : Option Obj} {Q : Value → Shared → Prop}
/-- a number that len may give -/
def LenBack (Q : Value → Shared → Prop) (r : Value) (s' : Shared) : Prop := ∃ n u, r = .int n u ∧ 0 ≤ n ∧ n < 9223372036854775808 ∧ Q (.int n s'.toks) { s' with toks := s'.toks + 1 }
theorem len_k (X : K.In s.heap) (I : PySem.W.InstAt s.heap x ox C od) (hs : PySem.W.findIn K (.ref C) "__len__" = some (some (.ref ff))) (hf : PySem.W.isFn K (.ref ff) = true)
    (hc : wpAny (model prog w) A.in1 (call (.ref ff) [.ref x]) (LenBack Q) E s) : wpAny (model prog w) A (call (.builtin "len") [.ref x]) Q E s := by
  apply Calls.call_function_entry kind_len plain_len entry_len (args_len1 (.ref x))
  unfold Builtin.«len»
  apply wpAny_bind (m := oneArg "len" _)
  apply wpAny_pure
  apply wpAny_bind (m := callSpecial? (.ref x) (Str.ofString "__len__"))
  apply PySem.W.special_fn X I hs (beq_iff_eq.mp hf)
  refine wpAny_mono hc (fun r s' ⟨n, u, e, h0, h1, hq⟩ => ?_) fun _ _ z => z
  subst e
  apply wpAny_bind
  apply wpAny_holding
  apply wpAny_pure
  apply wpAny_bind
  apply wpAny_letGo
  show wpAny _ _ (if n < 0 then _ else _) _ _ s'
  rw [if_neg (by omega)]
  show wpAny _ _ (if n ≥ 2 ^ 63 then _ else _) _ _ s'
  rw [if_neg (by omega)]
  exact wpAny_bind (wpAny_mkInt (wpAny_pure ⟨_, rfl, hq⟩))
def TextBack (Q : Value → Shared → Prop) (r : Value) (s' : Shared) : Prop := ∃ m u, r = .str m u ∧ Q (.str m u) s'
theorem repr_k (X : K.In s.heap) (I : PySem.W.InstAt s.heap x ox C od) (hs : PySem.W.findIn K (.ref C) "__repr__" = some (some (.ref ff))) (hf : PySem.W.isFn K (.ref ff) = true) (hu : A.in1.units < cLine)
    (hc : wpAny (model prog w) A.in1 (call (.ref ff) [.ref x]) (TextBack Q) E s) : wpAny (model prog w) A (call (.builtin "repr") [.ref x]) Q E s := by
  apply Calls.call_function_entry F.kind_repr F.plain_repr F.entry_repr (F.args_repr1 (.ref x))
  unfold Builtin.«repr»
  apply wpAny_bind (m := oneArg "repr" _)
  apply wpAny_pure
  apply wpAny_bind
  apply wpAny_cRoomFor hu
  apply wpAny_bind (m := specialOf (.ref x) _)
  unfold specialOf
  apply wpAny_bind
  apply I.type.here
  apply (PySem.W.looks_findIn X hs).here
  show wpAny _ _ (if (some (Value.ref ff)).isNone = true then _ else _) _ _ s
  rw [if_neg (show ¬ ((some (Value.ref ff)).isNone = true) from nofun)]
  apply wpAny_bind (m := callSpecialIfBound? (.ref x) (Str.ofString "__repr__") _)
  apply PySem.W.ifBound_K X I hs hf
  refine wpAny_mono hc (fun r s' ⟨m, u, e, hq⟩ => ?_) fun _ _ z => z
  subst e
  apply wpAny_bind
  apply wpAny_isInstance (typeIs_str _ _ _) isSubtype_str_str
  first
    | exact wpAny_pure ⟨_, rfl, hq⟩
    | (rw [if_pos rfl]; exact wpAny_pure ⟨_, rfl, hq⟩)
    | (simp only [if_true]; exact wpAny_pure ⟨_, rfl, hq⟩)
/-- T(..), T a built-in type, in one program -/
theorem type_k {T newId : String} {Bn : Builtin} {args : List Value} {S : PySem.Spec} (ft : TypeCalled T newId "object.__init__") (hne : (some newId != some "object.__new__") = true) (h1 : checkTypeCall T ⟨args, []⟩ = pure ())
    (h2 : checkBuiltinCall newId ⟨.type T :: args, []⟩ = pure ()) (h3 : ∀ o, argsOk "object.__init__" ⟨o :: args, []⟩) (h4 : entryFor table newId = some Bn)
    (g : MeetsIn prog w (Bn ⟨.type T :: args, []⟩) S) (h : S A.in1 (wants (fun o s' => s'.TypeIs o T ∧ Q o s') E) s) : wpAny (model prog w) A (call (.type T) args) Q E s := by
  have ⟨c, tl, e1⟩ := ft.mro
  have e2 := ft.made
  have e3 := ft.sub
  have e4 := ft.notType
  have e5 := ft.canCreate
  apply wpAny_call
  apply codeAny_of_tree
  show wpAny _ _ (callAny (.type T) _) _ _ s
  refine wpAny_pure ⟨Code.quiet_builtin _ (by decide +kernel), ?_⟩
  apply codeAny_builtin F.entry_type_call
  rw [Around.under_plain (weight_type_call_type T args []) (units_type_call_type T args [])]
  repeat (any_goals (first | assumption | wp_step | fail))
  apply codeAny_mono (codeAny_call_builtin ft.plain h4 (wpAny_of_eq h2 (g A.in1 _ s h)))
  intro r s1 hr
  match r, hr with
  | .error e, hr => exact hr
  | .ok (.ret o), hr =>
    obtain ⟨hT, hq⟩ := hr
    have e6 := ft.init.lookup
    have e7 := ft.init.bind o
    have gi := object_init_meets (self := o) (rest := args) ft.init.lookup ft.made hne
    repeat (any_goals (first | assumption | wp_step | fail))
    apply codeAny_mono (codeAny_call_builtin ft.init.plain F.entry_object_init (ft.init.check _ _ _ _ _ _ _ _ hT (h3 o) (gi prog w A.in1 (wants (fun r s2 => r = .none ∧ Q o s2) E) s1 ⟨hT, rfl, hq⟩)))
    intro r2 s2 hr2
    match r2, hr2 with
    | .error e, hr2 => exact hr2
    | .ok (.ret r3), hr2 =>
      obtain ⟨e8, hq2⟩ := hr2
      subst e8
      repeat (any_goals (first | assumption | wp_step | fail))
    | .ok .next, hr2 => exact False.elim hr2
    | .ok .brk, hr2 => exact False.elim hr2
    | .ok .cont, hr2 => exact False.elim hr2
  | .ok .next, hr => exact False.elim hr
  | .ok .brk, hr => exact False.elim hr
  | .ok .cont, hr => exact False.elim hr
theorem str_k (X : K.In s.heap) (I : PySem.W.InstAt s.heap x ox C od) (hs : PySem.W.findIn K (.ref C) "__str__" = some (some (.ref ff))) (hf : PySem.W.isFn K (.ref ff) = true) (hu : A.in1.in1.units < cLine)
    (hc : wpAny (model prog w) A.in1.in1 (call (.ref ff) [.ref x]) (TextBack Q) E s) : wpAny (model prog w) A (call (.type "str") [.ref x]) Q E s := by
  have body : wpAny (model prog w) A.in1.in1 (Builtin.Str.strOf (.ref x)) (TextBack Q) E s := by
    unfold Builtin.Str.strOf
    rw [if_neg (show ¬ (Builtin.Str.isExactStr (.ref x) = true) from Bool.false_ne_true)]
    apply wpAny_bind
    apply wpAny_cRoomFor hu
    apply wpAny_bind (m := callSpecial? (.ref x) (Str.ofString "__str__"))
    apply PySem.W.special_fn X I hs (beq_iff_eq.mp hf)
    refine wpAny_mono hc (fun r s' ⟨m, u, e, hq⟩ => ?_) fun _ _ z => z
    subst e
    exact wpAny_pure ⟨m, u, rfl, hq⟩
  apply type_k F.called_str (by decide) (F.typeCall_str_1 _) (F.newCall_str_1 _) (fun o => F.args_object_init_2 o _) F.entry_str_new (S := fun B R s => wpAny (model prog w) B.in1 (Builtin.Str.strOf (.ref x)) (fun r s' => R (.ok (.ret r)) s') (fun e s' => R (.error e) s') s)
  · apply MeetsIn.of_wp
    intro B R s2 h
    rw [str_new_tree]
    apply wpAny_bind
    apply wpAny_pure
    apply wpAny_bind
    apply wpAny_of_eq isSubtype_str_str
    apply wpAny_bind
    exact wpAny_mono h (fun r s3 hr => wpAny_pure ⟨_, rfl, hr⟩) fun _ _ z => z
  · refine wpAny_mono body (fun r s' ⟨m, u, e, hq⟩ => ?_) fun _ _ z => z
    subst e
    exact ⟨typeIs_str _ _ _, hq⟩
def BoolBack (Q : Value → Shared → Prop) (r : Value) (s' : Shared) : Prop := ∃ b, r = .bool b ∧ Q (.bool b) s'
theorem bool_k (X : K.In s.heap) (I : PySem.W.InstAt s.heap x ox C od) (hs : PySem.W.findIn K (.ref C) "__bool__" = some (some (.ref ff))) (hf : PySem.W.isFn K (.ref ff) = true)
    (hc : wpAny (model prog w) A.in1.in1 (call (.ref ff) [.ref x]) (BoolBack Q) E s) : wpAny (model prog w) A (call (.type "bool") [.ref x]) Q E s := by
  have body : wpAny (model prog w) A.in1.in1 (truthy (.ref x)) (fun b s' => Q (.bool b) s') E s := by
    unfold truthy
    apply wpAny_bind (m := callSpecial? (.ref x) (Str.ofString "__bool__"))
    apply PySem.W.special_fn X I hs (beq_iff_eq.mp hf)
    refine wpAny_mono hc (fun r s' ⟨b, e, hq⟩ => ?_) fun _ _ z => z
    subst e
    exact wpAny_pure hq
  apply type_k F.called_bool F.newNe_bool (F.typeCall_bool_1 _) (F.newCall_bool_1 _) (fun o => F.args_object_init_2 o _) F.entry_bool_new (S := fun B R s => wpAny (model prog w) B.in1 (truthy (.ref x)) (fun b s' => R (.ok (.ret (.bool b))) s') (fun e s' => R (.error e) s') s)
  · apply MeetsIn.of_wp
    intro B R s2 h
    obtain ⟨hp, g, d, tk, os⟩ := s2
    have e1 := F.conv_sub_bool
    unfold Builtin.«bool.__new__»
    apply wpAny_bind
    apply wpAny_pure
    apply wpAny_bind
    apply wpAny_of_eq e1
    apply wpAny_bind
    apply wpAny_pure
    apply wpAny_bind (m := truthy (.ref x))
    exact wpAny_mono h (fun r s3 hr => wpAny_pure ⟨_, rfl, hr⟩) fun _ _ z => z
  · refine wpAny_mono body (fun b s' hq => ⟨?_, hq⟩) fun _ _ z => z
    exact PySem.typeIs_bool _ _
theorem neBody_k {b : Value} {R : Fin → Shared → Prop} (X : K.In s.heap) (I : PySem.W.InstAt s.heap x ox C od) (hs : PySem.W.findIn K (.ref C) "__eq__" = some (some (.ref ff))) (hf : PySem.W.isFn K (.ref ff) = true) (hu : A.units < cLine)
    (hc : wpAny (model prog w) A (call (.ref ff) [.ref x, b]) (fun v s' => ∃ k, v = .bool k ∧ R (.done (.ret (.bool (!k)))) s') E s) : wpAny (model prog w) A (Builtin.«object.__ne__» ⟨[.ref x, b], []⟩) R E s := by
  unfold Builtin.«object.__ne__»
  apply wpAny_bind (m := slotArgs "__ne__" 1 _)
  apply wpAny_pure
  apply wpAny_bind
  apply wpAny_cRoomFor hu
  apply wpAny_bind (m := callSpecialIfBound? (.ref x) (Str.ofString "__eq__") [b])
  apply PySem.W.ifBound_K X I hs hf
  refine wpAny_mono hc (fun r s' ⟨k, e, hq⟩ => ?_) fun _ _ z => z
  subst e
  apply wpAny_bind (m := truthy (.bool k))
  apply wpAny_truthy_bool
  exact wpAny_pure hq
theorem ne_k {L : Addr} {h0 : Heap} {mm : Str → Option Value} {b tb : Value} (hu : A.units + 1 < cLine) (FR : Fr h0 L s.heap mm) (X0 : K.In h0) (I : PySem.W.InstAt s.heap x ox C od) (hb : PySem.W.Looks (model prog w) s.heap (typeOf b) tb) (hn : PySem.W.notFirst K C tb = true)
    (ho : PySem.W.mroIn K C (.type "object") = some true) (hne : PySem.W.findIn K (.ref C) "__ne__" = some (some (.builtin "object.__ne__"))) (hs : PySem.W.findIn K (.ref C) "__eq__" = some (some (.ref ff))) (hf : PySem.W.isFn K (.ref ff) = true)
    (hc : wpAny (model prog w) A.in1 (call (.ref ff) [.ref x, b]) (fun v s' => ∃ k, v = .bool k ∧ Q (.bool (!k)) s') E s) : wpAny (model prog w) A (richCompare .NotEq (.ref x) b) Q E s := by
  have X := X0.keeps FR.keep
  have one : wpAny (model prog w) A (tryCompare (.ref x) (cmpInfo .NotEq).2.1 b) (fun r s' => ∃ v, r = some v ∧ Q v s') E s := by
    unfold tryCompare
    apply wpAny_bind (m := callSpecialIfBound? (.ref x) (Str.ofString "__ne__") [b])
    have go : wpAny (model prog w) A (call (.builtin "object.__ne__") [.ref x, b]) (fun v s' => ∃ k, v = .bool k ∧ Q (.bool k) s') E s := by
      refine wpAny_call (codeAny_call_builtin (by decide +kernel) F.cmpEntry_ne (PySem.W.check_slot (i := "object.__ne__") (owner := "object") (n := "__ne__") F.cmpKind_ne F.cmpSplit_ne (I.type.andThen (PySem.W.looks_mroIn X ho)) (F.cmpArgs_ne _ _) ?_))
      refine neBody_k (A := A.in1) X I hs hf hu (wpAny_mono hc (fun v s' ⟨k, e, hq⟩ => ?_) fun _ _ z => z)
      exact ⟨k, e, !k, rfl, hq⟩
    have fin : wpAny (model prog w) A (call (.builtin "object.__ne__") ([.ref x] ++ [b]) >>= fun v => pure (some v)) (fun r s' => wpAny (model prog w) A (match r with | some .notImplemented | none => pure none | some v => pure (some v)) (fun r s' => ∃ v, r = some v ∧ Q v s') E s') E s := by
      apply wpAny_bind
      refine wpAny_mono go (fun v s' ⟨k, e, hq⟩ => ?_) fun _ _ z => z
      subst e
      exact wpAny_pure (wpAny_pure ⟨_, rfl, hq⟩)
    have bnd : ∀ y, bindSpecial (.builtin "object.__ne__") y = pure (.builtin "object.__ne__", [y]) := fun y => F.slot_object_ne.bind y
    simp only [callSpecialIfBound?, bindSpecialIfBound?]
    apply wpAny_holding
    apply wpAny_bind
    apply wpAny_bind
    apply wpAny_bind
    apply I.type.here
    apply (PySem.W.looks_findIn X hne).here
    apply wpAny_bind
    apply wpAny_askSetting
    apply wpAny_ite
    split
    · exact wpAny_bind ((PySem.W.Looks.of_pure (bnd _)).here (wpAny_pure (by exact fin)))
    · exact wpAny_tryCatch (wpAny_bind ((PySem.W.Looks.of_pure (bnd _)).here (wpAny_pure (by exact fin))))
  unfold richCompare
  simp only [oneThing_ref]
  apply wpAny_holding
  apply wpAny_bind
  apply wpAny_cRoomFor (by omega)
  apply wpAny_bind
  apply I.type.here
  apply wpAny_bind
  apply hb.here
  split
  · rename_i q
    have e : PySem.W.subIn K tb (.ref C) = some false := by
      rcases Bool.or_eq_true_iff.mp hn with e | e
      · rw [beq_iff_eq.mp e] at q
        simp at q
      · exact beq_iff_eq.mp e
    apply wpAny_bind
    apply (PySem.W.looks_subIn X e).here
    simp only [Bool.false_eq_true, if_false]
    refine wpAny_bind (wpAny_mono one (fun r s' ⟨v, e, hq⟩ => ?_) fun _ _ z => z)
    subst e
    exact wpAny_pure hq
  · apply wpAny_bind
    apply wpAny_pure
    simp only [Bool.false_eq_true, if_false]
    refine wpAny_bind (wpAny_mono one (fun r s' ⟨v, e, hq⟩ => ?_) fun _ _ z => z)
    subst e
    exact wpAny_pure hq
end
end LS

set_option Elab.async false
set_option linter.all false
set_option maxRecDepth 100000
set_option maxHeartbeats 1000000
/-! ## 41. the same over data -/
namespace LS
open PySem L2 PySem.Spec
open PyProof.Rows hiding St
open ClX
/-- g, a def of the class cc, asked of an object and more -/
def own1 (cc : Nat) (g : List D → M D) (more : List D) (d : D) : M D := fun S => match d with
  | .obj c _ => if c = cc then nox (g (d :: more)) S else .div
  | _ => .div
def onlyI (d : D) : M D := match d with
  | .int n => if 0 ≤ n ∧ n < 9223372036854775808 then ret (.int n) else dv
  | _ => dv
def onlyS (d : D) : M D := match d with
  | .str z => ret (.str z)
  | _ => dv
def onlyB (d : D) : M D := match d with
  | .bl b => ret (.bl b)
  | _ => dv
def notB (d : D) : M D := match d with
  | .bl b => ret (.bl (!b))
  | _ => dv
def lenO (cc : Nat) (g : List D → M D) (d : D) : M D := bd (own1 cc g [] d) onlyI
def textO (cc : Nat) (g : List D → M D) (d : D) : M D := bd (own1 cc g [] d) onlyS
def truO (cc : Nat) (g : List D → M D) (d : D) : M D := bd (own1 cc g [] d) onlyB
def propO (cc : Nat) (g : List D → M D) (d : D) : M D := own1 cc g [] d
def fitsO (cc : Nat) (y : D) (S : Sto) : Bool := match tyOf y S with
  | .inl _ => true
  | .inr c => c == cc
def cmpO (cc : Nat) (g : List D → M D) (k : D → M D) (x y : D) : M D := fun S => if fitsO cc y S = true then bd (own1 cc g [y] x) k S else .div
section
variable {X : Cx} {T : Tb} {W : WX} {e a b c o tg : Expr} {f fa fb : Ev} {pos p2 p apos pos' : Pos} {es : List Expr} {x fn : Str} {i n k : Nat} {G : Gh} {H : Hp} {S : Sto} {σ : St} {Q : VK} {cc : Nat} {g : List D → M D} {sp : Sp} {ff : Addr} {gb : Bool}
theorem sp_nox {ds : List D} {vs : List V} (o : Out T W σ G H (rIs T) Q (nox (g ds) S)) (w : Wf T G H S) (r : IsL T G H ds vs) (hn : vs.length = n) : spOf T n g vs H Q (fun _ _ _ => False) := by
  refine ⟨hn, ds, G, S, r, w, ?_⟩
  unfold nox at o
  cases q : g ds S with
  | ok d S' => rw [q] at o; exact o
  | exc c fs S' => rw [q] at o; exact o.elim
  | div => rw [q] at o; exact o.elim
/-- what an own object is, and what its def promises -/
theorem obj_own {R : Gh → Hp → D → V → Prop} {d : D} {v : V} {more : List D} {ws : List V} {k : D → M D} (o : Out T W σ G H (rIs T) Q (bd (own1 cc g more d) k S)) (w : Wf T G H S) (h : IsB T G H d v) (r : IsL T G H more ws) (hn : ws.length + 1 = n) {Q1 : VK}
    (hq : ∀ y S' G' H' u, Kp G H G' H' → Wf T G' H' S' → Is T G' H' y u → Out T W σ G' H' (rIs T) Q (k y S') → Q1 u H') : ∃ p dx fs, v = .ref p ∧ H p = some (.ins (T.ca cc) dx fs) ∧ spOf T n g (.ref p :: ws) H Q1 (fun _ _ _ => False) := by
  have o1 := o.bind (R1 := rIs T) (Q1 := Q1) fun y S' G' H' u kk ww ii oo => hq y S' G' H' u kk ww ii oo
  unfold own1 at o1
  cases d <;> try exact o1.elim
  case obj c fs =>
    dsimp only at o1
    by_cases e : c = cc
    · subst e
      rw [if_pos rfl] at o1
      have ii : Is T G H (.obj c fs) v := by
        rcases h with h | ⟨_, _, _, z, _⟩
        · exact h
        · cases z
      have i2 := ii
      unfold Is at i2
      obtain ⟨p, dx, xs, rfl, ff, hx, ln, _⟩ := i2
      exact ⟨p, dx, _, rfl, hx, sp_nox o1 w (IsL.cons ii r) (by rw [List.length_cons, hn])⟩
    · rw [if_neg e] at o1; exact o1.elim
/-- the callee's code in any surroundings -/
theorem run_at {pins : List (Addr × Obj)} {H : Hp} {s : Shared} {Q : VK} {us : List Value} {vs : List V} {B : Around} {E2 : Value → Shared → Prop} (F : FnP false X.prog X.w X.K X.mg X.base k ff sp) (hr : Room k B) (e0 : Env0 X.prog X.w X.K X.mg X.base B X.stack s H) (I : Inv X pins σ H s) (r : Vals vs us)
    (h : sp vs H Q (fun _ _ _ => False)) : wpAny (model X.prog X.w) B (call (.ref ff) us) (EP X pins σ Q) E2 s := by
  apply wpAny_call
  refine codeAny_mono (F B X.stack s H us vs Q _ ⟨hr, nofun⟩ e0 r h) fun r s' hq => ?_
  match r, hq with
  | .error er, hq =>
    obtain ⟨_, _, _, _, _, _, _, _, _, _, _, _, z⟩ := hq
    exact z.elim
  | .ok (.ret u), hq => exact I.after hq
  | .ok .next, hq => exact False.elim hq
  | .ok .brk, hq => exact False.elim hq
  | .ok .cont, hq => exact False.elim hq
/-- an own special method -/
structure OwnM (K : PySem.W.Frag) (C : Addr) (m : Str) (f : Addr) : Prop where
  at_ : PySem.W.findIn K (.ref C) m = some (some (.ref f))
  fn : PySem.W.isFn K (.ref f) = true
abbrev rOwn (C : Addr) (sp : Sp) (R : V → Prop) : List V → Hp → VK → Prop := fun xs H Q => ∃ p dx fs, xs = [V.ref p] ∧ H p = some (.ins C dx fs) ∧ sp [.ref p] H (fun v H' => R v ∧ Q v H') (fun _ _ _ => False)
theorem cr_lenO {C : Addr} (m : OwnM X.K C "__len__" ff) (F : FnP false X.prog X.w X.K X.mg X.base k ff sp) (hr : Room (k + 1) X.A) : CallR X (.builtin "len") (rOwn C sp fun v => ∃ n, v = .int n ∧ 0 ≤ n ∧ n < 9223372036854775808) := by
  intro pins s σ H xs us Q I r ⟨p, dx, fs, e1, e2, h⟩
  subst e1
  have r0 := r
  obtain rfl := Vals.ref1 r
  obtain ⟨mA, J, _⟩ := ins_get I.hok e2
  obtain ⟨od, J, _⟩ := J.look
  refine len_k I.kIn J m.at_ m.fn (wpAny_mono (run_at F hr.in1 I.env0.in1 I r0 h) (fun u s' ⟨v, H', I', rv, ⟨n, e, h0, h1⟩, q⟩ => ?_) fun _ _ z => z)
  subst e
  obtain ⟨t, rfl⟩ := (show ∃ t, u = Value.int n t from rv)
  exact ⟨n, t, rfl, h0, h1, .int n, H', I'.tok _, ⟨_, rfl⟩, q⟩
theorem cr_reprO {C : Addr} (m : OwnM X.K C "__repr__" ff) (F : FnP false X.prog X.w X.K X.mg X.base k ff sp) (hr : Room (k + 1) X.A) : CallR X (.builtin "repr") (rOwn C sp fun v => ∃ z, v = .str z) := by
  intro pins s σ H xs us Q I r ⟨p, dx, fs, e1, e2, h⟩
  subst e1
  have r0 := r
  obtain rfl := Vals.ref1 r
  obtain ⟨mA, J, _⟩ := ins_get I.hok e2
  obtain ⟨od, J, _⟩ := J.look
  refine repr_k I.kIn J m.at_ m.fn hr.in1.units0 (wpAny_mono (run_at F hr.in1 I.env0.in1 I r0 h) (fun u s' ⟨v, H', I', rv, ⟨z, e⟩, q⟩ => ?_) fun _ _ z => z)
  subst e
  obtain ⟨t, rfl⟩ := (show ∃ t, u = Value.str z t from rv)
  exact ⟨z, t, rfl, .str z, H', I', ⟨_, rfl⟩, q⟩
theorem cr_strO {C : Addr} (m : OwnM X.K C "__str__" ff) (F : FnP false X.prog X.w X.K X.mg X.base k ff sp) (hr : Room (k + 2) X.A) : CallR X (.type "str") (rOwn C sp fun v => ∃ z, v = .str z) := by
  intro pins s σ H xs us Q I r ⟨p, dx, fs, e1, e2, h⟩
  subst e1
  have r0 := r
  obtain rfl := Vals.ref1 r
  obtain ⟨mA, J, _⟩ := ins_get I.hok e2
  obtain ⟨od, J, _⟩ := J.look
  refine str_k I.kIn J m.at_ m.fn hr.in1.in1.units0 (wpAny_mono (run_at F hr.in1.in1 I.env0.in1.in1 I r0 h) (fun u s' ⟨v, H', I', rv, ⟨z, e⟩, q⟩ => ?_) fun _ _ z => z)
  subst e
  obtain ⟨t, rfl⟩ := (show ∃ t, u = Value.str z t from rv)
  exact ⟨z, t, rfl, .str z, H', I', ⟨_, rfl⟩, q⟩
theorem cr_boolO {C : Addr} (m : OwnM X.K C "__bool__" ff) (F : FnP false X.prog X.w X.K X.mg X.base k ff sp) (hr : Room (k + 2) X.A) : CallR X (.type "bool") (rOwn C sp fun v => ∃ z, v = .bl z) := by
  intro pins s σ H xs us Q I r ⟨p, dx, fs, e1, e2, h⟩
  subst e1
  have r0 := r
  obtain rfl := Vals.ref1 r
  obtain ⟨mA, J, _⟩ := ins_get I.hok e2
  obtain ⟨od, J, _⟩ := J.look
  refine bool_k I.kIn J m.at_ m.fn (wpAny_mono (run_at F hr.in1.in1 I.env0.in1.in1 I r0 h) (fun u s' ⟨v, H', I', rv, ⟨z, e⟩, q⟩ => ?_) fun _ _ z => z)
  subst e
  cases (show u = Value.bool z from rv)
  exact ⟨z, rfl, .bl z, H', I', rfl, q⟩
theorem ok_lenO : OkC X T W (g1 (lenO cc g)) (rOwn (T.ca cc) (spOf T 1 g) fun v => ∃ n, v = .int n ∧ 0 ≤ n ∧ n < 9223372036854775808) := okC_one fun σ G H S d v Q wf h o => by
  obtain ⟨p, dx, fs, rfl, hx, z⟩ := obj_own (R := rIs T) (n := 1) o wf h IsL.nil rfl (Q1 := fun v H' => (∃ n, v = .int n ∧ 0 ≤ n ∧ n < 9223372036854775808) ∧ Q v H') fun y S' G' H' u kk ww ii oo => by
    unfold onlyI at oo
    cases y <;> try exact oo.elim
    case int n =>
      dsimp only at oo
      split at oo
      · rename_i c
        have e := ii
        cases b_int (.inl e)
        exact ⟨⟨n, rfl, c.1, c.2⟩, oo.now ww ii⟩
      · exact oo.elim
  exact ⟨p, dx, fs, rfl, hx, z⟩
theorem ok_textO : OkC X T W (g1 (textO cc g)) (rOwn (T.ca cc) (spOf T 1 g) fun v => ∃ z, v = .str z) := okC_one fun σ G H S d v Q wf h o => by
  obtain ⟨p, dx, fs, rfl, hx, z⟩ := obj_own (R := rIs T) (n := 1) o wf h IsL.nil rfl (Q1 := fun v H' => (∃ z, v = .str z) ∧ Q v H') fun y S' G' H' u kk ww ii oo => by
    unfold onlyS at oo
    cases y <;> try exact oo.elim
    case str n =>
      have e := ii
      cases b_str (.inl e)
      exact ⟨⟨n, rfl⟩, oo.now ww ii⟩
  exact ⟨p, dx, fs, rfl, hx, z⟩
theorem ok_truO : OkC X T W (g1 (truO cc g)) (rOwn (T.ca cc) (spOf T 1 g) fun v => ∃ z, v = .bl z) := okC_one fun σ G H S d v Q wf h o => by
  obtain ⟨p, dx, fs, rfl, hx, z⟩ := obj_own (R := rIs T) (n := 1) o wf h IsL.nil rfl (Q1 := fun v H' => (∃ z, v = .bl z) ∧ Q v H') fun y S' G' H' u kk ww ii oo => by
    unfold onlyB at oo
    cases y <;> try exact oo.elim
    case bl n =>
      have e := ii
      cases b_bl (.inl e)
      exact ⟨⟨n, rfl⟩, oo.now ww ii⟩
  exact ⟨p, dx, fs, rfl, hx, z⟩
end
end LS

set_option Elab.async false
set_option linter.all false
set_option maxRecDepth 100000
set_option maxHeartbeats 1000000
/-! ## 42. == and != of own objects, properties of any def, class methods by keyword -/
namespace LS
open PySem L2 PySem.Spec
open PyProof.Rows hiding St
open ClX
section
variable {X : Cx} {T : Tb} {W : WX} {e a b c o tg : Expr} {f fa fb : Ev} {pos p2 p apos pos' : Pos} {es : List Expr} {x fn : Str} {i n k : Nat} {G : Gh} {H : Hp} {S : Sto} {σ : St} {Q : VK} {cc : Nat} {g : List D → M D} {sp : Sp} {ff : Addr} {gb : Bool}
theorem w_lenO (m : OwnM X.K (T.ca cc) "__len__" ff) (F : FnP false X.prog X.w X.K X.mg X.base k ff (spOf T 1 g)) (hr : Room (k + 1) X.A) (hm : X.mg "len" = none) {fl : Rho → M (List D)} (ha : SAB X T W [e] fl) (hg : Gl X "len" := by rfl) (h1 : starEach [e] X.env = (false, eval e X.env) :: starEach [] X.env := by rfl) (h2 : (backTo pos (starEach [] X.env)).any (·.1) = false := by rfl) :
    SE X T W (.Call (.Name "len" p) [e] [] pos) (eCall (g1 (lenO cc g)) fl) := se_callB (cr_lenO m F hr) ok_lenO hg hm rfl ha (by decide) (by decide) h1 h2
theorem w_reprO (m : OwnM X.K (T.ca cc) "__repr__" ff) (F : FnP false X.prog X.w X.K X.mg X.base k ff (spOf T 1 g)) (hr : Room (k + 1) X.A) (hm : X.mg "repr" = none) {fl : Rho → M (List D)} (ha : SAB X T W [e] fl) (hg : Gl X "repr" := by rfl) (h1 : starEach [e] X.env = (false, eval e X.env) :: starEach [] X.env := by rfl) (h2 : (backTo pos (starEach [] X.env)).any (·.1) = false := by rfl) :
    SE X T W (.Call (.Name "repr" p) [e] [] pos) (eCall (g1 (textO cc g)) fl) := se_callB (cr_reprO m F hr) ok_textO hg hm rfl ha (by decide) (by decide) h1 h2
theorem w_strO (m : OwnM X.K (T.ca cc) "__str__" ff) (F : FnP false X.prog X.w X.K X.mg X.base k ff (spOf T 1 g)) (hr : Room (k + 2) X.A) (hm : X.mg "str" = none) {fl : Rho → M (List D)} (ha : SAB X T W [e] fl) (hg : Gl X "str" := by rfl) (h1 : starEach [e] X.env = (false, eval e X.env) :: starEach [] X.env := by rfl) (h2 : (backTo pos (starEach [] X.env)).any (·.1) = false := by rfl) :
    SE X T W (.Call (.Name "str" p) [e] [] pos) (eCall (g1 (textO cc g)) fl) := se_callT (cr_strO m F hr) ok_textO hg hm rfl ha (by decide) (by decide) h1 h2
theorem w_boolO (m : OwnM X.K (T.ca cc) "__bool__" ff) (F : FnP false X.prog X.w X.K X.mg X.base k ff (spOf T 1 g)) (hr : Room (k + 2) X.A) (hm : X.mg "bool" = none) {fl : Rho → M (List D)} (ha : SAB X T W [e] fl) (hg : Gl X "bool" := by rfl) (h1 : starEach [e] X.env = (false, eval e X.env) :: starEach [] X.env := by rfl) (h2 : (backTo pos (starEach [] X.env)).any (·.1) = false := by rfl) :
    SE X T W (.Call (.Name "bool" p) [e] [] pos) (eCall (g1 (truO cc g)) fl) := se_callT (cr_boolO m F hr) ok_truO hg hm rfl ha (by decide) (by decide) h1 h2
/-! comparisons -/
abbrev rCmp (X : Cx) (C : Addr) (sp : Sp) (h : Bool → Bool) : R2 := fun x y H Q => ∃ p dx fs t, x = V.ref p ∧ H p = some (.ins C dx fs) ∧ TyX X.K H y t ∧ PySem.W.notFirst X.K C t = true ∧ sp [.ref p, y] H (fun v H' => ∃ z, v = .bl z ∧ Q (.bl (h z)) H') (fun _ _ _ => False)
theorem op_eqO {C : Addr} (m : OwnM X.K C "__eq__" ff) (F : FnP false X.prog X.w X.K X.mg X.base k ff sp) (hr : Room k X.A) : OpR X (compareOp .Eq) (rCmp X C sp id) := by
  intro pins s σ H x y v u Q I rx ry ⟨p, dx, fs, t, e1, e2, ty, nf, h⟩
  subst e1
  obtain rfl : v = Value.ref p := rx
  obtain ⟨mA, J, _⟩ := ins_get I.hok e2
  obtain ⟨od, J, _⟩ := J.look
  obtain ⟨mm, hF⟩ := I.fr
  obtain ⟨P, kx, hP, _⟩ := kit_of I ry ty
  show wpAny (model X.prog X.w) X.A (richCompare .Eq (.ref p) u) (EP X pins σ Q) X.xe s
  refine PySem.W.cmp_K (op := .Eq) hr.units0 hF I.ok.mod.kin J (kx.ty _ _ I.kIn hP) nf m.at_ m.fn (wpAny_mono (run_at F hr I.env0 I (.cons (show RelV (V.ref p) (Value.ref p) from rfl) (.cons ry .nil)) h) (fun r s' ⟨v', H', I', rv, z, e, q⟩ => ?_) fun _ _ z => z)
  subst e
  cases (show r = Value.bool z from rv)
  exact ⟨.bl z, H', I', rfl, q⟩
theorem op_neO {C : Addr} (m : OwnM X.K C "__eq__" ff) (ho : PySem.W.mroIn X.K C (.type "object") = some true) (hne : PySem.W.findIn X.K (.ref C) "__ne__" = some (some (.builtin "object.__ne__"))) (F : FnP false X.prog X.w X.K X.mg X.base k ff sp) (hr : Room (k + 1) X.A) : OpR X (compareOp .NotEq) (rCmp X C sp not) := by
  intro pins s σ H x y v u Q I rx ry ⟨p, dx, fs, t, e1, e2, ty, nf, h⟩
  subst e1
  obtain rfl : v = Value.ref p := rx
  obtain ⟨mA, J, _⟩ := ins_get I.hok e2
  obtain ⟨od, J, _⟩ := J.look
  obtain ⟨mm, hF⟩ := I.fr
  obtain ⟨P, kx, hP, _⟩ := kit_of I ry ty
  show wpAny (model X.prog X.w) X.A (richCompare .NotEq (.ref p) u) (EP X pins σ Q) X.xe s
  refine ne_k (by have := hr.un; omega) hF I.ok.mod.kin J (kx.ty _ _ I.kIn hP) nf ho hne m.at_ m.fn (wpAny_mono (run_at F hr.in1 I.env0.in1 I (.cons (show RelV (V.ref p) (Value.ref p) from rfl) (.cons ry .nil)) h) (fun r s' ⟨v', H', I', rv, z, e, q⟩ => ?_) fun _ _ z => z)
  subst e
  cases (show r = Value.bool z from rv)
  exact ⟨z, rfl, .bl !z, H', I', rfl, q⟩
/-- g is right for the reading r, the right one kept -/
def OkK (X : Cx) (T : Tb) (W : WX) (g : D → D → M D) (r : R2) : Prop :=
  ∀ (σ : St) (G : Gh) (H : Hp) (S : Sto) (x y : D) (v w : V) (Q : VK), Wf T G H S → IsB T G H x v → Is T G H y w → Out T W σ G H (rIs T) Q (g x y S) → r v w H Q
theorem se_cmpK {op : CmpOp} {g : D → D → M D} {r : R2} (ho : OpR X (compareOp op) r) (ok : OkK X T W g r) (ha : SB X T W a fa) (hb : SE X T W b fb) (hm : behindInMarks op b = false) : SE X T W (.Compare a [op] [b] pos) (e2 g fa fb) := by
  refine ⟨pe_imp (pe_cmpR ho ha.pe hb.pe hm) fun σ H Q ⟨ρ, G, S, ag, wf, o⟩ => ?_⟩
  refine ⟨ρ, G, S, ag, wf, o.bind fun x S1 G1 H1 v k1 w1 i1 o1 => ⟨ρ, G1, S1, ag.keep wf k1, w1, o1.bind fun y S2 G2 H2 w k2 w2 i2 o2 => ?_⟩⟩
  exact ok σ G2 H2 S2 x y v w Q w2 (w1.isB k2 i1) i2 o2
theorem notFirst_of {C : Addr} {t : Value} (h : t = .ref C ∨ ∃ a ∈ six, t = .type a) : PySem.W.notFirst X.K C t = true := by
  rcases h with rfl | ⟨a, ha, rfl⟩
  · simp [PySem.W.notFirst]
  · obtain ⟨l, e, hl⟩ := mro6 a ha
    have : PySem.W.subIn X.K (.type a) (.ref C) = some false := by
      show (PySem.fastBuiltinMro a).map (·.contains (.ref C)) = some false
      rw [e]
      have hn : ¬ (Value.ref C ∈ l) := fun z => by
        have := List.all_eq_true.mp hl _ z
        cases this
      simpa using hn
    simp [PySem.W.notFirst, this]
theorem ok_cmpO {h : Bool → Bool} {kk : D → M D} (I : IC T cc) (hk : ∀ (y : D) (S : Sto), (∃ z, y = .bl z ∧ kk y S = .ok (.bl (h z)) S) ∨ kk y S = .div) (hT : T.K = X.K := by rfl) : OkK X T W (cmpO cc g kk) (rCmp X (T.ca cc) (spOf T 2 g) h) := by
  intro σ G H S x y v w Q wf hx hy o
  unfold cmpO at o
  by_cases c : fitsO cc y S = true
  · rw [if_pos c] at o
    obtain ⟨p, dx, fs, rfl, e2, z⟩ := obj_own (R := rIs T) (n := 2) o wf hx (IsL.cons hy IsL.nil) rfl (Q1 := fun v H' => ∃ z, v = .bl z ∧ Q (.bl (h z)) H') fun y S' G' H' u kq ww ii oo => by
      rcases hk y S' with ⟨z, rfl, e⟩ | e
      · rw [e] at oo
        cases b_bl (.inl ii)
        exact ⟨z, rfl, oo.now ww (is_bl _)⟩
      · rw [e] at oo; exact oo.elim
    have hlt : ∀ n, y = .ref n → n < S.length := fun n q => by subst q; exact ref_lt wf (.inl hy)
    have hc : ∀ c, tyOf y S = .inr c → c = cc := fun c' q => by
      unfold fitsO at c
      rw [q] at c
      exact beq_iff_eq.mp c
    obtain ⟨ty, n6⟩ := ty_of hT wf (.inl hy) (fun c q => by rw [hc c q]; exact I) hlt
    refine ⟨p, dx, fs, _, rfl, e2, ty, ?_, z⟩
    cases q : tyOf y S with
    | inl a => exact notFirst_of (.inr ⟨a, n6 a q, rfl⟩)
    | inr c => exact notFirst_of (.inl (by rw [hc c q]))
  · rw [if_neg c] at o; exact o.elim
theorem onlyB_to (y : D) (S : Sto) : (∃ z, y = .bl z ∧ onlyB y S = .ok (.bl (id z)) S) ∨ onlyB y S = .div := by
  cases y <;> first | exact .inl ⟨_, rfl, rfl⟩ | exact .inr rfl
theorem notB_to (y : D) (S : Sto) : (∃ z, y = .bl z ∧ notB y S = .ok (.bl (!z)) S) ∨ notB y S = .div := by
  cases y <;> first | exact .inl ⟨_, rfl, rfl⟩ | exact .inr rfl
theorem w_eqO (m : OwnM X.K (T.ca cc) "__eq__" ff) (I : IC T cc) (F : FnP false X.prog X.w X.K X.mg X.base k ff (spOf T 2 g)) (hr : Room k X.A) (ha : SB X T W a fa) (hb : SE X T W b fb) (hm : behindInMarks .Eq b = false) (hT : T.K = X.K := by rfl) : SE X T W (.Compare a [.Eq] [b] pos) (e2 (cmpO cc g onlyB) fa fb) :=
  se_cmpK (op_eqO m F hr) (ok_cmpO I onlyB_to hT) ha hb hm
theorem w_neO (m : OwnM X.K (T.ca cc) "__eq__" ff) (hne : PySem.W.findIn X.K (.ref (T.ca cc)) "__ne__" = some (some (.builtin "object.__ne__"))) (I : IC T cc) (F : FnP false X.prog X.w X.K X.mg X.base k ff (spOf T 2 g)) (hr : Room (k + 1) X.A) (ha : SB X T W a fa) (hb : SE X T W b fb) (hm : behindInMarks .NotEq b = false) (hT : T.K = X.K := by rfl) : SE X T W (.Compare a [.NotEq] [b] pos) (e2 (cmpO cc g notB) fa fb) :=
  se_cmpK (op_neO m (hT ▸ I.mr) hne F hr) (ok_cmpO I notB_to hT) ha hb hm
theorem st_cmpK {op : CmpOp} {g : D → D → M D} {r : R2} (ho : OpR X (compareOp op) r) (ok : OkK X T W g r) (ha : SB X T W a fa) (hb : SE X T W b fb) (hm : behindInMarks op b = false) : ST X T W (.Compare a [op] [b] pos) (tB2 g fa fb) := by
  refine ⟨pt_imp (pt_cmpR ho ha.pe hb.pe hm) fun σ H Q ⟨ρ, G, S, ag, wf, o⟩ => ?_⟩
  refine ⟨ρ, G, S, ag, wf, o.bind fun x S1 G1 H1 v k1 w1 i1 o1 => ⟨ρ, G1, S1, ag.keep wf k1, w1, o1.bind fun y S2 G2 H2 w k2 w2 i2 o2 => ?_⟩⟩
  exact ok σ G2 H2 S2 x y v w _ w2 (w1.isB k2 i1) i2 o2.bl
theorem wt_eqO (m : OwnM X.K (T.ca cc) "__eq__" ff) (I : IC T cc) (F : FnP false X.prog X.w X.K X.mg X.base k ff (spOf T 2 g)) (hr : Room k X.A) (ha : SB X T W a fa) (hb : SE X T W b fb) (hm : behindInMarks .Eq b = false) (hT : T.K = X.K := by rfl) : ST X T W (.Compare a [.Eq] [b] pos) (tB2 (cmpO cc g onlyB) fa fb) :=
  st_cmpK (op_eqO m F hr) (ok_cmpO I onlyB_to hT) ha hb hm
theorem wt_neO (m : OwnM X.K (T.ca cc) "__eq__" ff) (hne : PySem.W.findIn X.K (.ref (T.ca cc)) "__ne__" = some (some (.builtin "object.__ne__"))) (I : IC T cc) (F : FnP false X.prog X.w X.K X.mg X.base k ff (spOf T 2 g)) (hr : Room (k + 1) X.A) (ha : SB X T W a fa) (hb : SE X T W b fb) (hm : behindInMarks .NotEq b = false) (hT : T.K = X.K := by rfl) : ST X T W (.Compare a [.NotEq] [b] pos) (tB2 (cmpO cc g notB) fa fb) :=
  st_cmpK (op_neO m (hT ▸ I.mr) hne F hr) (ok_cmpO I notB_to hT) ha hb hm
/-! properties of any def -/
def tPropP (C : Addr) (sp : Sp) (ta : TE) : TE := fun σ H Q => ta σ H fun x H1 => ∃ q dx fs, x = .ref q ∧ H1 q = some (.ins C dx fs) ∧ sp [.ref q] H1 Q (fun _ _ _ => False)
theorem propP_ok {pins : List (Addr × Obj)} {s : Shared} {w2 : Bool} {E' : Value → Shared → Prop} {C dx q pp : Addr} {fs : List (Str × V)} (I : Inv X pins σ H s) (e2 : H q = some (.ins C dx fs)) (c : Cls X.K C) (hp : PropOf X.K C fn pp ff) (F : FnP false X.prog X.w X.K X.mg X.base k ff sp) (hr : Room (k + 1) X.A)
    (h : sp [.ref q] H Q (fun _ _ _ => False)) : wpAny (model X.prog X.w) X.A (getAttr (.ref q) fn w2) (EP X pins σ Q) E' s := by
  obtain ⟨mA, J0, _⟩ := ins_get I.hok e2
  obtain ⟨od, J, _⟩ := J0.look
  obtain ⟨rest, rc⟩ := hp.rec_
  have I1 := I.tok (s.toks + 1)
  have cl : (PySem.W.clsIn X.K C).isSome = true := by
    obtain ⟨cd, z, _⟩ := PySem.W.any_some c.hd
    rw [z]; rfl
  apply PySem.W.get_bind I.kIn J (PySem.W.plainGet_of (c.get fn)).1 (PySem.W.findObj_data cl hp.at_ hp.get hp.tak) (PySem.W.plainGet_of (c.get fn)).2
  apply wpAny_call
  apply PySem.W.prop_get (s := { s with toks := s.toks + 1 }) I.kIn rc
  refine codeAny_mono (F X.A.in1 X.stack { s with toks := s.toks + 1 } H [.ref q] [.ref q] Q _ ⟨hr.in1, nofun⟩ I1.env0.in1 (.cons (show RelV (V.ref q) (Value.ref q) from rfl) .nil) h) fun r s' hq => ?_
  match r, hq with
  | .error er, hq =>
    obtain ⟨_, _, _, _, _, _, _, _, _, _, _, _, z⟩ := hq
    exact z.elim
  | .ok (.ret u), hq =>
    obtain ⟨v, H', I3, rv, q3⟩ := I1.after hq
    show wpAny _ _ (handedOut u) _ _ s'
    rw [PySem.W.handedOut_of (handed_of rv)]
    exact wpAny_pure ⟨v, H', I3, rv, q3⟩
  | .ok .next, hq => exact False.elim hq
  | .ok .brk, hq => exact False.elim hq
  | .ok .cont, hq => exact False.elim hq
theorem pe_propP {C pp : Addr} {ta : TE} (he : PE X e ta) (c : Cls X.K C) (hp : PropOf X.K C fn pp ff) (F : FnP false X.prog X.w X.K X.mg X.base k ff sp) (hr : Room (k + 1) X.A) (hab : attributeBase e fn X.env (eval e X.env) = eval e X.env) : PE X (.Attribute e fn pos) (tPropP C sp ta) := by
  refine ⟨fun pins s σ H Q I h => attr_of hab (thn (he.run pins s σ H _ I h) fun u s1 ⟨x, H1, I1, rx, q, dx, fs, ex, e2, z⟩ => ?_)⟩
  subst ex
  obtain rfl : u = Value.ref q := rx
  exact propP_ok I1 e2 c hp F hr z
theorem se_propO {pp : Addr} (he : SB X T W e f) (c : Cls X.K (T.ca cc)) (hp : PropOf X.K (T.ca cc) fn pp ff) (F : FnP false X.prog X.w X.K X.mg X.base k ff (spOf T 1 g)) (hr : Room (k + 1) X.A) (hab : attributeBase e fn X.env (eval e X.env) = eval e X.env := by rfl) : SE X T W (.Attribute e fn pos) (e1 (propO cc g) f) := by
  refine ⟨pe_imp (pe_propP he.pe c hp F hr hab) fun σ H Q ⟨ρ, G, S, ag, wf, o⟩ => ⟨ρ, G, S, ag, wf, o.bind fun d S1 G1 H1 v k1 w1 i1 o1 => ?_⟩⟩
  have o2 : Out T W σ G1 H1 (rIs T) Q (bd (own1 cc g [] d) ret S1) := by
    unfold propO at o1
    unfold bd
    cases q : own1 cc g [] d S1 with
    | ok y S' => rw [q] at o1; exact o1
    | exc c fs S' => rw [q] at o1; exact o1
    | div => rw [q] at o1; exact o1
  exact obj_own (R := rIs T) (n := 1) o2 w1 i1 IsL.nil rfl (Q1 := Q) fun y S' G' H' u kk ww ii oo => oo.now ww ii
/-! C.m(name=e), a class method by keyword -/
theorem cwM_kw0 {q ga : Addr} {self : Value} {kws : List Keyword} {A : Around} {s : Shared} {M : Model} {env : Env} {Q E : Value → Shared → Prop} {K : PySem.W.Frag} (hf : PySem.W.fnIn K ga = true) (hall : (backToKw pos (keywordEach kws env)).all (·.1.isSome) = true)
    (h : wpAny M A (evalAll ((backToKw pos (keywordEach kws env)).map (·.2))) (fun ks s2 => PySem.W.MethP K q ga self s2.heap ∧ wpAny M A (call (.ref q) ([] ++ []) (((backToKw pos (keywordEach kws env)).filterMap (·.1)).zip ks)) Q E s2) E s)
    (hpl : ((backTo pos (starEach [] env)).any (·.1) || (backToKw pos (keywordEach kws env)).any (·.1.isNone)) = false) : wpAny M A (callWith pos (.ref q) [] (backTo pos (starEach [] env)) (backToKw pos (keywordEach kws env))) Q E s :=
  PySem.W.callWith_of hpl (PySem.W.keeps_M hf) (evalArgs_kw2_nil hall h)
variable {kws : List Keyword} {fk : Rho → M (List D)} {fd : FuncData} {ps : List Str} {kn : Str} {nm : Option Str} {kpos : Pos}
def tCmK (W : WX) (C : Addr) (sp : Sp) (t : TA) : TE := fun σ H Q => t σ H fun zs H2 => zs.length = 1 ∧ sp (.ref C :: zs) H2 Q (fun cls d H' => W cls d σ H')
theorem pe_cmK {C pa : Addr} {mc : Value} {m y : Str} {q : Pos} {t : TA} {pl : Sem Bool} (r : CRead X.K C mc) (c : CMet X.K C mc m pa ff) (F : FnG gb X.prog X.w X.K X.mg X.base k ff fd ps sp) (hr : RoomG gb k X.A) (hb : KwB X.K fd ps 1 [kn] [0, 1]) (tks : Takes X W) (hg : Gl X y) (hm : X.mg y = some (.ref C)) (hkw : PK X kws t)
    (hall : (backToKw pos (keywordEach kws X.env)).all (·.1.isSome) = true) (hks : (backToKw pos (keywordEach kws X.env)).filterMap (·.1) = [kn]) (hpl : ((backTo pos (starEach [] X.env)).any (·.1) || (backToKw pos (keywordEach kws X.env)).any (·.1.isNone)) = false)
    (hd : (y == ("__debug__" : Str)) = false)
    (ht : eval (.Call (.Attribute (.Name y q) m apos) [] kws pos) X.env = (do
      let ov ← eval (.Name y q) X.env
      standAt apos.atName
      let (f, first) ← holding [ov] (getMethod ov m pl)
      callWith pos f first (backTo pos (starEach [] X.env)) (backToKw pos (keywordEach kws X.env)))) :
    PE X (.Call (.Attribute (.Name y q) m apos) [] kws pos) (tCmK W C sp t) := by
  refine ⟨fun pins s σ H Q I h => ?_⟩
  refine PySem.W.methodCall_KW (pl := pl) (thn ((pe_glob (v := .ref C) (pos := q) hg hm rfl hd).run pins s σ H (fun v H1 => v = .ref C ∧ H1 = H) I ⟨rfl, rfl⟩) fun u s1 ⟨x, H1, I1, rx, ex, eH⟩ => ?_) ht
  subst ex
  subst eH
  obtain rfl : u = Value.ref C := rx
  refine getmethcm_ok I1 r c fun s2 I2 => ?_
  refine cwM_kw0 (K := X.K) c.fi hall (thn (hkw.run pos _ s2 σ H1 _ I2 h) fun ws s3 ⟨zs, H2, I3, rz, l1, q2⟩ => ⟨⟨pin_at I3, I3.kIn⟩, ?_⟩) hpl
  rw [hks]
  obtain ⟨z, rfl⟩ := List.length_eq_one_iff.mp l1
  obtain ⟨v, rfl, rv⟩ := vals1 rz
  have rr : Vals [V.ref C, z] [Value.ref C, v] := .cons (show RelV (V.ref C) (Value.ref C) from rfl) (.cons rv .nil)
  have z1 : wpAny (model X.prog X.w) X.A (call (.ref s1.heap.objs.size) [] [(kn, v)]) (EP X ((s1.heap.objs.size, PySem.W.methodObj (.ref ff) (.ref C)) :: pins) σ Q) X.xe s3 := by
    apply wpAny_call
    apply PySem.W.method_call (pin_at I3)
    refine codeAny_mono (F.go X.A X.stack s3 H2 ⟨[.ref C], [(kn, v)]⟩ [.ref C, v] [.ref C, z] Q (fun cls d H' => W cls d σ H') hr I3.env0 (hb.to s3 [.ref C] [v] I3.kIn rfl rfl) rr q2) fun r s' hq => ?_
    cases r with
    | error er => exact passAt tks σ _ H2 s3 er s' I3 hq
    | ok fl =>
      cases fl with
      | ret u => exact I3.after hq
      | next => exact False.elim hq
      | brk => exact False.elim hq
      | cont => exact False.elim hq
  exact thn z1 fun _ _ y => unpinE y
/-- C.m(name=e), a classmethod that does not look at its class -/
theorem se_cmK {C pa : Addr} {mc : Value} {m y : Str} {q : Pos} {pl : Sem Bool} (r : CRead X.K C mc) (c : CMet X.K C mc m pa ff) (F : FnG gb X.prog X.w X.K X.mg X.base k ff fd ps (spOf1 T 1 g)) (hr : RoomG gb k X.A) (hb : KwB X.K fd ps 1 [kn] [0, 1]) (tks : Takes X W) (hg : Gl X y) (hm : X.mg y = some (.ref C)) (hkw : SK X T W kws fk)
    (hall : (backToKw pos (keywordEach kws X.env)).all (·.1.isSome) = true := by rfl) (hks : (backToKw pos (keywordEach kws X.env)).filterMap (·.1) = [kn] := by rfl) (hpl : ((backTo pos (starEach [] X.env)).any (·.1) || (backToKw pos (keywordEach kws X.env)).any (·.1.isNone)) = false := by rfl)
    (hd : (y == ("__debug__" : Str)) = false := by decide)
    (ht : eval (.Call (.Attribute (.Name y q) m apos) [] kws pos) X.env = (do
      let ov ← eval (.Name y q) X.env
      standAt apos.atName
      let (f, first) ← holding [ov] (getMethod ov m pl)
      callWith pos f first (backTo pos (starEach [] X.env)) (backToKw pos (keywordEach kws X.env))) := by rfl) :
    SE X T W (.Call (.Attribute (.Name y q) m apos) [] kws pos) (eFn 1 g fk) := by
  refine ⟨pe_imp (pe_cmK r c F hr hb tks hg hm hkw.pk hall hks hpl hd ht) fun σ H Q ⟨ρ, G, S, ag, wf, o⟩ => ⟨ρ, G, S, ag, wf, o.bind fun ds S1 G1 H1 vs k1 w1 i1 o1 => ?_⟩⟩
  by_cases z : ds.length = 1
  · exact ⟨by rw [← i1.len]; exact z, .ref C, vs, rfl, Out.fnn o1 w1 i1⟩
  · rw [if_neg z] at o1; exact o1.elim
end
end LS

set_option Elab.async false
set_option linter.all false
set_option maxRecDepth 100000
set_option maxHeartbeats 1000000
/-! ## 43. f-strings of texts and ints -/
namespace LS
open PySem L2 PySem.Spec
open PyProof.Rows hiding St
open ClX
def fmtD (d : D) : M D := match d with
  | .str y => two (decide (y.length ≤ sizeLine)) (.str y)
  | .int i => two (decide (i.natAbs.log2 < 1920)) (.str (toString i))
  | _ => dv
def joinsM : List Ev → Str → Rho → M D
  | [], acc, _ => ret (.str acc)
  | f :: fs, acc, ρ => bd (f ρ) fun x => match x with
    | .str y => if (acc ++ y).length ≤ sizeLine then joinsM fs (acc ++ y) ρ else dv
    | _ => dv
def eJs (fs : List Ev) : Ev := joinsM fs Str.empty
section
variable {X : Cx} {T : Tb} {W : WX} {e v1 v2 : Expr} {f : Ev} {pos : Pos} {es : List Expr} {fs : List Ev} {σ : St} {Q : VK}
theorem se_fmt (h : SB X T W e f) : SE X T W (.FormattedValue e (-1) none pos) (e1 fmtD f) := by
  refine ⟨pe_imp (pe_fmt h.pe) fun σ H Q ⟨ρ, G, S, ag, wf, o⟩ => ⟨ρ, G, S, ag, wf, o.bind fun d S1 G1 H1 v k1 w1 i1 o1 => ?_⟩⟩
  unfold fmtD at o1
  cases d <;> try exact o1.elim
  case int i =>
    cases b_int i1
    obtain ⟨c, o1⟩ := two_o o1
    exact .inr ⟨i, rfl, of_decide_eq_true c, o1.now w1 (is_str _)⟩
  case str y =>
    cases b_str i1
    obtain ⟨c, o1⟩ := two_o o1
    exact .inl ⟨y, rfl, of_decide_eq_true c, o1.now w1 (is_str _)⟩
inductive SJ (X : Cx) (T : Tb) (W : WX) : List Expr → List Ev → Prop
  | nil : SJ X T W [] []
  | cons {e : Expr} {f : Ev} {es : List Expr} {fs : List Ev} (h : SE X T W e f) (r : SJ X T W es fs) : SJ X T W (e :: es) (f :: fs)
theorem SJ.pj (h : SJ X T W es fs) : PJ X es (fs.map fun f => tX T W (rIs T) f) := by
  induction h with
  | nil => exact .nil
  | cons h _ ih => exact .cons h.pe ih
theorem sj_out {Q : VK} : ∀ (fs : List Ev) (acc : Str) (ρ : Rho) (G : Gh) (H : Hp) (S : Sto), Ag T G H σ ρ → Wf T G H S → Out T W σ G H (rIs T) Q (joinsM fs acc ρ S) → tJs (fs.map fun f => tX T W (rIs T) f) acc σ H fun out H1 => Q (.str out) H1
  | [], acc, ρ, G, H, S, ag, wf, o => o.now wf (is_str _)
  | f :: fs, acc, ρ, G, H, S, ag, wf, o => by
    refine ⟨ρ, G, S, ag, wf, Out.bind (m := f ρ) o fun x S1 G1 H1 v k1 w1 i1 o1 => ?_⟩
    cases x <;> try exact o1.elim
    case str y =>
      cases b_str (.inl i1)
      dsimp only at o1
      by_cases c : (acc ++ y).length ≤ sizeLine
      · rw [if_pos c] at o1
        exact ⟨y, rfl, c, sj_out fs (acc ++ y) ρ G1 H1 S1 (ag.keep wf k1) w1 o1⟩
      · rw [if_neg c] at o1; exact o1.elim
theorem se_js (h : SJ X T W (v1 :: v2 :: es) fs) : SE X T W (.JoinedStr (v1 :: v2 :: es) pos) (eJs fs) :=
  ⟨pe_imp (pe_joined h.pj) fun σ H Q ⟨ρ, G, S, ag, wf, o⟩ => sj_out fs Str.empty ρ G H S ag wf o⟩
end
end LS

set_option Elab.async false
set_option linter.all false
set_option maxRecDepth 100000
set_option maxHeartbeats 1000000
/-! ## 44. insert -/
namespace LS
open PySem L2 PySem.Spec
open PyProof.Rows hiding St
open ClX
def kIns (ds args : List D) : M (List D) := match args with
  | [.int i, d] => if 0 ≤ i ∧ i < 4611686018427387904 ∧ ds.length < sizeLine then ret (ds.take i.toNat ++ [d] ++ ds.drop i.toNat) else dv
  | _ => dv
section
variable {X : Cx} {T : Tb} {W : WX} {e : Expr} {pos p2 p apos : Pos} {es : List Expr} {x : Str}
abbrev rInsert : V → List V → Hp → VK → Prop := fun x vs H Q => ∃ (l : Addr) (xs : List V) (i : Int) (y : V), x = .ref l ∧ vs = [.int i, y] ∧ H l = some (.lst xs) ∧ xs.length < sizeLine ∧ 0 ≤ i ∧ i < 2 ^ 63 ∧
    Q .non (upd H l (.lst (xs.take i.toNat ++ [y] ++ xs.drop i.toNat)))
theorem ok_ins : OkM T kIns rInsert := by
  intro G H S a xs ds args vs Q wf hx hr ha
  match args, ha with
  | [], _ => exact .inr rfl
  | [.int i], _ => exact .inr rfl
  | .int i :: _ :: _ :: _, _ => exact .inr rfl
  | .non :: _, _ => exact .inr rfl
  | .bl _ :: _, _ => exact .inr rfl
  | .str _ :: _, _ => exact .inr rfl
  | .tup _ :: _, _ => exact .inr rfl
  | .lst _ :: _, _ => exact .inr rfl
  | .scr _ :: _, _ => exact .inr rfl
  | .obj _ _ :: _, _ => exact .inr rfl
  | .ref _ :: _, _ => exact .inr rfl
  | [.int i, d], ha =>
    unfold IsL at ha
    obtain ⟨v, w, rfl, h1, h2⟩ := ha
    unfold IsL at h2
    obtain ⟨v2, w2, rfl, h3, h4⟩ := h2
    unfold IsL at h4
    subst h4
    cases b_int (.inl h1)
    unfold kIns
    dsimp only
    by_cases c : 0 ≤ i ∧ i < 4611686018427387904 ∧ ds.length < sizeLine
    · rw [if_pos c]
      exact .inl ⟨_, rfl, fun k => ⟨a, xs, i, v2, rfl, rfl, hx, by rw [← hr.len]; exact c.2.2, c.1, by have := c.2.1; omega, k _ (((hr.take i.toNat).app (IsL.cons h3 IsL.nil)).app (hr.drop i.toNat))⟩⟩
    · rw [if_neg c]; exact .inr rfl
theorem xins {fl : Rho → M (List D)} (i : Nat) (ha : SA X T W (e :: es) fl) (hN : X.N[i]? = some x := by rfl) (hv : Vis X.env.scope x := by first | exact .inl rfl | exact .inr (.inl rfl) | exact .inr (.inr rfl)) (hs0 : swapsWith (.Call (.Attribute (.Name x p) "insert" apos) (e :: es) [] p2) none pos.line X.env = pure false := by rfl)
    (hd : (x == ("__debug__" : Str)) = false := by decide) (hcd : (x == ("__classdict__" : Str)) = false := by decide)
    (hbase : attributeBase (.Name x p) "insert" X.env (eval (.Name x p) X.env) = eval (.Name x p) X.env := by rfl)
    (hfew : ((backTo p2 (starEach (e :: es) X.env)).all (fun z => !z.1) && (backToKw p2 (keywordEach [] X.env)).all (fun z => z.1.isSome)
      && decide ((e :: es).length + ([] : List Keyword).length + (if ([] : List Keyword).isEmpty then 0 else 1) < 30)) = true := by rfl)
    (hline : (apos.endLine == p2.line) = true := by rfl) (hs : starEach (e :: es) X.env = (false, eval e X.env) :: starEach es X.env := by rfl) (hplain : (backTo p2 (starEach es X.env)).any (·.1) = false := by rfl) :
    SS X T W (.Expr (.Call (.Attribute (.Name x p) "insert" apos) (e :: es) [] p2) pos) (sMut i kIns fl) :=
  ss_mut PySem.F.slot_list_insert (by rfl) mt_insert ok_ins hN hv ha hs0 hd hcd hbase hfew hline hs hplain
end
end LS

set_option Elab.async false
set_option linter.all false
set_option maxRecDepth 100000
set_option maxHeartbeats 1000000
/-! ## 45. xs[::-1]; what is never reached -/
namespace LS
open PySem L2 PySem.Spec
open PyProof.Rows hiding St
open ClX
section
variable {X : Cx} {T : Tb} {W : WX} {e a : Expr} {pos p1 p2 p3 : Pos} {fa : Ev} {kk : Nat}
theorem IsL.rev {G : Gh} {H : Hp} : ∀ {ds : List D} {us : List V}, IsL T G H ds us → IsL T G H ds.reverse us.reverse
  | [], us, h => by
    unfold IsL at h
    subst h
    exact IsL.nil
  | d :: ds, us, h => by
    unfold IsL at h
    obtain ⟨v, w, rfl, h1, h2⟩ := h
    rw [List.reverse_cons, List.reverse_cons]
    exact (IsL.rev h2).app (IsL.cons h1 IsL.nil)
def revN (d : D) : M (List D) := match d with
  | .lst xs => ret xs.reverse
  | _ => dv
def n1 (g : D → M (List D)) (fa : Ev) : Rho → M (List D) := fun ρ => bd (fa ρ) g
theorem sn_rev (ha : SB X T W a fa) : SN X T W (.Subscript a (.Slice none none (some (.UnaryOp .USub (.Constant (.int 1) kk p1) p2)) p3) pos) (n1 revN fa) := by
  refine ⟨pe_imp (pe_revL ha.pe) fun σ H Q ⟨ρ, G, S, ag, wf, o⟩ => ⟨ρ, G, S, ag, wf, ?_⟩⟩
  unfold n1 bd at o
  cases q : fa ρ S with
  | exc c fs S' => rw [q] at o; exact o
  | div => rw [q] at o; exact o
  | ok x S1 =>
    rw [q] at o
    dsimp only at o
    intro G1 H1 v k1 w1 i1
    cases x <;> try exact o.elim
    case lst xs =>
      obtain ⟨p, us, rfl, _, t, r⟩ := b_lst w1 i1
      refine ⟨p, us, rfl, SqL.of t, fun q2 n => ?_⟩
      exact o G1 (upd H1 q2 (.lst us.reverse)) q2 (k1.trans (kp_upd n)) (w1.upd n) (k1.none n) (w1.nof n) (w1.nom n) ⟨us.reverse, upd_same, (lean_upd w1 n).isL (IsL.rev r)⟩
theorem se_no : SE X T W e (fun _ => dv) := ⟨⟨fun pins s σ H Q I h => by
  obtain ⟨ρ, G, S, ag, wf, o⟩ := h
  exact o.elim⟩⟩
end
end LS

set_option Elab.async false
set_option linter.all false
set_option maxRecDepth 100000
set_option maxHeartbeats 1000000
/-! ## 46. a method of an own object -/
namespace LS
open PySem L2 PySem.Spec
open PyProof.Rows hiding St
open ClX
section
variable {X : Cx} {T : Tb} {W : WX} {e a b c o tg : Expr} {f fa fb : Ev} {pos p2 p apos pos' : Pos} {es : List Expr} {x fn m : Str} {i n k : Nat} {cc : Nat} {g : List D → M D} {sp : Sp} {ff : Addr} {gb : Bool} {fl : Rho → M (List D)}
def tMethP (W : WX) (C : Addr) (m : Str) (sp : Sp) (ta : TE) (t : TA) : TE := fun σ H Q => ta σ H fun x H1 => ∃ a dx fs, x = .ref a ∧ H1 a = some (.ins C dx fs) ∧ fs.lookup m = none ∧ t σ H1 fun vs H2 => sp (x :: vs) H2 Q (fun cls d H' => W cls d σ H')
theorem pe_methP {C : Addr} {ta : TE} {t : TA} {pl : Sem Bool} (he : PE X o ta) (c : Cls X.K C) (hm : Meth X.K C m ff) (F : FnP gb X.prog X.w X.K X.mg X.base k ff sp) (hr : RoomG gb k X.A) (tk : Takes X W) (ha : PA X (e :: es) t)
    (hst : starEach (e :: es) X.env = (false, eval e X.env) :: starEach es X.env) (hpl : (backTo pos (starEach es X.env)).any (·.1) = false)
    (ht : eval (.Call (.Attribute o m apos) (e :: es) [] pos) X.env = (do
      let ov ← eval o X.env
      standAt apos.atName
      let (f, first) ← holding [ov] (getMethod ov m pl)
      callWith pos f first (backTo pos (starEach (e :: es) X.env)) (backToKw pos (keywordEach [] X.env)))) :
    PE X (.Call (.Attribute o m apos) (e :: es) [] pos) (tMethP W C m sp ta t) := by
  refine ⟨fun pins s σ H Q I h => ?_⟩
  refine PySem.W.methodCall_KW (pl := pl) (thn (he.run pins s σ H _ I h) fun u s1 ⟨x, H1, I1, rx, a, dx, fs, ex, ea, l, q⟩ => ?_) ht
  subst ex
  obtain rfl : u = Value.ref a := rx
  refine getmeth_ok I1 ea c hm l ?_
  refine PySem.W.callWith_K (first := [.ref a]) (h₀ := X.base) I.ok.mod.kin hm.kp (thn (ha.run pos pins s1 σ H1 _ I1 q) fun us s2 ⟨vs, H2, I2, r, q2⟩ => ⟨I2.kIn, ?_⟩) hst hpl
  exact wpAny_call (run_pc (us := .ref a :: us) (vs := .ref a :: vs) F hr tk I2 (.cons rfl r) q2)
/-- o.m(e, ..), o of the class cc -/
def eMeth (cc n : Nat) (g : List D → M D) (f : Ev) (fl : Rho → M (List D)) : Ev := fun ρ => bd (f ρ) fun d => match d with
  | .obj c _ => if c = cc then bd (fl ρ) fun ds => if (d :: ds).length = n then g (d :: ds) else dv else dv
  | _ => dv
theorem lookup_zip {ks : List Str} (h : ¬ m ∈ ks) : ∀ xs : List V, (ks.zip xs).lookup m = none := by
  induction ks with
  | nil => intro xs; rfl
  | cons y ks ih =>
    intro xs
    cases xs with
    | nil => rfl
    | cons x xs =>
      rw [List.zip_cons_cons, List.lookup_cons]
      have : (m == y) = false := by
        cases q : m == y with
        | false => rfl
        | true => exact absurd (by rw [eq_of_beq q]; exact List.mem_cons_self ..) h
      rw [this]
      exact ih (fun z => h (List.mem_cons_of_mem _ z)) xs
theorem se_meth {pl : Sem Bool} (he : SE X T W o f) (c : Cls X.K (T.ca cc)) (hm : Meth X.K (T.ca cc) m ff) (hf : ¬ m ∈ T.cf cc) (F : FnP gb X.prog X.w X.K X.mg X.base k ff (spOf T n g)) (hr : RoomG gb k X.A) (tk : Takes X W) (ha : SA X T W (e :: es) fl)
    (hst : starEach (e :: es) X.env = (false, eval e X.env) :: starEach es X.env := by rfl) (hpl : (backTo pos (starEach es X.env)).any (·.1) = false := by rfl)
    (ht : eval (.Call (.Attribute o m apos) (e :: es) [] pos) X.env = (do
      let ov ← eval o X.env
      standAt apos.atName
      let (f, first) ← holding [ov] (getMethod ov m pl)
      callWith pos f first (backTo pos (starEach (e :: es) X.env)) (backToKw pos (keywordEach [] X.env))) := by rfl) :
    SE X T W (.Call (.Attribute o m apos) (e :: es) [] pos) (eMeth cc n g f fl) := by
  refine ⟨pe_imp (pe_methP he.pe c hm F hr tk ha.pa hst hpl ht) fun σ H Q ⟨ρ, G, S, ag, wf, o⟩ => ⟨ρ, G, S, ag, wf, o.bind fun d S1 G1 H1 v k1 w1 i1 o1 => ?_⟩⟩
  cases d <;> try exact o1.elim
  case obj c0 fs =>
    dsimp only at o1
    by_cases z : c0 = cc
    · subst z
      rw [if_pos rfl] at o1
      have i0 : Is T G1 H1 (.obj c0 fs) v := i1
      have i2 := i0
      unfold Is at i2
      obtain ⟨p, dx, xs, rfl, fx, hx, ln, hr2⟩ := i2
      refine ⟨p, dx, _, rfl, hx, lookup_zip hf xs, ρ, G1, S1, ag.keep wf k1, w1, o1.bind fun ds S2 G2 H2 vs k2 w2 j2 o2 => ?_⟩
      have ii : Is T G2 H2 (.obj c0 fs) (.ref p) := by
        rcases w1.isB k2 (.inl i0) with y | ⟨_, _, _, y, _⟩
        · exact y
        · cases y
      exact Out.fnn o2 w2 (IsL.cons ii j2)
    · rw [if_neg z] at o1; exact o1.elim
end
end LS

set_option Elab.async false
set_option linter.all false
set_option maxRecDepth 100000
namespace LS
/-! ## R1. how denotations run -/
section
variable {α β : Type} {m : M α} {k : α → M β} {S S1 : Sto} {a : α} {r : Res β}
theorem bd_to (h : m S = .ok a S1) (q : k a S1 = r) : bd m k S = r := by unfold bd; rw [h]; exact q
end
section
variable {S S1 S2 : Sto} {ρ ρ1 : Rho} {s u : Sx} {d : D} {r : Res Fl} {f fa fb : Ev} {i n m : Nat} {t : Rho → M Bool} {k : Bool}
theorem seq_nx (h : s ρ S = .ok (.nx ρ1) S1) (q : u ρ1 S1 = r) : sSeq s u ρ S = r := bd_to h q
theorem seq_rt (h : s ρ S = .ok (.rt d) S1) : sSeq s u ρ S = .ok (.rt d) S1 := bd_to h rfl
theorem set_to (h : f ρ S = .ok d S1) (l : i < ρ.length) : sSet i f ρ S = .ok (.nx (ρ.set i (some (.val d)))) S1 := bd_to h (by rw [if_pos l]; rfl)
theorem ret_to (h : f ρ S = .ok d S1) : sRet f ρ S = .ok (.rt d) S1 := bd_to h rfl
theorem expr_to (h : f ρ S = .ok d S1) : sExpr f ρ S = .ok (.nx ρ) S1 := bd_to h rfl
theorem if_t (h : t ρ S = .ok true S1) (q : s ρ S1 = r) : sIf t s u ρ S = r := bd_to h q
theorem if_f (h : t ρ S = .ok false S1) (q : u ρ S1 = r) : sIf t s u ρ S = r := bd_to h q
theorem fn_rt {ds : List D} (h : s (rho0 n ds) S = .ok (.rt d) S1) : fnM n s ds S = .ok d S1 := bd_to h rfl
theorem fn_nx {ds : List D} (h : s (rho0 n ds) S = .ok (.nx ρ1) S1) : fnM n s ds S = .ok .non S1 := bd_to h rfl
theorem call_to {g : List D → M D} {fl : Rho → M (List D)} {ds : List D} {r : Res D} (h : fl ρ S = .ok ds S1) (l : ds.length = n) (q : g ds S1 = r) : eFn n g fl ρ S = r := bd_to h (by rw [if_pos l]; exact q)
theorem acons_to {g : Rho → M (List D)} {ds : List D} (h : f ρ S = .ok d S1) (q : g ρ S1 = .ok ds S2) : aCons f g ρ S = .ok (d :: ds) S2 := bd_to h (bd_to q rfl)
theorem e2_to {g : D → D → M D} {x y : D} {r : Res D} (h : fa ρ S = .ok x S1) (q : fb ρ S1 = .ok y S2) (z : g x y S2 = r) : e2 g fa fb ρ S = r := bd_to h (bd_to q z)
theorem e1_to {g : D → M D} {x : D} {r : Res D} (h : fa ρ S = .ok x S1) (z : g x S1 = r) : e1 g fa ρ S = r := bd_to h z
theorem tb2_to {g : D → D → M D} {x y : D} {b : Bool} (h : fa ρ S = .ok x S1) (q : fb ρ S1 = .ok y S2) (z : g x y S2 = .ok (.bl b) S2) : tB2 g fa fb ρ S = .ok b S2 := bd_to h (bd_to q (bd_to z rfl))
theorem eif_t {r : Res D} (h : t ρ S = .ok true S1) (q : fa ρ S1 = r) : eIf t fa fb ρ S = r := bd_to h q
theorem eif_f {r : Res D} (h : t ρ S = .ok false S1) (q : fb ρ S1 = r) : eIf t fa fb ρ S = r := bd_to h q
theorem tup_to {g : Rho → M (List D)} {ds : List D} (h : g ρ S = .ok ds S1) (l : ds.length ≤ PySem.sizeLine) : eTup g ρ S = .ok (.tup ds) S1 := bd_to h (by unfold two; rw [decide_eq_true l, if_pos rfl]; rfl)
theorem two_to {P : Bool} {d : D} (h : P = true) : two P d S = .ok d S := by subst h; rfl
theorem not_to (h : t ρ S = .ok k S1) : tNotB t ρ S = .ok (!k) S1 := bd_to h rfl
theorem and_t {u : Rho → M Bool} {r : Res Bool} (h : t ρ S = .ok true S1) (q : u ρ S1 = r) : tAndB t u ρ S = r := bd_to h q
theorem and_f {u : Rho → M Bool} (h : t ρ S = .ok false S1) : tAndB t u ρ S = .ok false S1 := bd_to h rfl
theorem or_t {u : Rho → M Bool} (h : t ρ S = .ok true S1) : tOrB t u ρ S = .ok true S1 := bd_to h rfl
theorem or_f {u : Rho → M Bool} {r : Res Bool} (h : t ρ S = .ok false S1) (q : u ρ S1 = r) : tOrB t u ρ S = r := bd_to h q
/-! loops -/
variable {g : D → Rho → M Rho} {b : Sx} {ds : List D} {ρ2 : Rho} {S3 : Sto}
theorem for_nil : forM g b [] ρ S = .ok (.nx ρ) S := rfl
theorem for_cons (h : g d ρ S = .ok ρ1 S1) (q : b ρ1 S1 = .ok (.nx ρ2) S2) (z : forM g b ds ρ2 S2 = r) : forM g b (d :: ds) ρ S = r := bd_to h (bd_to q z)
theorem for_ret {v : D} (h : g d ρ S = .ok ρ1 S1) (q : b ρ1 S1 = .ok (.rt v) S2) : forM g b (d :: ds) ρ S = .ok (.rt v) S2 := bd_to h (bd_to q rfl)
theorem for_to {fi : Rho → M (List D)} (h : fi ρ S = .ok ds S1) (q : forM g b ds ρ S1 = r) : sFor fi g b ρ S = r := bd_to h q
theorem asg_to (h : f ρ S = .ok d S1) (q : g d ρ S1 = .ok ρ1 S2) : sAsg f g ρ S = .ok (.nx ρ1) S2 := bd_to h (bd_to q rfl)
theorem lc_nil {e : Ev} : lcM g t e ρ [] S = .ok [] S := rfl
theorem lc_yes {e : Ev} {y : D} {ys : List D} {S4 : Sto} (h : g d ρ S = .ok ρ1 S1) (q : t ρ1 S1 = .ok true S2) (z : e ρ1 S2 = .ok y S3) (w : lcM g t e ρ ds S3 = .ok ys S4) : lcM g t e ρ (d :: ds) S = .ok (y :: ys) S4 :=
  bd_to h (bd_to q (by rw [if_pos rfl]; exact bd_to z (bd_to w rfl)))
theorem lc_no {e : Ev} {r : Res (List D)} (h : g d ρ S = .ok ρ1 S1) (q : t ρ1 S1 = .ok false S2) (w : lcM g t e ρ ds S2 = r) : lcM g t e ρ (d :: ds) S = r :=
  bd_to h (bd_to q (by rw [if_neg Bool.false_ne_true]; exact w))
theorem lcn_to {fi : Rho → M (List D)} {e : Ev} {vs : List Nat} {ys : List D} (h : fi ρ S = .ok ds S1) (l : ds.length ≤ PySem.sizeLine) (w : lcM g t e (wipeR ρ vs) ds S1 = .ok ys S2) : lcN fi g t e vs ρ S = .ok ys S2 :=
  bd_to h (by rw [if_pos l]; unfold nox; rw [w])
theorem while_to {n : Nat} (h : whN t b n ρ S = r) (nd : r ≠ .div) (l : n ≤ fuel) : sWhile t b ρ S = r := while_n h nd l
theorem wh_stop (h : t ρ S = .ok false S1) : whN t b (n + 1) ρ S = .ok (.nx ρ) S1 := bd_to h rfl
theorem wh_go (h : t ρ S = .ok true S1) (q : b ρ S1 = .ok (.nx ρ1) S2) (z : whN t b n ρ1 S2 = r) : whN t b (n + 1) ρ S = r := bd_to h (by rw [if_pos rfl]; exact bd_to q z)
end
/-- two lists, item by item -/
inductive All2 {α β : Type} (P : α → β → Prop) : List α → List β → Prop
  | nil : All2 P [] []
  | cons {a : α} {b : β} {as : List α} {bs : List β} : P a b → All2 P as bs → All2 P (a :: as) (b :: bs)
theorem All2.len {α β : Type} {P : α → β → Prop} {as : List α} {bs : List β} (h : All2 P as bs) : as.length = bs.length := by
  induction h with
  | nil => rfl
  | cons _ _ ih => rw [List.length_cons, List.length_cons, ih]
theorem All2.mem {α β : Type} {P : α → β → Prop} {as : List α} {bs : List β} (h : All2 P as bs) : ∀ b ∈ bs, ∃ a ∈ as, P a b := by
  induction h with
  | nil => intro b hb; cases hb
  | cons p _ ih =>
    intro b hb
    rcases List.mem_cons.mp hb with rfl | hb
    · exact ⟨_, List.mem_cons_self .., p⟩
    · obtain ⟨a, m, q⟩ := ih b hb
      exact ⟨a, List.mem_cons_of_mem _ m, q⟩
/-- a comprehension under an invariant that counts its turns -/
theorem lc_inv {I : Nat → Sto → Prop} {P : D → D → Prop} {g : D → Rho → M Rho} {t : Rho → M Bool} {e : Ev} {ρ : Rho} : ∀ {ds : List D} {k : Nat} {S : Sto},
    (∀ d ∈ ds, ∀ k S, I k S → ∃ ρ1, g d ρ S = .ok ρ1 S ∧ t ρ1 S = .ok true S ∧ ∃ y S', e ρ1 S = .ok y S' ∧ P d y ∧ I (k + 1) S') → I k S → ∃ ys S', lcM g t e ρ ds S = .ok ys S' ∧ All2 P ds ys ∧ I (k + ds.length) S'
  | [], k, S, _, i => ⟨[], S, rfl, .nil, i⟩
  | d :: ds, k, S, h, i => by
    obtain ⟨ρ1, e1, e2, y, S1, e3, p, i1⟩ := h d (List.mem_cons_self ..) k S i
    obtain ⟨ys, S2, e4, a, i2⟩ := lc_inv (fun d m => h d (List.mem_cons_of_mem _ m)) i1
    exact ⟨y :: ys, S2, lc_yes e1 e2 e3 e4, .cons p a, by rw [List.length_cons, ← Nat.add_assoc, Nat.add_right_comm]; exact i2⟩
/-- a for loop under an invariant that counts its turns -/
theorem for_inv {I : Nat → Rho → Sto → Prop} {g : D → Rho → M Rho} {b : Sx} : ∀ {ds : List D} {k : Nat} {ρ : Rho} {S : Sto},
    (∀ d ∈ ds, ∀ k ρ S, I k ρ S → ∃ ρ1 S1 ρ2 S2, g d ρ S = .ok ρ1 S1 ∧ b ρ1 S1 = .ok (.nx ρ2) S2 ∧ I (k + 1) ρ2 S2) → I k ρ S → ∃ ρ' S', forM g b ds ρ S = .ok (.nx ρ') S' ∧ I (k + ds.length) ρ' S'
  | [], k, ρ, S, _, i => ⟨ρ, S, rfl, i⟩
  | d :: ds, k, ρ, S, h, i => by
    obtain ⟨ρ1, S1, ρ2, S2, e1, e2, i1⟩ := h d (List.mem_cons_self ..) k ρ S i
    obtain ⟨ρ', S', e3, i2⟩ := for_inv (fun d m => h d (List.mem_cons_of_mem _ m)) i1
    exact ⟨ρ', S', for_cons e1 e2 e3, by rw [List.length_cons, ← Nat.add_assoc, Nat.add_right_comm]; exact i2⟩
end LS

set_option Elab.async false
set_option linter.all false
set_option maxRecDepth 100000
set_option maxHeartbeats 1000000
/-! ## 47. sorted, where the list is in order already -/
namespace LS
open PySem L2 PySem.Spec
open PyProof.Rows hiding St
open ClX
section low
open SrtO Srt
variable {prog : Program} {w : World} {A : Around} {E : Value → Shared → Prop} {s : Shared}
def IsOne (h : Heap) (v : Value) (x : Int) : Prop := ∃ a o t n, v = .ref a ∧ h.get? a = some o ∧ o.cls = .type "tuple" ∧ o.data = .seq #[.int x t] n
theorem IsOne.keeps {h h' : Heap} {v : Value} {x : Int} (p : IsOne h v x) (k : ∀ b o, h.get? b = some o → o.cls = .type "tuple" → h'.get? b = some o) : IsOne h' v x := by
  obtain ⟨a, o, t, n, e, ho, hc, hd⟩ := p
  exact ⟨a, o, t, n, e, k _ _ ho hc, hc, hd⟩
theorem swo_one (k : Value → Int) : Swo fun v u => decide (k v < k u) := by
  refine ⟨fun x y h => ?_, fun x y z h1 h2 => ?_⟩
  · have := of_decide_eq_true h
    exact decide_eq_false (by omega)
  · have a := of_decide_eq_false h1
    have b := of_decide_eq_false h2
    exact decide_eq_false (by omega)
theorem one_cmp {vs : List Value} {k : Value → Int} (hp : ∀ v ∈ vs, IsOne s.heap v (k v)) : Cmp prog w A s (tuples' true) (fun p => p.1 ∈ vs) (lt2 fun v u => decide (k v < k u)) := by
  intro p q hm hm'
  have h1 := hp _ hm
  have h2 := hp _ hm'
  show wpAny (model prog w) A (keyLt' (tuples' true) p.1 q.1) (fun r s' => s' = s ∧ r = decide (k p.1 < k q.1)) (fun _ _ => False) s
  generalize k p.1 = x at h1 ⊢
  generalize k q.1 = x' at h2 ⊢
  obtain ⟨a, o, t, n, e, ho, hc, hd⟩ := h1
  obtain ⟨a', o', t', n', e', ho', hc', hd'⟩ := h2
  rw [e, e']
  refine PySem.W.kat_lt ho hd ho' hd' ?_
  show PySem.W.KatLex prog w A true (decide (1 < 1)) _ [(.int x t, .int x' t')] 0 s
  refine PySem.W.kat_cons (SeqAt.EqAt.int_int x t x' t' prog w _ _ ?_)
  refine PySem.W.kat_go (fun e1 => ?_) (fun e1 => ?_)
  · have ex : x = x' := by simpa using e1
    exact PySem.W.kat_yes (PySem.W.kat_nil ⟨rfl, by rw [ex]; exact (decide_eq_false (Int.lt_irrefl _)).symm⟩)
  · exact PySem.W.kat_no (oneLt_int ⟨rfl, rfl⟩)
theorem firsts_one {h : Heap} : ∀ {vs : List Value}, (∀ v ∈ vs, ∃ x, IsOne h v x) → ∃ fs : List Value, PySem.W.KatTups h vs fs ∧ fs.length = vs.length ∧ ∀ f ∈ fs, ∃ x t, f = Value.int x t
  | [], _ => ⟨[], PySem.W.KatTups.nil, rfl, fun _ hm => by simp at hm⟩
  | v :: vs, hp => by
    obtain ⟨fs, h1, h2, h3⟩ := firsts_one (vs := vs) fun v' hm => hp v' (List.mem_cons_of_mem _ hm)
    obtain ⟨x, a, o, t, n, e, ho, hc, hd⟩ := hp v (List.mem_cons_self ..)
    subst e
    refine ⟨.int x t :: fs, PySem.W.KatTups.cons ho hc hd rfl h1, by rw [List.length_cons, List.length_cons, h2], fun f hm => ?_⟩
    rcases List.mem_cons.mp hm with rfl | hm
    · exact ⟨x, t, rfl⟩
    · exact h3 f hm
theorem ones_sortableO {a : Addr} {vs : List Value} {k : Value → Int} (h0 : 0 < vs.length) (hp : ∀ v ∈ vs, IsOne s.heap v (k v)) (ha : ∀ o, s.heap.get? a = some o → o.cls ≠ .type "tuple") : SortableO prog w A s a vs fun v u => decide (k v < k u) := by
  intro h' keep
  have hp' : ∀ v ∈ vs, IsOne h' v (k v) := fun v hm => (hp v hm).keeps fun b o e c => keep b o (fun z => by subst z; exact ha o e c) e
  obtain ⟨fs, h1, h2, h3⟩ := firsts_one fun v hm => ⟨_, hp' v hm⟩
  refine ⟨tuples' true, fun Q E hq => ?_, one_cmp hp'⟩
  refine PySem.W.kat_kind (T := .type "int") h1 (by omega) (fun f hm => ?_) (by rfl) ?_
  · obtain ⟨x, t, rfl⟩ := h3 f hm
    exact PySem.W.Looks.now
  · have e : (Value.type "int" != Value.type "tuple") = true := by first | decide +kernel | rfl | decide
    rw [e]
    exact hq
theorem sorted_onesO {l : Addr} {vs : List Value} {k : Value → Int} {Q : Value → Shared → Prop} (hl : s.heap.IsList l vs.toArray) (hz : vs.length ≤ sizeLine) (hp : ∀ v ∈ vs, IsOne s.heap v (k v))
    (h : ∀ (h' : Heap) (d : Addr) (out : List Value), Srtd (fun v u => decide (k v < k u)) out → Stb (fun v u => decide (k v < k u)) out vs → (∀ b o, s.heap.get? b = some o → h'.get? b = some o) → s.heap.objs.size ≤ d → (∃ n, h'.get? d = some (seqObj "list" out.toArray n)) → Q (.ref d) { s with heap := h' }) :
    wpAny (model prog w) A (call (.builtin "sorted") [.ref l]) Q E s := by
  refine sorted_ord (swo_one k) hl hz (fun h2 h₁ a ha kk => ?_) fun out hs hb => ?_
  · refine ones_sortableO (s := { s with heap := h₁ }) (by omega) (fun v hm => (hp v hm).keeps fun b o e _ => (kk b o e).2) fun o e => ?_
    have e' : some o = some (seqObj "list" vs.toArray 0) := e.symm.trans ha
    cases e'
    intro c
    exact absurd (Value.type.inj c) (by decide)
  · exact h _ _ out hs hb (fun b o e => sortedAll_old e) (Nat.le_succ _) (sortedAll_at s.heap vs out.toArray)
/-- what a tuple of one or two ints in the heap holds -/
def kh2 (h : Heap) (v : Value) : Int × Int := match v with
  | .ref a => match h.get? a with
    | some o => match o.data with
      | .seq xs _ => match xs.toList with
        | [.int x _, .int y _] => (x, y)
        | _ => (0, 0)
      | _ => (0, 0)
    | none => (0, 0)
  | _ => (0, 0)
def kh1 (h : Heap) (v : Value) : Int := match v with
  | .ref a => match h.get? a with
    | some o => match o.data with
      | .seq xs _ => match xs.toList with
        | [.int x _] => x
        | _ => 0
      | _ => 0
    | none => 0
  | _ => 0
theorem kh2_of {h : Heap} {v : Value} {x y : Int} (p : IsPair h v x y) : kh2 h v = (x, y) := by
  obtain ⟨a, o, t, u, n, rfl, ho, hc, hd⟩ := p
  unfold kh2
  dsimp only
  rw [ho]
  dsimp only
  rw [hd]
theorem kh1_of {h : Heap} {v : Value} {x : Int} (p : IsOne h v x) : kh1 h v = x := by
  obtain ⟨a, o, t, n, rfl, ho, hc, hd⟩ := p
  unfold kh1
  dsimp only
  rw [ho]
  dsimp only
  rw [hd]
end low
section
variable {X : Cx} {T : Tb} {W : WX} {e a b c o tg : Expr} {f fa fb : Ev} {pos p2 p apos pos' : Pos} {es : List Expr} {fl : Rho → M (List D)}
/-- sorted(xs), xs a list of pairs, or of tuples of one, in order -/
def rSrt (K : PySem.W.Frag) : List V → Hp → VK → Prop := fun vs H Q => ∃ (a : Addr) (xs : List V), vs = [V.ref a] ∧ SqL K H a xs ∧
  ((∃ ks : List (Int × Int), All2 (fun x q => ∃ t, x = V.ref t ∧ SqT K H t [.int q.1, .int q.2]) xs ks ∧ ks.Pairwise fun x y => SrtO.lexB y x = false) ∨
    (∃ ks : List Int, All2 (fun x q => ∃ t, x = V.ref t ∧ SqT K H t [.int q]) xs ks ∧ ks.Pairwise fun x y => decide (y < x) = false)) ∧
  ∀ p, H p = none → Q (.ref p) (upd H p (.lst xs))
theorem all2_pw {α β γ : Type} {P : α → β → Prop} {R : β → β → Prop} {k : γ → β} : ∀ {xs : List α} {ks : List β} {us : List γ}, All2 P xs ks → us.map k = ks → ks.Pairwise R → us.Pairwise fun x y => R (k x) (k y) := fun _ e p => by
  subst e
  exact List.pairwise_map.mp p
theorem cr_srt : CallR X (.builtin "sorted") (rSrt X.K) := by
  intro pins s σ H vs us Q I r h
  obtain ⟨a, xs, rfl, hs, hx, q⟩ := h
  obtain ⟨its, rv, hl, hz⟩ := I.list hs
  obtain ⟨u, rfl, ru⟩ := vals1 r
  obtain rfl : u = Value.ref a := ru
  have fin : ∀ (h' : Heap) (d : Addr), (∀ b o, s.heap.get? b = some o → h'.get? b = some o) → s.heap.objs.size ≤ d → (∃ n, h'.get? d = some (seqObj "list" its.toArray n)) → EP X pins σ Q (.ref d) { s with heap := h' } := fun h' d kp hd hn => by
    obtain ⟨n, hn⟩ := hn
    exact ⟨.ref d, upd H d (.lst xs), I.laid (t' := s.toks) kp hd ⟨hz, its, n, rv, hn⟩, rfl, q d (I.hok.fresh hd)⟩
  rcases hx with ⟨ks, h2, srt⟩ | ⟨ks, h2, srt⟩
  · have key : ∀ {xs : List V} {its : List Value} {ks : List (Int × Int)}, Vals xs its → All2 (fun x q => ∃ t, x = V.ref t ∧ SqT X.K H t [.int q.1, .int q.2]) xs ks → (∀ v ∈ its, Srt.IsPair s.heap v (kh2 s.heap v).1 (kh2 s.heap v).2) ∧ its.map (kh2 s.heap) = ks := by
      intro xs its ks rv
      induction rv generalizing ks with
      | nil => intro h2; cases h2; exact ⟨nofun, rfl⟩
      | cons r1 rr ih =>
        intro h2
        cases h2 with
        | cons p pp =>
          obtain ⟨t, rfl, st⟩ := p
          obtain ⟨i1, i2⟩ := ih pp
          obtain ⟨its2, r2, it, -⟩ := I.tuple st
          obtain ⟨o, ho, hc, n, hd⟩ := it
          obtain ⟨u1, u2, rfl, ri, rj⟩ := vals2 r2
          obtain ⟨t1, rfl⟩ := ri
          obtain ⟨t2, rfl⟩ := rj
          have e0 := (show _ = Value.ref t from r1)
          subst e0
          have pr : Srt.IsPair s.heap (.ref t) _ _ := ⟨t, o, t1, t2, n, rfl, ho, hc, hd⟩
          have ke := kh2_of pr
          refine ⟨fun v hv => ?_, by rw [List.map_cons, ke, i2]⟩
          rcases List.mem_cons.mp hv with rfl | hv
          · rw [ke]; exact pr
          · exact i1 v hv
    obtain ⟨k1, k2⟩ := key rv h2
    refine SrtO.sorted_pairsO (k := kh2 s.heap) hl.isList (by rw [← rv.length]; exact hz) k1 fun h' d out g1 g2 kp hd hn => ?_
    have : out = its := SrtO.stb_uniq (SrtO.swo_lex _) g1 (all2_pw h2 k2 srt) g2
    subst this
    exact fin h' d kp hd hn
  · have key : ∀ {xs : List V} {its : List Value} {ks : List Int}, Vals xs its → All2 (fun x q => ∃ t, x = V.ref t ∧ SqT X.K H t [.int q]) xs ks → (∀ v ∈ its, IsOne s.heap v (kh1 s.heap v)) ∧ its.map (kh1 s.heap) = ks := by
      intro xs its ks rv
      induction rv generalizing ks with
      | nil => intro h2; cases h2; exact ⟨nofun, rfl⟩
      | cons r1 rr ih =>
        intro h2
        cases h2 with
        | cons p pp =>
          obtain ⟨t, rfl, st⟩ := p
          obtain ⟨i1, i2⟩ := ih pp
          obtain ⟨its2, r2, it, -⟩ := I.tuple st
          obtain ⟨o, ho, hc, n, hd⟩ := it
          obtain ⟨u1, rfl, ri⟩ := vals1 r2
          obtain ⟨t1, rfl⟩ := ri
          have e0 := (show _ = Value.ref t from r1)
          subst e0
          have pr : IsOne s.heap (.ref t) _ := ⟨t, o, t1, n, rfl, ho, hc, hd⟩
          have ke := kh1_of pr
          refine ⟨fun v hv => ?_, by rw [List.map_cons, ke, i2]⟩
          rcases List.mem_cons.mp hv with rfl | hv
          · rw [ke]; exact pr
          · exact i1 v hv
    obtain ⟨k1, k2⟩ := key rv h2
    refine sorted_onesO (k := kh1 s.heap) hl.isList (by rw [← rv.length]; exact hz) k1 fun h' d out g1 g2 kp hd hn => ?_
    have : out = its := SrtO.stb_uniq (swo_one _) g1 (all2_pw h2 k2 srt) g2
    subst this
    exact fin h' d kp hd hn
def keyP : D → Option (Int × Int)
  | .tup [.int i, .int j] => some (i, j)
  | _ => none
def key1 : D → Option Int
  | .tup [.int i] => some i
  | _ => none
def keysP : List D → Option (List (Int × Int))
  | [] => some []
  | d :: ds => match keyP d, keysP ds with
    | some k, some ks => some (k :: ks)
    | _, _ => none
def keys1 : List D → Option (List Int)
  | [] => some []
  | d :: ds => match key1 d, keys1 ds with
    | some k, some ks => some (k :: ks)
    | _, _ => none
def ordP : List (Int × Int) → Bool
  | [] => true
  | k :: ks => ks.all (fun y => !SrtO.lexB y k) && ordP ks
def ord1 : List Int → Bool
  | [] => true
  | k :: ks => ks.all (fun y => !decide (y < k)) && ord1 ks
theorem ordP_pw : ∀ {ks : List (Int × Int)}, ordP ks = true → ks.Pairwise fun x y => SrtO.lexB y x = false
  | [], _ => List.Pairwise.nil
  | k :: ks, h => by
    unfold ordP at h
    rw [Bool.and_eq_true, List.all_eq_true] at h
    exact List.pairwise_cons.mpr ⟨fun y hy => by simpa using h.1 y hy, ordP_pw h.2⟩
theorem ord1_pw : ∀ {ks : List Int}, ord1 ks = true → ks.Pairwise fun x y => decide (y < x) = false
  | [], _ => List.Pairwise.nil
  | k :: ks, h => by
    unfold ord1 at h
    rw [Bool.and_eq_true, List.all_eq_true] at h
    exact List.pairwise_cons.mpr ⟨fun y hy => by simpa using h.1 y hy, ord1_pw h.2⟩
def srtN (fl : Rho → M (List D)) : Rho → M (List D) := fun ρ => bd (fl ρ) fun ds => match ds with
  | [.lst xs] => match keysP xs, keys1 xs with
    | some ks, _ => if ordP ks = true then ret xs else dv
    | none, some ks => if ord1 ks = true then ret xs else dv
    | none, none => dv
  | _ => dv
theorem keyP_of {d : D} {k : Int × Int} (h : keyP d = some k) : d = .tup [.int k.1, .int k.2] := by
  unfold keyP at h
  split at h
  · cases h; rfl
  · cases h
theorem key1_of {d : D} {k : Int} (h : key1 d = some k) : d = .tup [.int k] := by
  unfold key1 at h
  split at h
  · cases h; rfl
  · cases h
theorem keysP_all {G : Gh} {H : Hp} : ∀ {xs : List D} {ws : List V} {ks : List (Int × Int)}, IsL T G H xs ws → keysP xs = some ks → All2 (fun x q => ∃ t, x = V.ref t ∧ SqT T.K H t [.int q.1, .int q.2]) ws ks
  | [], ws, ks, r, h => by
    unfold IsL at r
    subst r
    cases h
    exact .nil
  | d :: xs, ws, ks, r, h => by
    unfold IsL at r
    obtain ⟨v, w, rfl, r1, r2⟩ := r
    unfold keysP at h
    cases e1 : keyP d with
    | none => rw [e1] at h; cases h
    | some k =>
      cases e2 : keysP xs with
      | none => rw [e1, e2] at h; cases h
      | some ks' =>
        rw [e1, e2] at h
        cases h
        refine .cons ?_ (keysP_all r2 e2)
        have ed := keyP_of e1
        subst ed
        obtain ⟨t, us, rfl, st, r3⟩ := b_tup (.inl r1)
        refine ⟨t, rfl, ?_⟩
        unfold IsL at r3
        obtain ⟨v1, w1, rfl, q1, q2⟩ := r3
        unfold IsL at q2
        obtain ⟨v2, w2, rfl, q3, q4⟩ := q2
        unfold IsL at q4
        subst q4
        cases b_int (.inl q1)
        cases b_int (.inl q3)
        exact st.sq
theorem keys1_all {G : Gh} {H : Hp} : ∀ {xs : List D} {ws : List V} {ks : List Int}, IsL T G H xs ws → keys1 xs = some ks → All2 (fun x q => ∃ t, x = V.ref t ∧ SqT T.K H t [.int q]) ws ks
  | [], ws, ks, r, h => by
    unfold IsL at r
    subst r
    cases h
    exact .nil
  | d :: xs, ws, ks, r, h => by
    unfold IsL at r
    obtain ⟨v, w, rfl, r1, r2⟩ := r
    unfold keys1 at h
    cases e1 : key1 d with
    | none => rw [e1] at h; cases h
    | some k =>
      cases e2 : keys1 xs with
      | none => rw [e1, e2] at h; cases h
      | some ks' =>
        rw [e1, e2] at h
        cases h
        refine .cons ?_ (keys1_all r2 e2)
        have ed := key1_of e1
        subst ed
        obtain ⟨t, us, rfl, st, r3⟩ := b_tup (.inl r1)
        refine ⟨t, rfl, ?_⟩
        unfold IsL at r3
        obtain ⟨v1, w1, rfl, q1, q2⟩ := r3
        unfold IsL at q2
        subst q2
        cases b_int (.inl q1)
        exact st.sq
theorem sn_sorted (hm : X.mg "sorted" = none) (ha : SAB X T W [e] fl) (hg : Gl X "sorted" := by rfl) (hT : T.K = X.K := by rfl)
    (he : starEach [e] X.env = (false, eval e X.env) :: starEach [] X.env := by rfl) (hpl : (backTo pos (starEach [] X.env)).any (·.1) = false := by rfl) : SN X T W (.Call (.Name "sorted" p) [e] [] pos) (srtN fl) := by
  refine ⟨pe_imp (pe_callB cr_srt hg hm (by rfl) ha.pa (by decide) (by decide) he hpl) fun σ H Q ⟨ρ, G, S, ag, wf, o⟩ => ⟨ρ, G, S, ag, wf, ?_⟩⟩
  unfold srtN bd at o
  cases q : fl ρ S with
  | exc c fs S' => rw [q] at o; exact o
  | div => rw [q] at o; exact o
  | ok ds S1 =>
    rw [q] at o
    dsimp only at o
    intro G1 H1 vs k1 w1 i1
    match ds, o with
    | [], o => exact o.elim
    | d :: _ :: _, o => cases d <;> exact o.elim
    | [d], o =>
      obtain ⟨v, rfl, h1⟩ := bl_one i1
      cases d <;> try exact o.elim
      case lst xs =>
        obtain ⟨a, ws, rfl, _, t, r⟩ := b_lst w1 h1
        dsimp only at o
        have go : ∀ ds, (∀ G' H' a, Kp G H G' H' → Wf T G' H' S1 → H a = none → ¬ G'.F a → a ∉ G'.m → (∃ xs, H' a = some (.lst xs) ∧ IsL T G' H' ds xs) → Q (.ref a) H') → IsL T G1 H1 ds ws → ∀ l, H1 l = none → Q (.ref l) (upd H1 l (.lst ws)) := fun ds o r l n =>
          o G1 (upd H1 l (.lst ws)) l (k1.trans (kp_upd n)) (w1.upd n) (k1.none n) (w1.nof n) (w1.nom n) ⟨ws, upd_same, (lean_upd w1 n).isL r⟩
        cases e1 : keysP xs with
        | some ks =>
          rw [e1] at o
          dsimp only at o
          by_cases c : ordP ks = true
          · rw [if_pos c] at o
            exact ⟨a, ws, rfl, SqL.of t, .inl ⟨ks, hT ▸ keysP_all r e1, ordP_pw c⟩, go xs o r⟩
          · rw [if_neg c] at o; exact o.elim
        | none =>
          rw [e1] at o
          cases e2 : keys1 xs with
          | none => rw [e2] at o; exact o.elim
          | some ks =>
            rw [e2] at o
            dsimp only at o
            by_cases c : ord1 ks = true
            · rw [if_pos c] at o
              exact ⟨a, ws, rfl, SqL.of t, .inr ⟨ks, hT ▸ keys1_all r e2, ord1_pw c⟩, go xs o r⟩
            · rw [if_neg c] at o; exact o.elim
end
end LS

set_option Elab.async false
set_option linter.all false
set_option maxRecDepth 100000
/-! printed by gen.py: the defs of one law over the LS layer -/
namespace LW
open PySem L2 PySem.Spec LS
open PyProof.Rows hiding St
open ClX
def top (i : Nat) : Stmt := PySem.Challenge.pw_fewenough_k70_whole_points_of_forty_digi.main.body.getD i (.Pass ⟨0, 0, 0, 0⟩)
abbrev s__law_draw : Stmt := top 126
abbrev s__law_of : Stmt := top 127
abbrev s__law_first_row : Stmt := top 137
abbrev s__law_two : Stmt := top 139
abbrev s__law_term : Stmt := top 128
abbrev s__law_sum_text : Stmt := top 129
abbrev s__law_row_text : Stmt := top 141
abbrev s__law_great : Stmt := top 140
abbrev s__law_wide_rows : Stmt := top 145
abbrev s__law_kinds : Stmt := top 130
abbrev s__law_weights : Stmt := top 131
abbrev s__law_upright : Stmt := top 132
abbrev s__law_uprights : Stmt := top 133
abbrev s_unknowns_in : Stmt := top 74
abbrev s_number_in : Stmt := top 72
abbrev s_signed_in : Stmt := top 73
abbrev s_term_in : Stmt := top 75
abbrev s_sum_in : Stmt := top 76
abbrev s_inequality_in : Stmt := top 77
abbrev s_wrong_rows : Stmt := top 78
abbrev s_System_init : Stmt := inClass (top 80) 0
abbrev s_System_read : Stmt := inClass (top 80) 1
abbrev s__law_made : Stmt := top 134
abbrev s_System_inequalities : Stmt := inClass (top 80) 6
abbrev s_System_text : Stmt := inClass (top 80) 3
abbrev s__law_far_integer : Stmt := top 142
abbrev s__law_divisor : Stmt := top 135
abbrev s__law_ratio : Stmt := top 136
abbrev s__law_value_for : Stmt := top 143
abbrev s__law_sum : Stmt := top 144
abbrev s_check_system : Stmt := top 81
abbrev s_is_integer : Stmt := top 10
abbrev s_divisor : Stmt := top 12
abbrev s_is_fraction : Stmt := top 14
abbrev s_is_point : Stmt := top 86
abbrev s_check_point : Stmt := top 87
abbrev s_as_fractions : Stmt := top 89
abbrev s_ratio : Stmt := top 13
abbrev s_plus : Stmt := top 15
abbrev s_times : Stmt := top 16
abbrev s_sum_at : Stmt := top 44
abbrev s_gaps_at : Stmt := top 90
abbrev s_broken_at : Stmt := top 91
abbrev s_fits : Stmt := top 92
abbrev s_broken : Stmt := top 93
abbrev s_gaps : Stmt := top 94
abbrev s_is_between : Stmt := top 11
abbrev s_is_aim : Stmt := top 83
abbrev s_check_aim : Stmt := top 88
abbrev s_value : Stmt := top 95
abbrev s__law_words_of : Stmt := top 138
abbrev s_is_solid : Stmt := top 84
abbrev s_numbers_said : Stmt := top 121
abbrev s_Console_plain : Stmt := inClass (top 123) 3
abbrev s_is_lot : Stmt := top 79
abbrev s_Console_aimed : Stmt := inClass (top 123) 6
abbrev s_Console_answer : Stmt := inClass (top 123) 4
abbrev s_Console_say : Stmt := inClass (top 123) 2
abbrev s_Console_init : Stmt := inClass (top 123) 0
abbrev s__law_right : Stmt := top 146
abbrev s__law_spring : Stmt := top 125
abbrev s_law : Stmt := top 147
structure Ad where
  a__law_draw : Addr
  d__law_draw : FuncData
  a__law_of : Addr
  d__law_of : FuncData
  a__law_first_row : Addr
  d__law_first_row : FuncData
  a__law_two : Addr
  d__law_two : FuncData
  a__law_term : Addr
  d__law_term : FuncData
  a__law_sum_text : Addr
  d__law_sum_text : FuncData
  a__law_row_text : Addr
  d__law_row_text : FuncData
  a__law_great : Addr
  d__law_great : FuncData
  a__law_wide_rows : Addr
  d__law_wide_rows : FuncData
  a__law_kinds : Addr
  d__law_kinds : FuncData
  a__law_weights : Addr
  d__law_weights : FuncData
  a__law_upright : Addr
  d__law_upright : FuncData
  a__law_uprights : Addr
  d__law_uprights : FuncData
  a_unknowns_in : Addr
  d_unknowns_in : FuncData
  a_number_in : Addr
  d_number_in : FuncData
  a_signed_in : Addr
  d_signed_in : FuncData
  a_term_in : Addr
  d_term_in : FuncData
  a_sum_in : Addr
  d_sum_in : FuncData
  a_inequality_in : Addr
  d_inequality_in : FuncData
  a_wrong_rows : Addr
  d_wrong_rows : FuncData
  a_System_init : Addr
  d_System_init : FuncData
  a_System_read : Addr
  d_System_read : FuncData
  a__law_made : Addr
  d__law_made : FuncData
  a_System_inequalities : Addr
  d_System_inequalities : FuncData
  a_System_text : Addr
  d_System_text : FuncData
  a__law_far_integer : Addr
  d__law_far_integer : FuncData
  a__law_divisor : Addr
  d__law_divisor : FuncData
  a__law_ratio : Addr
  d__law_ratio : FuncData
  a__law_value_for : Addr
  d__law_value_for : FuncData
  a__law_sum : Addr
  d__law_sum : FuncData
  a_check_system : Addr
  d_check_system : FuncData
  a_is_integer : Addr
  d_is_integer : FuncData
  a_divisor : Addr
  d_divisor : FuncData
  a_is_fraction : Addr
  d_is_fraction : FuncData
  a_is_point : Addr
  d_is_point : FuncData
  a_check_point : Addr
  d_check_point : FuncData
  a_as_fractions : Addr
  d_as_fractions : FuncData
  a_ratio : Addr
  d_ratio : FuncData
  a_plus : Addr
  d_plus : FuncData
  a_times : Addr
  d_times : FuncData
  a_sum_at : Addr
  d_sum_at : FuncData
  a_gaps_at : Addr
  d_gaps_at : FuncData
  a_broken_at : Addr
  d_broken_at : FuncData
  a_fits : Addr
  d_fits : FuncData
  a_broken : Addr
  d_broken : FuncData
  a_gaps : Addr
  d_gaps : FuncData
  a_is_between : Addr
  d_is_between : FuncData
  a_is_aim : Addr
  d_is_aim : FuncData
  a_check_aim : Addr
  d_check_aim : FuncData
  a_value : Addr
  d_value : FuncData
  a__law_words_of : Addr
  d__law_words_of : FuncData
  a_is_solid : Addr
  d_is_solid : FuncData
  a_numbers_said : Addr
  d_numbers_said : FuncData
  a_Console_plain : Addr
  d_Console_plain : FuncData
  a_is_lot : Addr
  d_is_lot : FuncData
  a_Console_aimed : Addr
  d_Console_aimed : FuncData
  a_Console_answer : Addr
  d_Console_answer : FuncData
  a_Console_say : Addr
  d_Console_say : FuncData
  a_Console_init : Addr
  d_Console_init : FuncData
  a__law_right : Addr
  d__law_right : FuncData
  a__law_spring : Addr
  d__law_spring : FuncData
  a_law : Addr
  d_law : FuncData
  c_System : Addr
  c_Console : Addr
  p_System_read : Addr
  mc_System_read : Value
  pp_System_inequalities : Addr
  pp_System_text : Addr
  u_MOST_INEQUALITIES : Value
  u_JOIN : Value
  u_UNKNOWNS : Value
  u_KINDS : Value
  u_FIGURES : Value
  u_MOST_WEIGHT : Value
  u_MOST_CONSTANT : Value
  u_NOT_WHOLE : Value
  u_NO_POINT : Value
def caOf (A : Ad) : Nat → Addr
  | 0 => A.c_System
  | 1 => A.c_Console
  | _ => 0
def cfOf : Nat → List Str
  | 0 => ["told", "kinds", "letters", "solid", "bounds"]
  | 1 => ["kept"]
  | _ => []
def tbl (K : PySem.W.Frag) (A : Ad) : Tb := ⟨K, caOf A, cfOf⟩
def own_cs : List Nat := [0, 1]
def own_System : List (Nat × Bool) := [(0, true), (1, false)]
structure Fx (K : PySem.W.Frag) (mg : Str → Option Value) (A : Ad) : Prop where
  b_abs : mg "abs" = none
  b_all : mg "all" = none
  b_bool : mg "bool" = none
  b_divmod : mg "divmod" = none
  b_enumerate : mg "enumerate" = none
  b_int : mg "int" = none
  b_isinstance : mg "isinstance" = none
  b_len : mg "len" = none
  b_list : mg "list" = none
  b_max : mg "max" = none
  b_min : mg "min" = none
  b_range : mg "range" = none
  b_repr : mg "repr" = none
  b_str : mg "str" = none
  b_tuple : mg "tuple" = none
  b_zip : mg "zip" = none
  F__law_draw : Fun K "_law_draw" "_law_draw" s__law_draw A.a__law_draw A.d__law_draw
  m__law_draw : mg "_law_draw" = some (.ref A.a__law_draw)
  k__law_draw : PySem.W.keepIn K (.ref A.a__law_draw) = true
  F__law_of : Fun K "_law_of" "_law_of" s__law_of A.a__law_of A.d__law_of
  m__law_of : mg "_law_of" = some (.ref A.a__law_of)
  k__law_of : PySem.W.keepIn K (.ref A.a__law_of) = true
  F__law_first_row : Fun K "_law_first_row" "_law_first_row" s__law_first_row A.a__law_first_row A.d__law_first_row
  m__law_first_row : mg "_law_first_row" = some (.ref A.a__law_first_row)
  k__law_first_row : PySem.W.keepIn K (.ref A.a__law_first_row) = true
  F__law_two : Fun K "_law_two" "_law_two" s__law_two A.a__law_two A.d__law_two
  m__law_two : mg "_law_two" = some (.ref A.a__law_two)
  k__law_two : PySem.W.keepIn K (.ref A.a__law_two) = true
  F__law_term : Fun K "_law_term" "_law_term" s__law_term A.a__law_term A.d__law_term
  m__law_term : mg "_law_term" = some (.ref A.a__law_term)
  k__law_term : PySem.W.keepIn K (.ref A.a__law_term) = true
  F__law_sum_text : Fun K "_law_sum_text" "_law_sum_text" s__law_sum_text A.a__law_sum_text A.d__law_sum_text
  m__law_sum_text : mg "_law_sum_text" = some (.ref A.a__law_sum_text)
  k__law_sum_text : PySem.W.keepIn K (.ref A.a__law_sum_text) = true
  F__law_row_text : Fun K "_law_row_text" "_law_row_text" s__law_row_text A.a__law_row_text A.d__law_row_text
  m__law_row_text : mg "_law_row_text" = some (.ref A.a__law_row_text)
  k__law_row_text : PySem.W.keepIn K (.ref A.a__law_row_text) = true
  F__law_great : Fun K "_law_great" "_law_great" s__law_great A.a__law_great A.d__law_great
  m__law_great : mg "_law_great" = some (.ref A.a__law_great)
  k__law_great : PySem.W.keepIn K (.ref A.a__law_great) = true
  F__law_wide_rows : Fun K "_law_wide_rows" "_law_wide_rows" s__law_wide_rows A.a__law_wide_rows A.d__law_wide_rows
  m__law_wide_rows : mg "_law_wide_rows" = some (.ref A.a__law_wide_rows)
  k__law_wide_rows : PySem.W.keepIn K (.ref A.a__law_wide_rows) = true
  F__law_kinds : Fun K "_law_kinds" "_law_kinds" s__law_kinds A.a__law_kinds A.d__law_kinds
  m__law_kinds : mg "_law_kinds" = some (.ref A.a__law_kinds)
  k__law_kinds : PySem.W.keepIn K (.ref A.a__law_kinds) = true
  F__law_weights : Fun K "_law_weights" "_law_weights" s__law_weights A.a__law_weights A.d__law_weights
  m__law_weights : mg "_law_weights" = some (.ref A.a__law_weights)
  k__law_weights : PySem.W.keepIn K (.ref A.a__law_weights) = true
  F__law_upright : Fun K "_law_upright" "_law_upright" s__law_upright A.a__law_upright A.d__law_upright
  m__law_upright : mg "_law_upright" = some (.ref A.a__law_upright)
  k__law_upright : PySem.W.keepIn K (.ref A.a__law_upright) = true
  F__law_uprights : Fun K "_law_uprights" "_law_uprights" s__law_uprights A.a__law_uprights A.d__law_uprights
  m__law_uprights : mg "_law_uprights" = some (.ref A.a__law_uprights)
  k__law_uprights : PySem.W.keepIn K (.ref A.a__law_uprights) = true
  F_unknowns_in : Fun K "unknowns_in" "unknowns_in" s_unknowns_in A.a_unknowns_in A.d_unknowns_in
  m_unknowns_in : mg "unknowns_in" = some (.ref A.a_unknowns_in)
  k_unknowns_in : PySem.W.keepIn K (.ref A.a_unknowns_in) = true
  F_number_in : Fun K "number_in" "number_in" s_number_in A.a_number_in A.d_number_in
  m_number_in : mg "number_in" = some (.ref A.a_number_in)
  k_number_in : PySem.W.keepIn K (.ref A.a_number_in) = true
  F_signed_in : Fun K "signed_in" "signed_in" s_signed_in A.a_signed_in A.d_signed_in
  m_signed_in : mg "signed_in" = some (.ref A.a_signed_in)
  k_signed_in : PySem.W.keepIn K (.ref A.a_signed_in) = true
  F_term_in : Fun K "term_in" "term_in" s_term_in A.a_term_in A.d_term_in
  m_term_in : mg "term_in" = some (.ref A.a_term_in)
  k_term_in : PySem.W.keepIn K (.ref A.a_term_in) = true
  F_sum_in : Fun K "sum_in" "sum_in" s_sum_in A.a_sum_in A.d_sum_in
  m_sum_in : mg "sum_in" = some (.ref A.a_sum_in)
  k_sum_in : PySem.W.keepIn K (.ref A.a_sum_in) = true
  F_inequality_in : Fun K "inequality_in" "inequality_in" s_inequality_in A.a_inequality_in A.d_inequality_in
  m_inequality_in : mg "inequality_in" = some (.ref A.a_inequality_in)
  k_inequality_in : PySem.W.keepIn K (.ref A.a_inequality_in) = true
  F_wrong_rows : Fun K "wrong_rows" "wrong_rows" s_wrong_rows A.a_wrong_rows A.d_wrong_rows
  m_wrong_rows : mg "wrong_rows" = some (.ref A.a_wrong_rows)
  k_wrong_rows : PySem.W.keepIn K (.ref A.a_wrong_rows) = true
  F_System_init : FunS K "__init__" "System.__init__" s_System_init A.a_System_init
  F_System_read : Fun K "read" "System.read" s_System_read A.a_System_read A.d_System_read
  F__law_made : Fun K "_law_made" "_law_made" s__law_made A.a__law_made A.d__law_made
  m__law_made : mg "_law_made" = some (.ref A.a__law_made)
  k__law_made : PySem.W.keepIn K (.ref A.a__law_made) = true
  F_System_inequalities : Fun K "inequalities" "System.inequalities" s_System_inequalities A.a_System_inequalities A.d_System_inequalities
  F_System_text : Fun K "text" "System.text" s_System_text A.a_System_text A.d_System_text
  F__law_far_integer : Fun K "_law_far_integer" "_law_far_integer" s__law_far_integer A.a__law_far_integer A.d__law_far_integer
  m__law_far_integer : mg "_law_far_integer" = some (.ref A.a__law_far_integer)
  k__law_far_integer : PySem.W.keepIn K (.ref A.a__law_far_integer) = true
  F__law_divisor : Fun K "_law_divisor" "_law_divisor" s__law_divisor A.a__law_divisor A.d__law_divisor
  m__law_divisor : mg "_law_divisor" = some (.ref A.a__law_divisor)
  k__law_divisor : PySem.W.keepIn K (.ref A.a__law_divisor) = true
  F__law_ratio : Fun K "_law_ratio" "_law_ratio" s__law_ratio A.a__law_ratio A.d__law_ratio
  m__law_ratio : mg "_law_ratio" = some (.ref A.a__law_ratio)
  k__law_ratio : PySem.W.keepIn K (.ref A.a__law_ratio) = true
  F__law_value_for : Fun K "_law_value_for" "_law_value_for" s__law_value_for A.a__law_value_for A.d__law_value_for
  m__law_value_for : mg "_law_value_for" = some (.ref A.a__law_value_for)
  k__law_value_for : PySem.W.keepIn K (.ref A.a__law_value_for) = true
  F__law_sum : Fun K "_law_sum" "_law_sum" s__law_sum A.a__law_sum A.d__law_sum
  m__law_sum : mg "_law_sum" = some (.ref A.a__law_sum)
  k__law_sum : PySem.W.keepIn K (.ref A.a__law_sum) = true
  F_check_system : Fun K "check_system" "check_system" s_check_system A.a_check_system A.d_check_system
  m_check_system : mg "check_system" = some (.ref A.a_check_system)
  k_check_system : PySem.W.keepIn K (.ref A.a_check_system) = true
  F_is_integer : Fun K "is_integer" "is_integer" s_is_integer A.a_is_integer A.d_is_integer
  m_is_integer : mg "is_integer" = some (.ref A.a_is_integer)
  k_is_integer : PySem.W.keepIn K (.ref A.a_is_integer) = true
  F_divisor : Fun K "divisor" "divisor" s_divisor A.a_divisor A.d_divisor
  m_divisor : mg "divisor" = some (.ref A.a_divisor)
  k_divisor : PySem.W.keepIn K (.ref A.a_divisor) = true
  F_is_fraction : Fun K "is_fraction" "is_fraction" s_is_fraction A.a_is_fraction A.d_is_fraction
  m_is_fraction : mg "is_fraction" = some (.ref A.a_is_fraction)
  k_is_fraction : PySem.W.keepIn K (.ref A.a_is_fraction) = true
  F_is_point : Fun K "is_point" "is_point" s_is_point A.a_is_point A.d_is_point
  m_is_point : mg "is_point" = some (.ref A.a_is_point)
  k_is_point : PySem.W.keepIn K (.ref A.a_is_point) = true
  F_check_point : Fun K "check_point" "check_point" s_check_point A.a_check_point A.d_check_point
  m_check_point : mg "check_point" = some (.ref A.a_check_point)
  k_check_point : PySem.W.keepIn K (.ref A.a_check_point) = true
  F_as_fractions : Fun K "as_fractions" "as_fractions" s_as_fractions A.a_as_fractions A.d_as_fractions
  m_as_fractions : mg "as_fractions" = some (.ref A.a_as_fractions)
  k_as_fractions : PySem.W.keepIn K (.ref A.a_as_fractions) = true
  F_ratio : Fun K "ratio" "ratio" s_ratio A.a_ratio A.d_ratio
  m_ratio : mg "ratio" = some (.ref A.a_ratio)
  k_ratio : PySem.W.keepIn K (.ref A.a_ratio) = true
  F_plus : Fun K "plus" "plus" s_plus A.a_plus A.d_plus
  m_plus : mg "plus" = some (.ref A.a_plus)
  k_plus : PySem.W.keepIn K (.ref A.a_plus) = true
  F_times : Fun K "times" "times" s_times A.a_times A.d_times
  m_times : mg "times" = some (.ref A.a_times)
  k_times : PySem.W.keepIn K (.ref A.a_times) = true
  F_sum_at : Fun K "sum_at" "sum_at" s_sum_at A.a_sum_at A.d_sum_at
  m_sum_at : mg "sum_at" = some (.ref A.a_sum_at)
  k_sum_at : PySem.W.keepIn K (.ref A.a_sum_at) = true
  F_gaps_at : Fun K "gaps_at" "gaps_at" s_gaps_at A.a_gaps_at A.d_gaps_at
  m_gaps_at : mg "gaps_at" = some (.ref A.a_gaps_at)
  k_gaps_at : PySem.W.keepIn K (.ref A.a_gaps_at) = true
  F_broken_at : Fun K "broken_at" "broken_at" s_broken_at A.a_broken_at A.d_broken_at
  m_broken_at : mg "broken_at" = some (.ref A.a_broken_at)
  k_broken_at : PySem.W.keepIn K (.ref A.a_broken_at) = true
  F_fits : Fun K "fits" "fits" s_fits A.a_fits A.d_fits
  m_fits : mg "fits" = some (.ref A.a_fits)
  k_fits : PySem.W.keepIn K (.ref A.a_fits) = true
  F_broken : Fun K "broken" "broken" s_broken A.a_broken A.d_broken
  m_broken : mg "broken" = some (.ref A.a_broken)
  k_broken : PySem.W.keepIn K (.ref A.a_broken) = true
  F_gaps : Fun K "gaps" "gaps" s_gaps A.a_gaps A.d_gaps
  m_gaps : mg "gaps" = some (.ref A.a_gaps)
  k_gaps : PySem.W.keepIn K (.ref A.a_gaps) = true
  F_is_between : Fun K "is_between" "is_between" s_is_between A.a_is_between A.d_is_between
  m_is_between : mg "is_between" = some (.ref A.a_is_between)
  k_is_between : PySem.W.keepIn K (.ref A.a_is_between) = true
  F_is_aim : Fun K "is_aim" "is_aim" s_is_aim A.a_is_aim A.d_is_aim
  m_is_aim : mg "is_aim" = some (.ref A.a_is_aim)
  k_is_aim : PySem.W.keepIn K (.ref A.a_is_aim) = true
  F_check_aim : Fun K "check_aim" "check_aim" s_check_aim A.a_check_aim A.d_check_aim
  m_check_aim : mg "check_aim" = some (.ref A.a_check_aim)
  k_check_aim : PySem.W.keepIn K (.ref A.a_check_aim) = true
  F_value : Fun K "value" "value" s_value A.a_value A.d_value
  m_value : mg "value" = some (.ref A.a_value)
  k_value : PySem.W.keepIn K (.ref A.a_value) = true
  F__law_words_of : Fun K "_law_words_of" "_law_words_of" s__law_words_of A.a__law_words_of A.d__law_words_of
  m__law_words_of : mg "_law_words_of" = some (.ref A.a__law_words_of)
  k__law_words_of : PySem.W.keepIn K (.ref A.a__law_words_of) = true
  F_is_solid : Fun K "is_solid" "is_solid" s_is_solid A.a_is_solid A.d_is_solid
  m_is_solid : mg "is_solid" = some (.ref A.a_is_solid)
  k_is_solid : PySem.W.keepIn K (.ref A.a_is_solid) = true
  F_numbers_said : Fun K "numbers_said" "numbers_said" s_numbers_said A.a_numbers_said A.d_numbers_said
  m_numbers_said : mg "numbers_said" = some (.ref A.a_numbers_said)
  k_numbers_said : PySem.W.keepIn K (.ref A.a_numbers_said) = true
  F_Console_plain : Fun K "plain" "Console.plain" s_Console_plain A.a_Console_plain A.d_Console_plain
  F_is_lot : Fun K "is_lot" "is_lot" s_is_lot A.a_is_lot A.d_is_lot
  m_is_lot : mg "is_lot" = some (.ref A.a_is_lot)
  k_is_lot : PySem.W.keepIn K (.ref A.a_is_lot) = true
  F_Console_aimed : Fun K "aimed" "Console.aimed" s_Console_aimed A.a_Console_aimed A.d_Console_aimed
  F_Console_answer : Fun K "answer" "Console.answer" s_Console_answer A.a_Console_answer A.d_Console_answer
  F_Console_say : Fun K "say" "Console.say" s_Console_say A.a_Console_say A.d_Console_say
  F_Console_init : Fun K "__init__" "Console.__init__" s_Console_init A.a_Console_init A.d_Console_init
  F__law_right : Fun K "_law_right" "_law_right" s__law_right A.a__law_right A.d__law_right
  m__law_right : mg "_law_right" = some (.ref A.a__law_right)
  k__law_right : PySem.W.keepIn K (.ref A.a__law_right) = true
  F__law_spring : Fun K "_law_spring" "_law_spring" s__law_spring A.a__law_spring A.d__law_spring
  m__law_spring : mg "_law_spring" = some (.ref A.a__law_spring)
  k__law_spring : PySem.W.keepIn K (.ref A.a__law_spring) = true
  F_law : Fun K "law" "law" s_law A.a_law A.d_law
  m_law : mg "law" = some (.ref A.a_law)
  k_law : PySem.W.keepIn K (.ref A.a_law) = true
  m_System : mg "System" = some (.ref A.c_System)
  cl_System : Cls K A.c_System
  mk_System : Mk K A.c_System A.a_System_init
  na_System_told : NoAttr K A.c_System "told"
  na_System_kinds : NoAttr K A.c_System "kinds"
  na_System_letters : NoAttr K A.c_System "letters"
  na_System_solid : NoAttr K A.c_System "solid"
  na_System_bounds : NoAttr K A.c_System "bounds"
  ic_System : IC (tbl K A) 0
  it_System_bool : PySem.W.kitOne K (.ref A.c_System) (.type "bool") = some false
  it_System_int : PySem.W.kitOne K (.ref A.c_System) (.type "int") = some false
  it_System_str : PySem.W.kitOne K (.ref A.c_System) (.type "str") = some false
  it_System_tuple : PySem.W.kitOne K (.ref A.c_System) (.type "tuple") = some false
  ic_System_System : PySem.W.kitOne K (.ref A.c_System) (.ref A.c_System) = some true
  m_Console : mg "Console" = some (.ref A.c_Console)
  cl_Console : Cls K A.c_Console
  mk_Console : Mk K A.c_Console A.a_Console_init
  na_Console_kept : NoAttr K A.c_Console "kept"
  ic_Console : IC (tbl K A) 1
  it_Console_bool : PySem.W.kitOne K (.ref A.c_Console) (.type "bool") = some false
  it_Console_int : PySem.W.kitOne K (.ref A.c_Console) (.type "int") = some false
  it_Console_str : PySem.W.kitOne K (.ref A.c_Console) (.type "str") = some false
  it_Console_tuple : PySem.W.kitOne K (.ref A.c_Console) (.type "tuple") = some false
  ic_Console_System : PySem.W.kitOne K (.ref A.c_Console) (.ref A.c_System) = some false
  ib_System : ∀ a ∈ six, PySem.W.kitOne K (.type a) (.ref A.c_System) = some false
  cr_System : CRead K A.c_System A.mc_System_read
  cm_System_read : CMet K A.c_System A.mc_System_read "read" A.p_System_read A.a_System_read
  me_Console_plain : Meth K A.c_Console "plain" A.a_Console_plain
  me_Console_aimed : Meth K A.c_Console "aimed" A.a_Console_aimed
  me_Console_answer : Meth K A.c_Console "answer" A.a_Console_answer
  me_Console_say : Meth K A.c_Console "say" A.a_Console_say
  pr_System_inequalities : PropOf K A.c_System "inequalities" A.pp_System_inequalities A.a_System_inequalities
  pr_System_text : PropOf K A.c_System "text" A.pp_System_text A.a_System_text
  g_MOST_INEQUALITIES : mg "MOST_INEQUALITIES" = some A.u_MOST_INEQUALITIES
  h_MOST_INEQUALITIES : ∃ v, RelV v A.u_MOST_INEQUALITIES ∧ ∀ G H, Is (tbl K A) G H (.int 10) v
  g_JOIN : mg "JOIN" = some A.u_JOIN
  h_JOIN : ∃ v, RelV v A.u_JOIN ∧ ∀ G H, Is (tbl K A) G H (.str ", ") v
  g_UNKNOWNS : mg "UNKNOWNS" = some A.u_UNKNOWNS
  h_UNKNOWNS : ∃ v, RelV v A.u_UNKNOWNS ∧ ∀ G H, Is (tbl K A) G H (.str "xy") v
  g_KINDS : mg "KINDS" = some A.u_KINDS
  h_KINDS : ∃ v, RelV v A.u_KINDS ∧ ∀ G H, Is (tbl K A) G H (.tup [(.str "whole"), (.str "any")]) v
  g_FIGURES : mg "FIGURES" = some A.u_FIGURES
  h_FIGURES : ∃ v, RelV v A.u_FIGURES ∧ ∀ G H, Is (tbl K A) G H (.str "0123456789") v
  g_MOST_WEIGHT : mg "MOST_WEIGHT" = some A.u_MOST_WEIGHT
  h_MOST_WEIGHT : ∃ v, RelV v A.u_MOST_WEIGHT ∧ ∀ G H, Is (tbl K A) G H (.int 99) v
  g_MOST_CONSTANT : mg "MOST_CONSTANT" = some A.u_MOST_CONSTANT
  h_MOST_CONSTANT : ∃ v, RelV v A.u_MOST_CONSTANT ∧ ∀ G H, Is (tbl K A) G H (.int 1000000) v
  g_NOT_WHOLE : mg "NOT_WHOLE" = some A.u_NOT_WHOLE
  h_NOT_WHOLE : ∃ v, RelV v A.u_NOT_WHOLE ∧ ∀ G H, Is (tbl K A) G H (.str "not whole") v
  g_NO_POINT : mg "NO_POINT" = some A.u_NO_POINT
  h_NO_POINT : ∃ v, RelV v A.u_NO_POINT ∧ ∀ G H, Is (tbl K A) G H (.str "no point") v
end LW

namespace LW
open PySem L2 PySem.Spec LS
open PyProof.Rows hiding St
open ClX
theorem kit_ne {K : PySem.W.Frag} {C D : Addr} (k : PySem.W.mroIn K D (.ref D) = some true) (h : PySem.W.mroIn K C (.ref D) = some false) : C ≠ D := fun z => by
  subst z
  rw [h] at k
  cases k
set_option maxHeartbeats 4000000 in
theorem mkFx {K : PySem.W.Frag} {h : Heap} {mg : Str → Option Value} {fa : Addr} {f1 : Addr} {oc1 kV1 dc1 pm1 cd1 ct1 : Value} {od1 an1 : Option Addr} {sl1 : Array (Option Value)}
  {f2 : Addr} {oc2 kV2 dc2 pm2 cd2 ct2 : Value} {od2 an2 : Option Addr} {sl2 : Array (Option Value)}
  {f3 : Addr} {oc3 kV3 dc3 pm3 cd3 ct3 : Value} {od3 an3 : Option Addr} {sl3 : Array (Option Value)}
  {f4 : Addr} {oc4 kV4 dc4 pm4 cd4 ct4 : Value} {od4 an4 : Option Addr} {sl4 : Array (Option Value)}
  {f5 : Addr} {oc5 kV5 dc5 pm5 cd5 ct5 : Value} {od5 an5 : Option Addr} {sl5 : Array (Option Value)}
  {f6 : Addr} {oc6 kV6 dc6 pm6 cd6 ct6 : Value} {od6 an6 : Option Addr} {sl6 : Array (Option Value)}
  {f7 : Addr} {oc7 kV7 dc7 pm7 cd7 ct7 : Value} {od7 an7 : Option Addr} {sl7 : Array (Option Value)}
  {f8 : Addr} {oc8 kV8 dc8 pm8 cd8 ct8 : Value} {od8 an8 : Option Addr} {sl8 : Array (Option Value)}
  {f9 : Addr} {oc9 kV9 dc9 pm9 cd9 ct9 : Value} {od9 an9 : Option Addr} {sl9 : Array (Option Value)}
  {f10 : Addr} {oc10 kV10 dc10 pm10 cd10 ct10 : Value} {od10 an10 : Option Addr} {sl10 : Array (Option Value)}
  {f11 : Addr} {oc11 kV11 dc11 pm11 cd11 ct11 : Value} {od11 an11 : Option Addr} {sl11 : Array (Option Value)}
  {f12 : Addr} {oc12 kV12 dc12 pm12 cd12 ct12 : Value} {od12 an12 : Option Addr} {sl12 : Array (Option Value)}
  {f13 : Addr} {oc13 kV13 dc13 pm13 cd13 ct13 : Value} {od13 an13 : Option Addr} {sl13 : Array (Option Value)}
  {f14 : Addr} {oc14 kV14 dc14 pm14 cd14 ct14 : Value} {od14 an14 : Option Addr} {sl14 : Array (Option Value)}
  {f15 : Addr} {oc15 kV15 dc15 pm15 cd15 ct15 : Value} {od15 an15 : Option Addr} {sl15 : Array (Option Value)}
  {f16 : Addr} {oc16 kV16 dc16 pm16 cd16 ct16 : Value} {od16 an16 : Option Addr} {sl16 : Array (Option Value)}
  {f17 : Addr} {oc17 kV17 dc17 pm17 cd17 ct17 : Value} {od17 an17 : Option Addr} {sl17 : Array (Option Value)}
  {f18 : Addr} {oc18 kV18 dc18 pm18 cd18 ct18 : Value} {od18 an18 : Option Addr} {sl18 : Array (Option Value)}
  {f19 : Addr} {oc19 kV19 dc19 pm19 cd19 ct19 : Value} {od19 an19 : Option Addr} {sl19 : Array (Option Value)}
  {f20 : Addr} {oc20 kV20 dc20 pm20 cd20 ct20 : Value} {od20 an20 : Option Addr} {sl20 : Array (Option Value)}
  {f21 : Addr} {oc21 kV21 dc21 pm21 cd21 ct21 : Value} {od21 an21 : Option Addr} {sl21 : Array (Option Value)}
  {f22 : Addr} {oc22 kV22 dc22 pm22 cd22 ct22 : Value} {od22 an22 : Option Addr} {sl22 : Array (Option Value)}
  {p22 : Addr} {rs22 : List Value}
  {f23 : Addr} {oc23 kV23 dc23 pm23 cd23 ct23 : Value} {od23 an23 : Option Addr} {sl23 : Array (Option Value)}
  {f24 : Addr} {oc24 kV24 dc24 pm24 cd24 ct24 : Value} {od24 an24 : Option Addr} {sl24 : Array (Option Value)}
  {p24 : Addr} {rs24 : List Value}
  {f25 : Addr} {oc25 kV25 dc25 pm25 cd25 ct25 : Value} {od25 an25 : Option Addr} {sl25 : Array (Option Value)}
  {p25 : Addr} {rs25 : List Value}
  {f26 : Addr} {oc26 kV26 dc26 pm26 cd26 ct26 : Value} {od26 an26 : Option Addr} {sl26 : Array (Option Value)}
  {f27 : Addr} {oc27 kV27 dc27 pm27 cd27 ct27 : Value} {od27 an27 : Option Addr} {sl27 : Array (Option Value)}
  {f28 : Addr} {oc28 kV28 dc28 pm28 cd28 ct28 : Value} {od28 an28 : Option Addr} {sl28 : Array (Option Value)}
  {f29 : Addr} {oc29 kV29 dc29 pm29 cd29 ct29 : Value} {od29 an29 : Option Addr} {sl29 : Array (Option Value)}
  {f30 : Addr} {oc30 kV30 dc30 pm30 cd30 ct30 : Value} {od30 an30 : Option Addr} {sl30 : Array (Option Value)}
  {f31 : Addr} {oc31 kV31 dc31 pm31 cd31 ct31 : Value} {od31 an31 : Option Addr} {sl31 : Array (Option Value)}
  {f32 : Addr} {oc32 kV32 dc32 pm32 cd32 ct32 : Value} {od32 an32 : Option Addr} {sl32 : Array (Option Value)}
  {f33 : Addr} {oc33 kV33 dc33 pm33 cd33 ct33 : Value} {od33 an33 : Option Addr} {sl33 : Array (Option Value)}
  {f34 : Addr} {oc34 kV34 dc34 pm34 cd34 ct34 : Value} {od34 an34 : Option Addr} {sl34 : Array (Option Value)}
  {f35 : Addr} {oc35 kV35 dc35 pm35 cd35 ct35 : Value} {od35 an35 : Option Addr} {sl35 : Array (Option Value)}
  {f36 : Addr} {oc36 kV36 dc36 pm36 cd36 ct36 : Value} {od36 an36 : Option Addr} {sl36 : Array (Option Value)}
  {f37 : Addr} {oc37 kV37 dc37 pm37 cd37 ct37 : Value} {od37 an37 : Option Addr} {sl37 : Array (Option Value)}
  {f38 : Addr} {oc38 kV38 dc38 pm38 cd38 ct38 : Value} {od38 an38 : Option Addr} {sl38 : Array (Option Value)}
  {f39 : Addr} {oc39 kV39 dc39 pm39 cd39 ct39 : Value} {od39 an39 : Option Addr} {sl39 : Array (Option Value)}
  {f40 : Addr} {oc40 kV40 dc40 pm40 cd40 ct40 : Value} {od40 an40 : Option Addr} {sl40 : Array (Option Value)}
  {f41 : Addr} {oc41 kV41 dc41 pm41 cd41 ct41 : Value} {od41 an41 : Option Addr} {sl41 : Array (Option Value)}
  {f42 : Addr} {oc42 kV42 dc42 pm42 cd42 ct42 : Value} {od42 an42 : Option Addr} {sl42 : Array (Option Value)}
  {f43 : Addr} {oc43 kV43 dc43 pm43 cd43 ct43 : Value} {od43 an43 : Option Addr} {sl43 : Array (Option Value)}
  {f44 : Addr} {oc44 kV44 dc44 pm44 cd44 ct44 : Value} {od44 an44 : Option Addr} {sl44 : Array (Option Value)}
  {f45 : Addr} {oc45 kV45 dc45 pm45 cd45 ct45 : Value} {od45 an45 : Option Addr} {sl45 : Array (Option Value)}
  {f46 : Addr} {oc46 kV46 dc46 pm46 cd46 ct46 : Value} {od46 an46 : Option Addr} {sl46 : Array (Option Value)}
  {f47 : Addr} {oc47 kV47 dc47 pm47 cd47 ct47 : Value} {od47 an47 : Option Addr} {sl47 : Array (Option Value)}
  {f48 : Addr} {oc48 kV48 dc48 pm48 cd48 ct48 : Value} {od48 an48 : Option Addr} {sl48 : Array (Option Value)}
  {f49 : Addr} {oc49 kV49 dc49 pm49 cd49 ct49 : Value} {od49 an49 : Option Addr} {sl49 : Array (Option Value)}
  {f50 : Addr} {oc50 kV50 dc50 pm50 cd50 ct50 : Value} {od50 an50 : Option Addr} {sl50 : Array (Option Value)}
  {f51 : Addr} {oc51 kV51 dc51 pm51 cd51 ct51 : Value} {od51 an51 : Option Addr} {sl51 : Array (Option Value)}
  {f52 : Addr} {oc52 kV52 dc52 pm52 cd52 ct52 : Value} {od52 an52 : Option Addr} {sl52 : Array (Option Value)}
  {f53 : Addr} {oc53 kV53 dc53 pm53 cd53 ct53 : Value} {od53 an53 : Option Addr} {sl53 : Array (Option Value)}
  {f54 : Addr} {oc54 kV54 dc54 pm54 cd54 ct54 : Value} {od54 an54 : Option Addr} {sl54 : Array (Option Value)}
  {f55 : Addr} {oc55 kV55 dc55 pm55 cd55 ct55 : Value} {od55 an55 : Option Addr} {sl55 : Array (Option Value)}
  {f56 : Addr} {oc56 kV56 dc56 pm56 cd56 ct56 : Value} {od56 an56 : Option Addr} {sl56 : Array (Option Value)}
  {f57 : Addr} {oc57 kV57 dc57 pm57 cd57 ct57 : Value} {od57 an57 : Option Addr} {sl57 : Array (Option Value)}
  {f58 : Addr} {oc58 kV58 dc58 pm58 cd58 ct58 : Value} {od58 an58 : Option Addr} {sl58 : Array (Option Value)}
  {f59 : Addr} {oc59 kV59 dc59 pm59 cd59 ct59 : Value} {od59 an59 : Option Addr} {sl59 : Array (Option Value)}
  {f60 : Addr} {oc60 kV60 dc60 pm60 cd60 ct60 : Value} {od60 an60 : Option Addr} {sl60 : Array (Option Value)}
  {f61 : Addr} {oc61 kV61 dc61 pm61 cd61 ct61 : Value} {od61 an61 : Option Addr} {sl61 : Array (Option Value)}
  {f62 : Addr} {oc62 kV62 dc62 pm62 cd62 ct62 : Value} {od62 an62 : Option Addr} {sl62 : Array (Option Value)}
  {C_System : Addr}
  {C_Console : Addr}
  {t_MOST_INEQUALITIES : Tok}
  {t_JOIN : Tok}
  {t_UNKNOWNS : Tok}
  {t_KINDS_0 t_KINDS_1 : Tok} {u_KINDS : Addr} {dd_KINDS : Option Addr} {m_KINDS : Nat} {ls_KINDS : Array (Option Value)}
  {t_FIGURES : Tok}
  {t_MOST_WEIGHT : Tok}
  {t_MOST_CONSTANT : Tok}
  {t_NOT_WHOLE : Tok}
  {t_NO_POINT : Tok}
  (X : K.In h) (G : h.Ns mainGlobals mg) (hfa : mg "law" = some (.ref fa))
  (CSystem : PySem.W.nsIn K mainGlobals "System" = some (some (.ref C_System)))
  (CConsole : PySem.W.nsIn K mainGlobals "Console" = some (some (.ref C_Console)))
  (a1 : PySem.W.nsIn K mainGlobals "_law_draw" = some (some (.ref f1)))
  (l1 : K.lookup f1 = some ⟨oc1, od1, .func (PySem.W.fnOf "_law_draw" "_law_draw" (defArgs s__law_draw) (defBody s__law_draw) (defScope s__law_draw) .none kV1 dc1 pm1 an1 cd1 ct1), sl1⟩)
  (c1 : PySem.W.codeIn K cd1 "_law_draw" = true)
  (k1 : PySem.W.keepIn K (.ref f1) = true)
  (a2 : PySem.W.nsIn K mainGlobals "_law_of" = some (some (.ref f2)))
  (l2 : K.lookup f2 = some ⟨oc2, od2, .func (PySem.W.fnOf "_law_of" "_law_of" (defArgs s__law_of) (defBody s__law_of) (defScope s__law_of) .none kV2 dc2 pm2 an2 cd2 ct2), sl2⟩)
  (c2 : PySem.W.codeIn K cd2 "_law_of" = true)
  (k2 : PySem.W.keepIn K (.ref f2) = true)
  (a3 : PySem.W.nsIn K mainGlobals "_law_first_row" = some (some (.ref f3)))
  (l3 : K.lookup f3 = some ⟨oc3, od3, .func (PySem.W.fnOf "_law_first_row" "_law_first_row" (defArgs s__law_first_row) (defBody s__law_first_row) (defScope s__law_first_row) .none kV3 dc3 pm3 an3 cd3 ct3), sl3⟩)
  (c3 : PySem.W.codeIn K cd3 "_law_first_row" = true)
  (k3 : PySem.W.keepIn K (.ref f3) = true)
  (a4 : PySem.W.nsIn K mainGlobals "_law_two" = some (some (.ref f4)))
  (l4 : K.lookup f4 = some ⟨oc4, od4, .func (PySem.W.fnOf "_law_two" "_law_two" (defArgs s__law_two) (defBody s__law_two) (defScope s__law_two) .none kV4 dc4 pm4 an4 cd4 ct4), sl4⟩)
  (c4 : PySem.W.codeIn K cd4 "_law_two" = true)
  (k4 : PySem.W.keepIn K (.ref f4) = true)
  (a5 : PySem.W.nsIn K mainGlobals "_law_term" = some (some (.ref f5)))
  (l5 : K.lookup f5 = some ⟨oc5, od5, .func (PySem.W.fnOf "_law_term" "_law_term" (defArgs s__law_term) (defBody s__law_term) (defScope s__law_term) .none kV5 dc5 pm5 an5 cd5 ct5), sl5⟩)
  (c5 : PySem.W.codeIn K cd5 "_law_term" = true)
  (k5 : PySem.W.keepIn K (.ref f5) = true)
  (a6 : PySem.W.nsIn K mainGlobals "_law_sum_text" = some (some (.ref f6)))
  (l6 : K.lookup f6 = some ⟨oc6, od6, .func (PySem.W.fnOf "_law_sum_text" "_law_sum_text" (defArgs s__law_sum_text) (defBody s__law_sum_text) (defScope s__law_sum_text) .none kV6 dc6 pm6 an6 cd6 ct6), sl6⟩)
  (c6 : PySem.W.codeIn K cd6 "_law_sum_text" = true)
  (k6 : PySem.W.keepIn K (.ref f6) = true)
  (a7 : PySem.W.nsIn K mainGlobals "_law_row_text" = some (some (.ref f7)))
  (l7 : K.lookup f7 = some ⟨oc7, od7, .func (PySem.W.fnOf "_law_row_text" "_law_row_text" (defArgs s__law_row_text) (defBody s__law_row_text) (defScope s__law_row_text) .none kV7 dc7 pm7 an7 cd7 ct7), sl7⟩)
  (c7 : PySem.W.codeIn K cd7 "_law_row_text" = true)
  (k7 : PySem.W.keepIn K (.ref f7) = true)
  (a8 : PySem.W.nsIn K mainGlobals "_law_great" = some (some (.ref f8)))
  (l8 : K.lookup f8 = some ⟨oc8, od8, .func (PySem.W.fnOf "_law_great" "_law_great" (defArgs s__law_great) (defBody s__law_great) (defScope s__law_great) .none kV8 dc8 pm8 an8 cd8 ct8), sl8⟩)
  (c8 : PySem.W.codeIn K cd8 "_law_great" = true)
  (k8 : PySem.W.keepIn K (.ref f8) = true)
  (a9 : PySem.W.nsIn K mainGlobals "_law_wide_rows" = some (some (.ref f9)))
  (l9 : K.lookup f9 = some ⟨oc9, od9, .func (PySem.W.fnOf "_law_wide_rows" "_law_wide_rows" (defArgs s__law_wide_rows) (defBody s__law_wide_rows) (defScope s__law_wide_rows) .none kV9 dc9 pm9 an9 cd9 ct9), sl9⟩)
  (c9 : PySem.W.codeIn K cd9 "_law_wide_rows" = true)
  (k9 : PySem.W.keepIn K (.ref f9) = true)
  (a10 : PySem.W.nsIn K mainGlobals "_law_kinds" = some (some (.ref f10)))
  (l10 : K.lookup f10 = some ⟨oc10, od10, .func (PySem.W.fnOf "_law_kinds" "_law_kinds" (defArgs s__law_kinds) (defBody s__law_kinds) (defScope s__law_kinds) .none kV10 dc10 pm10 an10 cd10 ct10), sl10⟩)
  (c10 : PySem.W.codeIn K cd10 "_law_kinds" = true)
  (k10 : PySem.W.keepIn K (.ref f10) = true)
  (a11 : PySem.W.nsIn K mainGlobals "_law_weights" = some (some (.ref f11)))
  (l11 : K.lookup f11 = some ⟨oc11, od11, .func (PySem.W.fnOf "_law_weights" "_law_weights" (defArgs s__law_weights) (defBody s__law_weights) (defScope s__law_weights) .none kV11 dc11 pm11 an11 cd11 ct11), sl11⟩)
  (c11 : PySem.W.codeIn K cd11 "_law_weights" = true)
  (k11 : PySem.W.keepIn K (.ref f11) = true)
  (a12 : PySem.W.nsIn K mainGlobals "_law_upright" = some (some (.ref f12)))
  (l12 : K.lookup f12 = some ⟨oc12, od12, .func (PySem.W.fnOf "_law_upright" "_law_upright" (defArgs s__law_upright) (defBody s__law_upright) (defScope s__law_upright) .none kV12 dc12 pm12 an12 cd12 ct12), sl12⟩)
  (c12 : PySem.W.codeIn K cd12 "_law_upright" = true)
  (k12 : PySem.W.keepIn K (.ref f12) = true)
  (a13 : PySem.W.nsIn K mainGlobals "_law_uprights" = some (some (.ref f13)))
  (l13 : K.lookup f13 = some ⟨oc13, od13, .func (PySem.W.fnOf "_law_uprights" "_law_uprights" (defArgs s__law_uprights) (defBody s__law_uprights) (defScope s__law_uprights) .none kV13 dc13 pm13 an13 cd13 ct13), sl13⟩)
  (c13 : PySem.W.codeIn K cd13 "_law_uprights" = true)
  (k13 : PySem.W.keepIn K (.ref f13) = true)
  (a14 : PySem.W.nsIn K mainGlobals "unknowns_in" = some (some (.ref f14)))
  (l14 : K.lookup f14 = some ⟨oc14, od14, .func (PySem.W.fnOf "unknowns_in" "unknowns_in" (defArgs s_unknowns_in) (defBody s_unknowns_in) (defScope s_unknowns_in) .none kV14 dc14 pm14 an14 cd14 ct14), sl14⟩)
  (c14 : PySem.W.codeIn K cd14 "unknowns_in" = true)
  (k14 : PySem.W.keepIn K (.ref f14) = true)
  (a15 : PySem.W.nsIn K mainGlobals "number_in" = some (some (.ref f15)))
  (l15 : K.lookup f15 = some ⟨oc15, od15, .func (PySem.W.fnOf "number_in" "number_in" (defArgs s_number_in) (defBody s_number_in) (defScope s_number_in) .none kV15 dc15 pm15 an15 cd15 ct15), sl15⟩)
  (c15 : PySem.W.codeIn K cd15 "number_in" = true)
  (k15 : PySem.W.keepIn K (.ref f15) = true)
  (a16 : PySem.W.nsIn K mainGlobals "signed_in" = some (some (.ref f16)))
  (l16 : K.lookup f16 = some ⟨oc16, od16, .func (PySem.W.fnOf "signed_in" "signed_in" (defArgs s_signed_in) (defBody s_signed_in) (defScope s_signed_in) .none kV16 dc16 pm16 an16 cd16 ct16), sl16⟩)
  (c16 : PySem.W.codeIn K cd16 "signed_in" = true)
  (k16 : PySem.W.keepIn K (.ref f16) = true)
  (a17 : PySem.W.nsIn K mainGlobals "term_in" = some (some (.ref f17)))
  (l17 : K.lookup f17 = some ⟨oc17, od17, .func (PySem.W.fnOf "term_in" "term_in" (defArgs s_term_in) (defBody s_term_in) (defScope s_term_in) .none kV17 dc17 pm17 an17 cd17 ct17), sl17⟩)
  (c17 : PySem.W.codeIn K cd17 "term_in" = true)
  (k17 : PySem.W.keepIn K (.ref f17) = true)
  (a18 : PySem.W.nsIn K mainGlobals "sum_in" = some (some (.ref f18)))
  (l18 : K.lookup f18 = some ⟨oc18, od18, .func (PySem.W.fnOf "sum_in" "sum_in" (defArgs s_sum_in) (defBody s_sum_in) (defScope s_sum_in) .none kV18 dc18 pm18 an18 cd18 ct18), sl18⟩)
  (c18 : PySem.W.codeIn K cd18 "sum_in" = true)
  (k18 : PySem.W.keepIn K (.ref f18) = true)
  (a19 : PySem.W.nsIn K mainGlobals "inequality_in" = some (some (.ref f19)))
  (l19 : K.lookup f19 = some ⟨oc19, od19, .func (PySem.W.fnOf "inequality_in" "inequality_in" (defArgs s_inequality_in) (defBody s_inequality_in) (defScope s_inequality_in) .none kV19 dc19 pm19 an19 cd19 ct19), sl19⟩)
  (c19 : PySem.W.codeIn K cd19 "inequality_in" = true)
  (k19 : PySem.W.keepIn K (.ref f19) = true)
  (a20 : PySem.W.nsIn K mainGlobals "wrong_rows" = some (some (.ref f20)))
  (l20 : K.lookup f20 = some ⟨oc20, od20, .func (PySem.W.fnOf "wrong_rows" "wrong_rows" (defArgs s_wrong_rows) (defBody s_wrong_rows) (defScope s_wrong_rows) .none kV20 dc20 pm20 an20 cd20 ct20), sl20⟩)
  (c20 : PySem.W.codeIn K cd20 "wrong_rows" = true)
  (k20 : PySem.W.keepIn K (.ref f20) = true)
  (a21 : PySem.W.findIn K (.ref C_System) "__init__" = some (some (.ref f21)))
  (i21 : PySem.W.isFn K (.ref f21) = true)
  (l21 : K.lookup f21 = some ⟨oc21, od21, .func (PySem.W.fnOf "__init__" "System.__init__" (defArgs s_System_init) (defBody s_System_init) (defScope s_System_init) .none kV21 dc21 pm21 an21 cd21 ct21), sl21⟩)
  (c21 : PySem.W.codeIn K cd21 "System.__init__" = true)
  (a22 : PySem.W.findCls K (.ref C_System) (.type "type") "read" = some (.get (.builtin "classmethod.__get__") (.ref p22) .none (.ref C_System)))
  (r22 : PySem.W.recIn K p22 "classmethod" = some (.ref f22 :: rs22))
  (l22 : K.lookup f22 = some ⟨oc22, od22, .func (PySem.W.fnOf "read" "System.read" (defArgs s_System_read) (defBody s_System_read) (defScope s_System_read) .none kV22 dc22 pm22 an22 cd22 ct22), sl22⟩)
  (c22 : PySem.W.codeIn K cd22 "System.read" = true)
  (k22 : PySem.W.keepIn K (.ref f22) = true)
  (g22 : PySem.W.fnIn K f22 = true)
  (a23 : PySem.W.nsIn K mainGlobals "_law_made" = some (some (.ref f23)))
  (l23 : K.lookup f23 = some ⟨oc23, od23, .func (PySem.W.fnOf "_law_made" "_law_made" (defArgs s__law_made) (defBody s__law_made) (defScope s__law_made) .none kV23 dc23 pm23 an23 cd23 ct23), sl23⟩)
  (c23 : PySem.W.codeIn K cd23 "_law_made" = true)
  (k23 : PySem.W.keepIn K (.ref f23) = true)
  (a24 : PySem.W.findIn K (.ref C_System) "inequalities" = some (some (.ref p24)))
  (g24 : PySem.W.specialIn K (.ref p24) "__get__" = some (some (.builtin "property.__get__")))
  (t24 : PySem.W.takesIn K (.ref p24) = some true)
  (r24 : PySem.W.recIn K p24 "property" = some (.ref f24 :: rs24))
  (l24 : K.lookup f24 = some ⟨oc24, od24, .func (PySem.W.fnOf "inequalities" "System.inequalities" (defArgs s_System_inequalities) (defBody s_System_inequalities) (defScope s_System_inequalities) .none kV24 dc24 pm24 an24 cd24 ct24), sl24⟩)
  (c24 : PySem.W.codeIn K cd24 "System.inequalities" = true)
  (k24 : PySem.W.keepIn K (.ref f24) = true)
  (a25 : PySem.W.findIn K (.ref C_System) "text" = some (some (.ref p25)))
  (g25 : PySem.W.specialIn K (.ref p25) "__get__" = some (some (.builtin "property.__get__")))
  (t25 : PySem.W.takesIn K (.ref p25) = some true)
  (r25 : PySem.W.recIn K p25 "property" = some (.ref f25 :: rs25))
  (l25 : K.lookup f25 = some ⟨oc25, od25, .func (PySem.W.fnOf "text" "System.text" (defArgs s_System_text) (defBody s_System_text) (defScope s_System_text) .none kV25 dc25 pm25 an25 cd25 ct25), sl25⟩)
  (c25 : PySem.W.codeIn K cd25 "System.text" = true)
  (k25 : PySem.W.keepIn K (.ref f25) = true)
  (a26 : PySem.W.nsIn K mainGlobals "_law_far_integer" = some (some (.ref f26)))
  (l26 : K.lookup f26 = some ⟨oc26, od26, .func (PySem.W.fnOf "_law_far_integer" "_law_far_integer" (defArgs s__law_far_integer) (defBody s__law_far_integer) (defScope s__law_far_integer) .none kV26 dc26 pm26 an26 cd26 ct26), sl26⟩)
  (c26 : PySem.W.codeIn K cd26 "_law_far_integer" = true)
  (k26 : PySem.W.keepIn K (.ref f26) = true)
  (a27 : PySem.W.nsIn K mainGlobals "_law_divisor" = some (some (.ref f27)))
  (l27 : K.lookup f27 = some ⟨oc27, od27, .func (PySem.W.fnOf "_law_divisor" "_law_divisor" (defArgs s__law_divisor) (defBody s__law_divisor) (defScope s__law_divisor) .none kV27 dc27 pm27 an27 cd27 ct27), sl27⟩)
  (c27 : PySem.W.codeIn K cd27 "_law_divisor" = true)
  (k27 : PySem.W.keepIn K (.ref f27) = true)
  (a28 : PySem.W.nsIn K mainGlobals "_law_ratio" = some (some (.ref f28)))
  (l28 : K.lookup f28 = some ⟨oc28, od28, .func (PySem.W.fnOf "_law_ratio" "_law_ratio" (defArgs s__law_ratio) (defBody s__law_ratio) (defScope s__law_ratio) .none kV28 dc28 pm28 an28 cd28 ct28), sl28⟩)
  (c28 : PySem.W.codeIn K cd28 "_law_ratio" = true)
  (k28 : PySem.W.keepIn K (.ref f28) = true)
  (a29 : PySem.W.nsIn K mainGlobals "_law_value_for" = some (some (.ref f29)))
  (l29 : K.lookup f29 = some ⟨oc29, od29, .func (PySem.W.fnOf "_law_value_for" "_law_value_for" (defArgs s__law_value_for) (defBody s__law_value_for) (defScope s__law_value_for) .none kV29 dc29 pm29 an29 cd29 ct29), sl29⟩)
  (c29 : PySem.W.codeIn K cd29 "_law_value_for" = true)
  (k29 : PySem.W.keepIn K (.ref f29) = true)
  (a30 : PySem.W.nsIn K mainGlobals "_law_sum" = some (some (.ref f30)))
  (l30 : K.lookup f30 = some ⟨oc30, od30, .func (PySem.W.fnOf "_law_sum" "_law_sum" (defArgs s__law_sum) (defBody s__law_sum) (defScope s__law_sum) .none kV30 dc30 pm30 an30 cd30 ct30), sl30⟩)
  (c30 : PySem.W.codeIn K cd30 "_law_sum" = true)
  (k30 : PySem.W.keepIn K (.ref f30) = true)
  (a31 : PySem.W.nsIn K mainGlobals "check_system" = some (some (.ref f31)))
  (l31 : K.lookup f31 = some ⟨oc31, od31, .func (PySem.W.fnOf "check_system" "check_system" (defArgs s_check_system) (defBody s_check_system) (defScope s_check_system) .none kV31 dc31 pm31 an31 cd31 ct31), sl31⟩)
  (c31 : PySem.W.codeIn K cd31 "check_system" = true)
  (k31 : PySem.W.keepIn K (.ref f31) = true)
  (a32 : PySem.W.nsIn K mainGlobals "is_integer" = some (some (.ref f32)))
  (l32 : K.lookup f32 = some ⟨oc32, od32, .func (PySem.W.fnOf "is_integer" "is_integer" (defArgs s_is_integer) (defBody s_is_integer) (defScope s_is_integer) .none kV32 dc32 pm32 an32 cd32 ct32), sl32⟩)
  (c32 : PySem.W.codeIn K cd32 "is_integer" = true)
  (k32 : PySem.W.keepIn K (.ref f32) = true)
  (a33 : PySem.W.nsIn K mainGlobals "divisor" = some (some (.ref f33)))
  (l33 : K.lookup f33 = some ⟨oc33, od33, .func (PySem.W.fnOf "divisor" "divisor" (defArgs s_divisor) (defBody s_divisor) (defScope s_divisor) .none kV33 dc33 pm33 an33 cd33 ct33), sl33⟩)
  (c33 : PySem.W.codeIn K cd33 "divisor" = true)
  (k33 : PySem.W.keepIn K (.ref f33) = true)
  (a34 : PySem.W.nsIn K mainGlobals "is_fraction" = some (some (.ref f34)))
  (l34 : K.lookup f34 = some ⟨oc34, od34, .func (PySem.W.fnOf "is_fraction" "is_fraction" (defArgs s_is_fraction) (defBody s_is_fraction) (defScope s_is_fraction) .none kV34 dc34 pm34 an34 cd34 ct34), sl34⟩)
  (c34 : PySem.W.codeIn K cd34 "is_fraction" = true)
  (k34 : PySem.W.keepIn K (.ref f34) = true)
  (a35 : PySem.W.nsIn K mainGlobals "is_point" = some (some (.ref f35)))
  (l35 : K.lookup f35 = some ⟨oc35, od35, .func (PySem.W.fnOf "is_point" "is_point" (defArgs s_is_point) (defBody s_is_point) (defScope s_is_point) .none kV35 dc35 pm35 an35 cd35 ct35), sl35⟩)
  (c35 : PySem.W.codeIn K cd35 "is_point" = true)
  (k35 : PySem.W.keepIn K (.ref f35) = true)
  (a36 : PySem.W.nsIn K mainGlobals "check_point" = some (some (.ref f36)))
  (l36 : K.lookup f36 = some ⟨oc36, od36, .func (PySem.W.fnOf "check_point" "check_point" (defArgs s_check_point) (defBody s_check_point) (defScope s_check_point) .none kV36 dc36 pm36 an36 cd36 ct36), sl36⟩)
  (c36 : PySem.W.codeIn K cd36 "check_point" = true)
  (k36 : PySem.W.keepIn K (.ref f36) = true)
  (a37 : PySem.W.nsIn K mainGlobals "as_fractions" = some (some (.ref f37)))
  (l37 : K.lookup f37 = some ⟨oc37, od37, .func (PySem.W.fnOf "as_fractions" "as_fractions" (defArgs s_as_fractions) (defBody s_as_fractions) (defScope s_as_fractions) .none kV37 dc37 pm37 an37 cd37 ct37), sl37⟩)
  (c37 : PySem.W.codeIn K cd37 "as_fractions" = true)
  (k37 : PySem.W.keepIn K (.ref f37) = true)
  (a38 : PySem.W.nsIn K mainGlobals "ratio" = some (some (.ref f38)))
  (l38 : K.lookup f38 = some ⟨oc38, od38, .func (PySem.W.fnOf "ratio" "ratio" (defArgs s_ratio) (defBody s_ratio) (defScope s_ratio) .none kV38 dc38 pm38 an38 cd38 ct38), sl38⟩)
  (c38 : PySem.W.codeIn K cd38 "ratio" = true)
  (k38 : PySem.W.keepIn K (.ref f38) = true)
  (a39 : PySem.W.nsIn K mainGlobals "plus" = some (some (.ref f39)))
  (l39 : K.lookup f39 = some ⟨oc39, od39, .func (PySem.W.fnOf "plus" "plus" (defArgs s_plus) (defBody s_plus) (defScope s_plus) .none kV39 dc39 pm39 an39 cd39 ct39), sl39⟩)
  (c39 : PySem.W.codeIn K cd39 "plus" = true)
  (k39 : PySem.W.keepIn K (.ref f39) = true)
  (a40 : PySem.W.nsIn K mainGlobals "times" = some (some (.ref f40)))
  (l40 : K.lookup f40 = some ⟨oc40, od40, .func (PySem.W.fnOf "times" "times" (defArgs s_times) (defBody s_times) (defScope s_times) .none kV40 dc40 pm40 an40 cd40 ct40), sl40⟩)
  (c40 : PySem.W.codeIn K cd40 "times" = true)
  (k40 : PySem.W.keepIn K (.ref f40) = true)
  (a41 : PySem.W.nsIn K mainGlobals "sum_at" = some (some (.ref f41)))
  (l41 : K.lookup f41 = some ⟨oc41, od41, .func (PySem.W.fnOf "sum_at" "sum_at" (defArgs s_sum_at) (defBody s_sum_at) (defScope s_sum_at) .none kV41 dc41 pm41 an41 cd41 ct41), sl41⟩)
  (c41 : PySem.W.codeIn K cd41 "sum_at" = true)
  (k41 : PySem.W.keepIn K (.ref f41) = true)
  (a42 : PySem.W.nsIn K mainGlobals "gaps_at" = some (some (.ref f42)))
  (l42 : K.lookup f42 = some ⟨oc42, od42, .func (PySem.W.fnOf "gaps_at" "gaps_at" (defArgs s_gaps_at) (defBody s_gaps_at) (defScope s_gaps_at) .none kV42 dc42 pm42 an42 cd42 ct42), sl42⟩)
  (c42 : PySem.W.codeIn K cd42 "gaps_at" = true)
  (k42 : PySem.W.keepIn K (.ref f42) = true)
  (a43 : PySem.W.nsIn K mainGlobals "broken_at" = some (some (.ref f43)))
  (l43 : K.lookup f43 = some ⟨oc43, od43, .func (PySem.W.fnOf "broken_at" "broken_at" (defArgs s_broken_at) (defBody s_broken_at) (defScope s_broken_at) .none kV43 dc43 pm43 an43 cd43 ct43), sl43⟩)
  (c43 : PySem.W.codeIn K cd43 "broken_at" = true)
  (k43 : PySem.W.keepIn K (.ref f43) = true)
  (a44 : PySem.W.nsIn K mainGlobals "fits" = some (some (.ref f44)))
  (l44 : K.lookup f44 = some ⟨oc44, od44, .func (PySem.W.fnOf "fits" "fits" (defArgs s_fits) (defBody s_fits) (defScope s_fits) .none kV44 dc44 pm44 an44 cd44 ct44), sl44⟩)
  (c44 : PySem.W.codeIn K cd44 "fits" = true)
  (k44 : PySem.W.keepIn K (.ref f44) = true)
  (a45 : PySem.W.nsIn K mainGlobals "broken" = some (some (.ref f45)))
  (l45 : K.lookup f45 = some ⟨oc45, od45, .func (PySem.W.fnOf "broken" "broken" (defArgs s_broken) (defBody s_broken) (defScope s_broken) .none kV45 dc45 pm45 an45 cd45 ct45), sl45⟩)
  (c45 : PySem.W.codeIn K cd45 "broken" = true)
  (k45 : PySem.W.keepIn K (.ref f45) = true)
  (a46 : PySem.W.nsIn K mainGlobals "gaps" = some (some (.ref f46)))
  (l46 : K.lookup f46 = some ⟨oc46, od46, .func (PySem.W.fnOf "gaps" "gaps" (defArgs s_gaps) (defBody s_gaps) (defScope s_gaps) .none kV46 dc46 pm46 an46 cd46 ct46), sl46⟩)
  (c46 : PySem.W.codeIn K cd46 "gaps" = true)
  (k46 : PySem.W.keepIn K (.ref f46) = true)
  (a47 : PySem.W.nsIn K mainGlobals "is_between" = some (some (.ref f47)))
  (l47 : K.lookup f47 = some ⟨oc47, od47, .func (PySem.W.fnOf "is_between" "is_between" (defArgs s_is_between) (defBody s_is_between) (defScope s_is_between) .none kV47 dc47 pm47 an47 cd47 ct47), sl47⟩)
  (c47 : PySem.W.codeIn K cd47 "is_between" = true)
  (k47 : PySem.W.keepIn K (.ref f47) = true)
  (a48 : PySem.W.nsIn K mainGlobals "is_aim" = some (some (.ref f48)))
  (l48 : K.lookup f48 = some ⟨oc48, od48, .func (PySem.W.fnOf "is_aim" "is_aim" (defArgs s_is_aim) (defBody s_is_aim) (defScope s_is_aim) .none kV48 dc48 pm48 an48 cd48 ct48), sl48⟩)
  (c48 : PySem.W.codeIn K cd48 "is_aim" = true)
  (k48 : PySem.W.keepIn K (.ref f48) = true)
  (a49 : PySem.W.nsIn K mainGlobals "check_aim" = some (some (.ref f49)))
  (l49 : K.lookup f49 = some ⟨oc49, od49, .func (PySem.W.fnOf "check_aim" "check_aim" (defArgs s_check_aim) (defBody s_check_aim) (defScope s_check_aim) .none kV49 dc49 pm49 an49 cd49 ct49), sl49⟩)
  (c49 : PySem.W.codeIn K cd49 "check_aim" = true)
  (k49 : PySem.W.keepIn K (.ref f49) = true)
  (a50 : PySem.W.nsIn K mainGlobals "value" = some (some (.ref f50)))
  (l50 : K.lookup f50 = some ⟨oc50, od50, .func (PySem.W.fnOf "value" "value" (defArgs s_value) (defBody s_value) (defScope s_value) .none kV50 dc50 pm50 an50 cd50 ct50), sl50⟩)
  (c50 : PySem.W.codeIn K cd50 "value" = true)
  (k50 : PySem.W.keepIn K (.ref f50) = true)
  (a51 : PySem.W.nsIn K mainGlobals "_law_words_of" = some (some (.ref f51)))
  (l51 : K.lookup f51 = some ⟨oc51, od51, .func (PySem.W.fnOf "_law_words_of" "_law_words_of" (defArgs s__law_words_of) (defBody s__law_words_of) (defScope s__law_words_of) .none kV51 dc51 pm51 an51 cd51 ct51), sl51⟩)
  (c51 : PySem.W.codeIn K cd51 "_law_words_of" = true)
  (k51 : PySem.W.keepIn K (.ref f51) = true)
  (a52 : PySem.W.nsIn K mainGlobals "is_solid" = some (some (.ref f52)))
  (l52 : K.lookup f52 = some ⟨oc52, od52, .func (PySem.W.fnOf "is_solid" "is_solid" (defArgs s_is_solid) (defBody s_is_solid) (defScope s_is_solid) .none kV52 dc52 pm52 an52 cd52 ct52), sl52⟩)
  (c52 : PySem.W.codeIn K cd52 "is_solid" = true)
  (k52 : PySem.W.keepIn K (.ref f52) = true)
  (a53 : PySem.W.nsIn K mainGlobals "numbers_said" = some (some (.ref f53)))
  (l53 : K.lookup f53 = some ⟨oc53, od53, .func (PySem.W.fnOf "numbers_said" "numbers_said" (defArgs s_numbers_said) (defBody s_numbers_said) (defScope s_numbers_said) .none kV53 dc53 pm53 an53 cd53 ct53), sl53⟩)
  (c53 : PySem.W.codeIn K cd53 "numbers_said" = true)
  (k53 : PySem.W.keepIn K (.ref f53) = true)
  (a54 : PySem.W.findIn K (.ref C_Console) "plain" = some (some (.ref f54)))
  (i54 : PySem.W.isFn K (.ref f54) = true)
  (l54 : K.lookup f54 = some ⟨oc54, od54, .func (PySem.W.fnOf "plain" "Console.plain" (defArgs s_Console_plain) (defBody s_Console_plain) (defScope s_Console_plain) .none kV54 dc54 pm54 an54 cd54 ct54), sl54⟩)
  (c54 : PySem.W.codeIn K cd54 "Console.plain" = true)
  (k54 : PySem.W.keepIn K (.ref f54) = true)
  (a55 : PySem.W.nsIn K mainGlobals "is_lot" = some (some (.ref f55)))
  (l55 : K.lookup f55 = some ⟨oc55, od55, .func (PySem.W.fnOf "is_lot" "is_lot" (defArgs s_is_lot) (defBody s_is_lot) (defScope s_is_lot) .none kV55 dc55 pm55 an55 cd55 ct55), sl55⟩)
  (c55 : PySem.W.codeIn K cd55 "is_lot" = true)
  (k55 : PySem.W.keepIn K (.ref f55) = true)
  (a56 : PySem.W.findIn K (.ref C_Console) "aimed" = some (some (.ref f56)))
  (i56 : PySem.W.isFn K (.ref f56) = true)
  (l56 : K.lookup f56 = some ⟨oc56, od56, .func (PySem.W.fnOf "aimed" "Console.aimed" (defArgs s_Console_aimed) (defBody s_Console_aimed) (defScope s_Console_aimed) .none kV56 dc56 pm56 an56 cd56 ct56), sl56⟩)
  (c56 : PySem.W.codeIn K cd56 "Console.aimed" = true)
  (k56 : PySem.W.keepIn K (.ref f56) = true)
  (a57 : PySem.W.findIn K (.ref C_Console) "answer" = some (some (.ref f57)))
  (i57 : PySem.W.isFn K (.ref f57) = true)
  (l57 : K.lookup f57 = some ⟨oc57, od57, .func (PySem.W.fnOf "answer" "Console.answer" (defArgs s_Console_answer) (defBody s_Console_answer) (defScope s_Console_answer) .none kV57 dc57 pm57 an57 cd57 ct57), sl57⟩)
  (c57 : PySem.W.codeIn K cd57 "Console.answer" = true)
  (k57 : PySem.W.keepIn K (.ref f57) = true)
  (a58 : PySem.W.findIn K (.ref C_Console) "say" = some (some (.ref f58)))
  (i58 : PySem.W.isFn K (.ref f58) = true)
  (l58 : K.lookup f58 = some ⟨oc58, od58, .func (PySem.W.fnOf "say" "Console.say" (defArgs s_Console_say) (defBody s_Console_say) (defScope s_Console_say) .none kV58 dc58 pm58 an58 cd58 ct58), sl58⟩)
  (c58 : PySem.W.codeIn K cd58 "Console.say" = true)
  (k58 : PySem.W.keepIn K (.ref f58) = true)
  (a59 : PySem.W.findIn K (.ref C_Console) "__init__" = some (some (.ref f59)))
  (i59 : PySem.W.isFn K (.ref f59) = true)
  (l59 : K.lookup f59 = some ⟨oc59, od59, .func (PySem.W.fnOf "__init__" "Console.__init__" (defArgs s_Console_init) (defBody s_Console_init) (defScope s_Console_init) .none kV59 dc59 pm59 an59 cd59 ct59), sl59⟩)
  (c59 : PySem.W.codeIn K cd59 "Console.__init__" = true)
  (k59 : PySem.W.keepIn K (.ref f59) = true)
  (a60 : PySem.W.nsIn K mainGlobals "_law_right" = some (some (.ref f60)))
  (l60 : K.lookup f60 = some ⟨oc60, od60, .func (PySem.W.fnOf "_law_right" "_law_right" (defArgs s__law_right) (defBody s__law_right) (defScope s__law_right) .none kV60 dc60 pm60 an60 cd60 ct60), sl60⟩)
  (c60 : PySem.W.codeIn K cd60 "_law_right" = true)
  (k60 : PySem.W.keepIn K (.ref f60) = true)
  (a61 : PySem.W.nsIn K mainGlobals "_law_spring" = some (some (.ref f61)))
  (l61 : K.lookup f61 = some ⟨oc61, od61, .func (PySem.W.fnOf "_law_spring" "_law_spring" (defArgs s__law_spring) (defBody s__law_spring) (defScope s__law_spring) .none kV61 dc61 pm61 an61 cd61 ct61), sl61⟩)
  (c61 : PySem.W.codeIn K cd61 "_law_spring" = true)
  (k61 : PySem.W.keepIn K (.ref f61) = true)
  (a62 : PySem.W.nsIn K mainGlobals "law" = some (some (.ref f62)))
  (l62 : K.lookup f62 = some ⟨oc62, od62, .func (PySem.W.fnOf "law" "law" (defArgs s_law) (defBody s_law) (defScope s_law) .none kV62 dc62 pm62 an62 cd62 ct62), sl62⟩)
  (c62 : PySem.W.codeIn K cd62 "law" = true)
  (k62 : PySem.W.keepIn K (.ref f62) = true)
  (KMOST_INEQUALITIES : PySem.W.nsIn K mainGlobals "MOST_INEQUALITIES" = some (some (.int 10 t_MOST_INEQUALITIES)))
  (KJOIN : PySem.W.nsIn K mainGlobals "JOIN" = some (some (.str ", " t_JOIN)))
  (KUNKNOWNS : PySem.W.nsIn K mainGlobals "UNKNOWNS" = some (some (.str "xy" t_UNKNOWNS)))
  (KKINDS : PySem.W.nsIn K mainGlobals "KINDS" = some (some (.ref u_KINDS)))
  (LKINDS : K.lookup u_KINDS = some ⟨.type "tuple", dd_KINDS, .seq #[.str "whole" t_KINDS_0, .str "any" t_KINDS_1] m_KINDS, ls_KINDS⟩)
  (KFIGURES : PySem.W.nsIn K mainGlobals "FIGURES" = some (some (.str "0123456789" t_FIGURES)))
  (KMOST_WEIGHT : PySem.W.nsIn K mainGlobals "MOST_WEIGHT" = some (some (.int 99 t_MOST_WEIGHT)))
  (KMOST_CONSTANT : PySem.W.nsIn K mainGlobals "MOST_CONSTANT" = some (some (.int 1000000 t_MOST_CONSTANT)))
  (KNOT_WHOLE : PySem.W.nsIn K mainGlobals "NOT_WHOLE" = some (some (.str "not whole" t_NOT_WHOLE)))
  (KNO_POINT : PySem.W.nsIn K mainGlobals "NO_POINT" = some (some (.str "no point" t_NO_POINT)))
  (pgSystem : PySem.W.plainGet K C_System Str.empty = true)
  (hdSystem : PySem.W.hasDictIn K C_System = true)
  (poSystem : PySem.W.plainOver K C_System = true)
  (saSystem : PySem.W.findIn K (.ref C_System) "__setattr__" = some (some (.builtin "object.__setattr__")))
  (mkSystem : PySem.W.makesIn K C_System = true)
  (kpSystem : PySem.W.keepIn K (.ref C_System) = true)
  (naSystem_told : PySem.W.findIn K (.ref C_System) "told" = some none)
  (naSystem_kinds : PySem.W.findIn K (.ref C_System) "kinds" = some none)
  (naSystem_letters : PySem.W.findIn K (.ref C_System) "letters" = some none)
  (naSystem_solid : PySem.W.findIn K (.ref C_System) "solid" = some none)
  (naSystem_bounds : PySem.W.findIn K (.ref C_System) "bounds" = some none)
  (haSystem : PySem.W.findIn K (.ref C_System) "__class__" = some (some (.builtin "object.__class__")))
  (hnSystem : PySem.W.specialIn K (.builtin "object.__class__") "__get__" = some (some (.builtin "getset_descriptor.__get__")))
  (tkSystem : PySem.W.takesIn K (.builtin "object.__class__") = some true)
  (mrSystem : PySem.W.mroIn K C_System (.type "object") = some true)
  (itSystem_bool : PySem.W.mroIn K C_System (.type "bool") = some false)
  (itSystem_int : PySem.W.mroIn K C_System (.type "int") = some false)
  (itSystem_str : PySem.W.mroIn K C_System (.type "str") = some false)
  (itSystem_tuple : PySem.W.mroIn K C_System (.type "tuple") = some false)
  (pgConsole : PySem.W.plainGet K C_Console Str.empty = true)
  (hdConsole : PySem.W.hasDictIn K C_Console = true)
  (poConsole : PySem.W.plainOver K C_Console = true)
  (saConsole : PySem.W.findIn K (.ref C_Console) "__setattr__" = some (some (.builtin "object.__setattr__")))
  (mkConsole : PySem.W.makesIn K C_Console = true)
  (kpConsole : PySem.W.keepIn K (.ref C_Console) = true)
  (naConsole_kept : PySem.W.findIn K (.ref C_Console) "kept" = some none)
  (haConsole : PySem.W.findIn K (.ref C_Console) "__class__" = some (some (.builtin "object.__class__")))
  (hnConsole : PySem.W.specialIn K (.builtin "object.__class__") "__get__" = some (some (.builtin "getset_descriptor.__get__")))
  (tkConsole : PySem.W.takesIn K (.builtin "object.__class__") = some true)
  (mrConsole : PySem.W.mroIn K C_Console (.type "object") = some true)
  (itConsole_bool : PySem.W.mroIn K C_Console (.type "bool") = some false)
  (itConsole_int : PySem.W.mroIn K C_Console (.type "int") = some false)
  (itConsole_str : PySem.W.mroIn K C_Console (.type "str") = some false)
  (itConsole_tuple : PySem.W.mroIn K C_Console (.type "tuple") = some false)
  (icConsole_System : PySem.W.mroIn K C_Console (.ref C_System) = some false)
  (isSystem : PySem.W.mroIn K C_System (.ref C_System) = some true)
  (ibSystem_1 : PySem.W.isClsIn K C_System = true)
  (ibSystem_2 : PySem.W.typeIn K (.ref C_System) = some (.type "type"))
  (rdSystem : PySem.W.readsIn K C_System (.type "type") = true)
  (gtSystem : PySem.W.specialIn K (.ref C_System) "__getattribute__" = some (some (.builtin "type.__getattribute__")))
  (b_abs : PySem.W.nsIn K mainGlobals "abs" = some none)
  (b_all : PySem.W.nsIn K mainGlobals "all" = some none)
  (b_bool : PySem.W.nsIn K mainGlobals "bool" = some none)
  (b_divmod : PySem.W.nsIn K mainGlobals "divmod" = some none)
  (b_enumerate : PySem.W.nsIn K mainGlobals "enumerate" = some none)
  (b_int : PySem.W.nsIn K mainGlobals "int" = some none)
  (b_isinstance : PySem.W.nsIn K mainGlobals "isinstance" = some none)
  (b_len : PySem.W.nsIn K mainGlobals "len" = some none)
  (b_list : PySem.W.nsIn K mainGlobals "list" = some none)
  (b_max : PySem.W.nsIn K mainGlobals "max" = some none)
  (b_min : PySem.W.nsIn K mainGlobals "min" = some none)
  (b_range : PySem.W.nsIn K mainGlobals "range" = some none)
  (b_repr : PySem.W.nsIn K mainGlobals "repr" = some none)
  (b_str : PySem.W.nsIn K mainGlobals "str" = some none)
  (b_tuple : PySem.W.nsIn K mainGlobals "tuple" = some none)
  (b_zip : PySem.W.nsIn K mainGlobals "zip" = some none)
  : ∃ A : Ad, A.a_law = fa ∧ Fx K mg A := by
  have e := hfa.symm.trans (PySem.W.mg_of X G a62)
  cases e
  refine ⟨⟨f1, (PySem.W.fnOf "_law_draw" "_law_draw" (defArgs s__law_draw) (defBody s__law_draw) (defScope s__law_draw) .none kV1 dc1 pm1 an1 cd1 ct1), f2, (PySem.W.fnOf "_law_of" "_law_of" (defArgs s__law_of) (defBody s__law_of) (defScope s__law_of) .none kV2 dc2 pm2 an2 cd2 ct2), f3, (PySem.W.fnOf "_law_first_row" "_law_first_row" (defArgs s__law_first_row) (defBody s__law_first_row) (defScope s__law_first_row) .none kV3 dc3 pm3 an3 cd3 ct3), f4, (PySem.W.fnOf "_law_two" "_law_two" (defArgs s__law_two) (defBody s__law_two) (defScope s__law_two) .none kV4 dc4 pm4 an4 cd4 ct4), f5, (PySem.W.fnOf "_law_term" "_law_term" (defArgs s__law_term) (defBody s__law_term) (defScope s__law_term) .none kV5 dc5 pm5 an5 cd5 ct5), f6, (PySem.W.fnOf "_law_sum_text" "_law_sum_text" (defArgs s__law_sum_text) (defBody s__law_sum_text) (defScope s__law_sum_text) .none kV6 dc6 pm6 an6 cd6 ct6), f7, (PySem.W.fnOf "_law_row_text" "_law_row_text" (defArgs s__law_row_text) (defBody s__law_row_text) (defScope s__law_row_text) .none kV7 dc7 pm7 an7 cd7 ct7), f8, (PySem.W.fnOf "_law_great" "_law_great" (defArgs s__law_great) (defBody s__law_great) (defScope s__law_great) .none kV8 dc8 pm8 an8 cd8 ct8), f9, (PySem.W.fnOf "_law_wide_rows" "_law_wide_rows" (defArgs s__law_wide_rows) (defBody s__law_wide_rows) (defScope s__law_wide_rows) .none kV9 dc9 pm9 an9 cd9 ct9), f10, (PySem.W.fnOf "_law_kinds" "_law_kinds" (defArgs s__law_kinds) (defBody s__law_kinds) (defScope s__law_kinds) .none kV10 dc10 pm10 an10 cd10 ct10), f11, (PySem.W.fnOf "_law_weights" "_law_weights" (defArgs s__law_weights) (defBody s__law_weights) (defScope s__law_weights) .none kV11 dc11 pm11 an11 cd11 ct11), f12, (PySem.W.fnOf "_law_upright" "_law_upright" (defArgs s__law_upright) (defBody s__law_upright) (defScope s__law_upright) .none kV12 dc12 pm12 an12 cd12 ct12), f13, (PySem.W.fnOf "_law_uprights" "_law_uprights" (defArgs s__law_uprights) (defBody s__law_uprights) (defScope s__law_uprights) .none kV13 dc13 pm13 an13 cd13 ct13), f14, (PySem.W.fnOf "unknowns_in" "unknowns_in" (defArgs s_unknowns_in) (defBody s_unknowns_in) (defScope s_unknowns_in) .none kV14 dc14 pm14 an14 cd14 ct14), f15, (PySem.W.fnOf "number_in" "number_in" (defArgs s_number_in) (defBody s_number_in) (defScope s_number_in) .none kV15 dc15 pm15 an15 cd15 ct15), f16, (PySem.W.fnOf "signed_in" "signed_in" (defArgs s_signed_in) (defBody s_signed_in) (defScope s_signed_in) .none kV16 dc16 pm16 an16 cd16 ct16), f17, (PySem.W.fnOf "term_in" "term_in" (defArgs s_term_in) (defBody s_term_in) (defScope s_term_in) .none kV17 dc17 pm17 an17 cd17 ct17), f18, (PySem.W.fnOf "sum_in" "sum_in" (defArgs s_sum_in) (defBody s_sum_in) (defScope s_sum_in) .none kV18 dc18 pm18 an18 cd18 ct18), f19, (PySem.W.fnOf "inequality_in" "inequality_in" (defArgs s_inequality_in) (defBody s_inequality_in) (defScope s_inequality_in) .none kV19 dc19 pm19 an19 cd19 ct19), f20, (PySem.W.fnOf "wrong_rows" "wrong_rows" (defArgs s_wrong_rows) (defBody s_wrong_rows) (defScope s_wrong_rows) .none kV20 dc20 pm20 an20 cd20 ct20), f21, (PySem.W.fnOf "__init__" "System.__init__" (defArgs s_System_init) (defBody s_System_init) (defScope s_System_init) .none kV21 dc21 pm21 an21 cd21 ct21), f22, (PySem.W.fnOf "read" "System.read" (defArgs s_System_read) (defBody s_System_read) (defScope s_System_read) .none kV22 dc22 pm22 an22 cd22 ct22), f23, (PySem.W.fnOf "_law_made" "_law_made" (defArgs s__law_made) (defBody s__law_made) (defScope s__law_made) .none kV23 dc23 pm23 an23 cd23 ct23), f24, (PySem.W.fnOf "inequalities" "System.inequalities" (defArgs s_System_inequalities) (defBody s_System_inequalities) (defScope s_System_inequalities) .none kV24 dc24 pm24 an24 cd24 ct24), f25, (PySem.W.fnOf "text" "System.text" (defArgs s_System_text) (defBody s_System_text) (defScope s_System_text) .none kV25 dc25 pm25 an25 cd25 ct25), f26, (PySem.W.fnOf "_law_far_integer" "_law_far_integer" (defArgs s__law_far_integer) (defBody s__law_far_integer) (defScope s__law_far_integer) .none kV26 dc26 pm26 an26 cd26 ct26), f27, (PySem.W.fnOf "_law_divisor" "_law_divisor" (defArgs s__law_divisor) (defBody s__law_divisor) (defScope s__law_divisor) .none kV27 dc27 pm27 an27 cd27 ct27), f28, (PySem.W.fnOf "_law_ratio" "_law_ratio" (defArgs s__law_ratio) (defBody s__law_ratio) (defScope s__law_ratio) .none kV28 dc28 pm28 an28 cd28 ct28), f29, (PySem.W.fnOf "_law_value_for" "_law_value_for" (defArgs s__law_value_for) (defBody s__law_value_for) (defScope s__law_value_for) .none kV29 dc29 pm29 an29 cd29 ct29), f30, (PySem.W.fnOf "_law_sum" "_law_sum" (defArgs s__law_sum) (defBody s__law_sum) (defScope s__law_sum) .none kV30 dc30 pm30 an30 cd30 ct30), f31, (PySem.W.fnOf "check_system" "check_system" (defArgs s_check_system) (defBody s_check_system) (defScope s_check_system) .none kV31 dc31 pm31 an31 cd31 ct31), f32, (PySem.W.fnOf "is_integer" "is_integer" (defArgs s_is_integer) (defBody s_is_integer) (defScope s_is_integer) .none kV32 dc32 pm32 an32 cd32 ct32), f33, (PySem.W.fnOf "divisor" "divisor" (defArgs s_divisor) (defBody s_divisor) (defScope s_divisor) .none kV33 dc33 pm33 an33 cd33 ct33), f34, (PySem.W.fnOf "is_fraction" "is_fraction" (defArgs s_is_fraction) (defBody s_is_fraction) (defScope s_is_fraction) .none kV34 dc34 pm34 an34 cd34 ct34), f35, (PySem.W.fnOf "is_point" "is_point" (defArgs s_is_point) (defBody s_is_point) (defScope s_is_point) .none kV35 dc35 pm35 an35 cd35 ct35), f36, (PySem.W.fnOf "check_point" "check_point" (defArgs s_check_point) (defBody s_check_point) (defScope s_check_point) .none kV36 dc36 pm36 an36 cd36 ct36), f37, (PySem.W.fnOf "as_fractions" "as_fractions" (defArgs s_as_fractions) (defBody s_as_fractions) (defScope s_as_fractions) .none kV37 dc37 pm37 an37 cd37 ct37), f38, (PySem.W.fnOf "ratio" "ratio" (defArgs s_ratio) (defBody s_ratio) (defScope s_ratio) .none kV38 dc38 pm38 an38 cd38 ct38), f39, (PySem.W.fnOf "plus" "plus" (defArgs s_plus) (defBody s_plus) (defScope s_plus) .none kV39 dc39 pm39 an39 cd39 ct39), f40, (PySem.W.fnOf "times" "times" (defArgs s_times) (defBody s_times) (defScope s_times) .none kV40 dc40 pm40 an40 cd40 ct40), f41, (PySem.W.fnOf "sum_at" "sum_at" (defArgs s_sum_at) (defBody s_sum_at) (defScope s_sum_at) .none kV41 dc41 pm41 an41 cd41 ct41), f42, (PySem.W.fnOf "gaps_at" "gaps_at" (defArgs s_gaps_at) (defBody s_gaps_at) (defScope s_gaps_at) .none kV42 dc42 pm42 an42 cd42 ct42), f43, (PySem.W.fnOf "broken_at" "broken_at" (defArgs s_broken_at) (defBody s_broken_at) (defScope s_broken_at) .none kV43 dc43 pm43 an43 cd43 ct43), f44, (PySem.W.fnOf "fits" "fits" (defArgs s_fits) (defBody s_fits) (defScope s_fits) .none kV44 dc44 pm44 an44 cd44 ct44), f45, (PySem.W.fnOf "broken" "broken" (defArgs s_broken) (defBody s_broken) (defScope s_broken) .none kV45 dc45 pm45 an45 cd45 ct45), f46, (PySem.W.fnOf "gaps" "gaps" (defArgs s_gaps) (defBody s_gaps) (defScope s_gaps) .none kV46 dc46 pm46 an46 cd46 ct46), f47, (PySem.W.fnOf "is_between" "is_between" (defArgs s_is_between) (defBody s_is_between) (defScope s_is_between) .none kV47 dc47 pm47 an47 cd47 ct47), f48, (PySem.W.fnOf "is_aim" "is_aim" (defArgs s_is_aim) (defBody s_is_aim) (defScope s_is_aim) .none kV48 dc48 pm48 an48 cd48 ct48), f49, (PySem.W.fnOf "check_aim" "check_aim" (defArgs s_check_aim) (defBody s_check_aim) (defScope s_check_aim) .none kV49 dc49 pm49 an49 cd49 ct49), f50, (PySem.W.fnOf "value" "value" (defArgs s_value) (defBody s_value) (defScope s_value) .none kV50 dc50 pm50 an50 cd50 ct50), f51, (PySem.W.fnOf "_law_words_of" "_law_words_of" (defArgs s__law_words_of) (defBody s__law_words_of) (defScope s__law_words_of) .none kV51 dc51 pm51 an51 cd51 ct51), f52, (PySem.W.fnOf "is_solid" "is_solid" (defArgs s_is_solid) (defBody s_is_solid) (defScope s_is_solid) .none kV52 dc52 pm52 an52 cd52 ct52), f53, (PySem.W.fnOf "numbers_said" "numbers_said" (defArgs s_numbers_said) (defBody s_numbers_said) (defScope s_numbers_said) .none kV53 dc53 pm53 an53 cd53 ct53), f54, (PySem.W.fnOf "plain" "Console.plain" (defArgs s_Console_plain) (defBody s_Console_plain) (defScope s_Console_plain) .none kV54 dc54 pm54 an54 cd54 ct54), f55, (PySem.W.fnOf "is_lot" "is_lot" (defArgs s_is_lot) (defBody s_is_lot) (defScope s_is_lot) .none kV55 dc55 pm55 an55 cd55 ct55), f56, (PySem.W.fnOf "aimed" "Console.aimed" (defArgs s_Console_aimed) (defBody s_Console_aimed) (defScope s_Console_aimed) .none kV56 dc56 pm56 an56 cd56 ct56), f57, (PySem.W.fnOf "answer" "Console.answer" (defArgs s_Console_answer) (defBody s_Console_answer) (defScope s_Console_answer) .none kV57 dc57 pm57 an57 cd57 ct57), f58, (PySem.W.fnOf "say" "Console.say" (defArgs s_Console_say) (defBody s_Console_say) (defScope s_Console_say) .none kV58 dc58 pm58 an58 cd58 ct58), f59, (PySem.W.fnOf "__init__" "Console.__init__" (defArgs s_Console_init) (defBody s_Console_init) (defScope s_Console_init) .none kV59 dc59 pm59 an59 cd59 ct59), f60, (PySem.W.fnOf "_law_right" "_law_right" (defArgs s__law_right) (defBody s__law_right) (defScope s__law_right) .none kV60 dc60 pm60 an60 cd60 ct60), f61, (PySem.W.fnOf "_law_spring" "_law_spring" (defArgs s__law_spring) (defBody s__law_spring) (defScope s__law_spring) .none kV61 dc61 pm61 an61 cd61 ct61), fa, (PySem.W.fnOf "law" "law" (defArgs s_law) (defBody s_law) (defScope s_law) .none kV62 dc62 pm62 an62 cd62 ct62), C_System, C_Console, p22, (.type "type"), p24, p25, (.int 10 t_MOST_INEQUALITIES), (.str ", " t_JOIN), (.str "xy" t_UNKNOWNS), (.ref u_KINDS), (.str "0123456789" t_FIGURES), (.int 99 t_MOST_WEIGHT), (.int 1000000 t_MOST_CONSTANT), (.str "not whole" t_NOT_WHOLE), (.str "no point" t_NO_POINT)⟩, rfl, ?_⟩
  constructor
  · exact PySem.W.mg_none_of X G b_abs
  · exact PySem.W.mg_none_of X G b_all
  · exact PySem.W.mg_none_of X G b_bool
  · exact PySem.W.mg_none_of X G b_divmod
  · exact PySem.W.mg_none_of X G b_enumerate
  · exact PySem.W.mg_none_of X G b_int
  · exact PySem.W.mg_none_of X G b_isinstance
  · exact PySem.W.mg_none_of X G b_len
  · exact PySem.W.mg_none_of X G b_list
  · exact PySem.W.mg_none_of X G b_max
  · exact PySem.W.mg_none_of X G b_min
  · exact PySem.W.mg_none_of X G b_range
  · exact PySem.W.mg_none_of X G b_repr
  · exact PySem.W.mg_none_of X G b_str
  · exact PySem.W.mg_none_of X G b_tuple
  · exact PySem.W.mg_none_of X G b_zip
  · exact fun_mk (st := s__law_draw) l1 c1 k1
  · exact PySem.W.mg_of X G a1
  · exact k1
  · exact fun_mk (st := s__law_of) l2 c2 k2
  · exact PySem.W.mg_of X G a2
  · exact k2
  · exact fun_mk (st := s__law_first_row) l3 c3 k3
  · exact PySem.W.mg_of X G a3
  · exact k3
  · exact fun_mk (st := s__law_two) l4 c4 k4
  · exact PySem.W.mg_of X G a4
  · exact k4
  · exact fun_mk (st := s__law_term) l5 c5 k5
  · exact PySem.W.mg_of X G a5
  · exact k5
  · exact fun_mk (st := s__law_sum_text) l6 c6 k6
  · exact PySem.W.mg_of X G a6
  · exact k6
  · exact fun_mk (st := s__law_row_text) l7 c7 k7
  · exact PySem.W.mg_of X G a7
  · exact k7
  · exact fun_mk (st := s__law_great) l8 c8 k8
  · exact PySem.W.mg_of X G a8
  · exact k8
  · exact fun_mk (st := s__law_wide_rows) l9 c9 k9
  · exact PySem.W.mg_of X G a9
  · exact k9
  · exact fun_mk (st := s__law_kinds) l10 c10 k10
  · exact PySem.W.mg_of X G a10
  · exact k10
  · exact fun_mk (st := s__law_weights) l11 c11 k11
  · exact PySem.W.mg_of X G a11
  · exact k11
  · exact fun_mk (st := s__law_upright) l12 c12 k12
  · exact PySem.W.mg_of X G a12
  · exact k12
  · exact fun_mk (st := s__law_uprights) l13 c13 k13
  · exact PySem.W.mg_of X G a13
  · exact k13
  · exact fun_mk (st := s_unknowns_in) l14 c14 k14
  · exact PySem.W.mg_of X G a14
  · exact k14
  · exact fun_mk (st := s_number_in) l15 c15 k15
  · exact PySem.W.mg_of X G a15
  · exact k15
  · exact fun_mk (st := s_signed_in) l16 c16 k16
  · exact PySem.W.mg_of X G a16
  · exact k16
  · exact fun_mk (st := s_term_in) l17 c17 k17
  · exact PySem.W.mg_of X G a17
  · exact k17
  · exact fun_mk (st := s_sum_in) l18 c18 k18
  · exact PySem.W.mg_of X G a18
  · exact k18
  · exact fun_mk (st := s_inequality_in) l19 c19 k19
  · exact PySem.W.mg_of X G a19
  · exact k19
  · exact fun_mk (st := s_wrong_rows) l20 c20 k20
  · exact PySem.W.mg_of X G a20
  · exact k20
  · exact ⟨⟨oc21, od21, kV21, dc21, pm21, an21, cd21, ct21, sl21, l21, c21⟩⟩
  · exact fun_mk (st := s_System_read) l22 c22 k22
  · exact fun_mk (st := s__law_made) l23 c23 k23
  · exact PySem.W.mg_of X G a23
  · exact k23
  · exact fun_mk (st := s_System_inequalities) l24 c24 k24
  · exact fun_mk (st := s_System_text) l25 c25 k25
  · exact fun_mk (st := s__law_far_integer) l26 c26 k26
  · exact PySem.W.mg_of X G a26
  · exact k26
  · exact fun_mk (st := s__law_divisor) l27 c27 k27
  · exact PySem.W.mg_of X G a27
  · exact k27
  · exact fun_mk (st := s__law_ratio) l28 c28 k28
  · exact PySem.W.mg_of X G a28
  · exact k28
  · exact fun_mk (st := s__law_value_for) l29 c29 k29
  · exact PySem.W.mg_of X G a29
  · exact k29
  · exact fun_mk (st := s__law_sum) l30 c30 k30
  · exact PySem.W.mg_of X G a30
  · exact k30
  · exact fun_mk (st := s_check_system) l31 c31 k31
  · exact PySem.W.mg_of X G a31
  · exact k31
  · exact fun_mk (st := s_is_integer) l32 c32 k32
  · exact PySem.W.mg_of X G a32
  · exact k32
  · exact fun_mk (st := s_divisor) l33 c33 k33
  · exact PySem.W.mg_of X G a33
  · exact k33
  · exact fun_mk (st := s_is_fraction) l34 c34 k34
  · exact PySem.W.mg_of X G a34
  · exact k34
  · exact fun_mk (st := s_is_point) l35 c35 k35
  · exact PySem.W.mg_of X G a35
  · exact k35
  · exact fun_mk (st := s_check_point) l36 c36 k36
  · exact PySem.W.mg_of X G a36
  · exact k36
  · exact fun_mk (st := s_as_fractions) l37 c37 k37
  · exact PySem.W.mg_of X G a37
  · exact k37
  · exact fun_mk (st := s_ratio) l38 c38 k38
  · exact PySem.W.mg_of X G a38
  · exact k38
  · exact fun_mk (st := s_plus) l39 c39 k39
  · exact PySem.W.mg_of X G a39
  · exact k39
  · exact fun_mk (st := s_times) l40 c40 k40
  · exact PySem.W.mg_of X G a40
  · exact k40
  · exact fun_mk (st := s_sum_at) l41 c41 k41
  · exact PySem.W.mg_of X G a41
  · exact k41
  · exact fun_mk (st := s_gaps_at) l42 c42 k42
  · exact PySem.W.mg_of X G a42
  · exact k42
  · exact fun_mk (st := s_broken_at) l43 c43 k43
  · exact PySem.W.mg_of X G a43
  · exact k43
  · exact fun_mk (st := s_fits) l44 c44 k44
  · exact PySem.W.mg_of X G a44
  · exact k44
  · exact fun_mk (st := s_broken) l45 c45 k45
  · exact PySem.W.mg_of X G a45
  · exact k45
  · exact fun_mk (st := s_gaps) l46 c46 k46
  · exact PySem.W.mg_of X G a46
  · exact k46
  · exact fun_mk (st := s_is_between) l47 c47 k47
  · exact PySem.W.mg_of X G a47
  · exact k47
  · exact fun_mk (st := s_is_aim) l48 c48 k48
  · exact PySem.W.mg_of X G a48
  · exact k48
  · exact fun_mk (st := s_check_aim) l49 c49 k49
  · exact PySem.W.mg_of X G a49
  · exact k49
  · exact fun_mk (st := s_value) l50 c50 k50
  · exact PySem.W.mg_of X G a50
  · exact k50
  · exact fun_mk (st := s__law_words_of) l51 c51 k51
  · exact PySem.W.mg_of X G a51
  · exact k51
  · exact fun_mk (st := s_is_solid) l52 c52 k52
  · exact PySem.W.mg_of X G a52
  · exact k52
  · exact fun_mk (st := s_numbers_said) l53 c53 k53
  · exact PySem.W.mg_of X G a53
  · exact k53
  · exact fun_mk (st := s_Console_plain) l54 c54 k54
  · exact fun_mk (st := s_is_lot) l55 c55 k55
  · exact PySem.W.mg_of X G a55
  · exact k55
  · exact fun_mk (st := s_Console_aimed) l56 c56 k56
  · exact fun_mk (st := s_Console_answer) l57 c57 k57
  · exact fun_mk (st := s_Console_say) l58 c58 k58
  · exact fun_mk (st := s_Console_init) l59 c59 k59
  · exact fun_mk (st := s__law_right) l60 c60 k60
  · exact PySem.W.mg_of X G a60
  · exact k60
  · exact fun_mk (st := s__law_spring) l61 c61 k61
  · exact PySem.W.mg_of X G a61
  · exact k61
  · exact fun_mk (st := s_law) l62 c62 k62
  · exact hfa
  · exact k62
  · exact PySem.W.mg_of X G CSystem
  · exact ⟨pgSystem, hdSystem, poSystem, saSystem⟩
  · exact ⟨mkSystem, a21, i21, kpSystem⟩
  · exact naSystem_told
  · exact naSystem_kinds
  · exact naSystem_letters
  · exact naSystem_solid
  · exact naSystem_bounds
  · exact ⟨⟨pgSystem, hdSystem, poSystem, saSystem⟩, haSystem, hnSystem, tkSystem, mrSystem⟩
  · exact kit_ct itSystem_bool
  · exact kit_ct itSystem_int
  · exact kit_ct itSystem_str
  · exact kit_ct itSystem_tuple
  · exact kit_self
  · exact PySem.W.mg_of X G CConsole
  · exact ⟨pgConsole, hdConsole, poConsole, saConsole⟩
  · exact ⟨mkConsole, a59, i59, kpConsole⟩
  · exact naConsole_kept
  · exact ⟨⟨pgConsole, hdConsole, poConsole, saConsole⟩, haConsole, hnConsole, tkConsole, mrConsole⟩
  · exact kit_ct itConsole_bool
  · exact kit_ct itConsole_int
  · exact kit_ct itConsole_str
  · exact kit_ct itConsole_tuple
  · exact kit_cc ibSystem_1 ibSystem_2 icConsole_System (kit_ne isSystem icConsole_System)
  · exact kit_tc ibSystem_1 ibSystem_2
  · exact ⟨rdSystem, gtSystem⟩
  · exact ⟨a22, ⟨rs22, r22⟩, g22⟩
  · exact ⟨a54, i54, k54⟩
  · exact ⟨a56, i56, k56⟩
  · exact ⟨a57, i57, k57⟩
  · exact ⟨a58, i58, k58⟩
  · exact ⟨a24, g24, t24, ⟨_, r24⟩⟩
  · exact ⟨a25, g25, t25, ⟨_, r25⟩⟩
  · exact PySem.W.mg_of X G KMOST_INEQUALITIES
  · exact ⟨.int 10, ⟨_, rfl⟩, fun _ _ => by unfold Is; rfl⟩
  · exact PySem.W.mg_of X G KJOIN
  · exact ⟨.str ", ", ⟨_, rfl⟩, fun _ _ => by unfold Is; rfl⟩
  · exact PySem.W.mg_of X G KUNKNOWNS
  · exact ⟨.str "xy", ⟨_, rfl⟩, fun _ _ => by unfold Is; rfl⟩
  · exact PySem.W.mg_of X G KKINDS
  · exact ⟨.ref u_KINDS, rfl, fun _ _ => by unfold Is; exact ⟨u_KINDS, [.str "whole", .str "any"], rfl, .inr ⟨_, _, _, LKINDS, rfl, rfl, (by show 2 ≤ sizeLine; decide), (.cons ⟨_, rfl⟩ (.cons ⟨_, rfl⟩ .nil))⟩, (IsL.cons (by unfold Is; rfl) (IsL.cons (by unfold Is; rfl) IsL.nil))⟩⟩
  · exact PySem.W.mg_of X G KFIGURES
  · exact ⟨.str "0123456789", ⟨_, rfl⟩, fun _ _ => by unfold Is; rfl⟩
  · exact PySem.W.mg_of X G KMOST_WEIGHT
  · exact ⟨.int 99, ⟨_, rfl⟩, fun _ _ => by unfold Is; rfl⟩
  · exact PySem.W.mg_of X G KMOST_CONSTANT
  · exact ⟨.int 1000000, ⟨_, rfl⟩, fun _ _ => by unfold Is; rfl⟩
  · exact PySem.W.mg_of X G KNOT_WHOLE
  · exact ⟨.str "not whole", ⟨_, rfl⟩, fun _ _ => by unfold Is; rfl⟩
  · exact PySem.W.mg_of X G KNO_POINT
  · exact ⟨.str "no point", ⟨_, rfl⟩, fun _ _ => by unfold Is; rfl⟩
def BP : Prop := ∃ f : List D → M D, (∀ zs : List Int, zs.length ≤ 63 → (∀ z ∈ zs, PySem.Builtin.Int.intBits z ≤ 1048576) → ∃ Se, f [.scr (zs.map .int)] [] = .ok (.bl true) Se) ∧ (∀ {P : Program} {w : World} {K : PySem.W.Frag} {mg : Str → Option Value} {base : Heap} {A : Ad}, Fx K mg A → FnG true P w K mg base 11 A.a_law A.d_law ["_law_cells"] (spOf (tbl K A) 1 f))
end LW
/-! names that are taken, so that these long tables get no twin (the compiled file would be too long) -/
def PySem.W.Fast.tw18182754120821980889 : Unit := ()
def PySem.W.Fast.tw8305238030123954912 : Unit := ()
def PySem.W.Fast.tw5670236383993701887 : Unit := ()
def PySem.W.Fast.tw15747463425065369339 : Unit := ()
def PySem.W.Fast.tw10969053913438525209 : Unit := ()
def PySem.W.Fast.tw2877987239850834394 : Unit := ()
def PySem.W.Fast.tw9497839545637673789 : Unit := ()
def PySem.W.Fast.tw2391641037681296019 : Unit := ()
def PySem.W.Fast.tw4677250543137510234 : Unit := ()
def PySem.W.Fast.tw12112238844021974363 : Unit := ()
def PySem.W.Fast.tw17810281123960349894 : Unit := ()
def PySem.W.Fast.tw727621629945150928 : Unit := ()
def PySem.W.Fast.tw15131764665770511421 : Unit := ()
def PySem.W.Fast.tw2739277638244136648 : Unit := ()
def PySem.W.Fast.tw2802329726561476418 : Unit := ()
def PySem.W.Fast.tw204979560910594590 : Unit := ()
def PySem.W.Fast.tw2699814748742614366 : Unit := ()
def PySem.W.Fast.tw4607193556693329044 : Unit := ()
def PySem.W.Fast.tw16733178517024488196 : Unit := ()
def PySem.W.Fast.tw16757567241203376668 : Unit := ()
def PySem.W.Fast.tw17343908669866743388 : Unit := ()
def PySem.W.Fast.tw7307627941102186829 : Unit := ()
def PySem.W.Fast.tw7217779284405090881 : Unit := ()
def PySem.W.Fast.tw11436964130806648447 : Unit := ()
def PySem.W.Fast.tw3643065854099274639 : Unit := ()
def PySem.W.Fast.tw6623043559763794801 : Unit := ()
def PySem.W.Fast.tw4676579335021202106 : Unit := ()
def PySem.W.Fast.tw11734168072447464166 : Unit := ()
def PySem.W.Fast.tw16972956892908601803 : Unit := ()
def PySem.W.Fast.tw15572459190087337388 : Unit := ()
def PySem.W.Fast.tw4907819906262717965 : Unit := ()
def PySem.W.Fast.tw12960113150517481030 : Unit := ()
def PySem.W.Fast.tw11753130096455103763 : Unit := ()
def PySem.W.Fast.tw2880026855946156141 : Unit := ()
section
local macro_rules
  | `(tactic| refine $f:ident (q := $a) (loose := $b) (Xt := $c) (XP := $d) (Yf := $e) (Ya := $g) (YP := $i) (N := $n) ?hl $x1 $x2 $x3 $x4 $x5 $x6 $x7 $x8 $x9 $xa $xb $xc ?hw ?hc) => `(tactic| refine $f (q := $a) (loose := $b) (Xt := $c) (XP := $d) (Yf := $e) (Ya := $g) (YP := $i) (N := $n) ?hl $x1 $x2 $x3 $x4 $x5 $x6 $x7 $x8 $x9 $xa $xb $xc ?hw ((?hc : LW.BP → _) (by assumption)))
open PySem PySem.W PyProof.Rows
set_option maxRecDepth 100000 in
set_option maxHeartbeats 0 in
theorem LW.early (hB : LW.BP) : PySem.Challenge.rw_fewenough_k70_whole_points_of_forty_digi.Holds := by
  w_on; o_law; k_head; (case hw => w_witness2)
  intro hB
  k_fill
  obtain ⟨f, plain, fg⟩ := hB
  refine LS.walk_ls (l := PySem.Challenge.rw_fewenough_k70_whole_points_of_forty_digi) (n := 63) (k := 11) (x := "_law_cells") (f := f) rfl (by decide) rfl ⟨rfl, by decide, by decide⟩ (fun w h Y => PySem.W.kIn_of Y) plain ?F
  case F =>
    intro w mg fa h KX G hmg
    refine' (fun z => ?G0) (LW.mkFx KX G hmg ?CSystem ?CConsole ?a1 ?l1 ?c1 ?k1 ?a2 ?l2 ?c2 ?k2 ?a3 ?l3 ?c3 ?k3 ?a4 ?l4 ?c4 ?k4 ?a5 ?l5 ?c5 ?k5 ?a6 ?l6 ?c6 ?k6 ?a7 ?l7 ?c7 ?k7 ?a8 ?l8 ?c8 ?k8 ?a9 ?l9 ?c9 ?k9 ?a10 ?l10 ?c10 ?k10 ?a11 ?l11 ?c11 ?k11 ?a12 ?l12 ?c12 ?k12 ?a13 ?l13 ?c13 ?k13 ?a14 ?l14 ?c14 ?k14 ?a15 ?l15 ?c15 ?k15 ?a16 ?l16 ?c16 ?k16 ?a17 ?l17 ?c17 ?k17 ?a18 ?l18 ?c18 ?k18 ?a19 ?l19 ?c19 ?k19 ?a20 ?l20 ?c20 ?k20 ?a21 ?i21 ?l21 ?c21 ?a22 ?r22 ?l22 ?c22 ?k22 ?g22 ?a23 ?l23 ?c23 ?k23 ?a24 ?g24 ?t24 ?r24 ?l24 ?c24 ?k24 ?a25 ?g25 ?t25 ?r25 ?l25 ?c25 ?k25 ?a26 ?l26 ?c26 ?k26 ?a27 ?l27 ?c27 ?k27 ?a28 ?l28 ?c28 ?k28 ?a29 ?l29 ?c29 ?k29 ?a30 ?l30 ?c30 ?k30 ?a31 ?l31 ?c31 ?k31 ?a32 ?l32 ?c32 ?k32 ?a33 ?l33 ?c33 ?k33 ?a34 ?l34 ?c34 ?k34 ?a35 ?l35 ?c35 ?k35 ?a36 ?l36 ?c36 ?k36 ?a37 ?l37 ?c37 ?k37 ?a38 ?l38 ?c38 ?k38 ?a39 ?l39 ?c39 ?k39 ?a40 ?l40 ?c40 ?k40 ?a41 ?l41 ?c41 ?k41 ?a42 ?l42 ?c42 ?k42 ?a43 ?l43 ?c43 ?k43 ?a44 ?l44 ?c44 ?k44 ?a45 ?l45 ?c45 ?k45 ?a46 ?l46 ?c46 ?k46 ?a47 ?l47 ?c47 ?k47 ?a48 ?l48 ?c48 ?k48 ?a49 ?l49 ?c49 ?k49 ?a50 ?l50 ?c50 ?k50 ?a51 ?l51 ?c51 ?k51 ?a52 ?l52 ?c52 ?k52 ?a53 ?l53 ?c53 ?k53 ?a54 ?i54 ?l54 ?c54 ?k54 ?a55 ?l55 ?c55 ?k55 ?a56 ?i56 ?l56 ?c56 ?k56 ?a57 ?i57 ?l57 ?c57 ?k57 ?a58 ?i58 ?l58 ?c58 ?k58 ?a59 ?i59 ?l59 ?c59 ?k59 ?a60 ?l60 ?c60 ?k60 ?a61 ?l61 ?c61 ?k61 ?a62 ?l62 ?c62 ?k62 ?KMOST_INEQUALITIES ?KJOIN ?KUNKNOWNS ?KKINDS ?LKINDS ?KFIGURES ?KMOST_WEIGHT ?KMOST_CONSTANT ?KNOT_WHOLE ?KNO_POINT ?pgSystem ?hdSystem ?poSystem ?saSystem ?mkSystem ?kpSystem ?naSystem_told ?naSystem_kinds ?naSystem_letters ?naSystem_solid ?naSystem_bounds ?haSystem ?hnSystem ?tkSystem ?mrSystem ?itSystem_bool ?itSystem_int ?itSystem_str ?itSystem_tuple ?pgConsole ?hdConsole ?poConsole ?saConsole ?mkConsole ?kpConsole ?naConsole_kept ?haConsole ?hnConsole ?tkConsole ?mrConsole ?itConsole_bool ?itConsole_int ?itConsole_str ?itConsole_tuple ?icConsole_System ?isSystem ?ibSystem_1 ?ibSystem_2 ?rdSystem ?gtSystem ?b_abs ?b_all ?b_bool ?b_divmod ?b_enumerate ?b_int ?b_isinstance ?b_len ?b_list ?b_max ?b_min ?b_range ?b_repr ?b_str ?b_tuple ?b_zip)
    case G0 =>
      obtain ⟨A, e, Z⟩ := z
      subst e
      refine ⟨A.d_law, LW.tbl _ A, fun s u => ?_, rfl, fun base => (fg Z).top⟩
      obtain ⟨oc, od, kV, doc, pm, an, cv, ct, osl, e, _, _⟩ := Z.F_law.ex
      rw [e]
      exact .of_eq rfl
    (case CSystem => k_is)
    (case CConsole => k_is)
    (case a1 => k_is)
    (case l1 => k_is)
    (case c1 => k_is)
    (case k1 => k_is)
    (case a2 => k_is)
    (case l2 => k_is)
    (case c2 => k_is)
    (case k2 => k_is)
    (case a3 => k_is)
    (case l3 => k_is)
    (case c3 => k_is)
    (case k3 => k_is)
    (case a4 => k_is)
    (case l4 => k_is)
    (case c4 => k_is)
    (case k4 => k_is)
    (case a5 => k_is)
    (case l5 => k_is)
    (case c5 => k_is)
    (case k5 => k_is)
    (case a6 => k_is)
    (case l6 => k_is)
    (case c6 => k_is)
    (case k6 => k_is)
    (case a7 => k_is)
    (case l7 => k_is)
    (case c7 => k_is)
    (case k7 => k_is)
    (case a8 => k_is)
    (case l8 => k_is)
    (case c8 => k_is)
    (case k8 => k_is)
    (case a9 => k_is)
    (case l9 => k_is)
    (case c9 => k_is)
    (case k9 => k_is)
    (case a10 => k_is)
    (case l10 => k_is)
    (case c10 => k_is)
    (case k10 => k_is)
    (case a11 => k_is)
    (case l11 => k_is)
    (case c11 => k_is)
    (case k11 => k_is)
    (case a12 => k_is)
    (case l12 => k_is)
    (case c12 => k_is)
    (case k12 => k_is)
    (case a13 => k_is)
    (case l13 => k_is)
    (case c13 => k_is)
    (case k13 => k_is)
    (case a14 => k_is)
    (case l14 => k_is)
    (case c14 => k_is)
    (case k14 => k_is)
    (case a15 => k_is)
    (case l15 => k_is)
    (case c15 => k_is)
    (case k15 => k_is)
    (case a16 => k_is)
    (case l16 => k_is)
    (case c16 => k_is)
    (case k16 => k_is)
    (case a17 => k_is)
    (case l17 => k_is)
    (case c17 => k_is)
    (case k17 => k_is)
    (case a18 => k_is)
    (case l18 => k_is)
    (case c18 => k_is)
    (case k18 => k_is)
    (case a19 => k_is)
    (case l19 => k_is)
    (case c19 => k_is)
    (case k19 => k_is)
    (case a20 => k_is)
    (case l20 => k_is)
    (case c20 => k_is)
    (case k20 => k_is)
    (case a21 => k_is)
    (case i21 => k_is)
    (case l21 => k_is)
    (case c21 => k_is)
    (case a22 => k_is)
    (case r22 => k_is)
    (case l22 => k_is)
    (case c22 => k_is)
    (case k22 => k_is)
    (case g22 => k_is)
    (case a23 => k_is)
    (case l23 => k_is)
    (case c23 => k_is)
    (case k23 => k_is)
    (case a24 => k_is)
    (case g24 => k_is)
    (case t24 => k_is)
    (case r24 => k_is)
    (case l24 => k_is)
    (case c24 => k_is)
    (case k24 => k_is)
    (case a25 => k_is)
    (case g25 => k_is)
    (case t25 => k_is)
    (case r25 => k_is)
    (case l25 => k_is)
    (case c25 => k_is)
    (case k25 => k_is)
    (case a26 => k_is)
    (case l26 => k_is)
    (case c26 => k_is)
    (case k26 => k_is)
    (case a27 => k_is)
    (case l27 => k_is)
    (case c27 => k_is)
    (case k27 => k_is)
    (case a28 => k_is)
    (case l28 => k_is)
    (case c28 => k_is)
    (case k28 => k_is)
    (case a29 => k_is)
    (case l29 => k_is)
    (case c29 => k_is)
    (case k29 => k_is)
    (case a30 => k_is)
    (case l30 => k_is)
    (case c30 => k_is)
    (case k30 => k_is)
    (case a31 => k_is)
    (case l31 => k_is)
    (case c31 => k_is)
    (case k31 => k_is)
    (case a32 => k_is)
    (case l32 => k_is)
    (case c32 => k_is)
    (case k32 => k_is)
    (case a33 => k_is)
    (case l33 => k_is)
    (case c33 => k_is)
    (case k33 => k_is)
    (case a34 => k_is)
    (case l34 => k_is)
    (case c34 => k_is)
    (case k34 => k_is)
    (case a35 => k_is)
    (case l35 => k_is)
    (case c35 => k_is)
    (case k35 => k_is)
    (case a36 => k_is)
    (case l36 => k_is)
    (case c36 => k_is)
    (case k36 => k_is)
    (case a37 => k_is)
    (case l37 => k_is)
    (case c37 => k_is)
    (case k37 => k_is)
    (case a38 => k_is)
    (case l38 => k_is)
    (case c38 => k_is)
    (case k38 => k_is)
    (case a39 => k_is)
    (case l39 => k_is)
    (case c39 => k_is)
    (case k39 => k_is)
    (case a40 => k_is)
    (case l40 => k_is)
    (case c40 => k_is)
    (case k40 => k_is)
    (case a41 => k_is)
    (case l41 => k_is)
    (case c41 => k_is)
    (case k41 => k_is)
    (case a42 => k_is)
    (case l42 => k_is)
    (case c42 => k_is)
    (case k42 => k_is)
    (case a43 => k_is)
    (case l43 => k_is)
    (case c43 => k_is)
    (case k43 => k_is)
    (case a44 => k_is)
    (case l44 => k_is)
    (case c44 => k_is)
    (case k44 => k_is)
    (case a45 => k_is)
    (case l45 => k_is)
    (case c45 => k_is)
    (case k45 => k_is)
    (case a46 => k_is)
    (case l46 => k_is)
    (case c46 => k_is)
    (case k46 => k_is)
    (case a47 => k_is)
    (case l47 => k_is)
    (case c47 => k_is)
    (case k47 => k_is)
    (case a48 => k_is)
    (case l48 => k_is)
    (case c48 => k_is)
    (case k48 => k_is)
    (case a49 => k_is)
    (case l49 => k_is)
    (case c49 => k_is)
    (case k49 => k_is)
    (case a50 => k_is)
    (case l50 => k_is)
    (case c50 => k_is)
    (case k50 => k_is)
    (case a51 => k_is)
    (case l51 => k_is)
    (case c51 => k_is)
    (case k51 => k_is)
    (case a52 => k_is)
    (case l52 => k_is)
    (case c52 => k_is)
    (case k52 => k_is)
    (case a53 => k_is)
    (case l53 => k_is)
    (case c53 => k_is)
    (case k53 => k_is)
    (case a54 => k_is)
    (case i54 => k_is)
    (case l54 => k_is)
    (case c54 => k_is)
    (case k54 => k_is)
    (case a55 => k_is)
    (case l55 => k_is)
    (case c55 => k_is)
    (case k55 => k_is)
    (case a56 => k_is)
    (case i56 => k_is)
    (case l56 => k_is)
    (case c56 => k_is)
    (case k56 => k_is)
    (case a57 => k_is)
    (case i57 => k_is)
    (case l57 => k_is)
    (case c57 => k_is)
    (case k57 => k_is)
    (case a58 => k_is)
    (case i58 => k_is)
    (case l58 => k_is)
    (case c58 => k_is)
    (case k58 => k_is)
    (case a59 => k_is)
    (case i59 => k_is)
    (case l59 => k_is)
    (case c59 => k_is)
    (case k59 => k_is)
    (case a60 => k_is)
    (case l60 => k_is)
    (case c60 => k_is)
    (case k60 => k_is)
    (case a61 => k_is)
    (case l61 => k_is)
    (case c61 => k_is)
    (case k61 => k_is)
    (case a62 => k_is)
    (case l62 => k_is)
    (case c62 => k_is)
    (case k62 => k_is)
    (case KMOST_INEQUALITIES => k_is)
    (case KJOIN => k_is)
    (case KUNKNOWNS => k_is)
    (case KKINDS => k_is)
    (case LKINDS => k_is)
    (case KFIGURES => k_is)
    (case KMOST_WEIGHT => k_is)
    (case KMOST_CONSTANT => k_is)
    (case KNOT_WHOLE => k_is)
    (case KNO_POINT => k_is)
    (case pgSystem => k_is)
    (case hdSystem => k_is)
    (case poSystem => k_is)
    (case saSystem => k_is)
    (case mkSystem => k_is)
    (case kpSystem => k_is)
    (case naSystem_told => k_is)
    (case naSystem_kinds => k_is)
    (case naSystem_letters => k_is)
    (case naSystem_solid => k_is)
    (case naSystem_bounds => k_is)
    (case haSystem => k_is)
    (case hnSystem => k_is)
    (case tkSystem => k_is)
    (case mrSystem => k_is)
    (case itSystem_bool => k_is)
    (case itSystem_int => k_is)
    (case itSystem_str => k_is)
    (case itSystem_tuple => k_is)
    (case pgConsole => k_is)
    (case hdConsole => k_is)
    (case poConsole => k_is)
    (case saConsole => k_is)
    (case mkConsole => k_is)
    (case kpConsole => k_is)
    (case naConsole_kept => k_is)
    (case haConsole => k_is)
    (case hnConsole => k_is)
    (case tkConsole => k_is)
    (case mrConsole => k_is)
    (case itConsole_bool => k_is)
    (case itConsole_int => k_is)
    (case itConsole_str => k_is)
    (case itConsole_tuple => k_is)
    (case icConsole_System => k_is)
    (case isSystem => k_is)
    (case ibSystem_1 => k_is)
    (case ibSystem_2 => k_is)
    (case rdSystem => k_is)
    (case gtSystem => k_is)
    (case b_abs => k_is)
    (case b_all => k_is)
    (case b_bool => k_is)
    (case b_divmod => k_is)
    (case b_enumerate => k_is)
    (case b_int => k_is)
    (case b_isinstance => k_is)
    (case b_len => k_is)
    (case b_list => k_is)
    (case b_max => k_is)
    (case b_min => k_is)
    (case b_range => k_is)
    (case b_repr => k_is)
    (case b_str => k_is)
    (case b_tuple => k_is)
    (case b_zip => k_is)
end

set_option Elab.async false
set_option linter.all false
set_option maxRecDepth 100000
/-! printed by gen.py: the defs of one law over the LS layer -/
namespace LW
open PySem L2 PySem.Spec LS
open PyProof.Rows hiding St
open ClX
section
variable {P : Program} {w : World} {K : PySem.W.Frag} {mg : Str → Option Value} {base : Heap} {A : Ad}
theorem K_MOST_INEQUALITIES {X : Cx} {W : WX} {pos : Pos} (Z : Fx X.K X.mg A) (hg : Gl X "MOST_INEQUALITIES" := by rfl) : SE X (tbl X.K A) W (.Name "MOST_INEQUALITIES" pos) (eC (.int 10)) := let ⟨_, r, h⟩ := Z.h_MOST_INEQUALITIES; se_glob hg Z.g_MOST_INEQUALITIES r h (by decide)
theorem K_JOIN {X : Cx} {W : WX} {pos : Pos} (Z : Fx X.K X.mg A) (hg : Gl X "JOIN" := by rfl) : SE X (tbl X.K A) W (.Name "JOIN" pos) (eC (.str ", ")) := let ⟨_, r, h⟩ := Z.h_JOIN; se_glob hg Z.g_JOIN r h (by decide)
theorem K_UNKNOWNS {X : Cx} {W : WX} {pos : Pos} (Z : Fx X.K X.mg A) (hg : Gl X "UNKNOWNS" := by rfl) : SE X (tbl X.K A) W (.Name "UNKNOWNS" pos) (eC (.str "xy")) := let ⟨_, r, h⟩ := Z.h_UNKNOWNS; se_glob hg Z.g_UNKNOWNS r h (by decide)
theorem K_KINDS {X : Cx} {W : WX} {pos : Pos} (Z : Fx X.K X.mg A) (hg : Gl X "KINDS" := by rfl) : SE X (tbl X.K A) W (.Name "KINDS" pos) (eC (.tup [(.str "whole"), (.str "any")])) := let ⟨_, r, h⟩ := Z.h_KINDS; se_glob hg Z.g_KINDS r h (by decide)
theorem K_FIGURES {X : Cx} {W : WX} {pos : Pos} (Z : Fx X.K X.mg A) (hg : Gl X "FIGURES" := by rfl) : SE X (tbl X.K A) W (.Name "FIGURES" pos) (eC (.str "0123456789")) := let ⟨_, r, h⟩ := Z.h_FIGURES; se_glob hg Z.g_FIGURES r h (by decide)
theorem K_MOST_WEIGHT {X : Cx} {W : WX} {pos : Pos} (Z : Fx X.K X.mg A) (hg : Gl X "MOST_WEIGHT" := by rfl) : SE X (tbl X.K A) W (.Name "MOST_WEIGHT" pos) (eC (.int 99)) := let ⟨_, r, h⟩ := Z.h_MOST_WEIGHT; se_glob hg Z.g_MOST_WEIGHT r h (by decide)
theorem K_MOST_CONSTANT {X : Cx} {W : WX} {pos : Pos} (Z : Fx X.K X.mg A) (hg : Gl X "MOST_CONSTANT" := by rfl) : SE X (tbl X.K A) W (.Name "MOST_CONSTANT" pos) (eC (.int 1000000)) := let ⟨_, r, h⟩ := Z.h_MOST_CONSTANT; se_glob hg Z.g_MOST_CONSTANT r h (by decide)
theorem K_NOT_WHOLE {X : Cx} {W : WX} {pos : Pos} (Z : Fx X.K X.mg A) (hg : Gl X "NOT_WHOLE" := by rfl) : SE X (tbl X.K A) W (.Name "NOT_WHOLE" pos) (eC (.str "not whole")) := let ⟨_, r, h⟩ := Z.h_NOT_WHOLE; se_glob hg Z.g_NOT_WHOLE r h (by decide)
theorem K_NO_POINT {X : Cx} {W : WX} {pos : Pos} (Z : Fx X.K X.mg A) (hg : Gl X "NO_POINT" := by rfl) : SE X (tbl X.K A) W (.Name "NO_POINT" pos) (eC (.str "no point")) := let ⟨_, r, h⟩ := Z.h_NO_POINT; se_glob hg Z.g_NO_POINT r h (by decide)
theorem cf_bounds (Z : Fx K mg A) : ∀ q ∈ ([(0, 4)] : List (Nat × Nat)), CF (tbl K A) q.1 "bounds" q.2 := by
  intro q hq
  simp only [List.mem_cons, List.not_mem_nil, or_false] at hq
  rcases hq with rfl
  · exact ⟨Z.cl_System, Z.na_System_bounds, rfl, (show (cfOf 0).Nodup by decide), (show (cfOf 0).length < 1000 by decide)⟩
theorem cf_kept (Z : Fx K mg A) : ∀ q ∈ ([(1, 0)] : List (Nat × Nat)), CF (tbl K A) q.1 "kept" q.2 := by
  intro q hq
  simp only [List.mem_cons, List.not_mem_nil, or_false] at hq
  rcases hq with rfl
  · exact ⟨Z.cl_Console, Z.na_Console_kept, rfl, (show (cfOf 1).Nodup by decide), (show (cfOf 1).length < 1000 by decide)⟩
theorem cf_kinds (Z : Fx K mg A) : ∀ q ∈ ([(0, 1)] : List (Nat × Nat)), CF (tbl K A) q.1 "kinds" q.2 := by
  intro q hq
  simp only [List.mem_cons, List.not_mem_nil, or_false] at hq
  rcases hq with rfl
  · exact ⟨Z.cl_System, Z.na_System_kinds, rfl, (show (cfOf 0).Nodup by decide), (show (cfOf 0).length < 1000 by decide)⟩
theorem cf_letters (Z : Fx K mg A) : ∀ q ∈ ([(0, 2)] : List (Nat × Nat)), CF (tbl K A) q.1 "letters" q.2 := by
  intro q hq
  simp only [List.mem_cons, List.not_mem_nil, or_false] at hq
  rcases hq with rfl
  · exact ⟨Z.cl_System, Z.na_System_letters, rfl, (show (cfOf 0).Nodup by decide), (show (cfOf 0).length < 1000 by decide)⟩
theorem cf_solid (Z : Fx K mg A) : ∀ q ∈ ([(0, 3)] : List (Nat × Nat)), CF (tbl K A) q.1 "solid" q.2 := by
  intro q hq
  simp only [List.mem_cons, List.not_mem_nil, or_false] at hq
  rcases hq with rfl
  · exact ⟨Z.cl_System, Z.na_System_solid, rfl, (show (cfOf 0).Nodup by decide), (show (cfOf 0).length < 1000 by decide)⟩
theorem cf_told (Z : Fx K mg A) : ∀ q ∈ ([(0, 0)] : List (Nat × Nat)), CF (tbl K A) q.1 "told" q.2 := by
  intro q hq
  simp only [List.mem_cons, List.not_mem_nil, or_false] at hq
  rcases hq with rfl
  · exact ⟨Z.cl_System, Z.na_System_told, rfl, (show (cfOf 0).Nodup by decide), (show (cfOf 0).length < 1000 by decide)⟩
theorem it_bool (Z : Fx K mg A) : ∀ c ∈ own_cs, IC (tbl K A) c ∧ PySem.W.kitOne (tbl K A).K (.ref ((tbl K A).ca c)) (.type "bool") = some false := by
  intro c hc
  unfold own_cs at hc
  simp only [List.mem_cons, List.not_mem_nil, or_false] at hc
  rcases hc with rfl | rfl
  · exact ⟨Z.ic_System, Z.it_System_bool⟩
  · exact ⟨Z.ic_Console, Z.it_Console_bool⟩
theorem it_int (Z : Fx K mg A) : ∀ c ∈ own_cs, IC (tbl K A) c ∧ PySem.W.kitOne (tbl K A).K (.ref ((tbl K A).ca c)) (.type "int") = some false := by
  intro c hc
  unfold own_cs at hc
  simp only [List.mem_cons, List.not_mem_nil, or_false] at hc
  rcases hc with rfl | rfl
  · exact ⟨Z.ic_System, Z.it_System_int⟩
  · exact ⟨Z.ic_Console, Z.it_Console_int⟩
theorem it_str (Z : Fx K mg A) : ∀ c ∈ own_cs, IC (tbl K A) c ∧ PySem.W.kitOne (tbl K A).K (.ref ((tbl K A).ca c)) (.type "str") = some false := by
  intro c hc
  unfold own_cs at hc
  simp only [List.mem_cons, List.not_mem_nil, or_false] at hc
  rcases hc with rfl | rfl
  · exact ⟨Z.ic_System, Z.it_System_str⟩
  · exact ⟨Z.ic_Console, Z.it_Console_str⟩
theorem it_tuple (Z : Fx K mg A) : ∀ c ∈ own_cs, IC (tbl K A) c ∧ PySem.W.kitOne (tbl K A).K (.ref ((tbl K A).ca c)) (.type "tuple") = some false := by
  intro c hc
  unfold own_cs at hc
  simp only [List.mem_cons, List.not_mem_nil, or_false] at hc
  rcases hc with rfl | rfl
  · exact ⟨Z.ic_System, Z.it_System_tuple⟩
  · exact ⟨Z.ic_Console, Z.it_Console_tuple⟩
theorem ib_System (Z : Fx K mg A) : ∀ a ∈ six, PySem.W.kitOne (tbl K A).K (.type a) (.ref ((tbl K A).ca 0)) = some false := Z.ib_System
theorem ic_System (Z : Fx K mg A) : ∀ q ∈ own_System, IC (tbl K A) q.1 ∧ PySem.W.kitOne (tbl K A).K (.ref ((tbl K A).ca q.1)) (.ref ((tbl K A).ca 0)) = some q.2 := by
  intro q hq
  unfold own_System at hq
  simp only [List.mem_cons, List.not_mem_nil, or_false] at hq
  rcases hq with rfl | rfl
  · exact ⟨Z.ic_System, Z.ic_System_System⟩
  · exact ⟨Z.ic_Console, Z.ic_Console_System⟩
theorem sc__law_draw : FnScope ["_law_spring_here", "_law_size", "_law_digit", "_law_far", "_law_mixed"] ["_law_spring_here", "_law_size"] (defScope s__law_draw) := ⟨rfl, rfl, rfl, by decide +kernel, rfl, by decide +kernel, by decide +kernel⟩
def q__law_draw : Sx := (sSeq (sAsg (e2 addD (e2 ixD (eLook 0) (eC (.int 2))) (eC (.int 1))) (gItem 0 (eC (.int 2))))
    (sSeq (sAsg (e2 modD (eCall (g1 intD) (aCons (e2 addD (e2 addD (e2 mulD (e2 ixD (eLook 0) (eC (.int 1))) (eC (.int 69621))) (e2 mulD (eC (.int 40503)) (e2 ixD (eLook 0) (eC (.int 2))))) (eC (.int 1))) aNil)) (eC (.int 2147483647))) (gItem 0 (eC (.int 1))))
    (sSeq (sIf (tB2 gtD (e2 ixD (eLook 0) (eC (.int 0))) (eC (.int 0))) (sSeq (sAsg (eCall (g2 divmodD) (aCons (e2 ixD (eLook 0) (eC (.int 0))) (aCons (eLook 1) aNil))) (gTp 2 (gMore (gItem 0 (eC (.int 0))) (gMore (gNm 2) gNone))))
    (sRet (eVar 2))) sNil)
    (sSeq (sSet 3 (e2 addD (e2 ixD (eLook 0) (eC (.int 1))) (eC (.int 12345))))
    (sSeq (sSet 4 (e2 modD (eCall (g1 intD) (aCons (e2 addD (e2 mulD (eLook 3) (e2 ixD (eLook 0) (eC (.int 1)))) (e2 ixD (eLook 0) (eC (.int 2)))) aNil)) (eC (.int 2147483629))))
    (sRet (e2 modD (eCall (g1 intD) (aCons (e2 fdivD (eLook 4) (eC (.int 256))) aNil)) (eLook 1))))))))
def f__law_draw (ds : List D) : M D := fnM 5 q__law_draw ds
set_option maxHeartbeats 4000000 in
theorem fg__law_draw {P : Program} {w : World} {K : PySem.W.Frag} {mg : Str → Option Value} {base : Heap} {A : Ad} (Z : Fx K mg A) : FnG false P w K mg base 1 A.a__law_draw A.d__law_draw ["_law_spring_here", "_law_size"] (spOf (tbl K A) 2 f__law_draw) :=
  fng_den (T := tbl K A) Z.F__law_draw sc__law_draw (fun cv Ar out s H E hr =>
    (ss_cons (ss_asg (se_op op_plus (ok_add rfl) (SE.sb (se_ix (vb 0) (SE.sb se_int))) (SE.sb se_int)) (xitem 0 (SE.sb se_int)))
    (ss_cons (ss_asg (se_op op_modN ok_mod (SE.sb (w_int Z.b_int (sab_cons (SE.sb (se_op op_plus (ok_add rfl) (SE.sb (se_op op_plus (ok_add rfl) (SE.sb (se_op op_times ok_mul (SE.sb (se_ix (vb 0) (SE.sb se_int))) (SE.sb se_int))) (SE.sb (se_op op_times ok_mul (SE.sb se_int) (SE.sb (se_ix (vb 0) (SE.sb se_int))))))) (SE.sb se_int))) sab_nil))) (SE.sb se_int)) (xitem 0 (SE.sb se_int)))
    (ss_cons (ss_if (st_cmp op_gt ok_gt (SE.sb (se_ix (vb 0) (SE.sb se_int))) (SE.sb se_int) rfl) (ss_cons (ss_asg (w_divmod Z.b_divmod (sab_cons (SE.sb (se_ix (vb 0) (SE.sb se_int))) (sab_cons (vb 1) sab_nil))) (sg_tup rfl (sgs_cons (xitem 0 (SE.sb se_int)) (sgs_cons (tn 2 sc__law_draw.nd) sgs_nil))))
    (ss_one (ss_ret (v 2)))) ss_nil)
    (ss_cons (xset 3 sc__law_draw.nd (se_op op_plus (ok_add rfl) (SE.sb (se_ix (vb 0) (SE.sb se_int))) (SE.sb se_int)))
    (ss_cons (xset 4 sc__law_draw.nd (se_op op_modN ok_mod (SE.sb (w_int Z.b_int (sab_cons (SE.sb (se_op op_plus (ok_add rfl) (SE.sb (se_op op_times ok_mul (vb 3) (SE.sb (se_ix (vb 0) (SE.sb se_int))))) (SE.sb (se_ix (vb 0) (SE.sb se_int))))) sab_nil))) (SE.sb se_int)))
    (ss_one (ss_ret (se_op op_modN ok_mod (SE.sb (w_int Z.b_int (sab_cons (SE.sb (se_op op_fdivA ok_fdiv (vb 4) (SE.sb se_int))) sab_nil))) (vb 1))))))))))
theorem ok__law_draw {P : Program} {w : World} {K : PySem.W.Frag} {mg : Str → Option Value} {base : Heap} {A : Ad} (Z : Fx K mg A) : FnP false P w K mg base 1 A.a__law_draw (spOf (tbl K A) 2 f__law_draw) := (fg__law_draw Z).byP0 (Z.F__law_draw.binds fun _ _ _ _ _ _ us hl => match us, hl with | [_, _], _ => rfl)
theorem sc__law_of : FnScope ["_law_spring_here", "_law_menu"] ["_law_spring_here", "_law_menu"] (defScope s__law_of) := ⟨rfl, rfl, rfl, by decide +kernel, rfl, by decide +kernel, by decide +kernel⟩
def q__law_of : Sx := (sRet (e2 ixD (eLook 1) (eFn 2 f__law_draw (aCons (eVar 0) (aCons (eCall (g1 lenD) (aCons (eLook 1) aNil)) aNil)))))
def f__law_of (ds : List D) : M D := fnM 2 q__law_of ds
set_option maxHeartbeats 4000000 in
theorem fg__law_of {P : Program} {w : World} {K : PySem.W.Frag} {mg : Str → Option Value} {base : Heap} {A : Ad} (Z : Fx K mg A) : FnG false P w K mg base 2 A.a__law_of A.d__law_of ["_law_spring_here", "_law_menu"] (spOf (tbl K A) 2 f__law_of) :=
  fng_den (T := tbl K A) Z.F__law_of sc__law_of (fun cv Ar out s H E hr =>
    (ss_one (ss_ret (se_ix (vb 1) (SE.sb (se_call ((ok__law_draw Z).up (by decide)) hr rfl Z.m__law_draw Z.k__law_draw (takes_of rfl rfl rfl rfl) (sa_cons (v 0) (sa_cons (w_len Z.b_len (sab_cons (vb 1) sab_nil)) sa_nil))))))))
theorem ok__law_of {P : Program} {w : World} {K : PySem.W.Frag} {mg : Str → Option Value} {base : Heap} {A : Ad} (Z : Fx K mg A) : FnP false P w K mg base 2 A.a__law_of (spOf (tbl K A) 2 f__law_of) := (fg__law_of Z).byP0 (Z.F__law_of.binds fun _ _ _ _ _ _ us hl => match us, hl with | [_, _], _ => rfl)
theorem sc__law_first_row : FnScope ["_law_spring_here", "_law_some"] ["_law_spring_here"] (defScope s__law_first_row) := ⟨rfl, rfl, rfl, by decide +kernel, rfl, by decide +kernel, by decide +kernel⟩
def q__law_first_row : Sx := (sSeq (sSet 1 (eN (nLst (aCons (eC (.str "x whole, y whole")) (aCons (eC (.str "x whole, y whole")) (aCons (eC (.str "x whole, y whole")) (aCons (eC (.str "x whole")) (aCons (eC (.str "x any")) (aCons (eC (.str "x whole, y any")) aNil)))))))))
    (sRet (eFn 2 f__law_of (aCons (eVar 0) (aCons (eN (n2 catN (eLook 1) (eN (nLst (aCons (eC (.str "x any, y whole")) (aCons (eC (.str "x any, y any")) aNil)))))) aNil)))))
def f__law_first_row (ds : List D) : M D := fnM 2 q__law_first_row ds
set_option maxHeartbeats 4000000 in
theorem fg__law_first_row {P : Program} {w : World} {K : PySem.W.Frag} {mg : Str → Option Value} {base : Heap} {A : Ad} (Z : Fx K mg A) : FnG false P w K mg base 3 A.a__law_first_row A.d__law_first_row ["_law_spring_here"] (spOf (tbl K A) 1 f__law_first_row) :=
  fng_den (T := tbl K A) Z.F__law_first_row sc__law_first_row (fun cv Ar out s H E hr =>
    (ss_cons (xset 1 sc__law_first_row.nd (SN.se (sn_lst (sa_cons se_str (sa_cons se_str (sa_cons se_str (sa_cons se_str (sa_cons se_str (sa_cons se_str sa_nil)))))))))
    (ss_one (ss_ret (se_call ((ok__law_of Z).up (by decide)) hr rfl Z.m__law_of Z.k__law_of (takes_of rfl rfl rfl rfl) (sa_cons (v 0) (sa_cons (SN.se (sn_cat (vb 1) (SE.sb (SN.se (sn_lst (sa_cons se_str (sa_cons se_str sa_nil))))))) sa_nil)))))))
theorem ok__law_first_row {P : Program} {w : World} {K : PySem.W.Frag} {mg : Str → Option Value} {base : Heap} {A : Ad} (Z : Fx K mg A) : FnP false P w K mg base 3 A.a__law_first_row (spOf (tbl K A) 1 f__law_first_row) := (fg__law_first_row Z).byP0 (Z.F__law_first_row.binds fun _ _ _ _ _ _ us hl => match us, hl with | [_], _ => rfl)
theorem sc__law_two : FnScope ["_law_spring_here", "_law_found", "_law_times_now"] ["_law_spring_here"] (defScope s__law_two) := ⟨rfl, rfl, rfl, by decide +kernel, rfl, by decide +kernel, by decide +kernel⟩
def q__law_two : Sx := (sSeq (sSet 1 (eN (nLst (aCons (e2 subD (eFn 2 f__law_draw (aCons (eVar 0) (aCons (eC (.int 199)) aNil))) (eC (.int 99))) (aCons (e2 subD (eFn 2 f__law_draw (aCons (eVar 0) (aCons (eC (.int 199)) aNil))) (eC (.int 99))) aNil)))))
    (sSeq (sIf (tB2 eqD (eFn 2 f__law_draw (aCons (eVar 0) (aCons (eC (.int 3)) aNil))) (eC (.int 0))) (sSeq (sSet 2 (eFn 2 f__law_of (aCons (eVar 0) (aCons (eN (nLst (aCons (eC (.int 2)) (aCons (eC (.int 3)) (aCons (eC (.int 5)) (aCons (eC (.int 7)) (aCons (eC (.int 11)) aNil))))))) aNil))))
    (sSet 1 (eN (nLst (aCons (e2 mulD (eLook 2) (e2 subD (eFn 2 f__law_draw (aCons (eVar 0) (aCons (eC (.int 17)) aNil))) (eC (.int 8)))) (aCons (e2 mulD (eLook 2) (e2 subD (eFn 2 f__law_draw (aCons (eVar 0) (aCons (eC (.int 17)) aNil))) (eC (.int 8)))) aNil)))))) sNil)
    (sRet (eIf (tB2 eqD (e2 ixD (eLook 1) (eC (.int 1))) (eC (.int 0))) (eTup (aCons (e2 ixD (eLook 1) (eC (.int 0))) (aCons (eC (.int 6)) aNil))) (eCall (g1 tupleD) (aCons (eLook 1) aNil))))))
def f__law_two (ds : List D) : M D := fnM 3 q__law_two ds
set_option maxHeartbeats 4000000 in
theorem fg__law_two {P : Program} {w : World} {K : PySem.W.Frag} {mg : Str → Option Value} {base : Heap} {A : Ad} (Z : Fx K mg A) : FnG false P w K mg base 3 A.a__law_two A.d__law_two ["_law_spring_here"] (spOf (tbl K A) 1 f__law_two) :=
  fng_den (T := tbl K A) Z.F__law_two sc__law_two (fun cv Ar out s H E hr =>
    (ss_cons (xset 1 sc__law_two.nd (SN.se (sn_lst (sa_cons (se_op op_sub' ok_sub (SE.sb (se_call ((ok__law_draw Z).up (by decide)) hr rfl Z.m__law_draw Z.k__law_draw (takes_of rfl rfl rfl rfl) (sa_cons (v 0) (sa_cons se_int sa_nil)))) (SE.sb se_int)) (sa_cons (se_op op_sub' ok_sub (SE.sb (se_call ((ok__law_draw Z).up (by decide)) hr rfl Z.m__law_draw Z.k__law_draw (takes_of rfl rfl rfl rfl) (sa_cons (v 0) (sa_cons se_int sa_nil)))) (SE.sb se_int)) sa_nil)))))
    (ss_cons (ss_if (st_cmp (op_eqA hr.u64) (ok_eq rfl) (SE.sb (se_call ((ok__law_draw Z).up (by decide)) hr rfl Z.m__law_draw Z.k__law_draw (takes_of rfl rfl rfl rfl) (sa_cons (v 0) (sa_cons se_int sa_nil)))) (SE.sb se_int) rfl) (ss_cons (xset 2 sc__law_two.nd (se_call ((ok__law_of Z).up (by decide)) hr rfl Z.m__law_of Z.k__law_of (takes_of rfl rfl rfl rfl) (sa_cons (v 0) (sa_cons (SN.se (sn_lst (sa_cons se_int (sa_cons se_int (sa_cons se_int (sa_cons se_int (sa_cons se_int sa_nil))))))) sa_nil))))
    (ss_one (xset 1 sc__law_two.nd (SN.se (sn_lst (sa_cons (se_op op_times ok_mul (vb 2) (SE.sb (se_op op_sub' ok_sub (SE.sb (se_call ((ok__law_draw Z).up (by decide)) hr rfl Z.m__law_draw Z.k__law_draw (takes_of rfl rfl rfl rfl) (sa_cons (v 0) (sa_cons se_int sa_nil)))) (SE.sb se_int)))) (sa_cons (se_op op_times ok_mul (vb 2) (SE.sb (se_op op_sub' ok_sub (SE.sb (se_call ((ok__law_draw Z).up (by decide)) hr rfl Z.m__law_draw Z.k__law_draw (takes_of rfl rfl rfl rfl) (sa_cons (v 0) (sa_cons se_int sa_nil)))) (SE.sb se_int)))) sa_nil))))))) ss_nil)
    (ss_one (ss_ret (se_if (st_cmp (op_eqA hr.u64) (ok_eq rfl) (SE.sb (se_ix (vb 1) (SE.sb se_int))) (SE.sb se_int) rfl) (se_tup (sa_cons (se_ix (vb 1) (SE.sb se_int)) (sa_cons se_int sa_nil))) (w_tuple Z.b_tuple (sab_cons (vb 1) sab_nil))))))))
theorem ok__law_two {P : Program} {w : World} {K : PySem.W.Frag} {mg : Str → Option Value} {base : Heap} {A : Ad} (Z : Fx K mg A) : FnP false P w K mg base 3 A.a__law_two (spOf (tbl K A) 1 f__law_two) := (fg__law_two Z).byP0 (Z.F__law_two.binds fun _ _ _ _ _ _ us hl => match us, hl with | [_], _ => rfl)
theorem sc__law_term : FnScope ["_law_size", "_law_sign"] ["_law_size", "_law_sign"] (defScope s__law_term) := ⟨rfl, rfl, rfl, by decide +kernel, rfl, by decide +kernel, by decide +kernel⟩
def q__law_term : Sx := (sRet (eIf (tB2 eqD (eCall (g1 absD) (aCons (eLook 0) aNil)) (eC (.int 1))) (eVar 1) (e2 addD (e2 addD (eCall (g1 strD) (aCons (eCall (g1 absD) (aCons (eLook 0) aNil)) aNil)) (eC (.str "*"))) (eLook 1))))
def f__law_term (ds : List D) : M D := fnM 2 q__law_term ds
set_option maxHeartbeats 4000000 in
theorem fg__law_term {P : Program} {w : World} {K : PySem.W.Frag} {mg : Str → Option Value} {base : Heap} {A : Ad} (Z : Fx K mg A) : FnG false P w K mg base 1 A.a__law_term A.d__law_term ["_law_size", "_law_sign"] (spOf (tbl K A) 2 f__law_term) :=
  fng_den (T := tbl K A) Z.F__law_term sc__law_term (fun cv Ar out s H E hr =>
    (ss_one (ss_ret (se_if (st_cmp (op_eqA hr.u64) (ok_eq rfl) (SE.sb (w_abs Z.b_abs (sab_cons (vb 0) sab_nil))) (SE.sb se_int) rfl) (v 1) (se_op op_plus (ok_add rfl) (SE.sb (se_op op_plus (ok_add rfl) (SE.sb (w_str Z.b_str (sab_cons (SE.sb (w_abs Z.b_abs (sab_cons (vb 0) sab_nil))) sab_nil))) (SE.sb se_str))) (vb 1))))))
theorem ok__law_term {P : Program} {w : World} {K : PySem.W.Frag} {mg : Str → Option Value} {base : Heap} {A : Ad} (Z : Fx K mg A) : FnP false P w K mg base 1 A.a__law_term (spOf (tbl K A) 2 f__law_term) := (fg__law_term Z).byP0 (Z.F__law_term.binds fun _ _ _ _ _ _ us hl => match us, hl with | [_, _], _ => rfl)
theorem sc__law_sum_text : FnScope ["_law_weights_now", "_law_found", "_law_size", "_law_sign", "_law_joint"] ["_law_weights_now"] (defScope s__law_sum_text) := ⟨rfl, rfl, rfl, by decide +kernel, rfl, by decide +kernel, by decide +kernel⟩
def q__law_sum_text : Sx := (sSeq (sSet 1 (eC (.str "")))
    (sSeq (sFor (iA zipM (aCons (eVar 0) (aCons (eC (.str "xy")) aNil))) (gTp 2 (gMore (gNm 2) (gMore (gNm 3) gNone))) (sIf (tB2 neD (eLook 2) (eC (.int 0))) (sSeq (sSet 4 (eIf (tB2 eqD (eLook 1) (eC (.str ""))) (eIf (tB2 ltD (eLook 2) (eC (.int 0))) (eC (.str "-")) (eC (.str ""))) (eIf (tB2 ltD (eLook 2) (eC (.int 0))) (eC (.str " - ")) (eC (.str " + ")))))
    (sSet 1 (e2 addD (e2 addD (eLook 1) (eLook 4)) (eFn 2 f__law_term (aCons (eVar 2) (aCons (eVar 3) aNil)))))) sNil))
    (sRet (eVar 1))))
def f__law_sum_text (ds : List D) : M D := fnM 5 q__law_sum_text ds
set_option maxHeartbeats 4000000 in
theorem fg__law_sum_text {P : Program} {w : World} {K : PySem.W.Frag} {mg : Str → Option Value} {base : Heap} {A : Ad} (Z : Fx K mg A) : FnG false P w K mg base 2 A.a__law_sum_text A.d__law_sum_text ["_law_weights_now"] (spOf (tbl K A) 1 f__law_sum_text) :=
  fng_den (T := tbl K A) Z.F__law_sum_text sc__law_sum_text (fun cv Ar out s H E hr =>
    (ss_cons (xset 1 sc__law_sum_text.nd se_str)
    (ss_cons (ss_for (passes_of rfl) rfl (si_zip rfl Z.b_zip (sa_cons (v 0) (sa_cons se_str sa_nil))) (sg_tup rfl (sgs_cons (tn 2 sc__law_sum_text.nd) (sgs_cons (tn 3 sc__law_sum_text.nd) sgs_nil))) (ss_one (ss_if (st_cmp (op_neA hr.u64) (ok_ne rfl) (vb 2) (SE.sb se_int) rfl) (ss_cons (xset 4 sc__law_sum_text.nd (se_if (st_cmp (op_eqA hr.u64) (ok_eq rfl) (vb 1) (SE.sb se_str) rfl) (se_if (st_cmp op_lt ok_lt (vb 2) (SE.sb se_int) rfl) se_str se_str) (se_if (st_cmp op_lt ok_lt (vb 2) (SE.sb se_int) rfl) se_str se_str)))
    (ss_one (xset 1 sc__law_sum_text.nd (se_op op_plus (ok_add rfl) (SE.sb (se_op op_plus (ok_add rfl) (vb 1) (vb 4))) (SE.sb (se_call ((ok__law_term Z).up (by decide)) hr rfl Z.m__law_term Z.k__law_term (takes_of rfl rfl rfl rfl) (sa_cons (v 2) (sa_cons (v 3) sa_nil)))))))) ss_nil)))
    (ss_one (ss_ret (v 1))))))
theorem ok__law_sum_text {P : Program} {w : World} {K : PySem.W.Frag} {mg : Str → Option Value} {base : Heap} {A : Ad} (Z : Fx K mg A) : FnP false P w K mg base 2 A.a__law_sum_text (spOf (tbl K A) 1 f__law_sum_text) := (fg__law_sum_text Z).byP0 (Z.F__law_sum_text.binds fun _ _ _ _ _ _ us hl => match us, hl with | [_], _ => rfl)
theorem sc__law_row_text : FnScope ["_law_weights_now", "_law_sign", "_law_c"] ["_law_weights_now", "_law_sign", "_law_c"] (defScope s__law_row_text) := ⟨rfl, rfl, rfl, by decide +kernel, rfl, by decide +kernel, by decide +kernel⟩
def q__law_row_text : Sx := (sRet (e2 addD (e2 addD (e2 addD (e2 addD (eFn 1 f__law_sum_text (aCons (eVar 0) aNil)) (eC (.str " "))) (eLook 1)) (eC (.str " "))) (eCall (g1 strD) (aCons (eLook 2) aNil))))
def f__law_row_text (ds : List D) : M D := fnM 3 q__law_row_text ds
set_option maxHeartbeats 4000000 in
theorem fg__law_row_text {P : Program} {w : World} {K : PySem.W.Frag} {mg : Str → Option Value} {base : Heap} {A : Ad} (Z : Fx K mg A) : FnG false P w K mg base 3 A.a__law_row_text A.d__law_row_text ["_law_weights_now", "_law_sign", "_law_c"] (spOf (tbl K A) 3 f__law_row_text) :=
  fng_den (T := tbl K A) Z.F__law_row_text sc__law_row_text (fun cv Ar out s H E hr =>
    (ss_one (ss_ret (se_op op_plus (ok_add rfl) (SE.sb (se_op op_plus (ok_add rfl) (SE.sb (se_op op_plus (ok_add rfl) (SE.sb (se_op op_plus (ok_add rfl) (SE.sb (se_call ((ok__law_sum_text Z).up (by decide)) hr rfl Z.m__law_sum_text Z.k__law_sum_text (takes_of rfl rfl rfl rfl) (sa_cons (v 0) sa_nil))) (SE.sb se_str))) (vb 1))) (SE.sb se_str))) (SE.sb (w_str Z.b_str (sab_cons (vb 2) sab_nil)))))))
theorem ok__law_row_text {P : Program} {w : World} {K : PySem.W.Frag} {mg : Str → Option Value} {base : Heap} {A : Ad} (Z : Fx K mg A) : FnP false P w K mg base 3 A.a__law_row_text (spOf (tbl K A) 3 f__law_row_text) := (fg__law_row_text Z).byP0 (Z.F__law_row_text.binds fun _ _ _ _ _ _ us hl => match us, hl with | [_, _, _], _ => rfl)
theorem sc__law_great : FnScope ["_law_spring_here", "_law_some"] ["_law_spring_here"] (defScope s__law_great) := ⟨rfl, rfl, rfl, by decide +kernel, rfl, by decide +kernel, by decide +kernel⟩
def q__law_great : Sx := (sSeq (sSet 1 (eN (nLst (aCons (e2 subD (eFn 2 f__law_draw (aCons (eVar 0) (aCons (eC (.int 40)) aNil))) (eC (.int 20))) (aCons (eFn 2 f__law_draw (aCons (eVar 0) (aCons (e2 powD (eC (.int 10)) (eC (.int 6))) aNil))) (aCons (e2 subD (eC (.int 0)) (eFn 2 f__law_draw (aCons (eVar 0) (aCons (e2 powD (eC (.int 10)) (eC (.int 6))) aNil)))) aNil))))))
    (sRet (eFn 2 f__law_of (aCons (eVar 0) (aCons (eN (n2 catN (eLook 1) (eN (nLst (aCons (e2 powD (eC (.int 10)) (eC (.int 6))) (aCons (e2 subD (eC (.int 0)) (e2 powD (eC (.int 10)) (eC (.int 6)))) aNil)))))) aNil)))))
def f__law_great (ds : List D) : M D := fnM 2 q__law_great ds
set_option maxHeartbeats 4000000 in
theorem fg__law_great {P : Program} {w : World} {K : PySem.W.Frag} {mg : Str → Option Value} {base : Heap} {A : Ad} (Z : Fx K mg A) : FnG false P w K mg base 3 A.a__law_great A.d__law_great ["_law_spring_here"] (spOf (tbl K A) 1 f__law_great) :=
  fng_den (T := tbl K A) Z.F__law_great sc__law_great (fun cv Ar out s H E hr =>
    (ss_cons (xset 1 sc__law_great.nd (SN.se (sn_lst (sa_cons (se_op op_sub' ok_sub (SE.sb (se_call ((ok__law_draw Z).up (by decide)) hr rfl Z.m__law_draw Z.k__law_draw (takes_of rfl rfl rfl rfl) (sa_cons (v 0) (sa_cons se_int sa_nil)))) (SE.sb se_int)) (sa_cons (se_call ((ok__law_draw Z).up (by decide)) hr rfl Z.m__law_draw Z.k__law_draw (takes_of rfl rfl rfl rfl) (sa_cons (v 0) (sa_cons (se_op op_pow ok_pow (SE.sb se_int) (SE.sb se_int)) sa_nil))) (sa_cons (se_op op_sub' ok_sub (SE.sb se_int) (SE.sb (se_call ((ok__law_draw Z).up (by decide)) hr rfl Z.m__law_draw Z.k__law_draw (takes_of rfl rfl rfl rfl) (sa_cons (v 0) (sa_cons (se_op op_pow ok_pow (SE.sb se_int) (SE.sb se_int)) sa_nil))))) sa_nil))))))
    (ss_one (ss_ret (se_call ((ok__law_of Z).up (by decide)) hr rfl Z.m__law_of Z.k__law_of (takes_of rfl rfl rfl rfl) (sa_cons (v 0) (sa_cons (SN.se (sn_cat (vb 1) (SE.sb (SN.se (sn_lst (sa_cons (se_op op_pow ok_pow (SE.sb se_int) (SE.sb se_int)) (sa_cons (se_op op_sub' ok_sub (SE.sb se_int) (SE.sb (se_op op_pow ok_pow (SE.sb se_int) (SE.sb se_int)))) sa_nil))))))) sa_nil)))))))
theorem ok__law_great {P : Program} {w : World} {K : PySem.W.Frag} {mg : Str → Option Value} {base : Heap} {A : Ad} (Z : Fx K mg A) : FnP false P w K mg base 3 A.a__law_great (spOf (tbl K A) 1 f__law_great) := (fg__law_great Z).byP0 (Z.F__law_great.binds fun _ _ _ _ _ _ us hl => match us, hl with | [_], _ => rfl)
theorem sc__law_wide_rows : FnScope ["_law_spring_here", "_law_first_row_here", "_law_many", "_law_found", "_law_turn", "_law_weights_now"] ["_law_spring_here"] (defScope s__law_wide_rows) := ⟨rfl, rfl, rfl, by decide +kernel, rfl, by decide +kernel, by decide +kernel⟩
def q__law_wide_rows : Sx := (sSeq (sSet 1 (eFn 1 f__law_first_row (aCons (eVar 0) aNil)))
    (sSeq (sPX2 2 3 (xV (eCall (g1 lenD) (aCons (eN (splitN (eLook 1) (eC (.str ", ")))) aNil)) (xN (nLst (aCons (eVar 1) aNil)) xNil)))
    (sSeq (sFor (iA rng1M (aCons (eFn 2 f__law_draw (aCons (eVar 0) (aCons (eC (.int 6)) aNil))) aNil)) (gNm 4) (sSeq (sSet 5 (eSl (eN (listN (aCons (eFn 1 f__law_two (aCons (eVar 0) aNil)) aNil))) oNo (oInt (eLook 2))))
    (sSeq (sSet 5 (eIf (tB2 eqD (eLook 5) (eN (nLst (aCons (eC (.int 0)) aNil)))) (eN (nLst (aCons (eC (.int 7)) aNil))) (eVar 5)))
    (sMut 3 kApp (aCons (eFn 3 f__law_row_text (aCons (eVar 5) (aCons (eFn 2 f__law_of (aCons (eVar 0) (aCons (eN (nLst (aCons (eC (.str "<=")) (aCons (eC (.str ">=")) aNil)))) aNil))) (aCons (eFn 1 f__law_great (aCons (eVar 0) aNil)) aNil)))) aNil)))))
    (sRetO 3))))
def f__law_wide_rows (ds : List D) : M D := fnM 6 q__law_wide_rows ds
set_option maxHeartbeats 4000000 in
theorem fg__law_wide_rows {P : Program} {w : World} {K : PySem.W.Frag} {mg : Str → Option Value} {base : Heap} {A : Ad} (Z : Fx K mg A) : FnG false P w K mg base 4 A.a__law_wide_rows A.d__law_wide_rows ["_law_spring_here"] (spOf (tbl K A) 1 f__law_wide_rows) :=
  fng_den (T := tbl K A) Z.F__law_wide_rows sc__law_wide_rows (fun cv Ar out s H E hr =>
    (ss_cons (xset 1 sc__law_wide_rows.nd (se_call ((ok__law_first_row Z).up (by decide)) hr rfl Z.m__law_first_row Z.k__law_first_row (takes_of rfl rfl rfl rfl) (sa_cons (v 0) sa_nil)))
    (ss_cons (xpx2 2 3 sc__law_wide_rows.nd (sx_v (w_len Z.b_len (sab_cons (SE.sb (SN.se (sn_split (vb 1) (SE.sb se_str)))) sab_nil)) (sx_n (sn_lst (sa_cons (v 1) sa_nil)) sx_nil)))
    (ss_cons (ss_for (passes_of rfl) rfl (si_rng1 rfl Z.b_range (sa_cons (se_call ((ok__law_draw Z).up (by decide)) hr rfl Z.m__law_draw Z.k__law_draw (takes_of rfl rfl rfl rfl) (sa_cons (v 0) (sa_cons se_int sa_nil))) sa_nil)) (tn 4 sc__law_wide_rows.nd) (ss_cons (xset 5 sc__law_wide_rows.nd (se_sl (SE.sb (SN.se (w_list Z.b_list (sab_cons (SE.sb (se_call ((ok__law_two Z).up (by decide)) hr rfl Z.m__law_two Z.k__law_two (takes_of rfl rfl rfl rfl) (sa_cons (v 0) sa_nil))) sab_nil)))) so_none (so_some (vb 2))))
    (ss_cons (xset 5 sc__law_wide_rows.nd (se_if (st_cmp (op_eqA hr.u64) (ok_eq rfl) (vb 5) (SE.sb (SN.se (sn_lst (sa_cons se_int sa_nil)))) rfl) (SN.se (sn_lst (sa_cons se_int sa_nil))) (v 5)))
    (ss_one (xapp 3 (sa_cons (se_call ((ok__law_row_text Z).up (by decide)) hr rfl Z.m__law_row_text Z.k__law_row_text (takes_of rfl rfl rfl rfl) (sa_cons (v 5) (sa_cons (se_call ((ok__law_of Z).up (by decide)) hr rfl Z.m__law_of Z.k__law_of (takes_of rfl rfl rfl rfl) (sa_cons (v 0) (sa_cons (SN.se (sn_lst (sa_cons se_str (sa_cons se_str sa_nil)))) sa_nil))) (sa_cons (se_call ((ok__law_great Z).up (by decide)) hr rfl Z.m__law_great Z.k__law_great (takes_of rfl rfl rfl rfl) (sa_cons (v 0) sa_nil)) sa_nil)))) sa_nil))))))
    (ss_one (xretO 3))))))
theorem ok__law_wide_rows {P : Program} {w : World} {K : PySem.W.Frag} {mg : Str → Option Value} {base : Heap} {A : Ad} (Z : Fx K mg A) : FnP false P w K mg base 4 A.a__law_wide_rows (spOf (tbl K A) 1 f__law_wide_rows) := (fg__law_wide_rows Z).byP0 (Z.F__law_wide_rows.binds fun _ _ _ _ _ _ us hl => match us, hl with | [_], _ => rfl)
theorem sc__law_kinds : FnScope ["_law_rows_now", "_law_each"] ["_law_rows_now"] (defScope s__law_kinds) := ⟨rfl, rfl, rfl, by decide +kernel, rfl, by decide +kernel, by decide +kernel⟩
def q__law_kinds : Sx := (sRet (eN (lcN (iE (eN (splitN (e2 ixD (eLook 0) (eC (.int 0))) (eC (.str ", "))))) (gNm 1) yes (e2 ixD (eN (splitN (eLook 1) (eC (.str " ")))) (eC (.int 1))) [1])))
def f__law_kinds (ds : List D) : M D := fnM 2 q__law_kinds ds
set_option maxHeartbeats 4000000 in
theorem fg__law_kinds {P : Program} {w : World} {K : PySem.W.Frag} {mg : Str → Option Value} {base : Heap} {A : Ad} (Z : Fx K mg A) : FnG false P w K mg base 1 A.a__law_kinds A.d__law_kinds ["_law_rows_now"] (spOf (tbl K A) 1 f__law_kinds) :=
  fng_den (T := tbl K A) Z.F__law_kinds sc__law_kinds (fun cv Ar out s H E hr =>
    (ss_one (ss_ret (SN.se (sn_lc (own := [(("_law_each" : Str), 1)]) rfl sc__law_kinds.nd (si_b (SE.sb (SN.se (sn_split (SE.sb (se_ix (vb 0) (SE.sb se_int))) (SE.sb se_str))))) (blk_of rfl rfl) (fun _ _ _ _ _ => (tbn 1 sc__law_kinds.nd)) (fun _ _ _ _ _ => sts_nil) (fun _ _ _ _ _ => (se_ix (SE.sb (SN.se (sn_split (vb 1) (SE.sb se_str)))) (SE.sb se_int))))))))
theorem ok__law_kinds {P : Program} {w : World} {K : PySem.W.Frag} {mg : Str → Option Value} {base : Heap} {A : Ad} (Z : Fx K mg A) : FnP false P w K mg base 1 A.a__law_kinds (spOf (tbl K A) 1 f__law_kinds) := (fg__law_kinds Z).byP0 (Z.F__law_kinds.binds fun _ _ _ _ _ _ us hl => match us, hl with | [_], _ => rfl)
theorem sc__law_weights : FnScope ["_law_words", "_law_many", "_law_found", "_law_sign", "_law_word_now", "_law_size"] ["_law_words", "_law_many"] (defScope s__law_weights) := ⟨rfl, rfl, rfl, by decide +kernel, rfl, by decide +kernel, by decide +kernel⟩
def q__law_weights : Sx := (sSeq (sPX2 2 3 (xN (n2 repN (eN (nLst (aCons (eC (.int 0)) aNil))) (eLook 1)) (xV (eC (.int 1)) xNil)))
    (sSeq (sFor (iE (eVar 0)) (gNm 4) (sIf (tB2 inD (eLook 4) (eN (nLst (aCons (eC (.str "+")) (aCons (eC (.str "-")) aNil))))) (sSet 3 (eIf (tB2 eqD (eLook 4) (eC (.str "+"))) (eC (.int 1)) (e1 negD (eC (.int 1))))) (sSeq (sAsg (eIf (tB2 eqD (e2 ixD (eLook 4) (eC (.int 0))) (eC (.str "-"))) (eTup (aCons (e1 negD (eC (.int 1))) (aCons (eSl (eLook 4) (oInt (eC (.int 1))) oNo) aNil))) (eTup (aCons (eVar 3) (aCons (eVar 4) aNil)))) (gTp 2 (gMore (gNm 3) (gMore (gNm 4) gNone))))
    (sSeq (sSet 5 (eIf (tB2 gtD (eCall (g1 lenD) (aCons (eLook 4) aNil)) (eC (.int 1))) (eCall (g1 intD) (aCons (eSl (eLook 4) oNo (oInt (e1 negD (eC (.int 2))))) aNil)) (eC (.int 1))))
    (sAsg (e2 mulD (eLook 3) (eLook 5)) (gItem 2 (m2 sindexD (eC (.str "xy")) (e2 ixD (eLook 4) (e1 negD (eC (.int 1)))))))))))
    (sRet (eCall (g1 tupleD) (aCons (eLook 2) aNil)))))
def f__law_weights (ds : List D) : M D := fnM 6 q__law_weights ds
set_option maxHeartbeats 4000000 in
theorem fg__law_weights {P : Program} {w : World} {K : PySem.W.Frag} {mg : Str → Option Value} {base : Heap} {A : Ad} (Z : Fx K mg A) : FnG false P w K mg base 1 A.a__law_weights A.d__law_weights ["_law_words", "_law_many"] (spOf (tbl K A) 2 f__law_weights) :=
  fng_den (T := tbl K A) Z.F__law_weights sc__law_weights (fun cv Ar out s H E hr =>
    (ss_cons (xpx2 2 3 sc__law_weights.nd (sx_n (sn_rep (SE.sb (SN.se (sn_lst (sa_cons se_int sa_nil)))) (vb 1)) (sx_v se_int sx_nil)))
    (ss_cons (ss_for (passes_of rfl) rfl (si_e (v 0)) (tn 4 sc__law_weights.nd) (ss_one (ss_if (st_cmp (op_inAll hr.u65) (ok_in rfl) (vb 4) (SE.sb (SN.se (sn_lst (sa_cons se_str (sa_cons se_str sa_nil))))) rfl) (ss_one (xset 3 sc__law_weights.nd (se_if (st_cmp (op_eqA hr.u64) (ok_eq rfl) (vb 4) (SE.sb se_str) rfl) se_int (se_un un_neg ok_neg (SE.sb se_int))))) (ss_cons (ss_asg (se_if (st_cmp (op_eqA hr.u64) (ok_eq rfl) (SE.sb (se_ix (vb 4) (SE.sb se_int))) (SE.sb se_str) rfl) (se_tup (sa_cons (se_un un_neg ok_neg (SE.sb se_int)) (sa_cons (se_sl (vb 4) (so_some (SE.sb se_int)) so_none) sa_nil))) (se_tup (sa_cons (v 3) (sa_cons (v 4) sa_nil)))) (sg_tup rfl (sgs_cons (tn 3 sc__law_weights.nd) (sgs_cons (tn 4 sc__law_weights.nd) sgs_nil))))
    (ss_cons (xset 5 sc__law_weights.nd (se_if (st_cmp op_gt ok_gt (SE.sb (w_len Z.b_len (sab_cons (vb 4) sab_nil))) (SE.sb se_int) rfl) (w_int Z.b_int (sab_cons (SE.sb (se_sl (vb 4) so_none (so_some (SE.sb (se_un un_neg ok_neg (SE.sb se_int)))))) sab_nil)) se_int))
    (ss_one (ss_asg (se_op op_times ok_mul (vb 3) (vb 5)) (xitem 2 (SE.sb (se_sindex (SE.sb se_str) (SE.sb (se_ix (vb 4) (SE.sb (se_un un_neg ok_neg (SE.sb se_int)))))))))))))))
    (ss_one (ss_ret (w_tuple Z.b_tuple (sab_cons (vb 2) sab_nil)))))))
theorem ok__law_weights {P : Program} {w : World} {K : PySem.W.Frag} {mg : Str → Option Value} {base : Heap} {A : Ad} (Z : Fx K mg A) : FnP false P w K mg base 1 A.a__law_weights (spOf (tbl K A) 2 f__law_weights) := (fg__law_weights Z).byP0 (Z.F__law_weights.binds fun _ _ _ _ _ _ us hl => match us, hl with | [_, _], _ => rfl)
theorem sc__law_upright : FnScope ["_law_row_now", "_law_many", "_law_words", "_law_weights_now", "_law_size", "_law_each"] ["_law_row_now", "_law_many"] (defScope s__law_upright) := ⟨rfl, rfl, rfl, by decide +kernel, rfl, by decide +kernel, by decide +kernel⟩
def q__law_upright : Sx := (sSeq (sSet 2 (eN (splitN (eLook 0) (eC (.str " ")))))
    (sSeq (sPX2 3 4 (xV (eFn 2 f__law_weights (aCons (eSl (eLook 2) oNo (oInt (e1 negD (eC (.int 2))))) (aCons (eVar 1) aNil))) (xV (eCall (g1 intD) (aCons (e2 ixD (eLook 2) (e1 negD (eC (.int 1)))) aNil)) xNil)))
    (sSeq (sIf (tB2 eqD (e2 ixD (eLook 2) (e1 negD (eC (.int 2)))) (eC (.str "<="))) (sRet (eTup (aCons (eVar 3) (aCons (eVar 4) aNil)))) sNil)
    (sRet (eTup (aCons (eCall (g1 tupleD) (aCons (eN (lcN (iE (eLook 3)) (gNm 5) yes (e1 negD (eLook 5)) [5])) aNil)) (aCons (e1 negD (eLook 4)) aNil)))))))
def f__law_upright (ds : List D) : M D := fnM 6 q__law_upright ds
set_option maxHeartbeats 4000000 in
theorem fg__law_upright {P : Program} {w : World} {K : PySem.W.Frag} {mg : Str → Option Value} {base : Heap} {A : Ad} (Z : Fx K mg A) : FnG false P w K mg base 2 A.a__law_upright A.d__law_upright ["_law_row_now", "_law_many"] (spOf (tbl K A) 2 f__law_upright) :=
  fng_den (T := tbl K A) Z.F__law_upright sc__law_upright (fun cv Ar out s H E hr =>
    (ss_cons (xset 2 sc__law_upright.nd (SN.se (sn_split (vb 0) (SE.sb se_str))))
    (ss_cons (xpx2 3 4 sc__law_upright.nd (sx_v (se_call ((ok__law_weights Z).up (by decide)) hr rfl Z.m__law_weights Z.k__law_weights (takes_of rfl rfl rfl rfl) (sa_cons (se_sl (vb 2) so_none (so_some (SE.sb (se_un un_neg ok_neg (SE.sb se_int))))) (sa_cons (v 1) sa_nil))) (sx_v (w_int Z.b_int (sab_cons (SE.sb (se_ix (vb 2) (SE.sb (se_un un_neg ok_neg (SE.sb se_int))))) sab_nil)) sx_nil)))
    (ss_cons (ss_if (st_cmp (op_eqA hr.u64) (ok_eq rfl) (SE.sb (se_ix (vb 2) (SE.sb (se_un un_neg ok_neg (SE.sb se_int))))) (SE.sb se_str) rfl) (ss_one (ss_ret (se_tup (sa_cons (v 3) (sa_cons (v 4) sa_nil))))) ss_nil)
    (ss_one (ss_ret (se_tup (sa_cons (w_tuple Z.b_tuple (sab_cons (SE.sb (SN.se (sn_lc (own := [(("_law_each" : Str), 5)]) rfl sc__law_upright.nd (si_b (vb 3)) (blk_of rfl rfl) (fun _ _ _ _ _ => (tbn 5 sc__law_upright.nd)) (fun _ _ _ _ _ => sts_nil) (fun _ _ _ _ _ => (se_un un_neg ok_neg (vb 5)))))) sab_nil)) (sa_cons (se_un un_neg ok_neg (vb 4)) sa_nil)))))))))
theorem ok__law_upright {P : Program} {w : World} {K : PySem.W.Frag} {mg : Str → Option Value} {base : Heap} {A : Ad} (Z : Fx K mg A) : FnP false P w K mg base 2 A.a__law_upright (spOf (tbl K A) 2 f__law_upright) := (fg__law_upright Z).byP0 (Z.F__law_upright.binds fun _ _ _ _ _ _ us hl => match us, hl with | [_, _], _ => rfl)
theorem sc__law_uprights : FnScope ["_law_rows_now", "_law_many", "_law_row_now"] ["_law_rows_now"] (defScope s__law_uprights) := ⟨rfl, rfl, rfl, by decide +kernel, rfl, by decide +kernel, by decide +kernel⟩
def q__law_uprights : Sx := (sSeq (sSet 1 (eCall (g1 lenD) (aCons (eFn 1 f__law_kinds (aCons (eVar 0) aNil)) aNil)))
    (sRet (eN (lcN (iE (eSl (eLook 0) (oInt (eC (.int 1))) oNo)) (gNm 2) yes (eFn 2 f__law_upright (aCons (eVar 2) (aCons (eVar 1) aNil))) [2]))))
def f__law_uprights (ds : List D) : M D := fnM 3 q__law_uprights ds
set_option maxHeartbeats 4000000 in
theorem fg__law_uprights {P : Program} {w : World} {K : PySem.W.Frag} {mg : Str → Option Value} {base : Heap} {A : Ad} (Z : Fx K mg A) : FnG false P w K mg base 3 A.a__law_uprights A.d__law_uprights ["_law_rows_now"] (spOf (tbl K A) 1 f__law_uprights) :=
  fng_den (T := tbl K A) Z.F__law_uprights sc__law_uprights (fun cv Ar out s H E hr =>
    (ss_cons (xset 1 sc__law_uprights.nd (w_len Z.b_len (sab_cons (SE.sb (se_call ((ok__law_kinds Z).up (by decide)) hr rfl Z.m__law_kinds Z.k__law_kinds (takes_of rfl rfl rfl rfl) (sa_cons (v 0) sa_nil))) sab_nil)))
    (ss_one (ss_ret (SN.se (sn_lc (own := [(("_law_row_now" : Str), 2)]) rfl sc__law_uprights.nd (si_b (SE.sb (se_sl (vb 0) (so_some (SE.sb se_int)) so_none))) (blk_of rfl rfl) (fun _ _ _ _ _ => (tbn 2 sc__law_uprights.nd)) (fun _ _ _ _ _ => sts_nil) (fun _ _ _ _ _ => (se_call ((ok__law_upright Z).up (by decide)) hr rfl Z.m__law_upright Z.k__law_upright takes_wf (sa_cons (v 2) (sa_cons (v 1) sa_nil))))))))))
theorem ok__law_uprights {P : Program} {w : World} {K : PySem.W.Frag} {mg : Str → Option Value} {base : Heap} {A : Ad} (Z : Fx K mg A) : FnP false P w K mg base 3 A.a__law_uprights (spOf (tbl K A) 1 f__law_uprights) := (fg__law_uprights Z).byP0 (Z.F__law_uprights.binds fun _ _ _ _ _ _ us hl => match us, hl with | [_], _ => rfl)
theorem sc_unknowns_in : FnScope ["row", "words", "found", "letter", "word", "parts"] ["row"] (defScope s_unknowns_in) := ⟨rfl, rfl, rfl, by decide +kernel, rfl, by decide +kernel, by decide +kernel⟩
def q_unknowns_in : Sx := (sSeq (sSet 1 (eIf (tT (e1 (isTyM "str" own_cs) (eLook 0))) (eN (splitN (eLook 0) (eC (.str ", ")))) (eN (nLst aNil))))
    (sSeq (sIf (tNotB (tCh leD leD (eC (.int 1)) (eCall (g1 lenD) (aCons (eLook 1) aNil)) (eCall (g1 lenD) (aCons (eC (.str "xy")) aNil)))) (sRet (eC .non)) sNil)
    (sSeq (sOwn 2 (nLst aNil))
    (sSeq (sFor (iA zipM (aCons (eC (.str "xy")) (aCons (eVar 1) aNil))) (gTp 2 (gMore (gNm 3) (gMore (gNm 4) gNone))) (sSeq (sSet 5 (eN (splitN (eLook 4) (eC (.str " ")))))
    (sSeq (sIf (tOrB (tB2 neD (eCall (g1 lenD) (aCons (eLook 5) aNil)) (eC (.int 2))) (tOrB (tB2 neD (e2 ixD (eLook 5) (eC (.int 0))) (eLook 3)) (tB2 ninD (e2 ixD (eLook 5) (eC (.int 1))) (eC (.tup [(.str "whole"), (.str "any")]))))) (sRet (eC .non)) sNil)
    (sMut 2 kApp (aCons (e2 ixD (eLook 5) (eC (.int 1))) aNil)))))
    (sRet (eCall (g1 tupleD) (aCons (eLook 2) aNil)))))))
def f_unknowns_in (ds : List D) : M D := fnM 6 q_unknowns_in ds
set_option maxHeartbeats 4000000 in
theorem fg_unknowns_in {P : Program} {w : World} {K : PySem.W.Frag} {mg : Str → Option Value} {base : Heap} {A : Ad} (Z : Fx K mg A) : FnG false P w K mg base 1 A.a_unknowns_in A.d_unknowns_in ["row"] (spOf (tbl K A) 1 f_unknowns_in) :=
  fng_den (T := tbl K A) Z.F_unknowns_in sc_unknowns_in (fun cv Ar out s H E hr =>
    (ss_cons (xset 1 sc_unknowns_in.nd (se_if (st_tru (SE.sb (se_isTy (vb 0) rfl Z.b_isinstance rfl Z.b_str rfl (by decide) (it_str Z)))) (SN.se (sn_split (vb 0) (SE.sb (K_JOIN Z)))) (SN.se (sn_lst sa_nil))))
    (ss_cons (ss_if (st_not (st_chain op_le ok_le op_le ok_le (SE.sb se_int) (SE.sb (w_len Z.b_len (sab_cons (vb 1) sab_nil))) (SE.sb (w_len Z.b_len (sab_cons (SE.sb (K_UNKNOWNS Z)) sab_nil))))) (ss_one (ss_ret se_non)) ss_nil)
    (ss_cons (xown 2 sc_unknowns_in.nd (sn_lst sa_nil))
    (ss_cons (ss_for (passes_of rfl) rfl (si_zip rfl Z.b_zip (sa_cons (K_UNKNOWNS Z) (sa_cons (v 1) sa_nil))) (sg_tup rfl (sgs_cons (tn 3 sc_unknowns_in.nd) (sgs_cons (tn 4 sc_unknowns_in.nd) sgs_nil))) (ss_cons (xset 5 sc_unknowns_in.nd (SN.se (sn_split (vb 4) (SE.sb se_str))))
    (ss_cons (ss_if (SW.st (sw_or (st_cmp (op_neA hr.u64) (ok_ne rfl) (SE.sb (w_len Z.b_len (sab_cons (vb 5) sab_nil))) (SE.sb se_int) rfl) (sw_or (st_cmp (op_neA hr.u64) (ok_ne rfl) (SE.sb (se_ix (vb 5) (SE.sb se_int))) (vb 3) rfl) (sw_or1 (st_cmp (op_ninAll hr.u65) (ok_nin rfl) (SE.sb (se_ix (vb 5) (SE.sb se_int))) (SE.sb (K_KINDS Z)) rfl))))) (ss_one (ss_ret se_non)) ss_nil)
    (ss_one (xapp 2 (sa_cons (se_ix (vb 5) (SE.sb se_int)) sa_nil))))))
    (ss_one (ss_ret (w_tuple Z.b_tuple (sab_cons (vb 2) sab_nil)))))))))
theorem ok_unknowns_in {P : Program} {w : World} {K : PySem.W.Frag} {mg : Str → Option Value} {base : Heap} {A : Ad} (Z : Fx K mg A) : FnP false P w K mg base 1 A.a_unknowns_in (spOf (tbl K A) 1 f_unknowns_in) := (fg_unknowns_in Z).byP0 (Z.F_unknowns_in.binds fun _ _ _ _ _ _ us hl => match us, hl with | [_], _ => rfl)
theorem sc_number_in : FnScope ["word", "sign"] ["word"] (defScope s_number_in) := ⟨rfl, rfl, rfl, by decide +kernel, rfl, by decide +kernel, by decide +kernel⟩
def q_number_in : Sx := (sSeq (sIf (tOrB (tB2 eqD (eLook 0) (eC (.str ""))) (tNotB (tT (eCall (g1 allD) (aCons (eN (lcN (iE (eLook 0)) (gNm 1) yes (e2 inD (eLook 1) (eC (.str "0123456789"))) [1])) aNil))))) (sRet (eC .non)) sNil)
    (sRet (eIf (tOrB (tB2 neD (e2 ixD (eLook 0) (eC (.int 0))) (eC (.str "0"))) (tB2 eqD (eLook 0) (eC (.str "0")))) (eCall (g1 intD) (aCons (eLook 0) aNil)) (eC .non))))
def f_number_in (ds : List D) : M D := fnM 2 q_number_in ds
set_option maxHeartbeats 4000000 in
theorem fg_number_in {P : Program} {w : World} {K : PySem.W.Frag} {mg : Str → Option Value} {base : Heap} {A : Ad} (Z : Fx K mg A) : FnG false P w K mg base 1 A.a_number_in A.d_number_in ["word"] (spOf (tbl K A) 1 f_number_in) :=
  fng_den (T := tbl K A) Z.F_number_in sc_number_in (fun cv Ar out s H E hr =>
    (ss_cons (ss_if (SW.st (sw_or (st_cmp (op_eqA hr.u64) (ok_eq rfl) (vb 0) (SE.sb se_str) rfl) (sw_or1 (st_not (st_tru (SE.sb (w_all rfl Z.b_all (sab_cons (SE.sb (SN.se (sn_lc (own := [(("sign" : Str), 1)]) rfl sc_number_in.nd (si_b (vb 0)) (blk_of rfl rfl) (fun _ _ _ _ _ => (tbn 1 sc_number_in.nd)) (fun _ _ _ _ _ => sts_nil) (fun _ _ _ _ _ => (se_cmp (op_inAll hr.u65) (ok_in rfl) (vb 1) (SE.sb (K_FIGURES Z)) rfl))))) sab_nil)))))))) (ss_one (ss_ret se_non)) ss_nil)
    (ss_one (ss_ret (se_if (SW.st (sw_or (st_cmp (op_neA hr.u64) (ok_ne rfl) (SE.sb (se_ix (vb 0) (SE.sb se_int))) (SE.sb se_str) rfl) (sw_or1 (st_cmp (op_eqA hr.u64) (ok_eq rfl) (vb 0) (SE.sb se_str) rfl)))) (w_int Z.b_int (sab_cons (vb 0) sab_nil)) se_non)))))
theorem ok_number_in {P : Program} {w : World} {K : PySem.W.Frag} {mg : Str → Option Value} {base : Heap} {A : Ad} (Z : Fx K mg A) : FnP false P w K mg base 1 A.a_number_in (spOf (tbl K A) 1 f_number_in) := (fg_number_in Z).byP0 (Z.F_number_in.binds fun _ _ _ _ _ _ us hl => match us, hl with | [_], _ => rfl)
theorem sc_signed_in : FnScope ["word", "size"] ["word"] (defScope s_signed_in) := ⟨rfl, rfl, rfl, by decide +kernel, rfl, by decide +kernel, by decide +kernel⟩
def q_signed_in : Sx := (sSeq (sIf (tB2 neD (eSl (eLook 0) oNo (oInt (eC (.int 1)))) (eC (.str "-"))) (sRet (eFn 1 f_number_in (aCons (eVar 0) aNil))) sNil)
    (sSeq (sSet 1 (eFn 1 f_number_in (aCons (eSl (eLook 0) (oInt (eC (.int 1))) oNo) aNil)))
    (sRet (eIf (tOrB (tB2 isNoneD (eLook 1) (eC .non)) (tB2 eqD (eLook 1) (eC (.int 0)))) (eC .non) (e1 negD (eLook 1))))))
def f_signed_in (ds : List D) : M D := fnM 2 q_signed_in ds
set_option maxHeartbeats 4000000 in
theorem fg_signed_in {P : Program} {w : World} {K : PySem.W.Frag} {mg : Str → Option Value} {base : Heap} {A : Ad} (Z : Fx K mg A) : FnG false P w K mg base 2 A.a_signed_in A.d_signed_in ["word"] (spOf (tbl K A) 1 f_signed_in) :=
  fng_den (T := tbl K A) Z.F_signed_in sc_signed_in (fun cv Ar out s H E hr =>
    (ss_cons (ss_if (st_cmp (op_neA hr.u64) (ok_ne rfl) (SE.sb (se_sl (vb 0) so_none (so_some (SE.sb se_int)))) (SE.sb se_str) rfl) (ss_one (ss_ret (se_call ((ok_number_in Z).up (by decide)) hr rfl Z.m_number_in Z.k_number_in (takes_of rfl rfl rfl rfl) (sa_cons (v 0) sa_nil)))) ss_nil)
    (ss_cons (xset 1 sc_signed_in.nd (se_call ((ok_number_in Z).up (by decide)) hr rfl Z.m_number_in Z.k_number_in (takes_of rfl rfl rfl rfl) (sa_cons (se_sl (vb 0) (so_some (SE.sb se_int)) so_none) sa_nil)))
    (ss_one (ss_ret (se_if (SW.st (sw_or (st_cmp op_isN ok_isN (vb 1) (SE.sb se_non) rfl) (sw_or1 (st_cmp (op_eqA hr.u64) (ok_eq rfl) (vb 1) (SE.sb se_int) rfl)))) se_non (se_un un_neg ok_neg (vb 1))))))))
theorem ok_signed_in {P : Program} {w : World} {K : PySem.W.Frag} {mg : Str → Option Value} {base : Heap} {A : Ad} (Z : Fx K mg A) : FnP false P w K mg base 2 A.a_signed_in (spOf (tbl K A) 1 f_signed_in) := (fg_signed_in Z).byP0 (Z.F_signed_in.binds fun _ _ _ _ _ _ us hl => match us, hl with | [_], _ => rfl)
theorem sc_term_in : FnScope ["word", "parts", "size"] ["word"] (defScope s_term_in) := ⟨rfl, rfl, rfl, by decide +kernel, rfl, by decide +kernel, by decide +kernel⟩
def q_term_in : Sx := (sSeq (sSet 1 (eN (splitN (eLook 0) (eC (.str "*")))))
    (sSeq (sIf (tOrB (tB2 ninD (e2 ixD (eLook 1) (e1 negD (eC (.int 1)))) (eTup (aCons (eC (.str "x")) (aCons (eC (.str "y")) aNil)))) (tB2 gtD (eCall (g1 lenD) (aCons (eLook 1) aNil)) (eC (.int 2)))) (sRet (eC .non)) sNil)
    (sSeq (sSet 2 (eIf (tB2 eqD (eCall (g1 lenD) (aCons (eLook 1) aNil)) (eC (.int 1))) (eC (.int 1)) (eFn 1 f_number_in (aCons (e2 ixD (eLook 1) (eC (.int 0))) aNil))))
    (sSeq (sIf (tOrB (tB2 isNoneD (eLook 2) (eC .non)) (tAndB (tB2 eqD (eCall (g1 lenD) (aCons (eLook 1) aNil)) (eC (.int 2))) (tNotB (tCh leD leD (eC (.int 2)) (eLook 2) (eC (.int 99)))))) (sRet (eC .non)) sNil)
    (sRet (eTup (aCons (eVar 2) (aCons (m2 sindexD (eC (.str "xy")) (e2 ixD (eLook 1) (e1 negD (eC (.int 1))))) aNil))))))))
def f_term_in (ds : List D) : M D := fnM 3 q_term_in ds
set_option maxHeartbeats 4000000 in
theorem fg_term_in {P : Program} {w : World} {K : PySem.W.Frag} {mg : Str → Option Value} {base : Heap} {A : Ad} (Z : Fx K mg A) : FnG false P w K mg base 2 A.a_term_in A.d_term_in ["word"] (spOf (tbl K A) 1 f_term_in) :=
  fng_den (T := tbl K A) Z.F_term_in sc_term_in (fun cv Ar out s H E hr =>
    (ss_cons (xset 1 sc_term_in.nd (SN.se (sn_split (vb 0) (SE.sb se_str))))
    (ss_cons (ss_if (SW.st (sw_or (st_cmp (op_ninAll hr.u65) (ok_nin rfl) (SE.sb (se_ix (vb 1) (SE.sb (se_un un_neg ok_neg (SE.sb se_int))))) (SE.sb (se_tup (sa_cons se_str (sa_cons se_str sa_nil)))) rfl) (sw_or1 (st_cmp op_gt ok_gt (SE.sb (w_len Z.b_len (sab_cons (vb 1) sab_nil))) (SE.sb se_int) rfl)))) (ss_one (ss_ret se_non)) ss_nil)
    (ss_cons (xset 2 sc_term_in.nd (se_if (st_cmp (op_eqA hr.u64) (ok_eq rfl) (SE.sb (w_len Z.b_len (sab_cons (vb 1) sab_nil))) (SE.sb se_int) rfl) se_int (se_call ((ok_number_in Z).up (by decide)) hr rfl Z.m_number_in Z.k_number_in (takes_of rfl rfl rfl rfl) (sa_cons (se_ix (vb 1) (SE.sb se_int)) sa_nil))))
    (ss_cons (ss_if (SW.st (sw_or (st_cmp op_isN ok_isN (vb 2) (SE.sb se_non) rfl) (sw_or1 (SW.st (sw_and (st_cmp (op_eqA hr.u64) (ok_eq rfl) (SE.sb (w_len Z.b_len (sab_cons (vb 1) sab_nil))) (SE.sb se_int) rfl) (sw_and1 (st_not (st_chain op_le ok_le op_le ok_le (SE.sb se_int) (vb 2) (SE.sb (K_MOST_WEIGHT Z)))))))))) (ss_one (ss_ret se_non)) ss_nil)
    (ss_one (ss_ret (se_tup (sa_cons (v 2) (sa_cons (se_sindex (SE.sb (K_UNKNOWNS Z)) (SE.sb (se_ix (vb 1) (SE.sb (se_un un_neg ok_neg (SE.sb se_int)))))) sa_nil))))))))))
theorem ok_term_in {P : Program} {w : World} {K : PySem.W.Frag} {mg : Str → Option Value} {base : Heap} {A : Ad} (Z : Fx K mg A) : FnP false P w K mg base 2 A.a_term_in (spOf (tbl K A) 1 f_term_in) := (fg_term_in Z).byP0 (Z.F_term_in.binds fun _ _ _ _ _ _ us hl => match us, hl with | [_], _ => rfl)
theorem sc_sum_in : FnScope ["words", "many", "is_less", "terms", "signs", "found", "sign", "term", "size", "place"] ["words", "many"] (defScope s_sum_in) := ⟨rfl, rfl, rfl, by decide +kernel, rfl, by decide +kernel, by decide +kernel⟩
def q_sum_in : Sx := (sSeq (sIf (tB2 ninD (eCall (g1 lenD) (aCons (eLook 0) aNil)) (eTup (aCons (eC (.int 1)) (aCons (eC (.int 3)) aNil)))) (sRet (eC .non)) sNil)
    (sSeq (sSet 2 (e2 eqD (eSl (e2 ixD (eLook 0) (eC (.int 0))) oNo (oInt (eC (.int 1)))) (eC (.str "-"))))
    (sSeq (sOwn 3 (nLst (aCons (eFn 1 f_term_in (aCons (eIf (tT (eLook 2)) (eSl (e2 ixD (eLook 0) (eC (.int 0))) (oInt (eC (.int 1))) oNo) (e2 ixD (eLook 0) (eC (.int 0)))) aNil)) aNil)))
    (sSeq (sOwn 4 (nLst (aCons (eIf (tT (eLook 2)) (e1 negD (eC (.int 1))) (eC (.int 1))) aNil)))
    (sSeq (sIf (tB2 eqD (eCall (g1 lenD) (aCons (eLook 0) aNil)) (eC (.int 3))) (sSeq (sIf (tB2 ninD (e2 ixD (eLook 0) (eC (.int 1))) (eTup (aCons (eC (.str "+")) (aCons (eC (.str "-")) aNil)))) (sRet (eC .non)) sNil)
    (sSeq (sMut 3 kApp (aCons (eFn 1 f_term_in (aCons (e2 ixD (eLook 0) (eC (.int 2))) aNil)) aNil))
    (sMut 4 kApp (aCons (eIf (tB2 eqD (e2 ixD (eLook 0) (eC (.int 1))) (eC (.str "+"))) (eC (.int 1)) (e1 negD (eC (.int 1)))) aNil)))) sNil)
    (sSeq (sIf (tOrB (tB2 inD (eC .non) (eLook 3)) (tNotB (tT (eCall (g1 allD) (aCons (eN (lcN (iE (eLook 3)) (gTp 2 (gMore (gNm 8) (gMore (gNm 9) gNone))) yes (e2 ltD (eLook 9) (eLook 1)) [8, 9])) aNil))))) (sRet (eC .non)) sNil)
    (sSeq (sIf (tAndB (tB2 eqD (eCall (g1 lenD) (aCons (eLook 3) aNil)) (eC (.int 2))) (tB2 neD (eTup (aCons (e2 ixD (e2 ixD (eLook 3) (eC (.int 0))) (eC (.int 1))) (aCons (e2 ixD (e2 ixD (eLook 3) (eC (.int 1))) (eC (.int 1))) aNil))) (eTup (aCons (eC (.int 0)) (aCons (eC (.int 1)) aNil))))) (sRet (eC .non)) sNil)
    (sSeq (sOwn 5 (n2 repN (eN (nLst (aCons (eC (.int 0)) aNil))) (eLook 1)))
    (sSeq (sFrz 4 (sFrz 3 (sFor (iA zipM (aCons (eVar 4) (aCons (eVar 3) aNil))) (gTp 2 (gMore (gNm 6) (gMore (gNm 7) gNone))) (sAsg (e2 mulD (eLook 6) (e2 ixD (eLook 7) (eC (.int 0)))) (gItem 5 (e2 ixD (eLook 7) (eC (.int 1))))))))
    (sRet (eCall (g1 tupleD) (aCons (eLook 5) aNil))))))))))))
def f_sum_in (ds : List D) : M D := fnM 10 q_sum_in ds
set_option maxHeartbeats 4000000 in
theorem fg_sum_in {P : Program} {w : World} {K : PySem.W.Frag} {mg : Str → Option Value} {base : Heap} {A : Ad} (Z : Fx K mg A) : FnG false P w K mg base 3 A.a_sum_in A.d_sum_in ["words", "many"] (spOf (tbl K A) 2 f_sum_in) :=
  fng_den (T := tbl K A) Z.F_sum_in sc_sum_in (fun cv Ar out s H E hr =>
    (ss_cons (ss_if (st_cmp (op_ninAll hr.u65) (ok_nin rfl) (SE.sb (w_len Z.b_len (sab_cons (vb 0) sab_nil))) (SE.sb (se_tup (sa_cons se_int (sa_cons se_int sa_nil)))) rfl) (ss_one (ss_ret se_non)) ss_nil)
    (ss_cons (xset 2 sc_sum_in.nd (se_cmp (op_eqA hr.u64) (ok_eq rfl) (SE.sb (se_sl (SE.sb (se_ix (vb 0) (SE.sb se_int))) so_none (so_some (SE.sb se_int)))) (SE.sb se_str) rfl))
    (ss_cons (xown 3 sc_sum_in.nd (sn_lst (sa_cons (se_call ((ok_term_in Z).up (by decide)) hr rfl Z.m_term_in Z.k_term_in (takes_of rfl rfl rfl rfl) (sa_cons (se_if (st_tru (vb 2)) (se_sl (SE.sb (se_ix (vb 0) (SE.sb se_int))) (so_some (SE.sb se_int)) so_none) (se_ix (vb 0) (SE.sb se_int))) sa_nil)) sa_nil)))
    (ss_cons (xown 4 sc_sum_in.nd (sn_lst (sa_cons (se_if (st_tru (vb 2)) (se_un un_neg ok_neg (SE.sb se_int)) se_int) sa_nil)))
    (ss_cons (ss_if (st_cmp (op_eqA hr.u64) (ok_eq rfl) (SE.sb (w_len Z.b_len (sab_cons (vb 0) sab_nil))) (SE.sb se_int) rfl) (ss_cons (ss_if (st_cmp (op_ninAll hr.u65) (ok_nin rfl) (SE.sb (se_ix (vb 0) (SE.sb se_int))) (SE.sb (se_tup (sa_cons se_str (sa_cons se_str sa_nil)))) rfl) (ss_one (ss_ret se_non)) ss_nil)
    (ss_cons (xapp 3 (sa_cons (se_call ((ok_term_in Z).up (by decide)) hr rfl Z.m_term_in Z.k_term_in (takes_of rfl rfl rfl rfl) (sa_cons (se_ix (vb 0) (SE.sb se_int)) sa_nil)) sa_nil))
    (ss_one (xapp 4 (sa_cons (se_if (st_cmp (op_eqA hr.u64) (ok_eq rfl) (SE.sb (se_ix (vb 0) (SE.sb se_int))) (SE.sb se_str) rfl) se_int (se_un un_neg ok_neg (SE.sb se_int))) sa_nil))))) ss_nil)
    (ss_cons (ss_if (SW.st (sw_or (st_cmp (op_inAll hr.u65) (ok_in rfl) (SE.sb se_non) (vb 3) rfl) (sw_or1 (st_not (st_tru (SE.sb (w_all rfl Z.b_all (sab_cons (SE.sb (SN.se (sn_lc (own := [(("size" : Str), 8), (("place" : Str), 9)]) rfl sc_sum_in.nd (si_b (vb 3)) (blk_of rfl rfl) (fun _ _ _ _ _ => (sgb_tup rfl (sgbs_cons (tbn 8 sc_sum_in.nd) (sgbs_cons (tbn 9 sc_sum_in.nd) sgbs_nil)))) (fun _ _ _ _ _ => sts_nil) (fun _ _ _ _ _ => (se_cmp op_lt ok_lt (vb 9) (vb 1) rfl))))) sab_nil)))))))) (ss_one (ss_ret se_non)) ss_nil)
    (ss_cons (ss_if (SW.st (sw_and (st_cmp (op_eqA hr.u64) (ok_eq rfl) (SE.sb (w_len Z.b_len (sab_cons (vb 3) sab_nil))) (SE.sb se_int) rfl) (sw_and1 (st_cmp (op_neA hr.u64) (ok_ne rfl) (SE.sb (se_tup (sa_cons (se_ix (SE.sb (se_ix (vb 3) (SE.sb se_int))) (SE.sb se_int)) (sa_cons (se_ix (SE.sb (se_ix (vb 3) (SE.sb se_int))) (SE.sb se_int)) sa_nil)))) (SE.sb (se_tup (sa_cons se_int (sa_cons se_int sa_nil)))) rfl)))) (ss_one (ss_ret se_non)) ss_nil)
    (ss_cons (xown 5 sc_sum_in.nd (sn_rep (SE.sb (SN.se (sn_lst (sa_cons se_int sa_nil)))) (vb 1)))
    (ss_cons (ss_frz 4 (ss_frz 3 (ss_for (passes_of rfl) rfl (si_zip rfl Z.b_zip (sa_cons (v 4) (sa_cons (v 3) sa_nil))) (sg_tup rfl (sgs_cons (tn 6 sc_sum_in.nd) (sgs_cons (tn 7 sc_sum_in.nd) sgs_nil))) (ss_one (ss_asg (se_op op_times ok_mul (vb 6) (SE.sb (se_ix (vb 7) (SE.sb se_int)))) (xitem 5 (SE.sb (se_ix (vb 7) (SE.sb se_int)))))))))
    (ss_one (ss_ret (w_tuple Z.b_tuple (sab_cons (vb 5) sab_nil))))))))))))))
theorem ok_sum_in {P : Program} {w : World} {K : PySem.W.Frag} {mg : Str → Option Value} {base : Heap} {A : Ad} (Z : Fx K mg A) : FnP false P w K mg base 3 A.a_sum_in (spOf (tbl K A) 2 f_sum_in) := (fg_sum_in Z).byP0 (Z.F_sum_in.binds fun _ _ _ _ _ _ us hl => match us, hl with | [_, _], _ => rfl)
theorem sc_inequality_in : FnScope ["row", "many", "words", "weights", "constant", "weight"] ["row", "many"] (defScope s_inequality_in) := ⟨rfl, rfl, rfl, by decide +kernel, rfl, by decide +kernel, by decide +kernel⟩
def q_inequality_in : Sx := (sSeq (sSet 2 (eIf (tT (e1 (isTyM "str" own_cs) (eLook 0))) (eN (splitN (eLook 0) (eC (.str " ")))) (eN (nLst aNil))))
    (sSeq (sIf (tOrB (tB2 ltD (eCall (g1 lenD) (aCons (eLook 2) aNil)) (eC (.int 3))) (tB2 ninD (e2 ixD (eLook 2) (e1 negD (eC (.int 2)))) (eTup (aCons (eC (.str "<=")) (aCons (eC (.str ">=")) aNil))))) (sRet (eC .non)) sNil)
    (sSeq (sPX2 3 4 (xV (eFn 2 f_sum_in (aCons (eSl (eLook 2) oNo (oInt (e1 negD (eC (.int 2))))) (aCons (eVar 1) aNil))) (xV (eFn 1 f_signed_in (aCons (e2 ixD (eLook 2) (e1 negD (eC (.int 1)))) aNil)) xNil)))
    (sSeq (sIf (tOrB (tB2 isNoneD (eLook 3) (eC .non)) (tOrB (tB2 isNoneD (eLook 4) (eC .non)) (tNotB (tCh leD leD (e1 negD (eC (.int 1000000))) (eLook 4) (eC (.int 1000000)))))) (sRet (eC .non)) sNil)
    (sSeq (sIf (tB2 eqD (e2 ixD (eLook 2) (e1 negD (eC (.int 2)))) (eC (.str "<="))) (sRet (eTup (aCons (eVar 3) (aCons (eVar 4) aNil)))) sNil)
    (sRet (eTup (aCons (eCall (g1 tupleD) (aCons (eN (lcN (iE (eLook 3)) (gNm 5) yes (e1 negD (eLook 5)) [5])) aNil)) (aCons (e1 negD (eLook 4)) aNil)))))))))
def f_inequality_in (ds : List D) : M D := fnM 6 q_inequality_in ds
set_option maxHeartbeats 4000000 in
theorem fg_inequality_in {P : Program} {w : World} {K : PySem.W.Frag} {mg : Str → Option Value} {base : Heap} {A : Ad} (Z : Fx K mg A) : FnG false P w K mg base 4 A.a_inequality_in A.d_inequality_in ["row", "many"] (spOf (tbl K A) 2 f_inequality_in) :=
  fng_den (T := tbl K A) Z.F_inequality_in sc_inequality_in (fun cv Ar out s H E hr =>
    (ss_cons (xset 2 sc_inequality_in.nd (se_if (st_tru (SE.sb (se_isTy (vb 0) rfl Z.b_isinstance rfl Z.b_str rfl (by decide) (it_str Z)))) (SN.se (sn_split (vb 0) (SE.sb se_str))) (SN.se (sn_lst sa_nil))))
    (ss_cons (ss_if (SW.st (sw_or (st_cmp op_lt ok_lt (SE.sb (w_len Z.b_len (sab_cons (vb 2) sab_nil))) (SE.sb se_int) rfl) (sw_or1 (st_cmp (op_ninAll hr.u65) (ok_nin rfl) (SE.sb (se_ix (vb 2) (SE.sb (se_un un_neg ok_neg (SE.sb se_int))))) (SE.sb (se_tup (sa_cons se_str (sa_cons se_str sa_nil)))) rfl)))) (ss_one (ss_ret se_non)) ss_nil)
    (ss_cons (xpx2 3 4 sc_inequality_in.nd (sx_v (se_call ((ok_sum_in Z).up (by decide)) hr rfl Z.m_sum_in Z.k_sum_in (takes_of rfl rfl rfl rfl) (sa_cons (se_sl (vb 2) so_none (so_some (SE.sb (se_un un_neg ok_neg (SE.sb se_int))))) (sa_cons (v 1) sa_nil))) (sx_v (se_call ((ok_signed_in Z).up (by decide)) hr rfl Z.m_signed_in Z.k_signed_in (takes_of rfl rfl rfl rfl) (sa_cons (se_ix (vb 2) (SE.sb (se_un un_neg ok_neg (SE.sb se_int)))) sa_nil)) sx_nil)))
    (ss_cons (ss_if (SW.st (sw_or (st_cmp op_isN ok_isN (vb 3) (SE.sb se_non) rfl) (sw_or (st_cmp op_isN ok_isN (vb 4) (SE.sb se_non) rfl) (sw_or1 (st_not (st_chain op_le ok_le op_le ok_le (SE.sb (se_un un_neg ok_neg (SE.sb (K_MOST_CONSTANT Z)))) (vb 4) (SE.sb (K_MOST_CONSTANT Z)))))))) (ss_one (ss_ret se_non)) ss_nil)
    (ss_cons (ss_if (st_cmp (op_eqA hr.u64) (ok_eq rfl) (SE.sb (se_ix (vb 2) (SE.sb (se_un un_neg ok_neg (SE.sb se_int))))) (SE.sb se_str) rfl) (ss_one (ss_ret (se_tup (sa_cons (v 3) (sa_cons (v 4) sa_nil))))) ss_nil)
    (ss_one (ss_ret (se_tup (sa_cons (w_tuple Z.b_tuple (sab_cons (SE.sb (SN.se (sn_lc (own := [(("weight" : Str), 5)]) rfl sc_inequality_in.nd (si_b (vb 3)) (blk_of rfl rfl) (fun _ _ _ _ _ => (tbn 5 sc_inequality_in.nd)) (fun _ _ _ _ _ => sts_nil) (fun _ _ _ _ _ => (se_un un_neg ok_neg (vb 5)))))) sab_nil)) (sa_cons (se_un un_neg ok_neg (vb 4)) sa_nil)))))))))))
theorem ok_inequality_in {P : Program} {w : World} {K : PySem.W.Frag} {mg : Str → Option Value} {base : Heap} {A : Ad} (Z : Fx K mg A) : FnP false P w K mg base 4 A.a_inequality_in (spOf (tbl K A) 2 f_inequality_in) := (fg_inequality_in Z).byP0 (Z.F_inequality_in.binds fun _ _ _ _ _ _ us hl => match us, hl with | [_, _], _ => rfl)
theorem sc_wrong_rows : FnScope ["rows", "kinds", "index", "row"] ["rows"] (defScope s_wrong_rows) := ⟨rfl, rfl, rfl, by decide +kernel, rfl, by decide +kernel, by decide +kernel⟩
def q_wrong_rows : Sx := (sSeq (sIf (tNotB (tCh leD leD (eC (.int 1)) (eCall (g1 lenD) (aCons (eLook 0) aNil)) (e2 addD (eC (.int 10)) (eC (.int 1))))) (sRet (eTup (aCons (eC .non) aNil))) sNil)
    (sSeq (sSet 1 (eFn 1 f_unknowns_in (aCons (e2 ixD (eLook 0) (eC (.int 0))) aNil)))
    (sSeq (sIf (tB2 isNoneD (eLook 1) (eC .non)) (sRet (eTup (aCons (eC (.int 0)) aNil))) sNil)
    (sSeq (sFor (iA enM (aCons (eVar 0) aNil)) (gTp 2 (gMore (gNm 2) (gMore (gNm 3) gNone))) (sIf (tAndB (tB2 gtD (eLook 2) (eC (.int 0))) (tB2 isNoneD (eFn 2 f_inequality_in (aCons (eVar 3) (aCons (eCall (g1 lenD) (aCons (eLook 1) aNil)) aNil))) (eC .non))) (sRet (eTup (aCons (eVar 2) aNil))) sNil))
    (sRet (eTup aNil))))))
def f_wrong_rows (ds : List D) : M D := fnM 4 q_wrong_rows ds
set_option maxHeartbeats 4000000 in
theorem fg_wrong_rows {P : Program} {w : World} {K : PySem.W.Frag} {mg : Str → Option Value} {base : Heap} {A : Ad} (Z : Fx K mg A) : FnG false P w K mg base 5 A.a_wrong_rows A.d_wrong_rows ["rows"] (spOf (tbl K A) 1 f_wrong_rows) :=
  fng_den (T := tbl K A) Z.F_wrong_rows sc_wrong_rows (fun cv Ar out s H E hr =>
    (ss_cons (ss_if (st_not (st_chain op_le ok_le op_le ok_le (SE.sb se_int) (SE.sb (w_len Z.b_len (sab_cons (vb 0) sab_nil))) (SE.sb (se_op op_plus (ok_add rfl) (SE.sb (K_MOST_INEQUALITIES Z)) (SE.sb se_int))))) (ss_one (ss_ret (se_tup (sa_cons se_non sa_nil)))) ss_nil)
    (ss_cons (xset 1 sc_wrong_rows.nd (se_call ((ok_unknowns_in Z).up (by decide)) hr rfl Z.m_unknowns_in Z.k_unknowns_in (takes_of rfl rfl rfl rfl) (sa_cons (se_ix (vb 0) (SE.sb se_int)) sa_nil)))
    (ss_cons (ss_if (st_cmp op_isN ok_isN (vb 1) (SE.sb se_non) rfl) (ss_one (ss_ret (se_tup (sa_cons se_int sa_nil)))) ss_nil)
    (ss_cons (ss_for (passes_of rfl) rfl (si_enum rfl Z.b_enumerate (sa_cons (v 0) sa_nil)) (sg_tup rfl (sgs_cons (tn 2 sc_wrong_rows.nd) (sgs_cons (tn 3 sc_wrong_rows.nd) sgs_nil))) (ss_one (ss_if (SW.st (sw_and (st_cmp op_gt ok_gt (vb 2) (SE.sb se_int) rfl) (sw_and1 (st_cmp op_isN ok_isN (SE.sb (se_call ((ok_inequality_in Z).up (by decide)) hr rfl Z.m_inequality_in Z.k_inequality_in (takes_of rfl rfl rfl rfl) (sa_cons (v 3) (sa_cons (w_len Z.b_len (sab_cons (vb 1) sab_nil)) sa_nil)))) (SE.sb se_non) rfl)))) (ss_one (ss_ret (se_tup (sa_cons (v 2) sa_nil)))) ss_nil)))
    (ss_one (ss_ret (se_tup sa_nil))))))))
theorem ok_wrong_rows {P : Program} {w : World} {K : PySem.W.Frag} {mg : Str → Option Value} {base : Heap} {A : Ad} (Z : Fx K mg A) : FnP false P w K mg base 5 A.a_wrong_rows (spOf (tbl K A) 1 f_wrong_rows) := (fg_wrong_rows Z).byP0 (Z.F_wrong_rows.binds fun _ _ _ _ _ _ us hl => match us, hl with | [_], _ => rfl)
theorem sc_System_init : FnScope ["self", "rows", "wrong", "letter", "kind", "row"] ["self", "rows"] (defScope s_System_init) := ⟨rfl, rfl, rfl, by decide +kernel, rfl, by decide +kernel, by decide +kernel⟩
def q_System_init : Sx := (sSeq (sSet 2 (eFn 1 f_wrong_rows (aCons (eVar 1) aNil)))
    (sSeq (sIf (tT (eLook 2)) sNo sNil)
    (sSeq (sAttr 0 [(0, 0)] (eVar 1))
    (sSeq (sAttr 0 [(0, 1)] (eFn 1 f_unknowns_in (aCons (e2 ixD (eLook 1) (eC (.int 0))) aNil)))
    (sSeq (sAttr 0 [(0, 2)] (eSl (eC (.str "xy")) oNo (oInt (eCall (g1 lenD) (aCons (eFldM 0 [(0, 1)]) aNil)))))
    (sSeq (sAttr 0 [(0, 3)] (m2 joinD (eC (.str "")) (eN (lcN (iA zipM (aCons (eC (.str "xy")) (aCons (eFldM 0 [(0, 1)]) aNil))) (gTp 2 (gMore (gNm 3) (gMore (gNm 4) gNone))) (tB2 eqD (eLook 4) (eC (.str "whole"))) (eVar 3) [3, 4]))))
    (sAttr 0 [(0, 4)] (eCall (g1 tupleD) (aCons (eN (lcN (iE (eSl (eLook 1) (oInt (eC (.int 1))) oNo)) (gNm 5) yes (eFn 2 f_inequality_in (aCons (eVar 5) (aCons (eCall (g1 lenD) (aCons (eFldM 0 [(0, 1)]) aNil)) aNil))) [5])) aNil)))))))))
def f_System_init (ds : List D) : M (List D) := if ds.length ≤ sizeLine then mkM 6 0 5 q_System_init [.tup ds] else dv
set_option maxHeartbeats 4000000 in
theorem ok_System_init {P : Program} {w : World} {K : PySem.W.Frag} {mg : Str → Option Value} {base : Heap} {A : Ad} (Z : Fx K mg A) : FnP false P w K mg base 6 A.a_System_init (spMk (tbl K A) 0 none f_System_init) := by
  obtain ⟨oc, od, kV, doc, pm, an, cv, ct, osl, l, hc⟩ := Z.F_System_init.ex
  exact fnp_inits (T := tbl K A) l hc sc_System_init rfl (fun us rest hl => match us, rest, hl with | [_], [], _ => rfl | [_], _ :: _, _ => rfl) (fun cv Ar out s H E hr =>
    (ss_cons (xset 2 sc_System_init.nd (se_call ((ok_wrong_rows Z).up (by decide)) hr rfl Z.m_wrong_rows Z.k_wrong_rows (takes_of rfl rfl rfl rfl) (sa_cons (v 1) sa_nil)))
    (ss_cons (ss_if (st_tru (vb 2)) (ss_one ss_no) ss_nil)
    (ss_cons (xattr 0 [(0, 0)] (v 1) (cf_told Z))
    (ss_cons (xattr 0 [(0, 1)] (se_call ((ok_unknowns_in Z).up (by decide)) hr rfl Z.m_unknowns_in Z.k_unknowns_in (takes_of rfl rfl rfl rfl) (sa_cons (se_ix (vb 1) (SE.sb se_int)) sa_nil)) (cf_kinds Z))
    (ss_cons (xattr 0 [(0, 2)] (se_sl (SE.sb (K_UNKNOWNS Z)) so_none (so_some (SE.sb (w_len Z.b_len (sab_cons (SE.sb (vm 0 [(0, 1)] (cf_kinds Z))) sab_nil))))) (cf_letters Z))
    (ss_cons (xattr 0 [(0, 3)] (se_join (SE.sb se_str) (SE.sb (SN.se (sn_lc (own := [(("letter" : Str), 3), (("kind" : Str), 4)]) rfl sc_System_init.nd (si_zipB rfl Z.b_zip (sab_cons (SE.sb (K_UNKNOWNS Z)) (sab_cons (SE.sb (vm 0 [(0, 1)] (cf_kinds Z))) sab_nil))) (blk_of rfl rfl) (fun _ _ _ _ _ => (sgb_tup rfl (sgbs_cons (tbn 3 sc_System_init.nd) (sgbs_cons (tbn 4 sc_System_init.nd) sgbs_nil)))) (fun _ _ _ _ _ => (sts_one (st_cmp (op_eqA hr.u64) (ok_eq rfl) (vb 4) (SE.sb se_str) rfl))) (fun _ _ _ _ _ => (v 3)))))) (cf_solid Z))
    (ss_one (xattr 0 [(0, 4)] (w_tuple Z.b_tuple (sab_cons (SE.sb (SN.se (sn_lc (own := [(("row" : Str), 5)]) rfl sc_System_init.nd (si_b (SE.sb (se_sl (vb 1) (so_some (SE.sb se_int)) so_none))) (blk_of rfl rfl) (fun _ _ _ _ _ => (tbn 5 sc_System_init.nd)) (fun _ _ _ _ _ => sts_nil) (fun _ _ _ _ _ => (se_call ((ok_inequality_in Z).up (by decide)) hr rfl Z.m_inequality_in Z.k_inequality_in takes_wf (sa_cons (v 5) (sa_cons (w_len Z.b_len (sab_cons (SE.sb (vm 0 [(0, 1)] (cf_kinds Z))) sab_nil)) sa_nil))))))) sab_nil)) (cf_bounds Z))))))))))
theorem sc_System_read : FnScope ["cls", "text", "rows"] ["cls", "text"] (defScope s_System_read) := ⟨rfl, rfl, rfl, by decide +kernel, rfl, by decide +kernel, by decide +kernel⟩
def q_System_read : Sx := (sSeq (sSet 2 (eIf (tT (e1 (isTyM "str" own_cs) (eLook 1))) (eN (splitN (eLook 1) (eC (.str "\n")))) (eN (nLst aNil))))
    (sSeq (sIf (tT (eFn 1 f_wrong_rows (aCons (eVar 2) aNil))) sNo sNil)
    (sRet (eMk 0 none f_System_init (aStar1 (eVar 2))))))
def f_System_read (ds : List D) : M D := fnM1 3 q_System_read ds
set_option maxHeartbeats 4000000 in
theorem fg_System_read {P : Program} {w : World} {K : PySem.W.Frag} {mg : Str → Option Value} {base : Heap} {A : Ad} (Z : Fx K mg A) : FnG false P w K mg base 8 A.a_System_read A.d_System_read ["cls", "text"] (spOf1 (tbl K A) 1 f_System_read) :=
  fng_den1 (n := 0) (T := tbl K A) Z.F_System_read sc_System_read (fun cv Ar out s H E hr =>
    (ss_cons (xset 2 sc_System_read.nd (se_if (st_tru (SE.sb (se_isTy (vb 1) rfl Z.b_isinstance rfl Z.b_str rfl (by decide) (it_str Z)))) (SN.se (sn_split (vb 1) (SE.sb se_str))) (SN.se (sn_lst sa_nil))))
    (ss_cons (ss_if (st_tru (SE.sb (se_call ((ok_wrong_rows Z).up (by decide)) hr rfl Z.m_wrong_rows Z.k_wrong_rows (takes_of rfl rfl rfl rfl) (sa_cons (v 2) sa_nil)))) (ss_one ss_no) ss_nil)
    (ss_one (ss_ret (se_mkStar (cc := 0) Z.mk_System ((ok_System_init Z).up (by decide)) hr rfl Z.m_System (takes_of rfl rfl rfl rfl) (v 2)))))))
theorem ok_System_read {P : Program} {w : World} {K : PySem.W.Frag} {mg : Str → Option Value} {base : Heap} {A : Ad} (Z : Fx K mg A) : FnP false P w K mg base 8 A.a_System_read (spOf1 (tbl K A) 1 f_System_read) := (fg_System_read Z).byP0 (Z.F_System_read.binds fun _ _ _ _ _ _ us hl => match us, hl with | [_, _], _ => rfl)
theorem sc__law_made : FnScope ["_law_rows_now"] ["_law_rows_now"] (defScope s__law_made) := ⟨rfl, rfl, rfl, by decide +kernel, rfl, by decide +kernel, by decide +kernel⟩
def q__law_made : Sx := (sRet (eFn 1 (f_System_read) (aCons (m2 joinD (eC (.str "\n")) (eLook 0)) aNil)))
def f__law_made (ds : List D) : M D := fnM 1 q__law_made ds
set_option maxHeartbeats 4000000 in
theorem fg__law_made {P : Program} {w : World} {K : PySem.W.Frag} {mg : Str → Option Value} {base : Heap} {A : Ad} (Z : Fx K mg A) : FnG false P w K mg base 9 A.a__law_made A.d__law_made ["_law_rows_now"] (spOf (tbl K A) 1 f__law_made) :=
  fng_den (T := tbl K A) Z.F__law_made sc__law_made (fun cv Ar out s H E hr =>
    (ss_one (ss_ret (se_cm (Z.cr_System) (Z.cm_System_read) ((ok_System_read Z).up (by decide)) hr (takes_of rfl rfl rfl rfl) rfl Z.m_System (sa_cons (se_join (SE.sb se_str) (vb 0)) sa_nil)))))
theorem ok__law_made {P : Program} {w : World} {K : PySem.W.Frag} {mg : Str → Option Value} {base : Heap} {A : Ad} (Z : Fx K mg A) : FnP false P w K mg base 9 A.a__law_made (spOf (tbl K A) 1 f__law_made) := (fg__law_made Z).byP0 (Z.F__law_made.binds fun _ _ _ _ _ _ us hl => match us, hl with | [_], _ => rfl)
theorem sc_System_inequalities : FnScope ["self"] ["self"] (defScope s_System_inequalities) := ⟨rfl, rfl, rfl, by decide +kernel, rfl, by decide +kernel, by decide +kernel⟩
def q_System_inequalities : Sx := (sRet (e1 (fldM [(0, 4)]) (eVar 0)))
def f_System_inequalities (ds : List D) : M D := fnM 1 q_System_inequalities ds
set_option maxHeartbeats 4000000 in
theorem fg_System_inequalities {P : Program} {w : World} {K : PySem.W.Frag} {mg : Str → Option Value} {base : Heap} {A : Ad} (Z : Fx K mg A) : FnG false P w K mg base 1 A.a_System_inequalities A.d_System_inequalities ["self"] (spOf (tbl K A) 1 f_System_inequalities) :=
  fng_den (T := tbl K A) Z.F_System_inequalities sc_System_inequalities (fun cv Ar out s H E hr =>
    (ss_one (ss_ret (se_fld (alts := [(0, 4)]) (v 0) (cf_bounds Z)))))
theorem ok_System_inequalities {P : Program} {w : World} {K : PySem.W.Frag} {mg : Str → Option Value} {base : Heap} {A : Ad} (Z : Fx K mg A) : FnP false P w K mg base 1 A.a_System_inequalities (spOf (tbl K A) 1 f_System_inequalities) := (fg_System_inequalities Z).byP0 (Z.F_System_inequalities.binds fun _ _ _ _ _ _ us hl => match us, hl with | [_], _ => rfl)
theorem sc_System_text : FnScope ["self"] ["self"] (defScope s_System_text) := ⟨rfl, rfl, rfl, by decide +kernel, rfl, by decide +kernel, by decide +kernel⟩
def q_System_text : Sx := (sRet (m2 joinD (eC (.str "\n")) (e1 (fldM [(0, 0)]) (eVar 0))))
def f_System_text (ds : List D) : M D := fnM 1 q_System_text ds
set_option maxHeartbeats 4000000 in
theorem fg_System_text {P : Program} {w : World} {K : PySem.W.Frag} {mg : Str → Option Value} {base : Heap} {A : Ad} (Z : Fx K mg A) : FnG false P w K mg base 1 A.a_System_text A.d_System_text ["self"] (spOf (tbl K A) 1 f_System_text) :=
  fng_den (T := tbl K A) Z.F_System_text sc_System_text (fun cv Ar out s H E hr =>
    (ss_one (ss_ret (se_join (SE.sb se_str) (SE.sb (se_fld (alts := [(0, 0)]) (v 0) (cf_told Z)))))))
theorem ok_System_text {P : Program} {w : World} {K : PySem.W.Frag} {mg : Str → Option Value} {base : Heap} {A : Ad} (Z : Fx K mg A) : FnP false P w K mg base 1 A.a_System_text (spOf (tbl K A) 1 f_System_text) := (fg_System_text Z).byP0 (Z.F_System_text.binds fun _ _ _ _ _ _ us hl => match us, hl with | [_], _ => rfl)
theorem sc__law_far_integer : FnScope ["_law_spring_here", "_law_found", "_law_k"] ["_law_spring_here"] (defScope s__law_far_integer) := ⟨rfl, rfl, rfl, by decide +kernel, rfl, by decide +kernel, by decide +kernel⟩
def q__law_far_integer : Sx := (sSeq (sSet 1 (eC (.int 0)))
    (sSeq (sFor (iA rng1M (aCons (eFn 2 f__law_of (aCons (eVar 0) (aCons (eN (nLst (aCons (eC (.int 1)) (aCons (eC (.int 2)) (aCons (eC (.int 7)) (aCons (eC (.int 39)) aNil)))))) aNil))) aNil)) (gNm 2) (sSet 1 (e2 addD (e2 mulD (eC (.int 10)) (eLook 1)) (eFn 2 f__law_draw (aCons (eVar 0) (aCons (eC (.int 10)) aNil))))))
    (sSeq (sSet 1 (eFn 2 f__law_of (aCons (eVar 0) (aCons (eN (nLst (aCons (eVar 1) (aCons (eVar 1) (aCons (e2 addD (e2 powD (eC (.int 10)) (eC (.int 39))) (eLook 1)) (aCons (e2 mulD (eC (.int 9)) (e2 powD (eC (.int 10)) (eC (.int 39)))) aNil)))))) aNil))))
    (sRet (eIf (tB2 eqD (eFn 2 f__law_draw (aCons (eVar 0) (aCons (eC (.int 2)) aNil))) (eC (.int 0))) (eVar 1) (e2 subD (eC (.int 0)) (eLook 1)))))))
def f__law_far_integer (ds : List D) : M D := fnM 3 q__law_far_integer ds
set_option maxHeartbeats 4000000 in
theorem fg__law_far_integer {P : Program} {w : World} {K : PySem.W.Frag} {mg : Str → Option Value} {base : Heap} {A : Ad} (Z : Fx K mg A) : FnG false P w K mg base 3 A.a__law_far_integer A.d__law_far_integer ["_law_spring_here"] (spOf (tbl K A) 1 f__law_far_integer) :=
  fng_den (T := tbl K A) Z.F__law_far_integer sc__law_far_integer (fun cv Ar out s H E hr =>
    (ss_cons (xset 1 sc__law_far_integer.nd se_int)
    (ss_cons (ss_for (passes_of rfl) rfl (si_rng1 rfl Z.b_range (sa_cons (se_call ((ok__law_of Z).up (by decide)) hr rfl Z.m__law_of Z.k__law_of (takes_of rfl rfl rfl rfl) (sa_cons (v 0) (sa_cons (SN.se (sn_lst (sa_cons se_int (sa_cons se_int (sa_cons se_int (sa_cons se_int sa_nil)))))) sa_nil))) sa_nil)) (tn 2 sc__law_far_integer.nd) (ss_one (xset 1 sc__law_far_integer.nd (se_op op_plus (ok_add rfl) (SE.sb (se_op op_times ok_mul (SE.sb se_int) (vb 1))) (SE.sb (se_call ((ok__law_draw Z).up (by decide)) hr rfl Z.m__law_draw Z.k__law_draw (takes_of rfl rfl rfl rfl) (sa_cons (v 0) (sa_cons se_int sa_nil))))))))
    (ss_cons (xset 1 sc__law_far_integer.nd (se_call ((ok__law_of Z).up (by decide)) hr rfl Z.m__law_of Z.k__law_of (takes_of rfl rfl rfl rfl) (sa_cons (v 0) (sa_cons (SN.se (sn_lst (sa_cons (v 1) (sa_cons (v 1) (sa_cons (se_op op_plus (ok_add rfl) (SE.sb (se_op op_pow ok_pow (SE.sb se_int) (SE.sb se_int))) (vb 1)) (sa_cons (se_op op_times ok_mul (SE.sb se_int) (SE.sb (se_op op_pow ok_pow (SE.sb se_int) (SE.sb se_int)))) sa_nil)))))) sa_nil))))
    (ss_one (ss_ret (se_if (st_cmp (op_eqA hr.u64) (ok_eq rfl) (SE.sb (se_call ((ok__law_draw Z).up (by decide)) hr rfl Z.m__law_draw Z.k__law_draw (takes_of rfl rfl rfl rfl) (sa_cons (v 0) (sa_cons se_int sa_nil)))) (SE.sb se_int) rfl) (v 1) (se_op op_sub' ok_sub (SE.sb se_int) (vb 1)))))))))
theorem ok__law_far_integer {P : Program} {w : World} {K : PySem.W.Frag} {mg : Str → Option Value} {base : Heap} {A : Ad} (Z : Fx K mg A) : FnP false P w K mg base 3 A.a__law_far_integer (spOf (tbl K A) 1 f__law_far_integer) := (fg__law_far_integer Z).byP0 (Z.F__law_far_integer.binds fun _ _ _ _ _ _ us hl => match us, hl with | [_], _ => rfl)
theorem sc__law_divisor : FnScope ["_law_one_number", "_law_two_number", "_law_turn"] ["_law_one_number", "_law_two_number"] (defScope s__law_divisor) := ⟨rfl, rfl, rfl, by decide +kernel, rfl, by decide +kernel, by decide +kernel⟩
def q__law_divisor : Sx := (sSeq (sPX2 0 1 (xV (eCall (g1 absD) (aCons (eCall (g1 intD) (aCons (eLook 0) aNil)) aNil)) (xV (eCall (g1 absD) (aCons (eCall (g1 intD) (aCons (eLook 1) aNil)) aNil)) xNil)))
    (sSeq (sFor (iA rng1M (aCons (eC (.int 2000)) aNil)) (gNm 2) (sSeq (sIf (tB2 eqD (eLook 1) (eC (.int 0))) (sRet (eVar 0)) sNil)
    (sPX2 0 1 (xV (eVar 1) (xV (e2 modD (eCall (g1 intD) (aCons (eLook 0) aNil)) (eLook 1)) xNil)))))
    (sRet (eC (.int 0)))))
def f__law_divisor (ds : List D) : M D := fnM 3 q__law_divisor ds
set_option maxHeartbeats 4000000 in
theorem fg__law_divisor {P : Program} {w : World} {K : PySem.W.Frag} {mg : Str → Option Value} {base : Heap} {A : Ad} (Z : Fx K mg A) : FnG false P w K mg base 1 A.a__law_divisor A.d__law_divisor ["_law_one_number", "_law_two_number"] (spOf (tbl K A) 2 f__law_divisor) :=
  fng_den (T := tbl K A) Z.F__law_divisor sc__law_divisor (fun cv Ar out s H E hr =>
    (ss_cons (xpx2 0 1 sc__law_divisor.nd (sx_v (w_abs Z.b_abs (sab_cons (SE.sb (w_int Z.b_int (sab_cons (vb 0) sab_nil))) sab_nil)) (sx_v (w_abs Z.b_abs (sab_cons (SE.sb (w_int Z.b_int (sab_cons (vb 1) sab_nil))) sab_nil)) sx_nil)))
    (ss_cons (ss_for (passes_of rfl) rfl (si_rng1 rfl Z.b_range (sa_cons se_int sa_nil)) (tn 2 sc__law_divisor.nd) (ss_cons (ss_if (st_cmp (op_eqA hr.u64) (ok_eq rfl) (vb 1) (SE.sb se_int) rfl) (ss_one (ss_ret (v 0))) ss_nil)
    (ss_one (xpx2 0 1 sc__law_divisor.nd (sx_v (v 1) (sx_v (se_op op_modN ok_mod (SE.sb (w_int Z.b_int (sab_cons (vb 0) sab_nil))) (vb 1)) sx_nil))))))
    (ss_one (ss_ret se_int)))))
theorem ok__law_divisor {P : Program} {w : World} {K : PySem.W.Frag} {mg : Str → Option Value} {base : Heap} {A : Ad} (Z : Fx K mg A) : FnP false P w K mg base 1 A.a__law_divisor (spOf (tbl K A) 2 f__law_divisor) := (fg__law_divisor Z).byP0 (Z.F__law_divisor.binds fun _ _ _ _ _ _ us hl => match us, hl with | [_, _], _ => rfl)
theorem sc__law_ratio : FnScope ["_law_top", "_law_bottom", "_law_great_here"] ["_law_top", "_law_bottom"] (defScope s__law_ratio) := ⟨rfl, rfl, rfl, by decide +kernel, rfl, by decide +kernel, by decide +kernel⟩
def q__law_ratio : Sx := (sSeq (sSet 2 (eFn 2 f__law_divisor (aCons (eVar 0) (aCons (eVar 1) aNil))))
    (sSeq (sSet 2 (eIf (tB2 gtD (eLook 1) (eC (.int 0))) (eVar 2) (e1 negD (eLook 2))))
    (sRet (eTup (aCons (e2 fdivD (eCall (g1 intD) (aCons (eLook 0) aNil)) (eLook 2)) (aCons (e2 fdivD (eCall (g1 intD) (aCons (eLook 1) aNil)) (eLook 2)) aNil))))))
def f__law_ratio (ds : List D) : M D := fnM 3 q__law_ratio ds
set_option maxHeartbeats 4000000 in
theorem fg__law_ratio {P : Program} {w : World} {K : PySem.W.Frag} {mg : Str → Option Value} {base : Heap} {A : Ad} (Z : Fx K mg A) : FnG false P w K mg base 2 A.a__law_ratio A.d__law_ratio ["_law_top", "_law_bottom"] (spOf (tbl K A) 2 f__law_ratio) :=
  fng_den (T := tbl K A) Z.F__law_ratio sc__law_ratio (fun cv Ar out s H E hr =>
    (ss_cons (xset 2 sc__law_ratio.nd (se_call ((ok__law_divisor Z).up (by decide)) hr rfl Z.m__law_divisor Z.k__law_divisor (takes_of rfl rfl rfl rfl) (sa_cons (v 0) (sa_cons (v 1) sa_nil))))
    (ss_cons (xset 2 sc__law_ratio.nd (se_if (st_cmp op_gt ok_gt (vb 1) (SE.sb se_int) rfl) (v 2) (se_un un_neg ok_neg (vb 2))))
    (ss_one (ss_ret (se_tup (sa_cons (se_op op_fdivA ok_fdiv (SE.sb (w_int Z.b_int (sab_cons (vb 0) sab_nil))) (vb 2)) (sa_cons (se_op op_fdivA ok_fdiv (SE.sb (w_int Z.b_int (sab_cons (vb 1) sab_nil))) (vb 2)) sa_nil))))))))
theorem ok__law_ratio {P : Program} {w : World} {K : PySem.W.Frag} {mg : Str → Option Value} {base : Heap} {A : Ad} (Z : Fx K mg A) : FnP false P w K mg base 2 A.a__law_ratio (spOf (tbl K A) 2 f__law_ratio) := (fg__law_ratio Z).byP0 (Z.F__law_ratio.binds fun _ _ _ _ _ _ us hl => match us, hl with | [_, _], _ => rfl)
theorem sc__law_value_for : FnScope ["_law_spring_here", "_law_kind"] ["_law_spring_here", "_law_kind"] (defScope s__law_value_for) := ⟨rfl, rfl, rfl, by decide +kernel, rfl, by decide +kernel, by decide +kernel⟩
def q__law_value_for : Sx := (sSeq (sIf (tB2 eqD (eLook 1) (eC (.str "whole"))) (sRet (eFn 1 f__law_far_integer (aCons (eVar 0) aNil))) sNil)
    (sRet (eFn 2 f__law_ratio (aCons (eFn 1 f__law_far_integer (aCons (eVar 0) aNil)) (aCons (e2 addD (eC (.int 1)) (e2 modD (eCall (g1 intD) (aCons (eCall (g1 absD) (aCons (eFn 1 f__law_far_integer (aCons (eVar 0) aNil)) aNil)) aNil)) (e2 powD (eC (.int 10)) (eC (.int 38))))) aNil)))))
def f__law_value_for (ds : List D) : M D := fnM 2 q__law_value_for ds
set_option maxHeartbeats 4000000 in
theorem fg__law_value_for {P : Program} {w : World} {K : PySem.W.Frag} {mg : Str → Option Value} {base : Heap} {A : Ad} (Z : Fx K mg A) : FnG false P w K mg base 4 A.a__law_value_for A.d__law_value_for ["_law_spring_here", "_law_kind"] (spOf (tbl K A) 2 f__law_value_for) :=
  fng_den (T := tbl K A) Z.F__law_value_for sc__law_value_for (fun cv Ar out s H E hr =>
    (ss_cons (ss_if (st_cmp (op_eqA hr.u64) (ok_eq rfl) (vb 1) (SE.sb se_str) rfl) (ss_one (ss_ret (se_call ((ok__law_far_integer Z).up (by decide)) hr rfl Z.m__law_far_integer Z.k__law_far_integer (takes_of rfl rfl rfl rfl) (sa_cons (v 0) sa_nil)))) ss_nil)
    (ss_one (ss_ret (se_call ((ok__law_ratio Z).up (by decide)) hr rfl Z.m__law_ratio Z.k__law_ratio (takes_of rfl rfl rfl rfl) (sa_cons (se_call ((ok__law_far_integer Z).up (by decide)) hr rfl Z.m__law_far_integer Z.k__law_far_integer (takes_of rfl rfl rfl rfl) (sa_cons (v 0) sa_nil)) (sa_cons (se_op op_plus (ok_add rfl) (SE.sb se_int) (SE.sb (se_op op_modN ok_mod (SE.sb (w_int Z.b_int (sab_cons (SE.sb (w_abs Z.b_abs (sab_cons (SE.sb (se_call ((ok__law_far_integer Z).up (by decide)) hr rfl Z.m__law_far_integer Z.k__law_far_integer (takes_of rfl rfl rfl rfl) (sa_cons (v 0) sa_nil))) sab_nil))) sab_nil))) (SE.sb (se_op op_pow ok_pow (SE.sb se_int) (SE.sb se_int)))))) sa_nil)))))))
theorem ok__law_value_for {P : Program} {w : World} {K : PySem.W.Frag} {mg : Str → Option Value} {base : Heap} {A : Ad} (Z : Fx K mg A) : FnP false P w K mg base 4 A.a__law_value_for (spOf (tbl K A) 2 f__law_value_for) := (fg__law_value_for Z).byP0 (Z.F__law_value_for.binds fun _ _ _ _ _ _ us hl => match us, hl with | [_, _], _ => rfl)
theorem sc__law_sum : FnScope ["_law_weights_now", "_law_spot", "_law_top", "_law_bottom", "_law_size", "_law_part", "_law_p", "_law_q"] ["_law_weights_now", "_law_spot"] (defScope s__law_sum) := ⟨rfl, rfl, rfl, by decide +kernel, rfl, by decide +kernel, by decide +kernel⟩
def q__law_sum : Sx := (sSeq (sAsg (eTup (aCons (eC (.int 0)) (aCons (eC (.int 1)) aNil))) (gTp 2 (gMore (gNm 2) (gMore (gNm 3) gNone))))
    (sSeq (sFor (iA zipM (aCons (eVar 0) (aCons (eVar 1) aNil))) (gTp 2 (gMore (gNm 4) (gMore (gNm 5) gNone))) (sSeq (sAsg (eIf (tT (e1 (isTyM "tuple" own_cs) (eLook 5))) (eVar 5) (eTup (aCons (eVar 5) (aCons (eC (.int 1)) aNil)))) (gTp 2 (gMore (gNm 6) (gMore (gNm 7) gNone))))
    (sPX2 2 3 (xV (e2 addD (e2 mulD (eLook 2) (eLook 7)) (e2 mulD (e2 mulD (eLook 4) (eLook 6)) (eLook 3))) (xV (e2 mulD (eLook 3) (eLook 7)) xNil)))))
    (sRet (eFn 2 f__law_ratio (aCons (eVar 2) (aCons (eVar 3) aNil))))))
def f__law_sum (ds : List D) : M D := fnM 8 q__law_sum ds
set_option maxHeartbeats 4000000 in
theorem fg__law_sum {P : Program} {w : World} {K : PySem.W.Frag} {mg : Str → Option Value} {base : Heap} {A : Ad} (Z : Fx K mg A) : FnG false P w K mg base 3 A.a__law_sum A.d__law_sum ["_law_weights_now", "_law_spot"] (spOf (tbl K A) 2 f__law_sum) :=
  fng_den (T := tbl K A) Z.F__law_sum sc__law_sum (fun cv Ar out s H E hr =>
    (ss_cons (ss_asg (se_tup (sa_cons se_int (sa_cons se_int sa_nil))) (sg_tup rfl (sgs_cons (tn 2 sc__law_sum.nd) (sgs_cons (tn 3 sc__law_sum.nd) sgs_nil))))
    (ss_cons (ss_for (passes_of rfl) rfl (si_zip rfl Z.b_zip (sa_cons (v 0) (sa_cons (v 1) sa_nil))) (sg_tup rfl (sgs_cons (tn 4 sc__law_sum.nd) (sgs_cons (tn 5 sc__law_sum.nd) sgs_nil))) (ss_cons (ss_asg (se_if (st_tru (SE.sb (se_isTy (vb 5) rfl Z.b_isinstance rfl Z.b_tuple rfl (by decide) (it_tuple Z)))) (v 5) (se_tup (sa_cons (v 5) (sa_cons se_int sa_nil)))) (sg_tup rfl (sgs_cons (tn 6 sc__law_sum.nd) (sgs_cons (tn 7 sc__law_sum.nd) sgs_nil))))
    (ss_one (xpx2 2 3 sc__law_sum.nd (sx_v (se_op op_plus (ok_add rfl) (SE.sb (se_op op_times ok_mul (vb 2) (vb 7))) (SE.sb (se_op op_times ok_mul (SE.sb (se_op op_times ok_mul (vb 4) (vb 6))) (vb 3)))) (sx_v (se_op op_times ok_mul (vb 3) (vb 7)) sx_nil))))))
    (ss_one (ss_ret (se_call ((ok__law_ratio Z).up (by decide)) hr rfl Z.m__law_ratio Z.k__law_ratio (takes_of rfl rfl rfl rfl) (sa_cons (v 2) (sa_cons (v 3) sa_nil))))))))
theorem ok__law_sum {P : Program} {w : World} {K : PySem.W.Frag} {mg : Str → Option Value} {base : Heap} {A : Ad} (Z : Fx K mg A) : FnP false P w K mg base 3 A.a__law_sum (spOf (tbl K A) 2 f__law_sum) := (fg__law_sum Z).byP0 (Z.F__law_sum.binds fun _ _ _ _ _ _ us hl => match us, hl with | [_, _], _ => rfl)
theorem sc_check_system : FnScope ["value"] ["value"] (defScope s_check_system) := ⟨rfl, rfl, rfl, by decide +kernel, rfl, by decide +kernel, by decide +kernel⟩
def q_check_system : Sx := (sIf (tNotB (tT (e1 (isClM own_System) (eLook 0)))) sNo sNil)
def f_check_system (ds : List D) : M D := fnM 1 q_check_system ds
set_option maxHeartbeats 4000000 in
theorem fg_check_system {P : Program} {w : World} {K : PySem.W.Frag} {mg : Str → Option Value} {base : Heap} {A : Ad} (Z : Fx K mg A) : FnG false P w K mg base 1 A.a_check_system A.d_check_system ["value"] (spOf (tbl K A) 1 f_check_system) :=
  fng_den (T := tbl K A) Z.F_check_system sc_check_system (fun cv Ar out s H E hr =>
    (ss_one (ss_if (st_not (st_tru (SE.sb (se_isCl (cc := 0) (vb 0) rfl Z.b_isinstance rfl Z.m_System (ib_System Z) (ic_System Z))))) (ss_one ss_no) ss_nil)))
theorem ok_check_system {P : Program} {w : World} {K : PySem.W.Frag} {mg : Str → Option Value} {base : Heap} {A : Ad} (Z : Fx K mg A) : FnP false P w K mg base 1 A.a_check_system (spOf (tbl K A) 1 f_check_system) := (fg_check_system Z).byP0 (Z.F_check_system.binds fun _ _ _ _ _ _ us hl => match us, hl with | [_], _ => rfl)
theorem sc_is_integer : FnScope ["value"] ["value"] (defScope s_is_integer) := ⟨rfl, rfl, rfl, by decide +kernel, rfl, by decide +kernel, by decide +kernel⟩
def q_is_integer : Sx := (sRet (eAndT (e1 (isTyM "int" own_cs) (eLook 0)) (eNotT (e1 (isTyM "bool" own_cs) (eLook 0)))))
def f_is_integer (ds : List D) : M D := fnM 1 q_is_integer ds
set_option maxHeartbeats 4000000 in
theorem fg_is_integer {P : Program} {w : World} {K : PySem.W.Frag} {mg : Str → Option Value} {base : Heap} {A : Ad} (Z : Fx K mg A) : FnG false P w K mg base 1 A.a_is_integer A.d_is_integer ["value"] (spOf (tbl K A) 1 f_is_integer) :=
  fng_den (T := tbl K A) Z.F_is_integer sc_is_integer (fun cv Ar out s H E hr =>
    (ss_one (ss_ret (se_andT (se_isTy (vb 0) rfl Z.b_isinstance rfl Z.b_int rfl (by decide) (it_int Z)) (se_one (se_notT (SE.sb (se_isTy (vb 0) rfl Z.b_isinstance rfl Z.b_bool rfl (by decide) (it_bool Z)))))))))
theorem ok_is_integer {P : Program} {w : World} {K : PySem.W.Frag} {mg : Str → Option Value} {base : Heap} {A : Ad} (Z : Fx K mg A) : FnP false P w K mg base 1 A.a_is_integer (spOf (tbl K A) 1 f_is_integer) := (fg_is_integer Z).byP0 (Z.F_is_integer.binds fun _ _ _ _ _ _ us hl => match us, hl with | [_], _ => rfl)
theorem sc_divisor : FnScope ["one", "other"] ["one", "other"] (defScope s_divisor) := ⟨rfl, rfl, rfl, by decide +kernel, rfl, by decide +kernel, by decide +kernel⟩
def q_divisor : Sx := (sSeq (sPX2 0 1 (xV (eCall (g1 absD) (aCons (eLook 0) aNil)) (xV (eCall (g1 absD) (aCons (eLook 1) aNil)) xNil)))
    (sSeq (sWhile (tB2 gtD (eLook 1) (eC (.int 0))) (sPX2 0 1 (xV (eVar 1) (xV (e2 modD (eLook 0) (eLook 1)) xNil))))
    (sRet (eVar 0))))
def f_divisor (ds : List D) : M D := fnM 2 q_divisor ds
set_option maxHeartbeats 4000000 in
theorem fg_divisor {P : Program} {w : World} {K : PySem.W.Frag} {mg : Str → Option Value} {base : Heap} {A : Ad} (Z : Fx K mg A) : FnG false P w K mg base 1 A.a_divisor A.d_divisor ["one", "other"] (spOf (tbl K A) 2 f_divisor) :=
  fng_den (T := tbl K A) Z.F_divisor sc_divisor (fun cv Ar out s H E hr =>
    (ss_cons (xpx2 0 1 sc_divisor.nd (sx_v (w_abs Z.b_abs (sab_cons (vb 0) sab_nil)) (sx_v (w_abs Z.b_abs (sab_cons (vb 1) sab_nil)) sx_nil)))
    (ss_cons (ss_while (passes_of rfl) (st_cmp op_gt ok_gt (vb 1) (SE.sb se_int) rfl) (ss_one (xpx2 0 1 sc_divisor.nd (sx_v (v 1) (sx_v (se_op op_modN ok_mod (vb 0) (vb 1)) sx_nil)))))
    (ss_one (ss_ret (v 0))))))
theorem ok_divisor {P : Program} {w : World} {K : PySem.W.Frag} {mg : Str → Option Value} {base : Heap} {A : Ad} (Z : Fx K mg A) : FnP false P w K mg base 1 A.a_divisor (spOf (tbl K A) 2 f_divisor) := (fg_divisor Z).byP0 (Z.F_divisor.binds fun _ _ _ _ _ _ us hl => match us, hl with | [_, _], _ => rfl)
theorem sc_is_fraction : FnScope ["value", "part"] ["value"] (defScope s_is_fraction) := ⟨rfl, rfl, rfl, by decide +kernel, rfl, by decide +kernel, by decide +kernel⟩
def q_is_fraction : Sx := (sSeq (sIf (tOrB (tNotB (tT (e1 (isTyM "tuple" own_cs) (eLook 0)))) (tOrB (tB2 neD (eCall (g1 lenD) (aCons (eLook 0) aNil)) (eC (.int 2))) (tNotB (tT (eCall (g1 allD) (aCons (eN (lcN (iE (eLook 0)) (gNm 1) yes (eFn 1 f_is_integer (aCons (eVar 1) aNil)) [1])) aNil)))))) (sRet (eC (.bl false))) sNil)
    (sRet (eAndT (e2 gtD (e2 ixD (eLook 0) (eC (.int 1))) (eC (.int 0))) (e2 eqD (eFn 2 f_divisor (aCons (e2 ixD (eLook 0) (eC (.int 0))) (aCons (e2 ixD (eLook 0) (eC (.int 1))) aNil))) (eC (.int 1))))))
def f_is_fraction (ds : List D) : M D := fnM 2 q_is_fraction ds
set_option maxHeartbeats 4000000 in
theorem fg_is_fraction {P : Program} {w : World} {K : PySem.W.Frag} {mg : Str → Option Value} {base : Heap} {A : Ad} (Z : Fx K mg A) : FnG false P w K mg base 2 A.a_is_fraction A.d_is_fraction ["value"] (spOf (tbl K A) 1 f_is_fraction) :=
  fng_den (T := tbl K A) Z.F_is_fraction sc_is_fraction (fun cv Ar out s H E hr =>
    (ss_cons (ss_if (SW.st (sw_or (st_not (st_tru (SE.sb (se_isTy (vb 0) rfl Z.b_isinstance rfl Z.b_tuple rfl (by decide) (it_tuple Z))))) (sw_or (st_cmp (op_neA hr.u64) (ok_ne rfl) (SE.sb (w_len Z.b_len (sab_cons (vb 0) sab_nil))) (SE.sb se_int) rfl) (sw_or1 (st_not (st_tru (SE.sb (w_all rfl Z.b_all (sab_cons (SE.sb (SN.se (sn_lc (own := [(("part" : Str), 1)]) rfl sc_is_fraction.nd (si_b (vb 0)) (blk_of rfl rfl) (fun _ _ _ _ _ => (tbn 1 sc_is_fraction.nd)) (fun _ _ _ _ _ => sts_nil) (fun _ _ _ _ _ => (se_call ((ok_is_integer Z).up (by decide)) hr rfl Z.m_is_integer Z.k_is_integer takes_wf (sa_cons (v 1) sa_nil)))))) sab_nil))))))))) (ss_one (ss_ret se_bl)) ss_nil)
    (ss_one (ss_ret (se_andT (se_cmp op_gt ok_gt (SE.sb (se_ix (vb 0) (SE.sb se_int))) (SE.sb se_int) rfl) (se_one (se_cmp (op_eqA hr.u64) (ok_eq rfl) (SE.sb (se_call ((ok_divisor Z).up (by decide)) hr rfl Z.m_divisor Z.k_divisor (takes_of rfl rfl rfl rfl) (sa_cons (se_ix (vb 0) (SE.sb se_int)) (sa_cons (se_ix (vb 0) (SE.sb se_int)) sa_nil)))) (SE.sb se_int) rfl)))))))
theorem ok_is_fraction {P : Program} {w : World} {K : PySem.W.Frag} {mg : Str → Option Value} {base : Heap} {A : Ad} (Z : Fx K mg A) : FnP false P w K mg base 2 A.a_is_fraction (spOf (tbl K A) 1 f_is_fraction) := (fg_is_fraction Z).byP0 (Z.F_is_fraction.binds fun _ _ _ _ _ _ us hl => match us, hl with | [_], _ => rfl)
theorem sc_is_point : FnScope ["system", "value", "kind", "part"] ["system", "value"] (defScope s_is_point) := ⟨rfl, rfl, rfl, by decide +kernel, rfl, by decide +kernel, by decide +kernel⟩
def q_is_point : Sx := (sSeq (sIf (tOrB (tNotB (tT (e1 (isTyM "tuple" own_cs) (eLook 1)))) (tB2 neD (eCall (g1 lenD) (aCons (eLook 1) aNil)) (eCall (g1 lenD) (aCons (e1 (fldM [(0, 1)]) (eVar 0)) aNil)))) (sRet (eC (.bl false))) sNil)
    (sSeq (sFor (iA zipM (aCons (e1 (fldM [(0, 1)]) (eVar 0)) (aCons (eVar 1) aNil))) (gTp 2 (gMore (gNm 2) (gMore (gNm 3) gNone))) (sIf (tNotB (tIf (tB2 eqD (eLook 2) (eC (.str "whole"))) (tT (eFn 1 f_is_integer (aCons (eVar 3) aNil))) (tT (eFn 1 f_is_fraction (aCons (eVar 3) aNil))))) (sRet (eC (.bl false))) sNil))
    (sRet (eC (.bl true)))))
def f_is_point (ds : List D) : M D := fnM 4 q_is_point ds
set_option maxHeartbeats 4000000 in
theorem fg_is_point {P : Program} {w : World} {K : PySem.W.Frag} {mg : Str → Option Value} {base : Heap} {A : Ad} (Z : Fx K mg A) : FnG false P w K mg base 3 A.a_is_point A.d_is_point ["system", "value"] (spOf (tbl K A) 2 f_is_point) :=
  fng_den (T := tbl K A) Z.F_is_point sc_is_point (fun cv Ar out s H E hr =>
    (ss_cons (ss_if (SW.st (sw_or (st_not (st_tru (SE.sb (se_isTy (vb 1) rfl Z.b_isinstance rfl Z.b_tuple rfl (by decide) (it_tuple Z))))) (sw_or1 (st_cmp (op_neA hr.u64) (ok_ne rfl) (SE.sb (w_len Z.b_len (sab_cons (vb 1) sab_nil))) (SE.sb (w_len Z.b_len (sab_cons (SE.sb (se_fld (alts := [(0, 1)]) (v 0) (cf_kinds Z))) sab_nil))) rfl)))) (ss_one (ss_ret se_bl)) ss_nil)
    (ss_cons (ss_for (passes_of rfl) rfl (si_zip rfl Z.b_zip (sa_cons (se_fld (alts := [(0, 1)]) (v 0) (cf_kinds Z)) (sa_cons (v 1) sa_nil))) (sg_tup rfl (sgs_cons (tn 2 sc_is_point.nd) (sgs_cons (tn 3 sc_is_point.nd) sgs_nil))) (ss_one (ss_if (st_not (st_ifx (st_cmp (op_eqA hr.u64) (ok_eq rfl) (vb 2) (SE.sb se_str) rfl) (st_tru (SE.sb (se_call ((ok_is_integer Z).up (by decide)) hr rfl Z.m_is_integer Z.k_is_integer (takes_of rfl rfl rfl rfl) (sa_cons (v 3) sa_nil)))) (st_tru (SE.sb (se_call ((ok_is_fraction Z).up (by decide)) hr rfl Z.m_is_fraction Z.k_is_fraction (takes_of rfl rfl rfl rfl) (sa_cons (v 3) sa_nil)))))) (ss_one (ss_ret se_bl)) ss_nil)))
    (ss_one (ss_ret se_bl)))))
theorem ok_is_point {P : Program} {w : World} {K : PySem.W.Frag} {mg : Str → Option Value} {base : Heap} {A : Ad} (Z : Fx K mg A) : FnP false P w K mg base 3 A.a_is_point (spOf (tbl K A) 2 f_is_point) := (fg_is_point Z).byP0 (Z.F_is_point.binds fun _ _ _ _ _ _ us hl => match us, hl with | [_, _], _ => rfl)
theorem sc_check_point : FnScope ["system", "point"] ["system", "point"] (defScope s_check_point) := ⟨rfl, rfl, rfl, by decide +kernel, rfl, by decide +kernel, by decide +kernel⟩
def q_check_point : Sx := (sIf (tNotB (tT (eFn 2 f_is_point (aCons (eVar 0) (aCons (eVar 1) aNil))))) sNo sNil)
def f_check_point (ds : List D) : M D := fnM 2 q_check_point ds
set_option maxHeartbeats 4000000 in
theorem fg_check_point {P : Program} {w : World} {K : PySem.W.Frag} {mg : Str → Option Value} {base : Heap} {A : Ad} (Z : Fx K mg A) : FnG false P w K mg base 4 A.a_check_point A.d_check_point ["system", "point"] (spOf (tbl K A) 2 f_check_point) :=
  fng_den (T := tbl K A) Z.F_check_point sc_check_point (fun cv Ar out s H E hr =>
    (ss_one (ss_if (st_not (st_tru (SE.sb (se_call ((ok_is_point Z).up (by decide)) hr rfl Z.m_is_point Z.k_is_point (takes_of rfl rfl rfl rfl) (sa_cons (v 0) (sa_cons (v 1) sa_nil)))))) (ss_one ss_no) ss_nil)))
theorem ok_check_point {P : Program} {w : World} {K : PySem.W.Frag} {mg : Str → Option Value} {base : Heap} {A : Ad} (Z : Fx K mg A) : FnP false P w K mg base 4 A.a_check_point (spOf (tbl K A) 2 f_check_point) := (fg_check_point Z).byP0 (Z.F_check_point.binds fun _ _ _ _ _ _ us hl => match us, hl with | [_, _], _ => rfl)
theorem sc_as_fractions : FnScope ["point", "part"] ["point"] (defScope s_as_fractions) := ⟨rfl, rfl, rfl, by decide +kernel, rfl, by decide +kernel, by decide +kernel⟩
def q_as_fractions : Sx := (sRet (eCall (g1 tupleD) (aCons (eN (lcN (iE (eLook 0)) (gNm 1) yes (eIf (tT (eFn 1 f_is_integer (aCons (eVar 1) aNil))) (eTup (aCons (eVar 1) (aCons (eC (.int 1)) aNil))) (eVar 1)) [1])) aNil)))
def f_as_fractions (ds : List D) : M D := fnM 2 q_as_fractions ds
set_option maxHeartbeats 4000000 in
theorem fg_as_fractions {P : Program} {w : World} {K : PySem.W.Frag} {mg : Str → Option Value} {base : Heap} {A : Ad} (Z : Fx K mg A) : FnG false P w K mg base 2 A.a_as_fractions A.d_as_fractions ["point"] (spOf (tbl K A) 1 f_as_fractions) :=
  fng_den (T := tbl K A) Z.F_as_fractions sc_as_fractions (fun cv Ar out s H E hr =>
    (ss_one (ss_ret (w_tuple Z.b_tuple (sab_cons (SE.sb (SN.se (sn_lc (own := [(("part" : Str), 1)]) rfl sc_as_fractions.nd (si_b (vb 0)) (blk_of rfl rfl) (fun _ _ _ _ _ => (tbn 1 sc_as_fractions.nd)) (fun _ _ _ _ _ => sts_nil) (fun _ _ _ _ _ => (se_if (st_tru (SE.sb (se_call ((ok_is_integer Z).up (by decide)) hr rfl Z.m_is_integer Z.k_is_integer takes_wf (sa_cons (v 1) sa_nil)))) (se_tup (sa_cons (v 1) (sa_cons se_int sa_nil))) (v 1)))))) sab_nil)))))
theorem ok_as_fractions {P : Program} {w : World} {K : PySem.W.Frag} {mg : Str → Option Value} {base : Heap} {A : Ad} (Z : Fx K mg A) : FnP false P w K mg base 2 A.a_as_fractions (spOf (tbl K A) 1 f_as_fractions) := (fg_as_fractions Z).byP0 (Z.F_as_fractions.binds fun _ _ _ _ _ _ us hl => match us, hl with | [_], _ => rfl)
theorem sc_ratio : FnScope ["top", "bottom", "great"] ["top", "bottom"] (defScope s_ratio) := ⟨rfl, rfl, rfl, by decide +kernel, rfl, by decide +kernel, by decide +kernel⟩
def q_ratio : Sx := (sSeq (sSet 2 (eFn 2 f_divisor (aCons (eVar 0) (aCons (eVar 1) aNil))))
    (sSeq (sIf (tB2 ltD (eLook 1) (eC (.int 0))) (sSet 2 (e1 negD (eLook 2))) sNil)
    (sRet (eTup (aCons (e2 fdivD (eLook 0) (eLook 2)) (aCons (e2 fdivD (eLook 1) (eLook 2)) aNil))))))
def f_ratio (ds : List D) : M D := fnM 3 q_ratio ds
set_option maxHeartbeats 4000000 in
theorem fg_ratio {P : Program} {w : World} {K : PySem.W.Frag} {mg : Str → Option Value} {base : Heap} {A : Ad} (Z : Fx K mg A) : FnG false P w K mg base 2 A.a_ratio A.d_ratio ["top", "bottom"] (spOf (tbl K A) 2 f_ratio) :=
  fng_den (T := tbl K A) Z.F_ratio sc_ratio (fun cv Ar out s H E hr =>
    (ss_cons (xset 2 sc_ratio.nd (se_call ((ok_divisor Z).up (by decide)) hr rfl Z.m_divisor Z.k_divisor (takes_of rfl rfl rfl rfl) (sa_cons (v 0) (sa_cons (v 1) sa_nil))))
    (ss_cons (ss_if (st_cmp op_lt ok_lt (vb 1) (SE.sb se_int) rfl) (ss_one (xset 2 sc_ratio.nd (se_un un_neg ok_neg (vb 2)))) ss_nil)
    (ss_one (ss_ret (se_tup (sa_cons (se_op op_fdivA ok_fdiv (vb 0) (vb 2)) (sa_cons (se_op op_fdivA ok_fdiv (vb 1) (vb 2)) sa_nil))))))))
theorem ok_ratio {P : Program} {w : World} {K : PySem.W.Frag} {mg : Str → Option Value} {base : Heap} {A : Ad} (Z : Fx K mg A) : FnP false P w K mg base 2 A.a_ratio (spOf (tbl K A) 2 f_ratio) := (fg_ratio Z).byP0 (Z.F_ratio.binds fun _ _ _ _ _ _ us hl => match us, hl with | [_, _], _ => rfl)
theorem sc_plus : FnScope ["one", "other"] ["one", "other"] (defScope s_plus) := ⟨rfl, rfl, rfl, by decide +kernel, rfl, by decide +kernel, by decide +kernel⟩
def q_plus : Sx := (sRet (eFn 2 f_ratio (aCons (e2 addD (e2 mulD (e2 ixD (eLook 0) (eC (.int 0))) (e2 ixD (eLook 1) (eC (.int 1)))) (e2 mulD (e2 ixD (eLook 1) (eC (.int 0))) (e2 ixD (eLook 0) (eC (.int 1))))) (aCons (e2 mulD (e2 ixD (eLook 0) (eC (.int 1))) (e2 ixD (eLook 1) (eC (.int 1)))) aNil))))
def f_plus (ds : List D) : M D := fnM 2 q_plus ds
set_option maxHeartbeats 4000000 in
theorem fg_plus {P : Program} {w : World} {K : PySem.W.Frag} {mg : Str → Option Value} {base : Heap} {A : Ad} (Z : Fx K mg A) : FnG false P w K mg base 3 A.a_plus A.d_plus ["one", "other"] (spOf (tbl K A) 2 f_plus) :=
  fng_den (T := tbl K A) Z.F_plus sc_plus (fun cv Ar out s H E hr =>
    (ss_one (ss_ret (se_call ((ok_ratio Z).up (by decide)) hr rfl Z.m_ratio Z.k_ratio (takes_of rfl rfl rfl rfl) (sa_cons (se_op op_plus (ok_add rfl) (SE.sb (se_op op_times ok_mul (SE.sb (se_ix (vb 0) (SE.sb se_int))) (SE.sb (se_ix (vb 1) (SE.sb se_int))))) (SE.sb (se_op op_times ok_mul (SE.sb (se_ix (vb 1) (SE.sb se_int))) (SE.sb (se_ix (vb 0) (SE.sb se_int)))))) (sa_cons (se_op op_times ok_mul (SE.sb (se_ix (vb 0) (SE.sb se_int))) (SE.sb (se_ix (vb 1) (SE.sb se_int)))) sa_nil))))))
theorem ok_plus {P : Program} {w : World} {K : PySem.W.Frag} {mg : Str → Option Value} {base : Heap} {A : Ad} (Z : Fx K mg A) : FnP false P w K mg base 3 A.a_plus (spOf (tbl K A) 2 f_plus) := (fg_plus Z).byP0 (Z.F_plus.binds fun _ _ _ _ _ _ us hl => match us, hl with | [_, _], _ => rfl)
theorem sc_times : FnScope ["one", "factor"] ["one", "factor"] (defScope s_times) := ⟨rfl, rfl, rfl, by decide +kernel, rfl, by decide +kernel, by decide +kernel⟩
def q_times : Sx := (sRet (eFn 2 f_ratio (aCons (e2 mulD (e2 ixD (eLook 0) (eC (.int 0))) (eLook 1)) (aCons (e2 ixD (eLook 0) (eC (.int 1))) aNil))))
def f_times (ds : List D) : M D := fnM 2 q_times ds
set_option maxHeartbeats 4000000 in
theorem fg_times {P : Program} {w : World} {K : PySem.W.Frag} {mg : Str → Option Value} {base : Heap} {A : Ad} (Z : Fx K mg A) : FnG false P w K mg base 3 A.a_times A.d_times ["one", "factor"] (spOf (tbl K A) 2 f_times) :=
  fng_den (T := tbl K A) Z.F_times sc_times (fun cv Ar out s H E hr =>
    (ss_one (ss_ret (se_call ((ok_ratio Z).up (by decide)) hr rfl Z.m_ratio Z.k_ratio (takes_of rfl rfl rfl rfl) (sa_cons (se_op op_times ok_mul (SE.sb (se_ix (vb 0) (SE.sb se_int))) (vb 1)) (sa_cons (se_ix (vb 0) (SE.sb se_int)) sa_nil))))))
theorem ok_times {P : Program} {w : World} {K : PySem.W.Frag} {mg : Str → Option Value} {base : Heap} {A : Ad} (Z : Fx K mg A) : FnP false P w K mg base 3 A.a_times (spOf (tbl K A) 2 f_times) := (fg_times Z).byP0 (Z.F_times.binds fun _ _ _ _ _ _ us hl => match us, hl with | [_, _], _ => rfl)
theorem sc_sum_at : FnScope ["weights", "point", "found", "weight", "value"] ["weights", "point"] (defScope s_sum_at) := ⟨rfl, rfl, rfl, by decide +kernel, rfl, by decide +kernel, by decide +kernel⟩
def q_sum_at : Sx := (sSeq (sSet 2 (eTup (aCons (eC (.int 0)) (aCons (eC (.int 1)) aNil))))
    (sSeq (sFor (iA zipM (aCons (eVar 0) (aCons (eVar 1) aNil))) (gTp 2 (gMore (gNm 3) (gMore (gNm 4) gNone))) (sSet 2 (eFn 2 f_plus (aCons (eVar 2) (aCons (eFn 2 f_times (aCons (eVar 4) (aCons (eVar 3) aNil))) aNil)))))
    (sRet (eVar 2))))
def f_sum_at (ds : List D) : M D := fnM 5 q_sum_at ds
set_option maxHeartbeats 4000000 in
theorem fg_sum_at {P : Program} {w : World} {K : PySem.W.Frag} {mg : Str → Option Value} {base : Heap} {A : Ad} (Z : Fx K mg A) : FnG false P w K mg base 4 A.a_sum_at A.d_sum_at ["weights", "point"] (spOf (tbl K A) 2 f_sum_at) :=
  fng_den (T := tbl K A) Z.F_sum_at sc_sum_at (fun cv Ar out s H E hr =>
    (ss_cons (xset 2 sc_sum_at.nd (se_tup (sa_cons se_int (sa_cons se_int sa_nil))))
    (ss_cons (ss_for (passes_of rfl) rfl (si_zip rfl Z.b_zip (sa_cons (v 0) (sa_cons (v 1) sa_nil))) (sg_tup rfl (sgs_cons (tn 3 sc_sum_at.nd) (sgs_cons (tn 4 sc_sum_at.nd) sgs_nil))) (ss_one (xset 2 sc_sum_at.nd (se_call ((ok_plus Z).up (by decide)) hr rfl Z.m_plus Z.k_plus (takes_of rfl rfl rfl rfl) (sa_cons (v 2) (sa_cons (se_call ((ok_times Z).up (by decide)) hr rfl Z.m_times Z.k_times (takes_of rfl rfl rfl rfl) (sa_cons (v 4) (sa_cons (v 3) sa_nil))) sa_nil))))))
    (ss_one (ss_ret (v 2))))))
theorem ok_sum_at {P : Program} {w : World} {K : PySem.W.Frag} {mg : Str → Option Value} {base : Heap} {A : Ad} (Z : Fx K mg A) : FnP false P w K mg base 4 A.a_sum_at (spOf (tbl K A) 2 f_sum_at) := (fg_sum_at Z).byP0 (Z.F_sum_at.binds fun _ _ _ _ _ _ us hl => match us, hl with | [_, _], _ => rfl)
theorem sc_gaps_at : FnScope ["system", "point", "place", "weights", "constant"] ["system", "point"] (defScope s_gaps_at) := ⟨rfl, rfl, rfl, by decide +kernel, rfl, by decide +kernel, by decide +kernel⟩
def q_gaps_at : Sx := (sSeq (sSet 2 (eFn 1 f_as_fractions (aCons (eVar 1) aNil)))
    (sRet (eCall (g1 tupleD) (aCons (eN (lcN (iE (e1 (fldM [(0, 4)]) (eVar 0))) (gTp 2 (gMore (gNm 3) (gMore (gNm 4) gNone))) yes (eFn 2 f_plus (aCons (eTup (aCons (eVar 4) (aCons (eC (.int 1)) aNil))) (aCons (eFn 2 f_times (aCons (eFn 2 f_sum_at (aCons (eVar 3) (aCons (eVar 2) aNil))) (aCons (e1 negD (eC (.int 1))) aNil))) aNil))) [3, 4])) aNil))))
def f_gaps_at (ds : List D) : M D := fnM 5 q_gaps_at ds
set_option maxHeartbeats 4000000 in
theorem fg_gaps_at {P : Program} {w : World} {K : PySem.W.Frag} {mg : Str → Option Value} {base : Heap} {A : Ad} (Z : Fx K mg A) : FnG false P w K mg base 5 A.a_gaps_at A.d_gaps_at ["system", "point"] (spOf (tbl K A) 2 f_gaps_at) :=
  fng_den (T := tbl K A) Z.F_gaps_at sc_gaps_at (fun cv Ar out s H E hr =>
    (ss_cons (xset 2 sc_gaps_at.nd (se_call ((ok_as_fractions Z).up (by decide)) hr rfl Z.m_as_fractions Z.k_as_fractions (takes_of rfl rfl rfl rfl) (sa_cons (v 1) sa_nil)))
    (ss_one (ss_ret (w_tuple Z.b_tuple (sab_cons (SE.sb (SN.se (sn_lc (own := [(("weights" : Str), 3), (("constant" : Str), 4)]) rfl sc_gaps_at.nd (si_b (SE.sb (se_fld (alts := [(0, 4)]) (v 0) (cf_bounds Z)))) (blk_of rfl rfl) (fun _ _ _ _ _ => (sgb_tup rfl (sgbs_cons (tbn 3 sc_gaps_at.nd) (sgbs_cons (tbn 4 sc_gaps_at.nd) sgbs_nil)))) (fun _ _ _ _ _ => sts_nil) (fun _ _ _ _ _ => (se_call ((ok_plus Z).up (by decide)) hr rfl Z.m_plus Z.k_plus takes_wf (sa_cons (se_tup (sa_cons (v 4) (sa_cons se_int sa_nil))) (sa_cons (se_call ((ok_times Z).up (by decide)) hr rfl Z.m_times Z.k_times takes_wf (sa_cons (se_call ((ok_sum_at Z).up (by decide)) hr rfl Z.m_sum_at Z.k_sum_at takes_wf (sa_cons (v 3) (sa_cons (v 2) sa_nil))) (sa_cons (se_un un_neg ok_neg (SE.sb se_int)) sa_nil))) sa_nil))))))) sab_nil))))))
theorem ok_gaps_at {P : Program} {w : World} {K : PySem.W.Frag} {mg : Str → Option Value} {base : Heap} {A : Ad} (Z : Fx K mg A) : FnP false P w K mg base 5 A.a_gaps_at (spOf (tbl K A) 2 f_gaps_at) := (fg_gaps_at Z).byP0 (Z.F_gaps_at.binds fun _ _ _ _ _ _ us hl => match us, hl with | [_, _], _ => rfl)
theorem sc_broken_at : FnScope ["system", "point", "index", "gap"] ["system", "point"] (defScope s_broken_at) := ⟨rfl, rfl, rfl, by decide +kernel, rfl, by decide +kernel, by decide +kernel⟩
def q_broken_at : Sx := (sRet (eCall (g1 tupleD) (aCons (eN (lcN (iA enM (aCons (eFn 2 f_gaps_at (aCons (eVar 0) (aCons (eVar 1) aNil))) aNil)) (gTp 2 (gMore (gNm 2) (gMore (gNm 3) gNone))) (tB2 ltD (e2 ixD (eLook 3) (eC (.int 0))) (eC (.int 0))) (eVar 2) [2, 3])) aNil)))
def f_broken_at (ds : List D) : M D := fnM 4 q_broken_at ds
set_option maxHeartbeats 4000000 in
theorem fg_broken_at {P : Program} {w : World} {K : PySem.W.Frag} {mg : Str → Option Value} {base : Heap} {A : Ad} (Z : Fx K mg A) : FnG false P w K mg base 6 A.a_broken_at A.d_broken_at ["system", "point"] (spOf (tbl K A) 2 f_broken_at) :=
  fng_den (T := tbl K A) Z.F_broken_at sc_broken_at (fun cv Ar out s H E hr =>
    (ss_one (ss_ret (w_tuple Z.b_tuple (sab_cons (SE.sb (SN.se (sn_lc (own := [(("index" : Str), 2), (("gap" : Str), 3)]) rfl sc_broken_at.nd (si_enumB rfl Z.b_enumerate (sab_cons (SE.sb (se_call ((ok_gaps_at Z).up (by decide)) hr rfl Z.m_gaps_at Z.k_gaps_at (takes_of rfl rfl rfl rfl) (sa_cons (v 0) (sa_cons (v 1) sa_nil)))) sab_nil)) (blk_of rfl rfl) (fun _ _ _ _ _ => (sgb_tup rfl (sgbs_cons (tbn 2 sc_broken_at.nd) (sgbs_cons (tbn 3 sc_broken_at.nd) sgbs_nil)))) (fun _ _ _ _ _ => (sts_one (st_cmp op_lt ok_lt (SE.sb (se_ix (vb 3) (SE.sb se_int))) (SE.sb se_int) rfl))) (fun _ _ _ _ _ => (v 2))))) sab_nil)))))
theorem ok_broken_at {P : Program} {w : World} {K : PySem.W.Frag} {mg : Str → Option Value} {base : Heap} {A : Ad} (Z : Fx K mg A) : FnP false P w K mg base 6 A.a_broken_at (spOf (tbl K A) 2 f_broken_at) := (fg_broken_at Z).byP0 (Z.F_broken_at.binds fun _ _ _ _ _ _ us hl => match us, hl with | [_, _], _ => rfl)
theorem sc_fits : FnScope ["system", "point"] ["system", "point"] (defScope s_fits) := ⟨rfl, rfl, rfl, by decide +kernel, rfl, by decide +kernel, by decide +kernel⟩
def q_fits : Sx := (sSeq (sExpr (eFn 1 f_check_system (aCons (eVar 0) aNil)))
    (sSeq (sExpr (eFn 2 f_check_point (aCons (eVar 0) (aCons (eVar 1) aNil))))
    (sRet (eNotT (eFn 2 f_broken_at (aCons (eVar 0) (aCons (eVar 1) aNil)))))))
def f_fits (ds : List D) : M D := fnM 2 q_fits ds
set_option maxHeartbeats 4000000 in
theorem fg_fits {P : Program} {w : World} {K : PySem.W.Frag} {mg : Str → Option Value} {base : Heap} {A : Ad} (Z : Fx K mg A) : FnG false P w K mg base 7 A.a_fits A.d_fits ["system", "point"] (spOf (tbl K A) 2 f_fits) :=
  fng_den (T := tbl K A) Z.F_fits sc_fits (fun cv Ar out s H E hr =>
    (ss_cons (ss_expr (se_call ((ok_check_system Z).up (by decide)) hr rfl Z.m_check_system Z.k_check_system (takes_of rfl rfl rfl rfl) (sa_cons (v 0) sa_nil)))
    (ss_cons (ss_expr (se_call ((ok_check_point Z).up (by decide)) hr rfl Z.m_check_point Z.k_check_point (takes_of rfl rfl rfl rfl) (sa_cons (v 0) (sa_cons (v 1) sa_nil))))
    (ss_one (ss_ret (se_notT (SE.sb (se_call ((ok_broken_at Z).up (by decide)) hr rfl Z.m_broken_at Z.k_broken_at (takes_of rfl rfl rfl rfl) (sa_cons (v 0) (sa_cons (v 1) sa_nil))))))))))
theorem ok_fits {P : Program} {w : World} {K : PySem.W.Frag} {mg : Str → Option Value} {base : Heap} {A : Ad} (Z : Fx K mg A) : FnP false P w K mg base 7 A.a_fits (spOf (tbl K A) 2 f_fits) := (fg_fits Z).byP0 (Z.F_fits.binds fun _ _ _ _ _ _ us hl => match us, hl with | [_, _], _ => rfl)
theorem kb_fits_0_point_system (Z : Fx K mg A) : KwB K A.d_fits ["system", "point"] 0 ["point", "system"] [1, 0] := by
  obtain ⟨oc, od, kV, doc, pm, an, cv, ct, osl, e, _, _⟩ := Z.F_fits.ex
  rw [e]
  exact ⟨fun s us ws _ l1 l2 => match us, ws, l1, l2 with | [], [_, _], _, _ => .of_eq rfl⟩
theorem sc_broken : FnScope ["system", "point"] ["system", "point"] (defScope s_broken) := ⟨rfl, rfl, rfl, by decide +kernel, rfl, by decide +kernel, by decide +kernel⟩
def q_broken : Sx := (sSeq (sExpr (eFn 1 f_check_system (aCons (eVar 0) aNil)))
    (sSeq (sExpr (eFn 2 f_check_point (aCons (eVar 0) (aCons (eVar 1) aNil))))
    (sRet (eFn 2 f_broken_at (aCons (eVar 0) (aCons (eVar 1) aNil))))))
def f_broken (ds : List D) : M D := fnM 2 q_broken ds
set_option maxHeartbeats 4000000 in
theorem fg_broken {P : Program} {w : World} {K : PySem.W.Frag} {mg : Str → Option Value} {base : Heap} {A : Ad} (Z : Fx K mg A) : FnG false P w K mg base 7 A.a_broken A.d_broken ["system", "point"] (spOf (tbl K A) 2 f_broken) :=
  fng_den (T := tbl K A) Z.F_broken sc_broken (fun cv Ar out s H E hr =>
    (ss_cons (ss_expr (se_call ((ok_check_system Z).up (by decide)) hr rfl Z.m_check_system Z.k_check_system (takes_of rfl rfl rfl rfl) (sa_cons (v 0) sa_nil)))
    (ss_cons (ss_expr (se_call ((ok_check_point Z).up (by decide)) hr rfl Z.m_check_point Z.k_check_point (takes_of rfl rfl rfl rfl) (sa_cons (v 0) (sa_cons (v 1) sa_nil))))
    (ss_one (ss_ret (se_call ((ok_broken_at Z).up (by decide)) hr rfl Z.m_broken_at Z.k_broken_at (takes_of rfl rfl rfl rfl) (sa_cons (v 0) (sa_cons (v 1) sa_nil))))))))
theorem ok_broken {P : Program} {w : World} {K : PySem.W.Frag} {mg : Str → Option Value} {base : Heap} {A : Ad} (Z : Fx K mg A) : FnP false P w K mg base 7 A.a_broken (spOf (tbl K A) 2 f_broken) := (fg_broken Z).byP0 (Z.F_broken.binds fun _ _ _ _ _ _ us hl => match us, hl with | [_, _], _ => rfl)
theorem sc_gaps : FnScope ["system", "point"] ["system", "point"] (defScope s_gaps) := ⟨rfl, rfl, rfl, by decide +kernel, rfl, by decide +kernel, by decide +kernel⟩
def q_gaps : Sx := (sSeq (sExpr (eFn 1 f_check_system (aCons (eVar 0) aNil)))
    (sSeq (sExpr (eFn 2 f_check_point (aCons (eVar 0) (aCons (eVar 1) aNil))))
    (sRet (eFn 2 f_gaps_at (aCons (eVar 0) (aCons (eVar 1) aNil))))))
def f_gaps (ds : List D) : M D := fnM 2 q_gaps ds
set_option maxHeartbeats 4000000 in
theorem fg_gaps {P : Program} {w : World} {K : PySem.W.Frag} {mg : Str → Option Value} {base : Heap} {A : Ad} (Z : Fx K mg A) : FnG false P w K mg base 6 A.a_gaps A.d_gaps ["system", "point"] (spOf (tbl K A) 2 f_gaps) :=
  fng_den (T := tbl K A) Z.F_gaps sc_gaps (fun cv Ar out s H E hr =>
    (ss_cons (ss_expr (se_call ((ok_check_system Z).up (by decide)) hr rfl Z.m_check_system Z.k_check_system (takes_of rfl rfl rfl rfl) (sa_cons (v 0) sa_nil)))
    (ss_cons (ss_expr (se_call ((ok_check_point Z).up (by decide)) hr rfl Z.m_check_point Z.k_check_point (takes_of rfl rfl rfl rfl) (sa_cons (v 0) (sa_cons (v 1) sa_nil))))
    (ss_one (ss_ret (se_call ((ok_gaps_at Z).up (by decide)) hr rfl Z.m_gaps_at Z.k_gaps_at (takes_of rfl rfl rfl rfl) (sa_cons (v 0) (sa_cons (v 1) sa_nil))))))))
theorem ok_gaps {P : Program} {w : World} {K : PySem.W.Frag} {mg : Str → Option Value} {base : Heap} {A : Ad} (Z : Fx K mg A) : FnP false P w K mg base 6 A.a_gaps (spOf (tbl K A) 2 f_gaps) := (fg_gaps Z).byP0 (Z.F_gaps.binds fun _ _ _ _ _ _ us hl => match us, hl with | [_, _], _ => rfl)
theorem sc_is_between : FnScope ["value", "least", "most"] ["value", "least", "most"] (defScope s_is_between) := ⟨rfl, rfl, rfl, by decide +kernel, rfl, by decide +kernel, by decide +kernel⟩
def q_is_between : Sx := (sRet (eAndT (eFn 1 f_is_integer (aCons (eVar 0) aNil)) (tChB leD leD (eLook 1) (eLook 0) (eLook 2))))
def f_is_between (ds : List D) : M D := fnM 3 q_is_between ds
set_option maxHeartbeats 4000000 in
theorem fg_is_between {P : Program} {w : World} {K : PySem.W.Frag} {mg : Str → Option Value} {base : Heap} {A : Ad} (Z : Fx K mg A) : FnG false P w K mg base 2 A.a_is_between A.d_is_between ["value", "least", "most"] (spOf (tbl K A) 3 f_is_between) :=
  fng_den (T := tbl K A) Z.F_is_between sc_is_between (fun cv Ar out s H E hr =>
    (ss_one (ss_ret (se_andT (se_call ((ok_is_integer Z).up (by decide)) hr rfl Z.m_is_integer Z.k_is_integer (takes_of rfl rfl rfl rfl) (sa_cons (v 0) sa_nil)) (se_one (se_chain op_le ok_le op_le ok_le (vb 1) (vb 0) (vb 2)))))))
theorem ok_is_between {P : Program} {w : World} {K : PySem.W.Frag} {mg : Str → Option Value} {base : Heap} {A : Ad} (Z : Fx K mg A) : FnP false P w K mg base 2 A.a_is_between (spOf (tbl K A) 3 f_is_between) := (fg_is_between Z).byP0 (Z.F_is_between.binds fun _ _ _ _ _ _ us hl => match us, hl with | [_, _, _], _ => rfl)
theorem sc_is_aim : FnScope ["system", "value", "each"] ["system", "value"] (defScope s_is_aim) := ⟨rfl, rfl, rfl, by decide +kernel, rfl, by decide +kernel, by decide +kernel⟩
def q_is_aim : Sx := (sSeq (sIf (tOrB (tNotB (tT (e1 (isTyM "tuple" own_cs) (eLook 1)))) (tB2 neD (eCall (g1 lenD) (aCons (eLook 1) aNil)) (eCall (g1 lenD) (aCons (e1 (fldM [(0, 1)]) (eVar 0)) aNil)))) (sRet (eC (.bl false))) sNil)
    (sRet (eCall (g1 allD) (aCons (eN (lcN (iE (eLook 1)) (gNm 2) yes (eFn 3 f_is_between (aCons (eVar 2) (aCons (e1 negD (eC (.int 99))) (aCons (eC (.int 99)) aNil)))) [2])) aNil))))
def f_is_aim (ds : List D) : M D := fnM 3 q_is_aim ds
set_option maxHeartbeats 4000000 in
theorem fg_is_aim {P : Program} {w : World} {K : PySem.W.Frag} {mg : Str → Option Value} {base : Heap} {A : Ad} (Z : Fx K mg A) : FnG false P w K mg base 3 A.a_is_aim A.d_is_aim ["system", "value"] (spOf (tbl K A) 2 f_is_aim) :=
  fng_den (T := tbl K A) Z.F_is_aim sc_is_aim (fun cv Ar out s H E hr =>
    (ss_cons (ss_if (SW.st (sw_or (st_not (st_tru (SE.sb (se_isTy (vb 1) rfl Z.b_isinstance rfl Z.b_tuple rfl (by decide) (it_tuple Z))))) (sw_or1 (st_cmp (op_neA hr.u64) (ok_ne rfl) (SE.sb (w_len Z.b_len (sab_cons (vb 1) sab_nil))) (SE.sb (w_len Z.b_len (sab_cons (SE.sb (se_fld (alts := [(0, 1)]) (v 0) (cf_kinds Z))) sab_nil))) rfl)))) (ss_one (ss_ret se_bl)) ss_nil)
    (ss_one (ss_ret (w_all rfl Z.b_all (sab_cons (SE.sb (SN.se (sn_lc (own := [(("each" : Str), 2)]) rfl sc_is_aim.nd (si_b (vb 1)) (blk_of rfl rfl) (fun _ _ _ _ _ => (tbn 2 sc_is_aim.nd)) (fun _ _ _ _ _ => sts_nil) (fun _ _ _ _ _ => (se_call ((ok_is_between Z).up (by decide)) hr rfl Z.m_is_between Z.k_is_between takes_wf (sa_cons (v 2) (sa_cons (se_un un_neg ok_neg (SE.sb (K_MOST_WEIGHT Z))) (sa_cons (K_MOST_WEIGHT Z) sa_nil)))))))) sab_nil))))))
theorem ok_is_aim {P : Program} {w : World} {K : PySem.W.Frag} {mg : Str → Option Value} {base : Heap} {A : Ad} (Z : Fx K mg A) : FnP false P w K mg base 3 A.a_is_aim (spOf (tbl K A) 2 f_is_aim) := (fg_is_aim Z).byP0 (Z.F_is_aim.binds fun _ _ _ _ _ _ us hl => match us, hl with | [_, _], _ => rfl)
theorem sc_check_aim : FnScope ["system", "aim"] ["system", "aim"] (defScope s_check_aim) := ⟨rfl, rfl, rfl, by decide +kernel, rfl, by decide +kernel, by decide +kernel⟩
def q_check_aim : Sx := (sIf (tNotB (tT (eFn 2 f_is_aim (aCons (eVar 0) (aCons (eVar 1) aNil))))) sNo sNil)
def f_check_aim (ds : List D) : M D := fnM 2 q_check_aim ds
set_option maxHeartbeats 4000000 in
theorem fg_check_aim {P : Program} {w : World} {K : PySem.W.Frag} {mg : Str → Option Value} {base : Heap} {A : Ad} (Z : Fx K mg A) : FnG false P w K mg base 4 A.a_check_aim A.d_check_aim ["system", "aim"] (spOf (tbl K A) 2 f_check_aim) :=
  fng_den (T := tbl K A) Z.F_check_aim sc_check_aim (fun cv Ar out s H E hr =>
    (ss_one (ss_if (st_not (st_tru (SE.sb (se_call ((ok_is_aim Z).up (by decide)) hr rfl Z.m_is_aim Z.k_is_aim (takes_of rfl rfl rfl rfl) (sa_cons (v 0) (sa_cons (v 1) sa_nil)))))) (ss_one ss_no) ss_nil)))
theorem ok_check_aim {P : Program} {w : World} {K : PySem.W.Frag} {mg : Str → Option Value} {base : Heap} {A : Ad} (Z : Fx K mg A) : FnP false P w K mg base 4 A.a_check_aim (spOf (tbl K A) 2 f_check_aim) := (fg_check_aim Z).byP0 (Z.F_check_aim.binds fun _ _ _ _ _ _ us hl => match us, hl with | [_, _], _ => rfl)
theorem sc_value : FnScope ["system", "aim", "point"] ["system", "aim", "point"] (defScope s_value) := ⟨rfl, rfl, rfl, by decide +kernel, rfl, by decide +kernel, by decide +kernel⟩
def q_value : Sx := (sSeq (sExpr (eFn 1 f_check_system (aCons (eVar 0) aNil)))
    (sSeq (sExpr (eFn 2 f_check_aim (aCons (eVar 0) (aCons (eVar 1) aNil))))
    (sSeq (sExpr (eFn 2 f_check_point (aCons (eVar 0) (aCons (eVar 2) aNil))))
    (sRet (eFn 2 f_sum_at (aCons (eVar 1) (aCons (eFn 1 f_as_fractions (aCons (eVar 2) aNil)) aNil)))))))
def f_value (ds : List D) : M D := fnM 3 q_value ds
set_option maxHeartbeats 4000000 in
theorem fg_value {P : Program} {w : World} {K : PySem.W.Frag} {mg : Str → Option Value} {base : Heap} {A : Ad} (Z : Fx K mg A) : FnG false P w K mg base 5 A.a_value A.d_value ["system", "aim", "point"] (spOf (tbl K A) 3 f_value) :=
  fng_den (T := tbl K A) Z.F_value sc_value (fun cv Ar out s H E hr =>
    (ss_cons (ss_expr (se_call ((ok_check_system Z).up (by decide)) hr rfl Z.m_check_system Z.k_check_system (takes_of rfl rfl rfl rfl) (sa_cons (v 0) sa_nil)))
    (ss_cons (ss_expr (se_call ((ok_check_aim Z).up (by decide)) hr rfl Z.m_check_aim Z.k_check_aim (takes_of rfl rfl rfl rfl) (sa_cons (v 0) (sa_cons (v 1) sa_nil))))
    (ss_cons (ss_expr (se_call ((ok_check_point Z).up (by decide)) hr rfl Z.m_check_point Z.k_check_point (takes_of rfl rfl rfl rfl) (sa_cons (v 0) (sa_cons (v 2) sa_nil))))
    (ss_one (ss_ret (se_call ((ok_sum_at Z).up (by decide)) hr rfl Z.m_sum_at Z.k_sum_at (takes_of rfl rfl rfl rfl) (sa_cons (v 1) (sa_cons (se_call ((ok_as_fractions Z).up (by decide)) hr rfl Z.m_as_fractions Z.k_as_fractions (takes_of rfl rfl rfl rfl) (sa_cons (v 2) sa_nil)) sa_nil)))))))))
theorem ok_value {P : Program} {w : World} {K : PySem.W.Frag} {mg : Str → Option Value} {base : Heap} {A : Ad} (Z : Fx K mg A) : FnP false P w K mg base 5 A.a_value (spOf (tbl K A) 3 f_value) := (fg_value Z).byP0 (Z.F_value.binds fun _ _ _ _ _ _ us hl => match us, hl with | [_, _, _], _ => rfl)
theorem sc__law_words_of : FnScope ["_law_numbers_now", "_law_each"] ["_law_numbers_now"] (defScope s__law_words_of) := ⟨rfl, rfl, rfl, by decide +kernel, rfl, by decide +kernel, by decide +kernel⟩
def q__law_words_of : Sx := (sRet (m2 joinD (eC (.str " ")) (eN (lcN (iE (eLook 0)) (gNm 1) yes (eCall (g1 strD) (aCons (eLook 1) aNil)) [1]))))
def f__law_words_of (ds : List D) : M D := fnM 2 q__law_words_of ds
set_option maxHeartbeats 4000000 in
theorem fg__law_words_of {P : Program} {w : World} {K : PySem.W.Frag} {mg : Str → Option Value} {base : Heap} {A : Ad} (Z : Fx K mg A) : FnG false P w K mg base 1 A.a__law_words_of A.d__law_words_of ["_law_numbers_now"] (spOf (tbl K A) 1 f__law_words_of) :=
  fng_den (T := tbl K A) Z.F__law_words_of sc__law_words_of (fun cv Ar out s H E hr =>
    (ss_one (ss_ret (se_join (SE.sb se_str) (SE.sb (SN.se (sn_lc (own := [(("_law_each" : Str), 1)]) rfl sc__law_words_of.nd (si_b (vb 0)) (blk_of rfl rfl) (fun _ _ _ _ _ => (tbn 1 sc__law_words_of.nd)) (fun _ _ _ _ _ => sts_nil) (fun _ _ _ _ _ => (w_str Z.b_str (sab_cons (vb 1) sab_nil))))))))))
theorem ok__law_words_of {P : Program} {w : World} {K : PySem.W.Frag} {mg : Str → Option Value} {base : Heap} {A : Ad} (Z : Fx K mg A) : FnP false P w K mg base 1 A.a__law_words_of (spOf (tbl K A) 1 f__law_words_of) := (fg__law_words_of Z).byP0 (Z.F__law_words_of.binds fun _ _ _ _ _ _ us hl => match us, hl with | [_], _ => rfl)
theorem sc_is_solid : FnScope ["system"] ["system"] (defScope s_is_solid) := ⟨rfl, rfl, rfl, by decide +kernel, rfl, by decide +kernel, by decide +kernel⟩
def q_is_solid : Sx := (sRet (e2 eqD (eCall (g1 lenD) (aCons (e1 (fldM [(0, 3)]) (eVar 0)) aNil)) (eCall (g1 lenD) (aCons (e1 (fldM [(0, 1)]) (eVar 0)) aNil))))
def f_is_solid (ds : List D) : M D := fnM 1 q_is_solid ds
set_option maxHeartbeats 4000000 in
theorem fg_is_solid {P : Program} {w : World} {K : PySem.W.Frag} {mg : Str → Option Value} {base : Heap} {A : Ad} (Z : Fx K mg A) : FnG false P w K mg base 1 A.a_is_solid A.d_is_solid ["system"] (spOf (tbl K A) 1 f_is_solid) :=
  fng_den (T := tbl K A) Z.F_is_solid sc_is_solid (fun cv Ar out s H E hr =>
    (ss_one (ss_ret (se_cmp (op_eqA hr.u64) (ok_eq rfl) (SE.sb (w_len Z.b_len (sab_cons (SE.sb (se_fld (alts := [(0, 3)]) (v 0) (cf_solid Z))) sab_nil))) (SE.sb (w_len Z.b_len (sab_cons (SE.sb (se_fld (alts := [(0, 1)]) (v 0) (cf_kinds Z))) sab_nil))) rfl))))
theorem ok_is_solid {P : Program} {w : World} {K : PySem.W.Frag} {mg : Str → Option Value} {base : Heap} {A : Ad} (Z : Fx K mg A) : FnP false P w K mg base 1 A.a_is_solid (spOf (tbl K A) 1 f_is_solid) := (fg_is_solid Z).byP0 (Z.F_is_solid.binds fun _ _ _ _ _ _ us hl => match us, hl with | [_], _ => rfl)
theorem sc_numbers_said : FnScope ["some", "each"] ["some"] (defScope s_numbers_said) := ⟨rfl, rfl, rfl, by decide +kernel, rfl, by decide +kernel, by decide +kernel⟩
def q_numbers_said : Sx := (sRet (m2 joinD (eC (.str " ")) (eN (lcN (iE (eLook 0)) (gNm 1) yes (eCall (g1 strD) (aCons (eLook 1) aNil)) [1]))))
def f_numbers_said (ds : List D) : M D := fnM 2 q_numbers_said ds
set_option maxHeartbeats 4000000 in
theorem fg_numbers_said {P : Program} {w : World} {K : PySem.W.Frag} {mg : Str → Option Value} {base : Heap} {A : Ad} (Z : Fx K mg A) : FnG false P w K mg base 1 A.a_numbers_said A.d_numbers_said ["some"] (spOf (tbl K A) 1 f_numbers_said) :=
  fng_den (T := tbl K A) Z.F_numbers_said sc_numbers_said (fun cv Ar out s H E hr =>
    (ss_one (ss_ret (se_join (SE.sb se_str) (SE.sb (SN.se (sn_lc (own := [(("each" : Str), 1)]) rfl sc_numbers_said.nd (si_b (vb 0)) (blk_of rfl rfl) (fun _ _ _ _ _ => (tbn 1 sc_numbers_said.nd)) (fun _ _ _ _ _ => sts_nil) (fun _ _ _ _ _ => (w_str Z.b_str (sab_cons (vb 1) sab_nil))))))))))
theorem ok_numbers_said {P : Program} {w : World} {K : PySem.W.Frag} {mg : Str → Option Value} {base : Heap} {A : Ad} (Z : Fx K mg A) : FnP false P w K mg base 1 A.a_numbers_said (spOf (tbl K A) 1 f_numbers_said) := (fg_numbers_said Z).byP0 (Z.F_numbers_said.binds fun _ _ _ _ _ _ us hl => match us, hl with | [_], _ => rfl)
theorem sc_Console_plain : FnScope ["self", "word", "found"] ["self", "word"] (defScope s_Console_plain) := ⟨rfl, rfl, rfl, by decide +kernel, rfl, by decide +kernel, by decide +kernel⟩
def q_Console_plain : Sx := (sSeq sNo
    (sSeq sNo
    (sSeq sNo
    (sSeq sNo
    (sSeq (sIf (tB2 neD (eLook 1) (eC (.str "needless"))) (sRet (eC .non)) sNil)
    (sSeq (sIf (tNotB (tT (eFn 1 f_is_solid (aCons (e1 (fldM [(1, 0)]) (eVar 0)) aNil)))) (sRet (eC (.str "not whole"))) sNil)
    (sSeq sNo
    (sRet (eIf (tT (eLook 2)) (eFn 1 f_numbers_said (aCons (eVar 2) aNil)) (eC (.str "none")))))))))))
def f_Console_plain (ds : List D) : M D := fnM 3 q_Console_plain ds
set_option maxHeartbeats 4000000 in
theorem fg_Console_plain {P : Program} {w : World} {K : PySem.W.Frag} {mg : Str → Option Value} {base : Heap} {A : Ad} (Z : Fx K mg A) : FnG false P w K mg base 2 A.a_Console_plain A.d_Console_plain ["self", "word"] (spOf (tbl K A) 2 f_Console_plain) :=
  fng_den (T := tbl K A) Z.F_Console_plain sc_Console_plain (fun cv Ar out s H E hr =>
    (ss_cons ss_no
    (ss_cons ss_no
    (ss_cons ss_no
    (ss_cons ss_no
    (ss_cons (ss_if (st_cmp (op_neA hr.u64) (ok_ne rfl) (vb 1) (SE.sb se_str) rfl) (ss_one (ss_ret se_non)) ss_nil)
    (ss_cons (ss_if (st_not (st_tru (SE.sb (se_call ((ok_is_solid Z).up (by decide)) hr rfl Z.m_is_solid Z.k_is_solid (takes_of rfl rfl rfl rfl) (sa_cons (se_fld (alts := [(1, 0)]) (v 0) (cf_kept Z)) sa_nil))))) (ss_one (ss_ret (K_NOT_WHOLE Z))) ss_nil)
    (ss_cons ss_no
    (ss_one (ss_ret (se_if (st_tru (vb 2)) (se_call ((ok_numbers_said Z).up (by decide)) hr rfl Z.m_numbers_said Z.k_numbers_said (takes_of rfl rfl rfl rfl) (sa_cons (v 2) sa_nil)) se_str)))))))))))
theorem ok_Console_plain {P : Program} {w : World} {K : PySem.W.Frag} {mg : Str → Option Value} {base : Heap} {A : Ad} (Z : Fx K mg A) : FnP false P w K mg base 2 A.a_Console_plain (spOf (tbl K A) 2 f_Console_plain) := (fg_Console_plain Z).byP0 (Z.F_Console_plain.binds fun _ _ _ _ _ _ us hl => match us, hl with | [_, _], _ => rfl)
theorem sc_is_lot : FnScope ["value", "many", "each", "at"] ["value", "many"] (defScope s_is_lot) := ⟨rfl, rfl, rfl, by decide +kernel, rfl, by decide +kernel, by decide +kernel⟩
def q_is_lot : Sx := (sSeq (sIf (tOrB (tNotB (tT (e1 (isTyM "tuple" own_cs) (eLook 0)))) (tNotB (tT (eCall (g1 allD) (aCons (eN (lcN (iE (eLook 0)) (gNm 2) yes (eFn 3 f_is_between (aCons (eVar 2) (aCons (eC (.int 0)) (aCons (e2 subD (eLook 1) (eC (.int 1))) aNil)))) [2])) aNil))))) (sRet (eC (.bl false))) sNil)
    (sRet (eCall (g1 allD) (aCons (eN (lcN (iA rng1M (aCons (e2 subD (eCall (g1 lenD) (aCons (eLook 0) aNil)) (eC (.int 1))) aNil)) (gNm 3) yes (e2 ltD (e2 ixD (eLook 0) (eLook 3)) (e2 ixD (eLook 0) (e2 addD (eLook 3) (eC (.int 1))))) [3])) aNil))))
def f_is_lot (ds : List D) : M D := fnM 4 q_is_lot ds
set_option maxHeartbeats 4000000 in
theorem fg_is_lot {P : Program} {w : World} {K : PySem.W.Frag} {mg : Str → Option Value} {base : Heap} {A : Ad} (Z : Fx K mg A) : FnG false P w K mg base 3 A.a_is_lot A.d_is_lot ["value", "many"] (spOf (tbl K A) 2 f_is_lot) :=
  fng_den (T := tbl K A) Z.F_is_lot sc_is_lot (fun cv Ar out s H E hr =>
    (ss_cons (ss_if (SW.st (sw_or (st_not (st_tru (SE.sb (se_isTy (vb 0) rfl Z.b_isinstance rfl Z.b_tuple rfl (by decide) (it_tuple Z))))) (sw_or1 (st_not (st_tru (SE.sb (w_all rfl Z.b_all (sab_cons (SE.sb (SN.se (sn_lc (own := [(("each" : Str), 2)]) rfl sc_is_lot.nd (si_b (vb 0)) (blk_of rfl rfl) (fun _ _ _ _ _ => (tbn 2 sc_is_lot.nd)) (fun _ _ _ _ _ => sts_nil) (fun _ _ _ _ _ => (se_call ((ok_is_between Z).up (by decide)) hr rfl Z.m_is_between Z.k_is_between takes_wf (sa_cons (v 2) (sa_cons se_int (sa_cons (se_op op_sub' ok_sub (vb 1) (SE.sb se_int)) sa_nil)))))))) sab_nil)))))))) (ss_one (ss_ret se_bl)) ss_nil)
    (ss_one (ss_ret (w_all rfl Z.b_all (sab_cons (SE.sb (SN.se (sn_lc (own := [(("at" : Str), 3)]) rfl sc_is_lot.nd (si_rng1 rfl Z.b_range (sa_cons (se_op op_sub' ok_sub (SE.sb (w_len Z.b_len (sab_cons (vb 0) sab_nil))) (SE.sb se_int)) sa_nil)) (blk_of rfl rfl) (fun _ _ _ _ _ => (tbn 3 sc_is_lot.nd)) (fun _ _ _ _ _ => sts_nil) (fun _ _ _ _ _ => (se_cmp op_lt ok_lt (SE.sb (se_ix (vb 0) (vb 3))) (SE.sb (se_ix (vb 0) (SE.sb (se_op op_plus (ok_add rfl) (vb 3) (SE.sb se_int))))) rfl))))) sab_nil))))))
theorem ok_is_lot {P : Program} {w : World} {K : PySem.W.Frag} {mg : Str → Option Value} {base : Heap} {A : Ad} (Z : Fx K mg A) : FnP false P w K mg base 3 A.a_is_lot (spOf (tbl K A) 2 f_is_lot) := (fg_is_lot Z).byP0 (Z.F_is_lot.binds fun _ _ _ _ _ _ us hl => match us, hl with | [_, _], _ => rfl)
theorem sc_Console_aimed : FnScope ["self", "word", "numbers", "found", "each"] ["self", "word", "numbers"] (defScope s_Console_aimed) := ⟨rfl, rfl, rfl, by decide +kernel, rfl, by decide +kernel, by decide +kernel⟩
def q_Console_aimed : Sx := (sSeq (sIf (tAndB (tB2 eqD (eLook 1) (eC (.str "best"))) (tNotB (tT (eCall (g1 allD) (aCons (eN (lcN (iE (eLook 2)) (gNm 4) yes (tChB leD leD (e1 negD (eC (.int 99))) (eLook 4) (eC (.int 99))) [4])) aNil))))) (sRet (eC .non)) sNil)
    (sSeq (sIf (tB2 ninD (eLook 1) (eTup (aCons (eC (.str "best")) (aCons (eC (.str "point")) aNil)))) (sRet (eC .non)) sNil)
    (sSeq (sIf (tNotB (tT (eFn 1 f_is_solid (aCons (e1 (fldM [(1, 0)]) (eVar 0)) aNil)))) (sRet (eC (.str "not whole"))) sNil)
    (sSeq (sIf (tB2 eqD (eLook 1) (eC (.str "point"))) (sSeq (sSet 3 (eFn 2 f_broken_at (aCons (e1 (fldM [(1, 0)]) (eVar 0)) (aCons (eVar 2) aNil))))
    (sRet (eIf (tT (eLook 3)) (eFn 1 f_numbers_said (aCons (eVar 3) aNil)) (eC (.str "kept"))))) sNil)
    (sSeq sNo
    (sSeq (sIf (tB2 isNoneD (eLook 3) (eC .non)) (sRet (eC (.str "no point"))) sNil)
    (sRet (eIf (tT (e1 (isTyM "tuple" own_cs) (eLook 3))) (eCall (g1 strD) (aCons (e2 ixD (eLook 3) (eC (.int 0))) aNil)) (eVar 3)))))))))
def f_Console_aimed (ds : List D) : M D := fnM 5 q_Console_aimed ds
set_option maxHeartbeats 4000000 in
theorem fg_Console_aimed {P : Program} {w : World} {K : PySem.W.Frag} {mg : Str → Option Value} {base : Heap} {A : Ad} (Z : Fx K mg A) : FnG false P w K mg base 7 A.a_Console_aimed A.d_Console_aimed ["self", "word", "numbers"] (spOf (tbl K A) 3 f_Console_aimed) :=
  fng_den (T := tbl K A) Z.F_Console_aimed sc_Console_aimed (fun cv Ar out s H E hr =>
    (ss_cons (ss_if (SW.st (sw_and (st_cmp (op_eqA hr.u64) (ok_eq rfl) (vb 1) (SE.sb se_str) rfl) (sw_and1 (st_not (st_tru (SE.sb (w_all rfl Z.b_all (sab_cons (SE.sb (SN.se (sn_lc (own := [(("each" : Str), 4)]) rfl sc_Console_aimed.nd (si_b (vb 2)) (blk_of rfl rfl) (fun _ _ _ _ _ => (tbn 4 sc_Console_aimed.nd)) (fun _ _ _ _ _ => sts_nil) (fun _ _ _ _ _ => (se_chain op_le ok_le op_le ok_le (SE.sb (se_un un_neg ok_neg (SE.sb (K_MOST_WEIGHT Z)))) (vb 4) (SE.sb (K_MOST_WEIGHT Z))))))) sab_nil)))))))) (ss_one (ss_ret se_non)) ss_nil)
    (ss_cons (ss_if (st_cmp (op_ninAll hr.u65) (ok_nin rfl) (vb 1) (SE.sb (se_tup (sa_cons se_str (sa_cons se_str sa_nil)))) rfl) (ss_one (ss_ret se_non)) ss_nil)
    (ss_cons (ss_if (st_not (st_tru (SE.sb (se_call ((ok_is_solid Z).up (by decide)) hr rfl Z.m_is_solid Z.k_is_solid (takes_of rfl rfl rfl rfl) (sa_cons (se_fld (alts := [(1, 0)]) (v 0) (cf_kept Z)) sa_nil))))) (ss_one (ss_ret (K_NOT_WHOLE Z))) ss_nil)
    (ss_cons (ss_if (st_cmp (op_eqA hr.u64) (ok_eq rfl) (vb 1) (SE.sb se_str) rfl) (ss_cons (xset 3 sc_Console_aimed.nd (se_call ((ok_broken_at Z).up (by decide)) hr rfl Z.m_broken_at Z.k_broken_at (takes_of rfl rfl rfl rfl) (sa_cons (se_fld (alts := [(1, 0)]) (v 0) (cf_kept Z)) (sa_cons (v 2) sa_nil))))
    (ss_one (ss_ret (se_if (st_tru (vb 3)) (se_call ((ok_numbers_said Z).up (by decide)) hr rfl Z.m_numbers_said Z.k_numbers_said (takes_of rfl rfl rfl rfl) (sa_cons (v 3) sa_nil)) se_str)))) ss_nil)
    (ss_cons ss_no
    (ss_cons (ss_if (st_cmp op_isN ok_isN (vb 3) (SE.sb se_non) rfl) (ss_one (ss_ret (K_NO_POINT Z))) ss_nil)
    (ss_one (ss_ret (se_if (st_tru (SE.sb (se_isTy (vb 3) rfl Z.b_isinstance rfl Z.b_tuple rfl (by decide) (it_tuple Z)))) (w_str Z.b_str (sab_cons (SE.sb (se_ix (vb 3) (SE.sb se_int))) sab_nil)) (v 3)))))))))))
theorem ok_Console_aimed {P : Program} {w : World} {K : PySem.W.Frag} {mg : Str → Option Value} {base : Heap} {A : Ad} (Z : Fx K mg A) : FnP false P w K mg base 7 A.a_Console_aimed (spOf (tbl K A) 3 f_Console_aimed) := (fg_Console_aimed Z).byP0 (Z.F_Console_aimed.binds fun _ _ _ _ _ _ us hl => match us, hl with | [_, _, _], _ => rfl)
theorem sc_Console_answer : FnScope ["self", "word", "rest", "index", "lot", "numbers", "each"] ["self", "word", "rest"] (defScope s_Console_answer) := ⟨rfl, rfl, rfl, by decide +kernel, rfl, by decide +kernel, by decide +kernel⟩
def q_Console_answer : Sx := (sSeq (sIf (tAndB (tB2 eqD (eLook 1) (eC (.str "row"))) (tB2 eqD (eCall (g1 lenD) (aCons (eLook 2) aNil)) (eC (.int 1)))) (sSeq (sSet 3 (eFn 1 f_number_in (aCons (e2 ixD (eLook 2) (eC (.int 0))) aNil)))
    (sRet (eIf (tAndB (tB2 isntNoneD (eLook 3) (eC .non)) (tB2 ltD (eLook 3) (eCall (g1 lenD) (aCons (e1 (fldM [(0, 0)]) (e1 (fldM [(1, 0)]) (eVar 0))) aNil)))) (e2 ixD (e1 (fldM [(0, 0)]) (e1 (fldM [(1, 0)]) (eVar 0))) (eLook 3)) (eC .non)))) sNil)
    (sSeq (sIf (tB2 eqD (eLook 1) (eC (.str "lot"))) (sSeq (sSet 4 (eCall (g1 tupleD) (aCons (eN (lcN (iE (eLook 2)) (gNm 6) yes (eFn 1 f_number_in (aCons (eVar 6) aNil)) [6])) aNil)))
    (sSeq (sIf (tOrB (tB2 inD (eC .non) (eLook 4)) (tNotB (tT (eFn 2 f_is_lot (aCons (eVar 4) (aCons (eCall (g1 lenD) (aCons (e1 (fldM [(0, 4)]) (e1 (fldM [(1, 0)]) (eVar 0))) aNil)) aNil)))))) (sRet (eC .non)) sNil)
    sNo)) sNil)
    (sSeq (sIf (tAndB (tB2 eqD (eLook 1) (eC (.str "reach"))) (tAndB (tB2 eqD (eCall (g1 lenD) (aCons (eLook 2) aNil)) (eC (.int 1))) (tAndB (tB2 eqD (eCall (g1 lenD) (aCons (e2 ixD (eLook 2) (eC (.int 0))) aNil)) (eC (.int 1))) (tB2 inD (e2 ixD (eLook 2) (eC (.int 0))) (e1 (fldM [(0, 2)]) (e1 (fldM [(1, 0)]) (eVar 0))))))) sNo sNil)
    (sSeq (sSet 5 (eCall (g1 tupleD) (aCons (eN (lcN (iE (eLook 2)) (gNm 6) yes (eFn 1 f_signed_in (aCons (eVar 6) aNil)) [6])) aNil)))
    (sSeq (sIf (tOrB (tB2 inD (eC .non) (eLook 5)) (tB2 neD (eCall (g1 lenD) (aCons (eLook 5) aNil)) (eCall (g1 lenD) (aCons (e1 (fldM [(0, 1)]) (e1 (fldM [(1, 0)]) (eVar 0))) aNil)))) (sRet (eC .non)) sNil)
    (sRet (eMeth 1 3 f_Console_aimed (eVar 0) (aCons (eVar 1) (aCons (eVar 5) aNil)))))))))
def f_Console_answer (ds : List D) : M D := fnM 7 q_Console_answer ds
set_option maxHeartbeats 4000000 in
theorem fg_Console_answer {P : Program} {w : World} {K : PySem.W.Frag} {mg : Str → Option Value} {base : Heap} {A : Ad} (Z : Fx K mg A) : FnG false P w K mg base 8 A.a_Console_answer A.d_Console_answer ["self", "word", "rest"] (spOf (tbl K A) 3 f_Console_answer) :=
  fng_den (T := tbl K A) Z.F_Console_answer sc_Console_answer (fun cv Ar out s H E hr =>
    (ss_cons (ss_if (SW.st (sw_and (st_cmp (op_eqA hr.u64) (ok_eq rfl) (vb 1) (SE.sb se_str) rfl) (sw_and1 (st_cmp (op_eqA hr.u64) (ok_eq rfl) (SE.sb (w_len Z.b_len (sab_cons (vb 2) sab_nil))) (SE.sb se_int) rfl)))) (ss_cons (xset 3 sc_Console_answer.nd (se_call ((ok_number_in Z).up (by decide)) hr rfl Z.m_number_in Z.k_number_in (takes_of rfl rfl rfl rfl) (sa_cons (se_ix (vb 2) (SE.sb se_int)) sa_nil)))
    (ss_one (ss_ret (se_if (SW.st (sw_and (st_cmp op_notN ok_isntN (vb 3) (SE.sb se_non) rfl) (sw_and1 (st_cmp op_lt ok_lt (vb 3) (SE.sb (w_len Z.b_len (sab_cons (SE.sb (se_fld (alts := [(0, 0)]) (se_fld (alts := [(1, 0)]) (v 0) (cf_kept Z)) (cf_told Z))) sab_nil))) rfl)))) (se_ix (SE.sb (se_fld (alts := [(0, 0)]) (se_fld (alts := [(1, 0)]) (v 0) (cf_kept Z)) (cf_told Z))) (vb 3)) se_non)))) ss_nil)
    (ss_cons (ss_if (st_cmp (op_eqA hr.u64) (ok_eq rfl) (vb 1) (SE.sb se_str) rfl) (ss_cons (xset 4 sc_Console_answer.nd (w_tuple Z.b_tuple (sab_cons (SE.sb (SN.se (sn_lc (own := [(("each" : Str), 6)]) rfl sc_Console_answer.nd (si_b (vb 2)) (blk_of rfl rfl) (fun _ _ _ _ _ => (tbn 6 sc_Console_answer.nd)) (fun _ _ _ _ _ => sts_nil) (fun _ _ _ _ _ => (se_call ((ok_number_in Z).up (by decide)) hr rfl Z.m_number_in Z.k_number_in takes_wf (sa_cons (v 6) sa_nil)))))) sab_nil)))
    (ss_cons (ss_if (SW.st (sw_or (st_cmp (op_inAll hr.u65) (ok_in rfl) (SE.sb se_non) (vb 4) rfl) (sw_or1 (st_not (st_tru (SE.sb (se_call ((ok_is_lot Z).up (by decide)) hr rfl Z.m_is_lot Z.k_is_lot (takes_of rfl rfl rfl rfl) (sa_cons (v 4) (sa_cons (w_len Z.b_len (sab_cons (SE.sb (se_fld (alts := [(0, 4)]) (se_fld (alts := [(1, 0)]) (v 0) (cf_kept Z)) (cf_bounds Z))) sab_nil)) sa_nil))))))))) (ss_one (ss_ret se_non)) ss_nil)
    (ss_one ss_no))) ss_nil)
    (ss_cons (ss_if (SW.st (sw_and (st_cmp (op_eqA hr.u64) (ok_eq rfl) (vb 1) (SE.sb se_str) rfl) (sw_and (st_cmp (op_eqA hr.u64) (ok_eq rfl) (SE.sb (w_len Z.b_len (sab_cons (vb 2) sab_nil))) (SE.sb se_int) rfl) (sw_and (st_cmp (op_eqA hr.u64) (ok_eq rfl) (SE.sb (w_len Z.b_len (sab_cons (SE.sb (se_ix (vb 2) (SE.sb se_int))) sab_nil))) (SE.sb se_int) rfl) (sw_and1 (st_cmp (op_inAll hr.u65) (ok_in rfl) (SE.sb (se_ix (vb 2) (SE.sb se_int))) (SE.sb (se_fld (alts := [(0, 2)]) (se_fld (alts := [(1, 0)]) (v 0) (cf_kept Z)) (cf_letters Z))) rfl)))))) (ss_one ss_no) ss_nil)
    (ss_cons (xset 5 sc_Console_answer.nd (w_tuple Z.b_tuple (sab_cons (SE.sb (SN.se (sn_lc (own := [(("each" : Str), 6)]) rfl sc_Console_answer.nd (si_b (vb 2)) (blk_of rfl rfl) (fun _ _ _ _ _ => (tbn 6 sc_Console_answer.nd)) (fun _ _ _ _ _ => sts_nil) (fun _ _ _ _ _ => (se_call ((ok_signed_in Z).up (by decide)) hr rfl Z.m_signed_in Z.k_signed_in takes_wf (sa_cons (v 6) sa_nil)))))) sab_nil)))
    (ss_cons (ss_if (SW.st (sw_or (st_cmp (op_inAll hr.u65) (ok_in rfl) (SE.sb se_non) (vb 5) rfl) (sw_or1 (st_cmp (op_neA hr.u64) (ok_ne rfl) (SE.sb (w_len Z.b_len (sab_cons (vb 5) sab_nil))) (SE.sb (w_len Z.b_len (sab_cons (SE.sb (se_fld (alts := [(0, 1)]) (se_fld (alts := [(1, 0)]) (v 0) (cf_kept Z)) (cf_kinds Z))) sab_nil))) rfl)))) (ss_one (ss_ret se_non)) ss_nil)
    (ss_one (ss_ret (se_meth (cc := 1) (v 0) Z.cl_Console Z.me_Console_aimed (show ¬ ("aimed" : Str) ∈ cfOf 1 by decide) ((ok_Console_aimed Z).up (by decide)) hr (takes_of rfl rfl rfl rfl) (sa_cons (v 1) (sa_cons (v 5) sa_nil)))))))))))
theorem ok_Console_answer {P : Program} {w : World} {K : PySem.W.Frag} {mg : Str → Option Value} {base : Heap} {A : Ad} (Z : Fx K mg A) : FnP false P w K mg base 8 A.a_Console_answer (spOf (tbl K A) 3 f_Console_answer) := (fg_Console_answer Z).byP0 (Z.F_Console_answer.binds fun _ _ _ _ _ _ us hl => match us, hl with | [_, _, _], _ => rfl)
theorem sc_Console_say : FnScope ["self", "line", "words", "found"] ["self", "line"] (defScope s_Console_say) := ⟨rfl, rfl, rfl, by decide +kernel, rfl, by decide +kernel, by decide +kernel⟩
def q_Console_say : Sx := (sSeq (sSet 2 (eIf (tT (e1 (isTyM "str" own_cs) (eLook 1))) (eN (splitN (eLook 1) (eC (.str " ")))) (eN (nLst (aCons (eC (.str "")) aNil)))))
    (sSeq (sSet 3 (eIf (tB2 eqD (eCall (g1 lenD) (aCons (eLook 2) aNil)) (eC (.int 1))) (eMeth 1 2 f_Console_plain (eVar 0) (aCons (e2 ixD (eLook 2) (eC (.int 0))) aNil)) (eMeth 1 3 f_Console_answer (eVar 0) (aCons (e2 ixD (eLook 2) (eC (.int 0))) (aCons (eSl (eLook 2) (oInt (eC (.int 1))) oNo) aNil)))))
    (sSeq (sIf (tB2 isNoneD (eLook 3) (eC .non)) sNo sNil)
    (sRet (eVar 3)))))
def f_Console_say (ds : List D) : M D := fnM 4 q_Console_say ds
set_option maxHeartbeats 4000000 in
theorem fg_Console_say {P : Program} {w : World} {K : PySem.W.Frag} {mg : Str → Option Value} {base : Heap} {A : Ad} (Z : Fx K mg A) : FnG false P w K mg base 9 A.a_Console_say A.d_Console_say ["self", "line"] (spOf (tbl K A) 2 f_Console_say) :=
  fng_den (T := tbl K A) Z.F_Console_say sc_Console_say (fun cv Ar out s H E hr =>
    (ss_cons (xset 2 sc_Console_say.nd (se_if (st_tru (SE.sb (se_isTy (vb 1) rfl Z.b_isinstance rfl Z.b_str rfl (by decide) (it_str Z)))) (SN.se (sn_split (vb 1) (SE.sb se_str))) (SN.se (sn_lst (sa_cons se_str sa_nil)))))
    (ss_cons (xset 3 sc_Console_say.nd (se_if (st_cmp (op_eqA hr.u64) (ok_eq rfl) (SE.sb (w_len Z.b_len (sab_cons (vb 2) sab_nil))) (SE.sb se_int) rfl) (se_meth (cc := 1) (v 0) Z.cl_Console Z.me_Console_plain (show ¬ ("plain" : Str) ∈ cfOf 1 by decide) ((ok_Console_plain Z).up (by decide)) hr (takes_of rfl rfl rfl rfl) (sa_cons (se_ix (vb 2) (SE.sb se_int)) sa_nil)) (se_meth (cc := 1) (v 0) Z.cl_Console Z.me_Console_answer (show ¬ ("answer" : Str) ∈ cfOf 1 by decide) ((ok_Console_answer Z).up (by decide)) hr (takes_of rfl rfl rfl rfl) (sa_cons (se_ix (vb 2) (SE.sb se_int)) (sa_cons (se_sl (vb 2) (so_some (SE.sb se_int)) so_none) sa_nil)))))
    (ss_cons (ss_if (st_cmp op_isN ok_isN (vb 3) (SE.sb se_non) rfl) (ss_one ss_no) ss_nil)
    (ss_one (ss_ret (v 3)))))))
theorem ok_Console_say {P : Program} {w : World} {K : PySem.W.Frag} {mg : Str → Option Value} {base : Heap} {A : Ad} (Z : Fx K mg A) : FnP false P w K mg base 9 A.a_Console_say (spOf (tbl K A) 2 f_Console_say) := (fg_Console_say Z).byP0 (Z.F_Console_say.binds fun _ _ _ _ _ _ us hl => match us, hl with | [_, _], _ => rfl)
theorem sc_Console_init : FnScope ["self", "system"] ["self", "system"] (defScope s_Console_init) := ⟨rfl, rfl, rfl, by decide +kernel, rfl, by decide +kernel, by decide +kernel⟩
def q_Console_init : Sx := (sSeq (sExpr (eFn 1 f_check_system (aCons (eVar 1) aNil)))
    (sAttr 0 [(1, 0)] (eVar 1)))
def f_Console_init (ds : List D) : M (List D) := mkM 2 1 1 q_Console_init ds
set_option maxHeartbeats 4000000 in
theorem ok_Console_init {P : Program} {w : World} {K : PySem.W.Frag} {mg : Str → Option Value} {base : Heap} {A : Ad} (Z : Fx K mg A) : FnP false P w K mg base 2 A.a_Console_init (spMk (tbl K A) 1 (some 1) f_Console_init) :=
  fnp_init Z.F_Console_init sc_Console_init (Z.F_Console_init.binds fun _ _ _ _ _ _ us hl => match us, hl with | [_, _], _ => rfl) rfl (fun cv Ar out s H E hr =>
    (ss_cons (ss_expr (se_call ((ok_check_system Z).up (by decide)) hr rfl Z.m_check_system Z.k_check_system (takes_of rfl rfl rfl rfl) (sa_cons (v 1) sa_nil)))
    (ss_one (xattr 0 [(1, 0)] (v 1) (cf_kept Z)))))
theorem sc__law_right : FnScope ["_law_spring_here", "_law_turn", "_law_rows_now", "_law_kinds_now", "_law_bounds_now", "_law_made_here", "_law_again", "_law_spot", "_law_rest", "_law_weights_now", "_law_c", "_law_total", "_law_lost", "_law_told", "_law_goal", "_law_due", "_law_kind", "_law_k"] ["_law_spring_here"] (defScope s__law_right) := ⟨rfl, rfl, rfl, by decide +kernel, rfl, by decide +kernel, by decide +kernel⟩
def q__law_right : Sx := (sSeq (sFor (iA rng1M (aCons (eC (.int 3)) aNil)) (gNm 1) (sSeq (sSet 2 (eFn 1 f__law_wide_rows (aCons (eVar 0) aNil)))
    (sSeq (sPX2 3 4 (xV (eFn 1 f__law_kinds (aCons (eVar 2) aNil)) (xV (eFn 1 f__law_uprights (aCons (eVar 2) aNil)) xNil)))
    (sSeq (sSet 5 (eFn 1 f__law_made (aCons (eVar 2) aNil)))
    (sSeq (sIf (tB2 neD (eCall (g1 reprD) (aCons (eN (nLst (aCons (e1 (propO 0 f_System_text) (eLook 5)) (aCons (e1 (propO 0 f_System_inequalities) (eLook 5)) aNil)))) aNil)) (eCall (g1 reprD) (aCons (eN (nLst (aCons (m2 joinD (eC (.str "\n")) (eLook 2)) (aCons (eCall (g1 tupleD) (aCons (eLook 4) aNil)) aNil)))) aNil))) (sRet (eC (.bl false))) sNil)
    (sFor (iA rng1M (aCons (eC (.int 3)) aNil)) (gNm 6) (sSeq (sSet 7 (eCall (g1 tupleD) (aCons (eN (lcN (iE (eLook 3)) (gNm 16) yes (eFn 2 f__law_value_for (aCons (eVar 0) (aCons (eVar 16) aNil))) [16])) aNil)))
    (sSeq (sOwn 8 (nLst aNil))
    (sSeq (sFor (iE (eVar 4)) (gTp 2 (gMore (gNm 9) (gMore (gNm 10) gNone))) (sSeq (sSet 11 (eFn 2 f__law_sum (aCons (eVar 9) (aCons (eVar 7) aNil))))
    (sMut 8 kApp (aCons (eFn 2 f__law_ratio (aCons (e2 subD (e2 mulD (eLook 10) (e2 ixD (eLook 11) (eC (.int 1)))) (e2 ixD (eLook 11) (eC (.int 0)))) (aCons (e2 ixD (eLook 11) (eC (.int 1))) aNil))) aNil))))
    (sSeq (sSet 12 (eCall (g1 tupleD) (aCons (eN (lcN (iA rng1M (aCons (eCall (g1 lenD) (aCons (eLook 8) aNil)) aNil)) (gNm 17) (tB2 ltD (e2 ixD (e2 ixD (eLook 8) (eLook 17)) (eC (.int 0))) (eC (.int 0))) (eVar 17) [17])) aNil)))
    (sSeq (sSet 13 (eN (nLst (aCons (eFn 2 f_gaps (aCons (eVar 5) (aCons (eVar 7) aNil))) (aCons (eFn 2 f_broken (aCons (eVar 5) (aCons (eVar 7) aNil))) (aCons (eKw 0 2 [1, 0] 2 f_fits aNil (aCons (eVar 7) (aCons (eVar 5) aNil))) aNil))))))
    (sSeq (sIf (tB2 neD (eCall (g1 reprD) (aCons (eLook 13) aNil)) (eCall (g1 reprD) (aCons (eN (nLst (aCons (eCall (g1 tupleD) (aCons (eLook 8) aNil)) (aCons (eVar 12) (aCons (e2 eqD (eLook 12) (eTup aNil)) aNil))))) aNil))) (sRet (eC (.bl false))) sNil)
    (sSeq (sSet 14 (eCall (g1 tupleD) (aCons (eN (lcN (iE (eLook 3)) (gNm 16) yes (e2 subD (eFn 2 f__law_draw (aCons (eVar 0) (aCons (eC (.int 199)) aNil))) (eC (.int 99))) [16])) aNil)))
    (sSeq (sIf (tB2 neD (eCall (g1 reprD) (aCons (eFn 3 f_value (aCons (eVar 5) (aCons (eVar 14) (aCons (eVar 7) aNil)))) aNil)) (eCall (g1 reprD) (aCons (eFn 2 f__law_sum (aCons (eVar 14) (aCons (eVar 7) aNil))) aNil))) (sRet (eC (.bl false))) sNil)
    (sIf (tB2 ninD (eC (.str "any")) (eLook 3)) (sSeq (sSet 15 (eIf (tB2 neD (eLook 12) (eTup aNil)) (eFn 1 f__law_words_of (aCons (eVar 12) aNil)) (eC (.str "kept"))))
    (sIf (tB2 neD (eMeth 1 2 f_Console_say (eMk 1 (some 1) f_Console_init (aCons (eVar 5) aNil)) (aCons (e2 addD (eC (.str "point ")) (eFn 1 f__law_words_of (aCons (eVar 7) aNil))) aNil)) (eLook 15)) (sRet (eC (.bl false))) sNil)) sNil)))))))))))))))
    (sRet (eC (.bl true))))
def f__law_right (ds : List D) : M D := fnM 18 q__law_right ds
set_option maxHeartbeats 4000000 in
theorem fg__law_right {P : Program} {w : World} {K : PySem.W.Frag} {mg : Str → Option Value} {base : Heap} {A : Ad} (Z : Fx K mg A) : FnG true P w K mg base 10 A.a__law_right A.d__law_right ["_law_spring_here"] (spOf (tbl K A) 1 f__law_right) :=
  fng_den (T := tbl K A) Z.F__law_right sc__law_right (fun cv Ar out s H E hr =>
    (ss_cons (ss_for (passes_of rfl) rfl (si_rng1 rfl Z.b_range (sa_cons se_int sa_nil)) (tn 1 sc__law_right.nd) (ss_cons (xset 2 sc__law_right.nd (se_call ((ok__law_wide_rows Z).up (by decide)) hr rfl Z.m__law_wide_rows Z.k__law_wide_rows (takes_of rfl rfl rfl rfl) (sa_cons (v 0) sa_nil)))
    (ss_cons (xpx2 3 4 sc__law_right.nd (sx_v (se_call ((ok__law_kinds Z).up (by decide)) hr rfl Z.m__law_kinds Z.k__law_kinds (takes_of rfl rfl rfl rfl) (sa_cons (v 2) sa_nil)) (sx_v (se_call ((ok__law_uprights Z).up (by decide)) hr rfl Z.m__law_uprights Z.k__law_uprights (takes_of rfl rfl rfl rfl) (sa_cons (v 2) sa_nil)) sx_nil)))
    (ss_cons (xset 5 sc__law_right.nd (se_call ((ok__law_made Z).up (by decide)) hr rfl Z.m__law_made Z.k__law_made (takes_of rfl rfl rfl rfl) (sa_cons (v 2) sa_nil)))
    (ss_cons (ss_if (st_cmp (op_neA hr.u64) (ok_ne rfl) (SE.sb (w_repr hr Z.b_repr (sab_cons (SE.sb (SN.se (sn_lst (sa_cons (se_propO (cc := 0) (vb 5) Z.cl_System Z.pr_System_text (ok_System_text Z) (hr.rm.mono (by decide))) (sa_cons (se_propO (cc := 0) (vb 5) Z.cl_System Z.pr_System_inequalities (ok_System_inequalities Z) (hr.rm.mono (by decide))) sa_nil))))) sab_nil))) (SE.sb (w_repr hr Z.b_repr (sab_cons (SE.sb (SN.se (sn_lst (sa_cons (se_join (SE.sb se_str) (vb 2)) (sa_cons (w_tuple Z.b_tuple (sab_cons (vb 4) sab_nil)) sa_nil))))) sab_nil))) rfl) (ss_one (ss_ret se_bl)) ss_nil)
    (ss_one (ss_for (passes_of rfl) rfl (si_rng1 rfl Z.b_range (sa_cons se_int sa_nil)) (tn 6 sc__law_right.nd) (ss_cons (xset 7 sc__law_right.nd (w_tuple Z.b_tuple (sab_cons (SE.sb (SN.se (sn_lc (own := [(("_law_kind" : Str), 16)]) rfl sc__law_right.nd (si_b (vb 3)) (blk_of rfl rfl) (fun _ _ _ _ _ => (tbn 16 sc__law_right.nd)) (fun _ _ _ _ _ => sts_nil) (fun _ _ _ _ _ => (se_call ((ok__law_value_for Z).up (by decide)) hr rfl Z.m__law_value_for Z.k__law_value_for takes_wf (sa_cons (v 0) (sa_cons (v 16) sa_nil))))))) sab_nil)))
    (ss_cons (xown 8 sc__law_right.nd (sn_lst sa_nil))
    (ss_cons (ss_for (passes_of rfl) rfl (si_e (v 4)) (sg_tup rfl (sgs_cons (tn 9 sc__law_right.nd) (sgs_cons (tn 10 sc__law_right.nd) sgs_nil))) (ss_cons (xset 11 sc__law_right.nd (se_call ((ok__law_sum Z).up (by decide)) hr rfl Z.m__law_sum Z.k__law_sum (takes_of rfl rfl rfl rfl) (sa_cons (v 9) (sa_cons (v 7) sa_nil))))
    (ss_one (xapp 8 (sa_cons (se_call ((ok__law_ratio Z).up (by decide)) hr rfl Z.m__law_ratio Z.k__law_ratio (takes_of rfl rfl rfl rfl) (sa_cons (se_op op_sub' ok_sub (SE.sb (se_op op_times ok_mul (vb 10) (SE.sb (se_ix (vb 11) (SE.sb se_int))))) (SE.sb (se_ix (vb 11) (SE.sb se_int)))) (sa_cons (se_ix (vb 11) (SE.sb se_int)) sa_nil))) sa_nil)))))
    (ss_cons (xset 12 sc__law_right.nd (w_tuple Z.b_tuple (sab_cons (SE.sb (SN.se (sn_lc (own := [(("_law_k" : Str), 17)]) rfl sc__law_right.nd (si_rng1 rfl Z.b_range (sa_cons (w_len Z.b_len (sab_cons (vb 8) sab_nil)) sa_nil)) (blk_of rfl rfl) (fun _ _ _ _ _ => (tbn 17 sc__law_right.nd)) (fun _ _ _ _ _ => (sts_one (st_cmp op_lt ok_lt (SE.sb (se_ix (SE.sb (se_ix (vb 8) (vb 17))) (SE.sb se_int))) (SE.sb se_int) rfl))) (fun _ _ _ _ _ => (v 17))))) sab_nil)))
    (ss_cons (xset 13 sc__law_right.nd (SN.se (sn_lst (sa_cons (se_call ((ok_gaps Z).up (by decide)) hr rfl Z.m_gaps Z.k_gaps (takes_of rfl rfl rfl rfl) (sa_cons (v 5) (sa_cons (v 7) sa_nil))) (sa_cons (se_call ((ok_broken Z).up (by decide)) hr rfl Z.m_broken Z.k_broken (takes_of rfl rfl rfl rfl) (sa_cons (v 5) (sa_cons (v 7) sa_nil))) (sa_cons (xkw0 (fg_fits Z) (hr.low.mono (by decide)) rfl Z.m_fits Z.k_fits (kb_fits_0_point_system Z) (takes_of rfl rfl rfl rfl) (sk_cons (v 7) (sk_cons (v 5) sk_nil))) sa_nil))))))
    (ss_cons (ss_if (st_cmp (op_neA hr.u64) (ok_ne rfl) (SE.sb (w_repr hr Z.b_repr (sab_cons (vb 13) sab_nil))) (SE.sb (w_repr hr Z.b_repr (sab_cons (SE.sb (SN.se (sn_lst (sa_cons (w_tuple Z.b_tuple (sab_cons (vb 8) sab_nil)) (sa_cons (v 12) (sa_cons (se_cmp (op_eqA hr.u64) (ok_eq rfl) (vb 12) (SE.sb (se_tup sa_nil)) rfl) sa_nil)))))) sab_nil))) rfl) (ss_one (ss_ret se_bl)) ss_nil)
    (ss_cons (xset 14 sc__law_right.nd (w_tuple Z.b_tuple (sab_cons (SE.sb (SN.se (sn_lc (own := [(("_law_kind" : Str), 16)]) rfl sc__law_right.nd (si_b (vb 3)) (blk_of rfl rfl) (fun _ _ _ _ _ => (tbn 16 sc__law_right.nd)) (fun _ _ _ _ _ => sts_nil) (fun _ _ _ _ _ => (se_op op_sub' ok_sub (SE.sb (se_call ((ok__law_draw Z).up (by decide)) hr rfl Z.m__law_draw Z.k__law_draw takes_wf (sa_cons (v 0) (sa_cons se_int sa_nil)))) (SE.sb se_int)))))) sab_nil)))
    (ss_cons (ss_if (st_cmp (op_neA hr.u64) (ok_ne rfl) (SE.sb (w_repr hr Z.b_repr (sab_cons (SE.sb (se_call ((ok_value Z).up (by decide)) hr rfl Z.m_value Z.k_value (takes_of rfl rfl rfl rfl) (sa_cons (v 5) (sa_cons (v 14) (sa_cons (v 7) sa_nil))))) sab_nil))) (SE.sb (w_repr hr Z.b_repr (sab_cons (SE.sb (se_call ((ok__law_sum Z).up (by decide)) hr rfl Z.m__law_sum Z.k__law_sum (takes_of rfl rfl rfl rfl) (sa_cons (v 14) (sa_cons (v 7) sa_nil)))) sab_nil))) rfl) (ss_one (ss_ret se_bl)) ss_nil)
    (ss_one (ss_if (st_cmp (op_ninAll hr.u65) (ok_nin rfl) (SE.sb se_str) (vb 3) rfl) (ss_cons (xset 15 sc__law_right.nd (se_if (st_cmp (op_neA hr.u64) (ok_ne rfl) (vb 12) (SE.sb (se_tup sa_nil)) rfl) (se_call ((ok__law_words_of Z).up (by decide)) hr rfl Z.m__law_words_of Z.k__law_words_of (takes_of rfl rfl rfl rfl) (sa_cons (v 12) sa_nil)) se_str))
    (ss_one (ss_if (st_cmp (op_neA hr.u64) (ok_ne rfl) (SE.sb (se_meth (cc := 1) (se_mk (cc := 1) Z.mk_Console ((ok_Console_init Z).up (by decide)) hr rfl Z.m_Console (takes_of rfl rfl rfl rfl) (sa_cons (v 5) sa_nil)) Z.cl_Console Z.me_Console_say (show ¬ ("say" : Str) ∈ cfOf 1 by decide) ((ok_Console_say Z).up (by decide)) hr (takes_of rfl rfl rfl rfl) (sa_cons (se_op op_plus (ok_add rfl) (SE.sb se_str) (SE.sb (se_call ((ok__law_words_of Z).up (by decide)) hr rfl Z.m__law_words_of Z.k__law_words_of (takes_of rfl rfl rfl rfl) (sa_cons (v 7) sa_nil)))) sa_nil))) (vb 15) rfl) (ss_one (ss_ret se_bl)) ss_nil))) ss_nil)))))))))))))))))
    (ss_one (ss_ret se_bl))))
theorem ok__law_right {P : Program} {w : World} {K : PySem.W.Frag} {mg : Str → Option Value} {base : Heap} {A : Ad} (Z : Fx K mg A) : FnP true P w K mg base 10 A.a__law_right (spOf (tbl K A) 1 f__law_right) := (fg__law_right Z).byP0 (Z.F__law_right.binds fun _ _ _ _ _ _ us hl => match us, hl with | [_], _ => rfl)
theorem sc__law_spring : FnScope ["_law_cells", "_law_k", "_law_cell", "_law_mixed", "_law_number"] ["_law_cells", "_law_k"] (defScope s__law_spring) := ⟨rfl, rfl, rfl, by decide +kernel, rfl, by decide +kernel, by decide +kernel⟩
def q__law_spring : Sx := (sSeq (sSet 2 (eIf (tB2 ltD (eLook 1) (eCall (g1 lenD) (aCons (eLook 0) aNil))) (e2 ixD (eLook 0) (eLook 1)) (e2 addD (e2 mulD (eC (.int 7)) (eLook 1)) (eC (.int 2)))))
    (sSeq (sSet 3 (e2 addD (eC (.int 90001)) (e2 mulD (eC (.int 7919)) (eLook 1))))
    (sSeq (sFor (iE (eN (n2 catN (eSl (eLook 0) oNo (oInt (eC (.int 8)))) (eN (nLst (aCons (eVar 2) aNil)))))) (gNm 4) (sSet 3 (e2 modD (eCall (g1 intD) (aCons (e2 addD (e2 addD (e2 mulD (eLook 3) (eC (.int 48271))) (eCall (g1 intD) (aCons (eLook 4) aNil))) (e2 mulD (eC (.int 11)) (eLook 1))) aNil)) (eC (.int 2147483647)))))
    (sRet (eNS (nLst (aCons (eIf (tOrB (tB2 ltD (eLook 2) (eC (.int 0))) (tB2 geD (eLook 2) (e2 powD (eC (.int 10)) (eC (.int 18))))) (eCall (g1 absD) (aCons (eLook 2) aNil)) (eC (.int 0))) (aCons (eVar 3) (aCons (eC (.int 0)) aNil)))))))))
def f__law_spring (ds : List D) : M D := fnM 5 q__law_spring ds
set_option maxHeartbeats 4000000 in
theorem fg__law_spring {P : Program} {w : World} {K : PySem.W.Frag} {mg : Str → Option Value} {base : Heap} {A : Ad} (Z : Fx K mg A) : FnG false P w K mg base 1 A.a__law_spring A.d__law_spring ["_law_cells", "_law_k"] (spOf (tbl K A) 2 f__law_spring) :=
  fng_den (T := tbl K A) Z.F__law_spring sc__law_spring (fun cv Ar out s H E hr =>
    (ss_cons (xset 2 sc__law_spring.nd (se_if (st_cmp op_lt ok_lt (vb 1) (SE.sb (w_len Z.b_len (sab_cons (vb 0) sab_nil))) rfl) (se_ix (vb 0) (vb 1)) (se_op op_plus (ok_add rfl) (SE.sb (se_op op_times ok_mul (SE.sb se_int) (vb 1))) (SE.sb se_int))))
    (ss_cons (xset 3 sc__law_spring.nd (se_op op_plus (ok_add rfl) (SE.sb se_int) (SE.sb (se_op op_times ok_mul (SE.sb se_int) (vb 1)))))
    (ss_cons (ss_for (passes_of rfl) rfl (si_e (SN.se (sn_cat (SE.sb (se_sl (vb 0) so_none (so_some (SE.sb se_int)))) (SE.sb (SN.se (sn_lst (sa_cons (v 2) sa_nil))))))) (tn 4 sc__law_spring.nd) (ss_one (xset 3 sc__law_spring.nd (se_op op_modN ok_mod (SE.sb (w_int Z.b_int (sab_cons (SE.sb (se_op op_plus (ok_add rfl) (SE.sb (se_op op_plus (ok_add rfl) (SE.sb (se_op op_times ok_mul (vb 3) (SE.sb se_int))) (SE.sb (w_int Z.b_int (sab_cons (vb 4) sab_nil))))) (SE.sb (se_op op_times ok_mul (SE.sb se_int) (vb 1))))) sab_nil))) (SE.sb se_int)))))
    (ss_one (ss_ret (SN.seS (sn_lst (sa_cons (se_if (SW.st (sw_or (st_cmp op_lt ok_lt (vb 2) (SE.sb se_int) rfl) (sw_or1 (st_cmp op_ge ok_ge (vb 2) (SE.sb (se_op op_pow ok_pow (SE.sb se_int) (SE.sb se_int))) rfl)))) (w_abs Z.b_abs (sab_cons (vb 2) sab_nil)) se_int) (sa_cons (v 3) (sa_cons se_int sa_nil)))))))))))
theorem ok__law_spring {P : Program} {w : World} {K : PySem.W.Frag} {mg : Str → Option Value} {base : Heap} {A : Ad} (Z : Fx K mg A) : FnP false P w K mg base 1 A.a__law_spring (spOf (tbl K A) 2 f__law_spring) := (fg__law_spring Z).byP0 (Z.F__law_spring.binds fun _ _ _ _ _ _ us hl => match us, hl with | [_, _], _ => rfl)
theorem sc_law : FnScope ["_law_cells", "_law_k"] ["_law_cells"] (defScope s_law) := ⟨rfl, rfl, rfl, by decide +kernel, rfl, by decide +kernel, by decide +kernel⟩
def q_law : Sx := (sRet (e2 eqD (eN (lcN (iA rng1M (aCons (eCall (g2 max2D) (aCons (eC (.int 2)) (aCons (eCall (g2 min2D) (aCons (eCall (g1 lenD) (aCons (eLook 0) aNil)) (aCons (eC (.int 5)) aNil))) aNil))) aNil)) (gNm 1) (tNotB (tT (eFn 1 f__law_right (aCons (eFn 2 f__law_spring (aCons (eVar 0) (aCons (eVar 1) aNil))) aNil)))) (eVar 1) [1])) (eN (nLst aNil))))
def f_law (ds : List D) : M D := fnM 2 q_law ds
set_option maxHeartbeats 4000000 in
theorem fg_law {P : Program} {w : World} {K : PySem.W.Frag} {mg : Str → Option Value} {base : Heap} {A : Ad} (Z : Fx K mg A) : FnG true P w K mg base 11 A.a_law A.d_law ["_law_cells"] (spOf (tbl K A) 1 f_law) :=
  fng_den (T := tbl K A) Z.F_law sc_law (fun cv Ar out s H E hr =>
    (ss_one (ss_ret (se_cmp (op_eqA hr.u64) (ok_eq rfl) (SE.sb (SN.se (sn_lc (own := [(("_law_k" : Str), 1)]) rfl sc_law.nd (si_rng1 rfl Z.b_range (sa_cons (w_max2 rfl Z.b_max (sab_cons (SE.sb se_int) (sab_cons (SE.sb (w_min2 rfl Z.b_min (sab_cons (SE.sb (w_len Z.b_len (sab_cons (vb 0) sab_nil))) (sab_cons (SE.sb se_int) sab_nil)))) sab_nil))) sa_nil)) (blk_of rfl rfl) (fun _ _ _ _ _ => (tbn 1 sc_law.nd)) (fun _ _ _ _ _ => (sts_one (st_not (st_tru (SE.sb (se_call ((ok__law_right Z).mono (by decide)) hr rfl Z.m__law_right Z.k__law_right takes_wf (sa_cons (se_call ((ok__law_spring Z).up (by decide)) hr rfl Z.m__law_spring Z.k__law_spring takes_wf (sa_cons (v 0) (sa_cons (v 1) sa_nil))) sa_nil))))))) (fun _ _ _ _ _ => (v 1))))) (SE.sb (SN.se (sn_lst sa_nil))) rfl))))
theorem ok_law {P : Program} {w : World} {K : PySem.W.Frag} {mg : Str → Option Value} {base : Heap} {A : Ad} (Z : Fx K mg A) : FnP true P w K mg base 11 A.a_law (spOf (tbl K A) 1 f_law) := (fg_law Z).byP0 (Z.F_law.binds fun _ _ _ _ _ _ us hl => match us, hl with | [_], _ => rfl)
end
end LW

set_option Elab.async false
set_option linter.all false
set_option maxRecDepth 100000
namespace LW
open LS
abbrev dI (i : Int) : Option Sl := some (.val (.int i))
theorem mod_to {a b : Int} {S : Sto} (h : b ≠ 0) : modD (.int a) (.int b) S = .ok (.int (a.fmod b)) S := two_to (decide_eq_true h)
theorem gcd_step (a b : Nat) : Nat.gcd (b + 1) (a % (b + 1)) = Nat.gcd a (b + 1) := by rw [Nat.gcd_comm a, Nat.gcd_rec (b+1) a]; exact Nat.gcd_comm _ _
theorem modc (a b : Nat) : ((a : Int).fmod ((b + 1 : Nat) : Int)) = ((a % (b + 1) : Nat) : Int) := by
  rw [Int.fmod_eq_emod_of_nonneg _ (by omega)]; rfl
/-- one turn of the program's divisions -/
theorem div_one {a b n : Nat} {S : Sto} {r : Res Fl} (h : whN (tB2 gtD (eLook 1) (eC (.int 0))) (sPX2 0 1 (xV (eVar 1) (xV (e2 modD (eLook 0) (eLook 1)) xNil))) n [dI ((b + 1 : Nat) : Int), dI ((a % (b + 1) : Nat) : Int)] S = r) :
    whN (tB2 gtD (eLook 1) (eC (.int 0))) (sPX2 0 1 (xV (eVar 1) (xV (e2 modD (eLook 0) (eLook 1)) xNil))) (n + 1) [dI a, dI ((b + 1 : Nat) : Int)] S = r := by
  have p : (0 : Int) < ((b + 1 : Nat) : Int) := by omega
  refine wh_go (tb2_to (b := true) rfl rfl ?_) (bd_to (bd_to rfl (bd_to (bd_to (e2_to rfl rfl (mod_to (by omega))) rfl) rfl)) rfl) ?_
  · show Res.ok (D.bl (decide ((0 : Int) < ((b + 1 : Nat) : Int)))) S = _
    rw [decide_eq_true p]
  · rw [← modc] at h; exact h
/-- the product of the two is halved by each turn -/
theorem half {a b n : Nat} (h : b + 1 ≤ a) (l : a * (b + 1) < 2 ^ (n + 1)) : (b + 1) * (a % (b + 1)) < 2 ^ n := by
  have h1 := Nat.div_add_mod a (b + 1)
  have h2 : a % (b + 1) < b + 1 := Nat.mod_lt a (Nat.succ_pos b)
  have h3 : 1 ≤ a / (b + 1) := (Nat.one_le_div_iff (Nat.succ_pos b)).mpr h
  have h4 : (b + 1) * 1 ≤ (b + 1) * (a / (b + 1)) := Nat.mul_le_mul_left _ h3
  have h5 : 2 * (a % (b + 1)) ≤ a := by omega
  have h6 : (b + 1) * (2 * (a % (b + 1))) ≤ (b + 1) * a := Nat.mul_le_mul_left _ h5
  rw [Nat.mul_left_comm, Nat.mul_comm (b + 1) a] at h6
  rw [Nat.pow_succ] at l
  omega
theorem div_loop : ∀ (n a b : Nat) (S : Sto), b ≤ a → a * b < 2 ^ n → whN (tB2 gtD (eLook 1) (eC (.int 0))) (sPX2 0 1 (xV (eVar 1) (xV (e2 modD (eLook 0) (eLook 1)) xNil))) (n + 1) [dI a, dI b] S = .ok (.nx [dI (Nat.gcd a b), dI 0]) S
  | n, a, 0, S, _, _ => by
    rw [Nat.gcd_zero_right]
    exact wh_stop (tb2_to rfl rfl rfl)
  | 0, a, b + 1, S, h, l => by
    have : 1 ≤ a * (b + 1) := Nat.mul_pos (by omega) (Nat.succ_pos b)
    simp at l
    omega
  | n + 1, a, b + 1, S, h, l => by
    have ih := div_loop n (b + 1) (a % (b + 1)) S (Nat.le_of_lt (Nat.mod_lt a (Nat.succ_pos b))) (half h l)
    rw [gcd_step] at ih
    exact div_one ih
theorem div_any (n a b : Nat) (S : Sto) (l : a * b < 2 ^ n) : ∃ k, k ≤ n + 1 ∧ whN (tB2 gtD (eLook 1) (eC (.int 0))) (sPX2 0 1 (xV (eVar 1) (xV (e2 modD (eLook 0) (eLook 1)) xNil))) (k + 1) [dI a, dI b] S = .ok (.nx [dI (Nat.gcd a b), dI 0]) S := by
  by_cases h : b ≤ a
  · exact ⟨n, by omega, div_loop n a b S h l⟩
  · match b, h, l with
    | 0, h, _ => exact absurd (Nat.zero_le _) h
    | b + 1, h, l =>
      have e : a % (b + 1) = a := Nat.mod_eq_of_lt (by omega)
      have z := div_loop n (b + 1) (a % (b + 1)) S (by omega) (by rw [e, Nat.mul_comm]; exact l)
      rw [gcd_step] at z
      exact ⟨n + 1, Nat.le_refl _, div_one z⟩
/-- numbers of the size that this law meets -/
abbrev Bg (x : Int) : Prop := x.natAbs < 10 ^ 100
theorem big_pow : 10 ^ 100 * 10 ^ 100 ≤ 2 ^ 800 := by
  rw [← Nat.pow_add, show (800 : Nat) = 4 * 200 from rfl, Nat.pow_mul]
  exact Nat.pow_le_pow_left (by decide) 200
theorem big_mul {a b : Nat} (ha : a < 10 ^ 100) (hb : b < 10 ^ 100) : a * b < 2 ^ 800 :=
  Nat.lt_of_lt_of_le (Nat.mul_lt_mul_of_lt_of_le ha (Nat.le_of_lt hb) (Nat.pow_pos (by decide))) big_pow
theorem big_log {a : Nat} (ha : a < 10 ^ 100) : a.log2 < 400 := by
  by_cases z : a = 0
  · subst z; decide
  · refine (Nat.log2_lt z).mpr (Nat.lt_of_lt_of_le ha ?_)
    rw [show (400 : Nat) = 4 * 100 from rfl, Nat.pow_mul]
    exact Nat.pow_le_pow_left (by decide) 100
theorem divisor_ok (a b : Int) (S : Sto) (ha : Bg a) (h : Bg b) : f_divisor [.int a, .int b] S = .ok (.int (Int.gcd a b)) S := by
  obtain ⟨k, kl, z⟩ := div_any 800 a.natAbs b.natAbs S (big_mul ha h)
  have w := while_n z nofun (Nat.lt_of_le_of_lt kl (by decide))
  have ea : (if a < 0 then -a else a) = ((a.natAbs : Nat) : Int) := by split <;> omega
  have eb : (if b < 0 then -b else b) = ((b.natAbs : Nat) : Int) := by split <;> omega
  refine fn_rt (seq_nx (ρ1 := [dI ((a.natAbs : Nat) : Int), dI ((b.natAbs : Nat) : Int)]) ?_ (seq_nx w (ret_to rfl)))
  rw [← ea, ← eb]; rfl
/-- lowest terms -/
def lowest (a b : Int) : Int × Int := let g : Int := if b < 0 then -(Int.gcd a b : Int) else Int.gcd a b; (a.fdiv g, b.fdiv g)
def dQ (q : Int × Int) : D := .tup [.int q.1, .int q.2]
theorem fdiv_to {a b : Int} {S : Sto} (h : b ≠ 0) (l : b.natAbs.log2 < 9000) : fdivD (.int a) (.int b) S = .ok (.int (a.fdiv b)) S := two_to (decide_eq_true ⟨h, l⟩)
theorem gcd_small {a b : Int} (h0 : b ≠ 0) (h : Bg b) : (Int.gcd a b : Int) ≠ 0 ∧ (Int.gcd a b).log2 < 9000 := by
  have p : Int.gcd a b ≤ b.natAbs := Nat.le_of_dvd (by omega) (by rw [Int.gcd]; exact Nat.gcd_dvd_right _ _)
  have q : Int.gcd a b ≠ 0 := by
    rw [Ne, Int.gcd_eq_zero_iff]; omega
  refine ⟨by omega, ?_⟩
  have := big_log (Nat.lt_of_le_of_lt p h)
  omega
theorem ratio_ok (a b : Int) (S : Sto) (h0 : b ≠ 0) (ha : Bg a) (h : Bg b) : f_ratio [.int a, .int b] S = .ok (dQ (lowest a b)) S := by
  obtain ⟨g0, g1⟩ := gcd_small (a := a) h0 h
  refine fn_rt (seq_nx (set_to (call_to (acons_to rfl (acons_to rfl rfl)) rfl (divisor_ok a b S ha h)) (by show 2 < 3; decide)) ?_)
  by_cases c : b < 0
  · refine seq_nx (ρ1 := [dI a, dI b, dI (-(Int.gcd a b : Int))]) (if_t (tb2_to rfl rfl (by show Res.ok (D.bl (decide (b < 0))) S = _; rw [decide_eq_true c])) rfl) (ret_to ?_)
    unfold lowest; rw [if_pos c]
    exact tup_to (acons_to (e2_to rfl rfl (fdiv_to (by omega) (by rw [Int.natAbs_neg]; exact g1))) (acons_to (e2_to rfl rfl (fdiv_to (by omega) (by rw [Int.natAbs_neg]; exact g1))) rfl)) (by show 2 ≤ PySem.sizeLine; decide)
  · refine seq_nx (ρ1 := [dI a, dI b, dI (Int.gcd a b : Int)]) (if_f (tb2_to rfl rfl (by show Res.ok (D.bl (decide (b < 0))) S = _; rw [decide_eq_false c])) rfl) (ret_to ?_)
    unfold lowest; rw [if_neg c]
    exact tup_to (acons_to (e2_to rfl rfl (fdiv_to g0 g1)) (acons_to (e2_to rfl rfl (fdiv_to g0 g1)) rfl)) (by show 2 ≤ PySem.sizeLine; decide)
/-! ### the law's own -/
abbrev ldivB : Sx := sSeq (sIf (tB2 eqD (eLook 1) (eC (.int 0))) (sRet (eVar 0)) sNil)
    (sPX2 0 1 (xV (eVar 1) (xV (e2 modD (eCall (g1 intD) (aCons (eLook 0) aNil)) (eLook 1)) xNil)))
theorem rng_step (k : Int) (n : Nat) : rngD k (n + 1) = .int k :: rngD (k + 1) n := by
  unfold rngD
  rw [List.range_succ_eq_map, List.map_cons, List.map_map]
  refine (congrArg (· :: _) (by simp)).trans (congrArg (_ :: ·) (List.map_congr_left fun i _ => ?_))
  show D.int (k + ((i + 1 : Nat) : Int)) = D.int (k + 1 + (i : Int))
  congr 1; omega
theorem ldiv_zero {k : Int} {n a : Nat} {o : Option Sl} {S : Sto} : forM (gNm 2) ldivB (rngD k (n + 1)) [dI a, dI ((0 : Nat) : Int), o] S = .ok (.rt (.int (Nat.gcd a 0))) S := by
  rw [rng_step, Nat.gcd_zero_right]
  exact for_ret (ρ1 := [dI a, dI 0, dI k]) rfl (seq_rt (if_t (tb2_to rfl rfl rfl) rfl))
theorem ldiv_one {k : Int} {n a b : Nat} {o : Option Sl} {S : Sto} {r : Res Fl} (ih : forM (gNm 2) ldivB (rngD (k + 1) n) [dI ((b + 1 : Nat) : Int), dI ((a % (b + 1) : Nat) : Int), dI k] S = r) :
    forM (gNm 2) ldivB (rngD k (n + 1)) [dI a, dI ((b + 1 : Nat) : Int), o] S = r := by
  rw [rng_step]
  rw [← modc] at ih
  have p : ((b + 1 : Nat) : Int) ≠ 0 := by omega
  refine for_cons (ρ1 := [dI a, dI ((b + 1 : Nat) : Int), dI k]) rfl (seq_nx (ρ1 := [dI a, dI ((b + 1 : Nat) : Int), dI k]) (if_f (tb2_to (y := .int 0) rfl rfl ?_) rfl) (bd_to (bd_to rfl (bd_to (bd_to (e2_to rfl rfl (mod_to p)) rfl) rfl)) rfl)) ih
  show blO (some (((b + 1 : Nat) : Int) == 0)) S = _
  rw [show (((b + 1 : Nat) : Int) == 0) = false from beq_false_of_ne p]; rfl
theorem ldiv_loop : ∀ (n : Nat) (k : Int) (a b : Nat) (o : Option Sl) (S : Sto), b ≤ a → a * b < 2 ^ n → forM (gNm 2) ldivB (rngD k (n + 1)) [dI a, dI b, o] S = .ok (.rt (.int (Nat.gcd a b))) S
  | n, k, a, 0, o, S, _, _ => ldiv_zero
  | 0, k, a, b + 1, o, S, h, l => by
    have : 1 ≤ a * (b + 1) := Nat.mul_pos (by omega) (Nat.succ_pos b)
    simp at l
    omega
  | n + 1, k, a, b + 1, o, S, h, l => by
    have ih := ldiv_loop n (k + 1) (b + 1) (a % (b + 1)) (dI k) S (Nat.le_of_lt (Nat.mod_lt a (Nat.succ_pos b))) (half h l)
    rw [gcd_step] at ih
    exact ldiv_one ih
theorem ldiv_any (n : Nat) (k : Int) (a b : Nat) (o : Option Sl) (S : Sto) (l : a * b < 2 ^ n) : forM (gNm 2) ldivB (rngD k (n + 2)) [dI a, dI b, o] S = .ok (.rt (.int (Nat.gcd a b))) S := by
  match b, l with
  | 0, _ => exact ldiv_zero
  | b + 1, l =>
    by_cases h : b + 1 ≤ a
    · refine ldiv_loop (n + 1) k a (b + 1) o S h (Nat.lt_of_lt_of_le l (Nat.pow_le_pow_right (by decide) (Nat.le_succ n)))
    · have e : a % (b + 1) = a := Nat.mod_eq_of_lt (by omega)
      have z := ldiv_loop n (k + 1) (b + 1) (a % (b + 1)) (dI k) S (by omega) (by rw [e, Nat.mul_comm]; exact l)
      rw [gcd_step] at z
      exact ldiv_one z
theorem ldivisor_ok (a b : Int) (S : Sto) (ha : Bg a) (h : Bg b) : f__law_divisor [.int a, .int b] S = .ok (.int (Int.gcd a b)) S := by
  have w := ldiv_any 1998 0 a.natAbs b.natAbs none S (Nat.lt_of_lt_of_le (big_mul ha h) (Nat.pow_le_pow_right (by decide) (by decide)))
  have ea : (if a < 0 then -a else a) = ((a.natAbs : Nat) : Int) := by split <;> omega
  have eb : (if b < 0 then -b else b) = ((b.natAbs : Nat) : Int) := by split <;> omega
  refine fn_rt (seq_nx (S1 := S) (ρ1 := [dI ((a.natAbs : Nat) : Int), dI ((b.natAbs : Nat) : Int), none]) ?_ (seq_rt (for_to (S1 := S) (ds := rngD 0 2000) ?_ w)))
  · rw [← ea, ← eb]; rfl
  · exact bd_to (S1 := S) (a := [.int 2000]) rfl rfl
theorem lratio_ok (a b : Int) (S : Sto) (h0 : b ≠ 0) (ha : Bg a) (h : Bg b) : f__law_ratio [.int a, .int b] S = .ok (dQ (lowest a b)) S := by
  obtain ⟨g0, g1⟩ := gcd_small (a := a) h0 h
  refine fn_rt (seq_nx (set_to (call_to (acons_to rfl (acons_to rfl rfl)) rfl (ldivisor_ok a b S ha h)) (by show 2 < 3; decide)) ?_)
  by_cases c : b < 0
  · have c2 : ¬ (0 < b) := by omega
    refine seq_nx (ρ1 := [dI a, dI b, dI (-(Int.gcd a b : Int))]) (set_to (eif_f (tb2_to rfl rfl (by show Res.ok (D.bl (decide (0 < b))) S = _; rw [decide_eq_false c2])) rfl) (by show 2 < 3; decide)) (ret_to ?_)
    unfold lowest; rw [if_pos c]
    exact tup_to (acons_to (e2_to rfl rfl (fdiv_to (by omega) (by rw [Int.natAbs_neg]; exact g1))) (acons_to (e2_to rfl rfl (fdiv_to (by omega) (by rw [Int.natAbs_neg]; exact g1))) rfl)) (by show 2 ≤ PySem.sizeLine; decide)
  · have c2 : 0 < b := by omega
    refine seq_nx (ρ1 := [dI a, dI b, dI (Int.gcd a b : Int)]) (set_to (eif_t (tb2_to rfl rfl (by show Res.ok (D.bl (decide (0 < b))) S = _; rw [decide_eq_true c2])) rfl) (by show 2 < 3; decide)) (ret_to ?_)
    unfold lowest; rw [if_neg c]
    exact tup_to (acons_to (e2_to rfl rfl (fdiv_to g0 g1)) (acons_to (e2_to rfl rfl (fdiv_to g0 g1)) rfl)) (by show 2 ≤ PySem.sizeLine; decide)
end LW

set_option Elab.async false
set_option linter.all false
set_option maxRecDepth 100000
namespace LW
open LS
/-! ### draws -/
/-- the spring at n, drawn from at most u times -/
def Spr (S : Sto) (n : Nat) (u : Int) : Prop := ∃ a m c : Int, S[n]? = some (.lst [.int a, .int m, .int c]) ∧ 0 ≤ a ∧ 0 ≤ m ∧ m < 2147483647 ∧ 0 ≤ c ∧ c ≤ u
/-- from S to S' nothing but the spring at n is changed -/
def Rest (S S' : Sto) (n : Nat) : Prop := S'.length = S.length ∧ ∀ i, i ≠ n → S'[i]? = S[i]?
theorem Rest.refl {S : Sto} {n : Nat} : Rest S S n := ⟨rfl, fun _ _ => rfl⟩
theorem Rest.trans {S S1 S2 : Sto} {n : Nat} (a : Rest S S1 n) (b : Rest S1 S2 n) : Rest S S2 n := ⟨b.1.trans a.1, fun i h => (b.2 i h).trans (a.2 i h)⟩
theorem rest_set {S : Sto} {n : Nat} {o : Ob} : Rest S (S.set n o) n := ⟨List.length_set .., fun i h => List.getElem?_set_ne (Ne.symm h)⟩
theorem get_set {S : Sto} {n : Nat} {o p : Ob} (h : S[n]? = some p) : (S.set n o)[n]? = some o := List.getElem?_set_self (List.getElem?_eq_some_iff.mp h).1
theorem ix_ref {S : Sto} {n : Nat} {ds : List D} {d : D} {z : Int} (h : S[n]? = some (.lst ds)) (k : L2.atI ds z = some d) : ixD (.ref n) (.int z) S = .ok d S := by
  simp [ixD, itemsO, h, k]
theorem item_ref {S : Sto} {n i : Nat} {ds : List D} {d : D} {z : Int} {j : Nat} {ρ : Rho} {fi : Ev} (hr : ρ[i]? = some (some (.val (.ref n)))) (hf : fi ρ S = .ok (.int z) S) (h : S[n]? = some (.lst ds)) (k : L2.ixN ds.length z = some j) : gItem i fi d ρ S = .ok ρ (S.set n (.lst (ds.set j d))) := by
  unfold gItem
  rw [hr]
  exact bd_to hf (by simp [h, k])
theorem mul_to {i j : Int} {S : Sto} (hi : i.natAbs < 2 ^ 64) (hj : j.natAbs < 2 ^ 64) : mulD (.int i) (.int j) S = .ok (.int (i * j)) S := by
  have l : ∀ k : Int, k.natAbs < 2 ^ 64 → k.natAbs.log2 < 65 := fun k h => by
    by_cases z : k.natAbs = 0
    · rw [z]; decide
    · exact Nat.lt_succ_of_lt ((Nat.log2_lt z).mpr h)
  have := l i hi
  have := l j hj
  exact two_to (decide_eq_true (by omega))
theorem mulB {i j : Int} {S : Sto} (hi : Bg i) (hj : Bg j) : mulD (.int i) (.int j) S = .ok (.int (i * j)) S := by
  have := big_log hi
  have := big_log hj
  exact two_to (decide_eq_true (by omega))
theorem draw_ok {S : Sto} {n : Nat} {u z : Int} (h : Spr S n u) (hu : u < 2 ^ 60) (z0 : 0 < z) (z1 : z < 1073741824) :
    ∃ v S', f__law_draw [.ref n, .int z] S = .ok (.int v) S' ∧ 0 ≤ v ∧ v < z ∧ Spr S' n (u + 1) ∧ Rest S S' n := by
  obtain ⟨a, m, c, hs, a0, m0, m1, c0, c1⟩ := h
  have h1 := get_set (o := .lst [.int a, .int m, .int (c + 1)]) hs
  let m' : Int := (m * 69621 + 40503 * (c + 1) + 1).fmod 2147483647
  have em : m' = (m * 69621 + 40503 * (c + 1) + 1) % 2147483647 := Int.fmod_eq_emod_of_nonneg _ (by decide)
  have b1 : 0 ≤ m' ∧ m' < 2147483647 := by rw [em]; omega
  have h2 := get_set (o := .lst [.int a, .int m', .int (c + 1)]) h1
  have r2 : Rest S (((S.set n (.lst [.int a, .int m, .int (c + 1)])).set n (.lst [.int a, .int m', .int (c + 1)]))) n := rest_set.trans rest_set
  have s1 : sAsg (e2 addD (e2 ixD (eLook 0) (eC (.int 2))) (eC (.int 1))) (gItem 0 (eC (.int 2))) (rho0 5 [.ref n, .int z]) S = .ok (.nx (rho0 5 [.ref n, .int z])) (S.set n (.lst [.int a, .int m, .int (c + 1)])) :=
    asg_to (e2_to (e2_to rfl rfl (ix_ref hs rfl)) rfl rfl) (item_ref (j := 2) rfl rfl hs rfl)
  have s2 : sAsg (e2 modD (eCall (g1 intD) (aCons (e2 addD (e2 addD (e2 mulD (e2 ixD (eLook 0) (eC (.int 1))) (eC (.int 69621))) (e2 mulD (eC (.int 40503)) (e2 ixD (eLook 0) (eC (.int 2))))) (eC (.int 1))) aNil)) (eC (.int 2147483647))) (gItem 0 (eC (.int 1))) (rho0 5 [.ref n, .int z]) (S.set n (.lst [.int a, .int m, .int (c + 1)])) =
      .ok (.nx (rho0 5 [.ref n, .int z])) ((S.set n (.lst [.int a, .int m, .int (c + 1)])).set n (.lst [.int a, .int m', .int (c + 1)])) :=
    asg_to (e2_to (bd_to (acons_to (e2_to (e2_to (e2_to (e2_to rfl rfl (ix_ref h1 rfl)) rfl (mul_to (by omega) (by decide))) (e2_to rfl (e2_to rfl rfl (ix_ref h1 rfl)) (mul_to (by decide) (by omega))) rfl) rfl rfl) rfl) rfl) rfl (mod_to (by decide))) (item_ref (j := 1) rfl rfl h1 rfl)
  generalize hS2 : (S.set n (.lst [.int a, .int m, .int (c + 1)])).set n (.lst [.int a, .int m', .int (c + 1)]) = S2 at *
  by_cases p : 0 < a
  · have h3 := get_set (o := .lst [.int (a / z), .int m', .int (c + 1)]) h2
    refine ⟨a % z, S2.set n (.lst [.int (a / z), .int m', .int (c + 1)]), fn_rt (seq_nx s1 (seq_nx s2 (seq_rt (if_t (tb2_to (e2_to rfl rfl (ix_ref h2 rfl)) rfl ?_) (seq_nx (ρ1 := [some (.val (.ref n)), dI z, dI (a % z), none, none]) (asg_to (S1 := S2) (d := .tup [.int (a / z), .int (a % z)]) (bd_to (acons_to (e2_to rfl rfl (ix_ref h2 rfl)) (acons_to rfl rfl)) ?_) ?_) (ret_to rfl)))))), Int.emod_nonneg _ (by omega), Int.emod_lt_of_pos _ z0, ⟨_, _, _, h3, Int.ediv_nonneg a0 (by omega), b1.1, b1.2, by omega, by omega⟩, r2.trans rest_set⟩
    · show Res.ok (D.bl (decide (0 < a))) S2 = _
      rw [decide_eq_true p]
    · exact two_to (decide_eq_true ⟨z0, z1⟩)
    · show gTp 2 (gMore (gItem 0 (eC (.int 0))) (gMore (gNm 2) gNone)) _ _ _ = _
      exact bd_to (item_ref (j := 0) rfl rfl h2 rfl) (bd_to rfl rfl)
  · let f : Int := m' + 12345
    let y : Int := (f * m' + (c + 1)).fmod 2147483629
    have ey : y = (f * m' + (c + 1)) % 2147483629 := Int.fmod_eq_emod_of_nonneg _ (by decide)
    let v : Int := (y.fdiv 256).fmod z
    have ev : v = (y.fdiv 256) % z := Int.fmod_eq_emod_of_nonneg _ (by omega)
    refine ⟨v, S2, fn_rt (seq_nx s1 (seq_nx s2 (seq_nx (ρ1 := rho0 5 [.ref n, .int z]) (if_f (tb2_to (e2_to rfl rfl (ix_ref h2 rfl)) rfl ?_) rfl) (seq_nx (ρ1 := [some (.val (.ref n)), dI z, none, dI f, none]) (set_to (e2_to (e2_to rfl rfl (ix_ref h2 rfl)) rfl rfl) (by show 3 < 5; decide))
      (seq_nx (ρ1 := [some (.val (.ref n)), dI z, none, dI f, dI y]) (set_to (e2_to (bd_to (acons_to (e2_to (e2_to rfl (e2_to rfl rfl (ix_ref h2 rfl)) (mul_to (by omega) (by omega))) (e2_to rfl rfl (ix_ref h2 rfl)) rfl) rfl) rfl) rfl (mod_to (by decide))) (by show 4 < 5; decide))
      (ret_to (e2_to (bd_to (acons_to (e2_to rfl rfl (fdiv_to (by decide) (by decide))) rfl) rfl) rfl (mod_to (by omega))))))))), by rw [ev]; exact Int.emod_nonneg _ (by omega), by rw [ev]; exact Int.emod_lt_of_pos _ z0, ⟨_, _, _, h2, a0, b1.1, b1.2, by omega, by omega⟩, r2⟩
    show Res.ok (D.bl (decide (0 < a))) S2 = _
    rw [decide_eq_false p]
end LW

set_option Elab.async false
set_option linter.all false
set_option maxRecDepth 100000
namespace LW
open LS
/-! ### menus -/
theorem atI_nat {ds : List D} {v : Int} (h0 : 0 ≤ v) (h1 : v < ds.length) : ∃ d, L2.atI ds v = some d ∧ d ∈ ds := by
  have l : v.toNat < ds.length := by omega
  refine ⟨ds[v.toNat], ?_, List.getElem_mem l⟩
  unfold L2.atI L2.ixN
  simp [h0, h1, l]
theorem of_ok {S : Sto} {n : Nat} {u : Int} {ds : List D} (h : Spr S n u) (hu : u < 2 ^ 60) (z0 : 0 < ds.length) (z1 : ds.length < 1073741824) :
    ∃ d S', f__law_of [.ref n, .lst ds] S = .ok d S' ∧ d ∈ ds ∧ Spr S' n (u + 1) ∧ Rest S S' n := by
  obtain ⟨v, S', e, v0, v1, sp, r⟩ := draw_ok (z := ds.length) h hu (by omega) (by omega)
  obtain ⟨d, e2, m⟩ := atI_nat v0 v1
  refine ⟨d, S', fn_rt (ret_to (e2_to rfl (call_to (acons_to rfl (acons_to (bd_to (acons_to rfl rfl) rfl) rfl)) rfl e) ?_)), m, sp, r⟩
  simp [ixD, itemsO, e2]
end LW

set_option Elab.async false
set_option linter.all false
set_option maxRecDepth 100000
set_option maxHeartbeats 4000000
namespace LW
open LS
/-! ### numbers as texts -/
def cT (c : Int) : PySem.Str := PySem.Str.ofString (toString c)
theorem tl_nat (n : Nat) : TL.tl (cT (n : Int)) = TL.numL n := TL.tl_num n
theorem cT_neg {n : Nat} (h : 0 < n) : cT (-(n : Int)) = ("-" : PySem.Str) ++ cT (n : Int) := by
  cases n with
  | zero => cases h
  | succ k =>
    apply TL.ext_tl
    rw [TL.tl_append]
    show TL.tl (PySem.Str.ofString (toString (Int.negSucc k))) = _ ++ TL.tl (PySem.Str.ofString (toString (Int.ofNat (k + 1))))
    have e : toString (Int.negSucc k) = "-" ++ toString (Int.ofNat (k + 1)) := rfl
    rw [e]
    have : ∀ s t : String, TL.tl (PySem.Str.ofString (s ++ t)) = TL.tl (PySem.Str.ofString s) ++ TL.tl (PySem.Str.ofString t) := fun s t => by
      simp [TL.tl, PySem.Str.ofString_eq_toList, String.toList_append]
    rw [this]
theorem tl_neg {n : Nat} (h : 0 < n) : TL.tl (cT (-(n : Int))) = 45 :: TL.numL n := by
  rw [cT_neg h, TL.tl_append, tl_nat]; rfl
theorem numL_head : ∀ n : Nat, ∃ c r, TL.numL n = c :: r ∧ 48 ≤ c ∧ c ≤ 57 ∧ (0 < n → 49 ≤ c) := fun n => by
  induction n using Nat.strongRecOn with
  | _ n ih =>
    by_cases h : n < 10
    · exact ⟨48 + n, [], TL.numL_lt h, by omega, by omega, by omega⟩
    · obtain ⟨c, r, e, h1, h2, h3⟩ := ih (n / 10) (by omega)
      exact ⟨c, r ++ [48 + n % 10], by rw [TL.numL_step (by omega), e]; rfl, h1, h2, fun _ => h3 (by omega)⟩
theorem nat_len {n : Nat} (h : n < 10 ^ 100) : (TL.numL n).length ≤ 100 := TL.numL_len (by decide) h
theorem len_nat {n : Nat} (h : n < 10 ^ 100) : (cT (n : Int)).length ≤ 100 := by rw [TL.len_tl, tl_nat]; exact nat_len h
theorem dig_in : ∀ d : Fin 10, inT ⟨#[48 + d.val]⟩ ("0123456789" : PySem.Str) = true := by decide +kernel
theorem digs_lc {a b : Option Sl} {S : Sto} : ∀ l : List Nat, (∀ c ∈ l, 48 ≤ c ∧ c ≤ 57) → lcM (gNm 1) yes (e2 inD (eLook 1) (eC (.str "0123456789"))) [a, b] (l.map chr) S = .ok (l.map fun _ => .bl true) S
  | [], _ => rfl
  | c :: l, h => by
    have hc := h c (List.mem_cons_self ..)
    refine lc_yes (ρ1 := [a, some (.val (chr c))]) (S1 := S) (S2 := S) (S3 := S) rfl rfl (e2_to (x := chr c) (S1 := S) (S2 := S) rfl rfl ?_) (digs_lc l fun x hx => h x (List.mem_cons_of_mem _ hx))
    show Res.ok (D.bl (inT ⟨#[c]⟩ ("0123456789" : PySem.Str))) S = _
    have := dig_in ⟨c - 48, by omega⟩
    rw [show 48 + (c - 48) = c by omega] at this
    rw [this]
theorem all_yesL {α : Type} : ∀ l : List α, allL (l.map fun _ => .bl true) = some (.bl true)
  | [] => rfl
  | _ :: l => by
    have ih := all_yesL l
    unfold allL at ih ⊢
    obtain ⟨bs, e, k⟩ := Option.map_eq_some_iff.mp ih
    have k2 : bs.all id = true := by injection k
    show Option.map _ (Option.map (true :: ·) (blsO (l.map fun _ => D.bl true))) = _
    rw [e]
    show some (D.bl (true && bs.all id)) = _
    rw [k2]; rfl
theorem str_ne {x y : PySem.Str} (h : TL.tl x ≠ TL.tl y) : (x == y) = false := by
  cases e : x == y with
  | false => rfl
  | true => exact absurd (congrArg TL.tl (eq_of_beq e)) h
theorem int_of {t : PySem.Str} {c : Int} {S : Sto} (h : t.length ≤ 640) (e : PySem.intText? t = some c) : intD (.str t) S = .ok (.int c) S := by
  show (if t.length ≤ 640 then optM ((PySem.intText? t).map D.int) else dv) S = _
  rw [if_pos h, e]; rfl
theorem int_nat {n : Nat} (h : n < 10 ^ 100) : PySem.intText? (cT (n : Int)) = some (n : Int) := TL.int_num (Nat.le_trans (nat_len h) (by decide))
theorem sl4300 : (4300 : Nat) ≤ PySem.sizeLine := by decide
theorem eq_str {x y : PySem.Str} {S : Sto} {b : Bool} (h : (x == y) = b) : eqD (.str x) (.str y) S = .ok (.bl b) S := by
  show blO (some (x == y)) S = _
  rw [h]; rfl
theorem ne_str {x y : PySem.Str} {S : Sto} {b : Bool} (h : (x == y) = !b) : neD (.str x) (.str y) S = .ok (.bl b) S := by
  show blO (some (!(x == y))) S = _
  rw [h]; cases b <;> rfl
theorem ix_head {x : PySem.Str} {c : Nat} {r : List Nat} {S : Sto} (h : TL.tl x = c :: r) (l : x.length ≤ PySem.sizeLine) : ixD (.str x) (.int 0) S = .ok (chr c) S := by
  show (if x.length ≤ PySem.sizeLine then (match L2.atI x.cps.toList 0 with | some c => Res.ok (D.str ⟨#[c]⟩) S | none => Res.div) else Res.div) = _
  rw [if_pos l, show x.cps.toList = c :: r from h]
  have : L2.atI (c :: r) 0 = some c := by
    unfold L2.atI L2.ixN
    simp
  rw [this]; rfl
theorem number_ok {n : Nat} (h : n < 10 ^ 100) (S : Sto) : f_number_in [.str (cT (n : Int))] S = .ok (.int n) S := by
  obtain ⟨c, r, e, h1, h2, h3⟩ := numL_head n
  have et : TL.tl (cT (n : Int)) = c :: r := (tl_nat n).trans e
  have ln : (cT (n : Int)).length ≤ 100 := len_nat h
  have ls : (cT (n : Int)).length ≤ PySem.sizeLine := Nat.le_trans ln (Nat.le_trans (by decide) sl4300)
  have i1 : intD (.str (cT (n : Int))) S = .ok (.int n) S := int_of (Nat.le_trans ln (by decide)) (int_nat h)
  refine fn_rt (seq_nx (ρ1 := [some (.val (.str (cT (n : Int)))), none]) (S1 := S) (if_f (S1 := S) (or_f (S1 := S) (tb2_to (x := .str (cT (n : Int))) (y := .str "") (S1 := S) (S2 := S) rfl rfl (eq_str (str_ne ?_))) (not_to (k := true) ?_)) rfl) (ret_to (eif_t (S1 := S) ?_ (bd_to (acons_to (d := .str (cT (n : Int))) (S1 := S) rfl rfl) i1))))
  · rw [et]; exact nofun
  · refine bd_to (a := .bl true) (S1 := S) (bd_to (a := [.lst ((TL.tl (cT (n : Int))).map fun _ => .bl true)]) (S1 := S) (acons_to (bd_to (lcn_to (ds := (TL.tl (cT (n : Int))).map chr) (S1 := S) rfl ?_ (digs_lc _ ?_)) rfl) rfl) ?_) rfl
    · rw [List.length_map, ← TL.len_tl]; exact ls
    · intro x hx; rw [tl_nat] at hx; exact TL.numL_digits n x hx
    · show optM (allL ((TL.tl (cT (n : Int))).map fun _ => .bl true)) S = _
      rw [all_yesL]; rfl
  · by_cases z : n = 0
    · subst z
      refine (or_f (S1 := S) ?_ ?_)
      · exact tb2_to (x := chr 48) (y := .str "0") (S1 := S) (S2 := S) (e2_to (x := .str (cT ((0 : Nat) : Int))) (y := .int 0) (S1 := S) (S2 := S) rfl rfl (ix_head (x := cT ((0 : Nat) : Int)) (c := 48) (r := []) (by decide +kernel) ls)) rfl (ne_str (b := false) (by decide +kernel))
      · exact tb2_to (x := .str (cT ((0 : Nat) : Int))) (y := .str "0") (S1 := S) (S2 := S) rfl rfl (eq_str (b := true) (by decide +kernel))
    · refine or_t (tb2_to (x := chr c) (y := .str "0") (S1 := S) (S2 := S) (e2_to (x := .str (cT (n : Int))) (y := .int 0) (S1 := S) (S2 := S) rfl rfl (ix_head et ls)) rfl (ne_str (b := true) (str_ne ?_)))
      show [c] ≠ [48]
      intro q
      injection q with q
      have := h3 (by omega)
      omega
theorem cut_one {x : PySem.Str} {c : Nat} {r : List Nat} (h : TL.tl x = c :: r) : TL.tl (L2.cutS x none (some 1)) = [c] := by
  have l : x.length = r.length + 1 := by rw [TL.len_tl, h]; rfl
  show List.take _ (List.drop _ x.cps.toList) = _
  rw [show x.cps.toList = c :: r from h, l]
  have e1 : HT.sIx (r.length + 1) 0 none = 0 := rfl
  have e2 : HT.sIx (r.length + 1) (r.length + 1) (some 1) = 1 := by
    unfold HT.sIx; simp
  rw [e1, e2]; rfl
theorem cut_rest {x : PySem.Str} {c : Nat} {r : List Nat} (h : TL.tl x = c :: r) : TL.tl (L2.cutS x (some 1) none) = r := by
  have l : x.length = r.length + 1 := by rw [TL.len_tl, h]; rfl
  show List.take _ (List.drop _ x.cps.toList) = _
  rw [show x.cps.toList = c :: r from h, l]
  have e1 : HT.sIx (r.length + 1) 0 (some 1) = 1 := by
    unfold HT.sIx; simp
  have e2 : HT.sIx (r.length + 1) (r.length + 1) none = r.length + 1 := rfl
  rw [e1, e2]
  show List.take (r.length + 1 - 1) r = r
  exact List.take_of_length_le (by omega)
theorem sl_str {x : PySem.Str} {lo hi : Option Int} {S : Sto} (h : x.length ≤ PySem.sizeLine) : slD (.str x) lo hi S = .ok (.str (L2.cutS x lo hi)) S := by
  show (if x.length ≤ PySem.sizeLine then _ else _) = _
  rw [if_pos h]
theorem esl_to {f : Ev} {l u : Rho → M (Option Int)} {x : D} {lo hi : Option Int} {ρ : Rho} {S : Sto} {r : Res D} (h : f ρ S = .ok x S) (h1 : l ρ S = .ok lo S) (h2 : u ρ S = .ok hi S) (q : slD x lo hi S = r) : eSl f l u ρ S = r :=
  bd_to h (bd_to h1 (bd_to h2 q))
theorem bg_neg {n : Nat} (h : Bg (-(n : Int))) : n < 10 ^ 100 := by
  have e : (-(n : Int)).natAbs = n := by omega
  unfold Bg at h
  rw [e] at h; exact h
theorem bg_nat {n : Nat} (h : Bg (n : Int)) : n < 10 ^ 100 := by
  have e : ((n : Int)).natAbs = n := by omega
  unfold Bg at h
  rw [e] at h; exact h
theorem cT_len {c : Int} (h : Bg c) : (cT c).length ≤ 101 := by
  rcases Int.lt_or_le c 0 with l | l
  · obtain ⟨n, rfl⟩ : ∃ n : Nat, c = -(n : Int) := ⟨c.natAbs, by omega⟩
    rw [TL.len_tl, tl_neg (by omega), List.length_cons]
    have := nat_len (n := n) (bg_neg h)
    omega
  · obtain ⟨n, rfl⟩ : ∃ n : Nat, c = (n : Int) := ⟨c.natAbs, by omega⟩
    have := len_nat (n := n) (bg_nat h)
    omega
theorem signed_ok {c : Int} (h : Bg c) (S : Sto) : f_signed_in [.str (cT c)] S = .ok (.int c) S := by
  have ls : (cT c).length ≤ PySem.sizeLine := Nat.le_trans (cT_len h) (Nat.le_trans (by decide) sl4300)
  rcases Int.lt_or_le c 0 with l | l
  · obtain ⟨n, rfl⟩ : ∃ n : Nat, c = -(n : Int) := ⟨c.natAbs, by omega⟩
    have n0 : 0 < n := by omega
    have hn : n < 10 ^ 100 := bg_neg h
    have et := tl_neg n0
    have er : L2.cutS (cT (-(n : Int))) (some 1) none = cT (n : Int) := TL.ext_tl ((cut_rest et).trans (tl_nat n).symm)
    refine fn_rt (seq_nx (ρ1 := [some (.val (.str (cT (-(n : Int))))), none]) (S1 := S) (if_f (S1 := S) (tb2_to (S1 := S) (S2 := S) (esl_to (x := .str (cT (-(n : Int)))) (lo := none) (hi := some 1) rfl rfl rfl (sl_str ls)) rfl (ne_str (y := "-") (b := false) ?_)) rfl) (seq_nx (ρ1 := [some (.val (.str (cT (-(n : Int))))), dI n]) (S1 := S) (set_to (call_to (acons_to (esl_to (x := .str (cT (-(n : Int)))) (lo := some 1) (hi := none) rfl rfl rfl (sl_str ls)) rfl) rfl ?_) (by show 1 < 2; decide)) (ret_to (eif_f (S1 := S) (or_f (S1 := S) rfl (tb2_to (x := .int n) (y := .int 0) (S1 := S) (S2 := S) rfl rfl ?_)) ?_))))
    · rw [show L2.cutS (cT (-(n : Int))) none (some 1) = ("-" : PySem.Str) from TL.ext_tl (cut_one et)]; rfl
    · rw [er]; exact number_ok hn S
    · show blO (some (((n : Nat) : Int) == 0)) S = _
      rw [show (((n : Nat) : Int) == 0) = false from beq_false_of_ne (by omega)]; rfl
    · rfl
  · obtain ⟨n, rfl⟩ : ∃ n : Nat, c = (n : Int) := ⟨c.natAbs, by omega⟩
    have hn : n < 10 ^ 100 := bg_nat h
    obtain ⟨k, r, e, h1, h2, h3⟩ := numL_head n
    have et : TL.tl (cT (n : Int)) = k :: r := (tl_nat n).trans e
    refine fn_rt (seq_rt (if_t (S1 := S) (tb2_to (S1 := S) (S2 := S) (esl_to (x := .str (cT (n : Int))) (lo := none) (hi := some 1) rfl rfl rfl (sl_str ls)) rfl (ne_str (y := "-") (b := true) (str_ne ?_))) (ret_to (call_to (acons_to rfl rfl) rfl (number_ok hn S)))))
    rw [cut_one et]
    intro q
    have q2 : k = 45 := by injection q
    omega
theorem int_cT {c : Int} (h : Bg c) : PySem.intText? (cT c) = some c := by
  rcases Int.lt_or_le c 0 with l | l
  · obtain ⟨n, rfl⟩ : ∃ n : Nat, c = -(n : Int) := ⟨c.natAbs, by omega⟩
    have n0 : 0 < n := by omega
    have ln := cT_len h
    have z := PySem.intText_neg (x := cT (-(n : Int))) (cs := TL.numL n) (tl_neg n0) (TL.numL_digits n) (TL.numL_ne n) (Nat.le_trans ln (by decide))
    rw [TL.numL_val] at z
    exact z
  · obtain ⟨n, rfl⟩ : ∃ n : Nat, c = (n : Int) := ⟨c.natAbs, by omega⟩
    exact int_nat (bg_nat h)
/-- no space, no newline, no star -/
theorem cT_free {c : Int} {s : Nat} (h : s < 45 ∨ 57 < s) : s ∉ TL.tl (cT c) := by
  rcases Int.lt_or_le c 0 with l | l
  · obtain ⟨n, rfl⟩ : ∃ n : Nat, c = -(n : Int) := ⟨c.natAbs, by omega⟩
    rw [tl_neg (by omega)]
    intro m
    rcases List.mem_cons.mp m with m | m
    · omega
    · exact TL.numL_free (by omega) m
  · obtain ⟨n, rfl⟩ : ∃ n : Nat, c = (n : Int) := ⟨c.natAbs, by omega⟩
    rw [tl_nat]
    exact TL.numL_free (by omega)
theorem str_cT {c : Int} (h : Bg c) (S : Sto) : strD (.int c) S = .ok (.str (cT c)) S := two_to (decide_eq_true (by have := big_log h; omega))
end LW

set_option Elab.async false
set_option linter.all false
set_option maxRecDepth 100000
set_option maxHeartbeats 4000000
namespace LW
open LS
/-! ### fractions in lowest terms -/
theorem low_spec (a b : Int) (h : 0 < b) : ∃ g : Int, 0 < g ∧ a = g * (lowest a b).1 ∧ b = g * (lowest a b).2 ∧ 0 < (lowest a b).2 ∧ Int.gcd (lowest a b).1 (lowest a b).2 = 1 := by
  have n : ¬ b < 0 := by omega
  have g0 : 0 < Int.gcd a b := Int.gcd_pos_of_ne_zero_right _ (by omega)
  have e : lowest a b = (a / (Int.gcd a b : Int), b / (Int.gcd a b : Int)) := by
    unfold lowest
    simp only [if_neg n]
    rw [Int.fdiv_eq_ediv_of_nonneg _ (by omega), Int.fdiv_eq_ediv_of_nonneg _ (by omega)]
  have d1 : ((Int.gcd a b : Nat) : Int) ∣ a := Int.gcd_dvd_left ..
  have d2 : ((Int.gcd a b : Nat) : Int) ∣ b := Int.gcd_dvd_right ..
  have e2 := Int.mul_ediv_cancel' d2
  rw [e]
  refine ⟨Int.gcd a b, by omega, (Int.mul_ediv_cancel' d1).symm, e2.symm, Int.ediv_pos_of_pos_of_dvd h (by omega) d2, Int.gcd_ediv_gcd_ediv_gcd (by omega)⟩
theorem dvd_co {q p s : Int} (g : Int.gcd p q = 1) (h : q ∣ p * s) : q ∣ s := by
  have k : q.natAbs ∣ p.natAbs * s.natAbs := by rw [← Int.natAbs_mul]; exact Int.natAbs_dvd_natAbs.mpr h
  have c : Nat.Coprime q.natAbs p.natAbs := by rw [Int.gcd_eq_natAbs_gcd_natAbs] at g; rw [Nat.Coprime, Nat.gcd_comm]; exact g
  exact Int.natAbs_dvd_natAbs.mp (c.dvd_of_dvd_mul_left k)
theorem low_uniq {p q r s : Int} (hq : 0 < q) (hs : 0 < s) (g1 : Int.gcd p q = 1) (g2 : Int.gcd r s = 1) (e : p * s = r * q) : p = r ∧ q = s := by
  have d1 : q ∣ s := by
    have : q ∣ p * s := ⟨r, by rw [e, Int.mul_comm]⟩
    exact dvd_co g1 this
  have d2 : s ∣ q := by
    have : s ∣ r * q := ⟨p, by rw [← e, Int.mul_comm]⟩
    exact dvd_co g2 this
  have eq : q = s := Int.dvd_antisymm (by omega) (by omega) d1 d2
  subst eq
  exact ⟨Int.eq_of_mul_eq_mul_right (by omega) e, rfl⟩
theorem low_eq {a b c d : Int} (hb : 0 < b) (hd : 0 < d) (e : a * d = c * b) : lowest a b = lowest c d := by
  obtain ⟨g, g0, ea, eb, q0, c1⟩ := low_spec a b hb
  obtain ⟨k, k0, ec, ed, s0, c2⟩ := low_spec c d hd
  have h : (lowest a b).1 * (lowest c d).2 = (lowest c d).1 * (lowest a b).2 := by
    have : g * k ≠ 0 := Int.mul_ne_zero (by omega) (by omega)
    apply Int.eq_of_mul_eq_mul_left this
    have e2 : (g * (lowest a b).1) * (k * (lowest c d).2) = (k * (lowest c d).1) * (g * (lowest a b).2) := by rw [← ea, ← ed, ← ec, ← eb]; exact e
    calc g * k * ((lowest a b).1 * (lowest c d).2) = (g * (lowest a b).1) * (k * (lowest c d).2) := by ac_rfl
      _ = _ := e2
      _ = _ := by ac_rfl
  obtain ⟨e1, e2⟩ := low_uniq q0 s0 c1 c2 h
  exact Prod.ext e1 e2
theorem low_self {a b : Int} (hb : 0 < b) (g : Int.gcd a b = 1) : lowest a b = (a, b) := by
  obtain ⟨k, g0, ea, eb, q0, c1⟩ := low_spec a b hb
  have : (lowest a b).1 * b = a * (lowest a b).2 := by
    calc (lowest a b).1 * b = (lowest a b).1 * (k * (lowest a b).2) := by rw [← eb]
      _ = (k * (lowest a b).1) * (lowest a b).2 := by ac_rfl
      _ = _ := by rw [← ea]
  obtain ⟨e1, e2⟩ := low_uniq q0 hb c1 g this
  exact Prod.ext e1 e2
/-- what is above and below a fraction in lowest terms is no greater -/
theorem low_le (a b : Int) (h : 0 < b) : (lowest a b).1.natAbs ≤ a.natAbs ∧ 0 < (lowest a b).2 ∧ (lowest a b).2 ≤ b ∧ (lowest a b).1 * b = a * (lowest a b).2 := by
  obtain ⟨k, g0, ea, eb, q0, c1⟩ := low_spec a b h
  refine ⟨?_, q0, ?_, ?_⟩
  · have : a.natAbs = k.natAbs * (lowest a b).1.natAbs := by rw [← Int.natAbs_mul, ← ea]
    rw [this]
    exact Nat.le_mul_of_pos_left _ (by omega)
  · have : (lowest a b).2 * 1 ≤ (lowest a b).2 * k := Int.mul_le_mul_of_nonneg_left (by omega) (by omega)
    rw [Int.mul_one, Int.mul_comm] at this
    rw [← eb] at this
    exact this
  · calc (lowest a b).1 * b = (lowest a b).1 * (k * (lowest a b).2) := by rw [← eb]
      _ = (k * (lowest a b).1) * (lowest a b).2 := by ac_rfl
      _ = _ := by rw [← ea]
theorem nab_mul {x y : Int} {A B : Nat} (hx : x.natAbs ≤ A) (hy : y.natAbs ≤ B) : (x * y).natAbs ≤ A * B := by rw [Int.natAbs_mul]; exact Nat.mul_le_mul hx hy
theorem low_zero : lowest 0 1 = (0, 1) := by decide
theorem low_plus {T B x a b : Int} (hB : 0 < B) (hb : 0 < b) : lowest ((lowest T B).1 * (lowest (a * x) b).2 + (lowest (a * x) b).1 * (lowest T B).2) ((lowest T B).2 * (lowest (a * x) b).2) = lowest (T * b + x * a * B) (B * b) := by
  obtain ⟨-, p1, -, e1⟩ := low_le T B hB
  obtain ⟨-, p2, -, e2⟩ := low_le (a * x) b hb
  generalize (lowest T B).1 = t at *
  generalize (lowest T B).2 = e at *
  generalize (lowest (a * x) b).1 = s at *
  generalize (lowest (a * x) b).2 = f at *
  refine low_eq (Int.mul_pos p1 p2) (Int.mul_pos hB hb) ?_
  rw [Int.add_mul, Int.add_mul]
  have h1 : t * f * (B * b) = T * b * (e * f) := by
    calc t * f * (B * b) = (t * B) * (f * b) := by ac_rfl
      _ = (T * e) * (f * b) := by rw [e1]
      _ = _ := by ac_rfl
  have h2 : s * e * (B * b) = x * a * B * (e * f) := by
    calc s * e * (B * b) = (s * b) * (e * B) := by ac_rfl
      _ = (a * x * f) * (e * B) := by rw [e2]
      _ = _ := by ac_rfl
  rw [h1, h2]
theorem low_gap {s e c : Int} (he : 0 < e) : lowest (c * (lowest (s * -1) e).2 + (lowest (s * -1) e).1 * 1) (1 * (lowest (s * -1) e).2) = lowest (c * e - s) e := by
  obtain ⟨-, p1, -, e1⟩ := low_le (s * -1) e he
  generalize (lowest (s * -1) e).1 = t at *
  generalize (lowest (s * -1) e).2 = f at *
  refine low_eq (by omega) he ?_
  rw [Int.mul_one, Int.one_mul, Int.add_mul, e1, Int.sub_mul]
  have h1 : c * f * e = c * e * f := by ac_rfl
  have h2 : s * -1 * f = -(s * f) := by rw [Int.mul_neg, Int.mul_one, Int.neg_mul]
  rw [h1, h2]; omega
theorem low_neg {a b : Int} (hb : 0 < b) : (lowest a b).1 < 0 ↔ a < 0 := by
  obtain ⟨k, k0, ea, eb, q0, -⟩ := low_spec a b hb
  constructor
  · intro h
    rw [ea]
    exact Int.mul_neg_of_pos_of_neg k0 h
  · intro h
    by_cases c : (lowest a b).1 < 0
    · exact c
    · have : 0 ≤ k * (lowest a b).1 := Int.mul_nonneg (by omega) (by omega)
      rw [← ea] at this
      omega
end LW

set_option Elab.async false
set_option linter.all false
set_option maxRecDepth 100000
namespace LS
/-! ## R2. more of how denotations run -/
variable {S S1 S2 : Sto} {ρ ρ1 : Rho} {fa fb fc : Ev} {d : D} {ds : List D}
theorem split_to {a b : PySem.Str} (h : fa ρ S = .ok (.str a) S1) (hb : (b.length == 0) = false) (l : a.length + 2 ≤ PySem.sizeLine) : eN (splitN fa (eC (.str b))) ρ S = .ok (.lst ((PySem.Txt.split a b).map .str)) S1 :=
  bd_to (a := (PySem.Txt.split a b).map D.str) (S1 := S1) (bd_to h (bd_to rfl (by show (if (b.length == 0) = false ∧ a.length + 2 ≤ PySem.sizeLine then ret ((PySem.Txt.split a b).map D.str) else dv) S1 = _; rw [if_pos ⟨hb, l⟩]; rfl))) rfl
theorem tch_to {a b c : Int} (h1 : fa ρ S = .ok (.int a) S) (h2 : fb ρ S = .ok (.int b) S) (h3 : fc ρ S = .ok (.int c) S) (p : a ≤ b) (q : b ≤ c) : tCh leD leD fa fb fc ρ S = .ok true S := by
  refine bd_to (a := .bl true) (S1 := S) (bd_to h1 (bd_to h2 (bd_to (a := true) (S1 := S) (bd_to (a := .bl true) (S1 := S) ?_ rfl) ?_))) rfl
  · show Res.ok (D.bl (decide (a ≤ b))) S = _; rw [decide_eq_true p]
  · show bd (fc ρ) _ S = _
    refine bd_to h3 ?_
    show Res.ok (D.bl (decide (b ≤ c))) S = _; rw [decide_eq_true q]
theorem ix0 : ixD (.lst (d :: ds)) (.int 0) S = .ok d S := by
  simp [ixD, itemsO, L2.atI, L2.ixN, (by omega : (0 : Int) < (ds.length : Int) + 1)]
theorem ix0t : ixD (.tup (d :: ds)) (.int 0) S = .ok d S := by
  simp [ixD, itemsO, L2.atI, L2.ixN, (by omega : (0 : Int) < (ds.length : Int) + 1)]
theorem ixN_to {i : Nat} (h : ds[i]? = some d) : ixD (.lst ds) (.int i) S = .ok d S := by
  have l := (List.getElem?_eq_some_iff.mp h).1
  simp [ixD, itemsO, L2.atI, L2.ixN, (by omega : (0 : Int) ≤ (i : Int)), (by omega : (i : Int) < (ds.length : Int)), h]
theorem ixT_to {i : Nat} (h : ds[i]? = some d) : ixD (.tup ds) (.int i) S = .ok d S := by
  have l := (List.getElem?_eq_some_iff.mp h).1
  simp [ixD, itemsO, L2.atI, L2.ixN, (by omega : (0 : Int) ≤ (i : Int)), (by omega : (i : Int) < (ds.length : Int)), h]
theorem cut1 : cutL (d :: ds) (some 1) none = ds := by
  unfold cutL HT.sIx
  simp
theorem slL1 (h : fa ρ S = .ok (.lst (d :: ds)) S1) : eSl fa (oInt (eC (.int 1))) oNo ρ S = .ok (.lst ds) S1 := by
  refine bd_to h (bd_to (a := some 1) (S1 := S1) rfl (bd_to (a := none) (S1 := S1) rfl ?_))
  show Res.ok (D.lst (cutL (d :: ds) (some 1) none)) S1 = _
  rw [cut1]
theorem slT1 (h : fa ρ S = .ok (.tup (d :: ds)) S1) : eSl fa (oInt (eC (.int 1))) oNo ρ S = .ok (.tup ds) S1 := by
  refine bd_to h (bd_to (a := some 1) (S1 := S1) rfl (bd_to (a := none) (S1 := S1) rfl ?_))
  show (if HT.sIx (d :: ds).length 0 (some 1) = 0 ∧ HT.sIx (d :: ds).length (d :: ds).length none = (d :: ds).length then Res.div else Res.ok (D.tup (cutL (d :: ds) (some 1) none)) S1) = _
  rw [cut1, if_neg]
  unfold HT.sIx
  simp
theorem lc_map {α : Type} {p q : α → D} {g : D → Rho → M Rho} {t : Rho → M Bool} {e : Ev} : ∀ {xs : List α}, (∀ x ∈ xs, ∃ ρ1, g (p x) ρ S = .ok ρ1 S ∧ t ρ1 S = .ok true S ∧ e ρ1 S = .ok (q x) S) → lcM g t e ρ (xs.map p) S = .ok (xs.map q) S
  | [], _ => rfl
  | x :: xs, h => by
    obtain ⟨ρ1, e1, e2, e3⟩ := h x (List.mem_cons_self ..)
    exact lc_yes e1 e2 e3 (lc_map fun y m => h y (List.mem_cons_of_mem _ m))
/-- the index list of a filter -/
theorem nm_to {i : Nat} (l : i < ρ.length) : gNm i d ρ S = .ok (ρ.set i (some (.val d))) S := by unfold gNm; rw [if_pos l]; rfl
theorem two_gt {i : Nat} {x y : D} (l1 : i < ρ.length) {j : Nat} (l2 : j < ρ.length) : gTp 2 (gMore (gNm i) (gMore (gNm j) gNone)) (.tup [x, y]) ρ S = .ok ((ρ.set i (some (.val x))).set j (some (.val y))) S := by
  show (if [x, y].length = 2 then gMore (gNm i) (gMore (gNm j) gNone) [x, y] ρ else dv) S = _
  rw [if_pos (show [x, y].length = 2 from rfl)]
  exact bd_to (nm_to l1) (bd_to (nm_to (by rw [List.length_set]; exact l2)) rfl)
theorem int_lt {a b : Int} {k : Bool} (h1 : fa ρ S = .ok (.int a) S) (h2 : fb ρ S = .ok (.int b) S) (e : decide (a < b) = k) : tB2 ltD fa fb ρ S = .ok k S := tb2_to h1 h2 (by rw [← e]; rfl)
theorem int_gt {a b : Int} {k : Bool} (h1 : fa ρ S = .ok (.int a) S) (h2 : fb ρ S = .ok (.int b) S) (e : decide (b < a) = k) : tB2 gtD fa fb ρ S = .ok k S := tb2_to h1 h2 (by rw [← e]; rfl)
theorem len_lst (h : fa ρ S = .ok (.lst ds) S1) : eCall (g1 lenD) (aCons fa aNil) ρ S = .ok (.int ds.length) S1 := bd_to (acons_to h rfl) rfl
theorem len_tup (h : fa ρ S = .ok (.tup ds) S1) : eCall (g1 lenD) (aCons fa aNil) ρ S = .ok (.int ds.length) S1 := bd_to (acons_to h rfl) rfl
end LS

set_option Elab.async false
set_option linter.all false
set_option maxRecDepth 100000
set_option maxHeartbeats 4000000
namespace LW
open LS
/-! ### data that can be shown -/
structure Shw (d w : Nat) (p : PySem.PyData) : Prop where
  sh : p.showable = true
  dp : p.depth ≤ d
  lv : p.leavesShort 110 = true
  wt : p.weight ≤ w
theorem shw_int {i : Int} (h : Bg i) : Shw 0 401 (.int i) := by
  have l := big_log h
  refine ⟨?_, ?_, ?_, ?_⟩
  · simp only [PySem.PyData.showable, decide_eq_true_eq]; omega
  · simp only [PySem.PyData.depth]; omega
  · simp only [PySem.PyData.leavesShort, decide_eq_true_eq]
    show (cT i).length ≤ 110
    exact Nat.le_trans (cT_len h) (by decide)
  · simp only [PySem.PyData.weight]
    split <;> omega
theorem shw_str {x : PySem.Str} {n : Nat} (h : x.length ≤ n) (k : ∀ c ∈ TL.tl x, c < 16 ^ 8) : Shw 0 n (.str x) := by
  refine ⟨?_, ?_, ?_, ?_⟩
  · simp only [PySem.PyData.showable]
  · simp only [PySem.PyData.depth]; omega
  · simp only [PySem.PyData.leavesShort, List.all_eq_true]
    exact fun c m => decide_eq_true (k c m)
  · simp only [PySem.PyData.weight]
    exact h
theorem shw_bl {b : Bool} : Shw 0 0 (.bool b) := by
  refine ⟨?_, ?_, ?_, ?_⟩
  · simp only [PySem.PyData.showable]
  · simp only [PySem.PyData.depth]; omega
  · simp only [PySem.PyData.leavesShort]
  · simp only [PySem.PyData.weight]; omega
theorem Shw.up {d w d' w' : Nat} {p : PySem.PyData} (h : Shw d w p) (a : d ≤ d') (b : w ≤ w') : Shw d' w' p := ⟨h.sh, Nat.le_trans h.dp a, h.lv, Nat.le_trans h.wt b⟩
theorem shw_all {d w : Nat} : ∀ xs : List PySem.PyData, (∀ x ∈ xs, Shw d w x) → PySem.PyData.showableAll xs = true ∧ PySem.PyData.depthAll xs ≤ d ∧ PySem.PyData.leavesShortAll 110 xs = true ∧ PySem.PyData.weightAll xs ≤ (w + 1) * xs.length
  | [], _ => by simp [PySem.PyData.showableAll, PySem.PyData.depthAll, PySem.PyData.leavesShortAll, PySem.PyData.weightAll]
  | x :: xs, h => by
    obtain ⟨a, b, c, e⟩ := h x (List.mem_cons_self ..)
    obtain ⟨a', b', c', e'⟩ := shw_all xs fun y m => h y (List.mem_cons_of_mem _ m)
    simp only [PySem.PyData.showableAll, PySem.PyData.depthAll, PySem.PyData.leavesShortAll, PySem.PyData.weightAll, List.length_cons, a, a', c, c', Bool.and_self, true_and]
    refine ⟨by omega, ?_⟩
    rw [Nat.mul_add]; omega
theorem shw_tup {d w n : Nat} {xs : List PySem.PyData} (h : ∀ x ∈ xs, Shw d w x) (l : xs.length ≤ n) : Shw (d + 1) ((w + 1) * n) (.tuple xs) := by
  obtain ⟨a, b, c, e⟩ := shw_all xs h
  refine ⟨by simpa only [PySem.PyData.showable] using a, by simp only [PySem.PyData.depth]; omega, by simpa only [PySem.PyData.leavesShort] using c, ?_⟩
  simp only [PySem.PyData.weight]
  exact Nat.le_trans e (Nat.mul_le_mul_left _ l)
theorem shw_lst {d w n : Nat} {xs : List PySem.PyData} (h : ∀ x ∈ xs, Shw d w x) (l : xs.length ≤ n) : Shw (d + 1) ((w + 1) * n) (.list xs) := by
  obtain ⟨a, b, c, e⟩ := shw_all xs h
  refine ⟨by simpa only [PySem.PyData.showable] using a, by simp only [PySem.PyData.depth]; omega, by simpa only [PySem.PyData.leavesShort] using c, ?_⟩
  simp only [PySem.PyData.weight]
  exact Nat.le_trans e (Nat.mul_le_mul_left _ l)
theorem shw_ok {d w : Nat} {p : PySem.PyData} (h : Shw d w p) (hd : d ≤ 40) (hw : w ≤ 100000) : okShow p = true := by
  obtain ⟨a, b, c, e⟩ := h
  have f := PySem.PyData.shown_le 110 (by decide) p c
  have f2 : p.shown.length ≤ PySem.sizeLine := by
    rw [PySem.sizeLine_eq]
    have : (110 + 2) * p.weight ≤ 112 * 100000 := Nat.mul_le_mul_left _ (Nat.le_trans e hw)
    omega
  unfold okShow
  rw [a, decide_eq_true (Nat.le_trans b hd), decide_eq_true f2]; rfl
theorem toPys_map {α : Type} {f : α → D} {g : α → PySem.PyData} (h : ∀ x, toPy (f x) = some (g x)) : ∀ xs : List α, toPys (xs.map f) = some (xs.map g)
  | [] => by simp [toPys]
  | x :: xs => by simp [toPys, h x, toPys_map h xs]
def pyQ (q : Int × Int) : PySem.PyData := .tuple [.int q.1, .int q.2]
theorem toPy_q (q : Int × Int) : toPy (dQ q) = some (pyQ q) := by simp [dQ, pyQ, toPy, toPys]
def Low (q : Int × Int) : Prop := Bg q.1 ∧ Bg q.2
theorem shw_q {q : Int × Int} (h : Low q) : Shw 1 804 (pyQ q) := shw_tup (n := 2) (d := 0) (w := 401) (by
  intro y hy
  simp only [List.mem_cons, List.not_mem_nil, or_false] at hy
  rcases hy with rfl | rfl
  · exact shw_int h.1
  · exact shw_int h.2) (by show 2 ≤ 2; decide)
/-- two repr's of the same are the same -/
theorem repr_to {x : D} {p : PySem.PyData} {d w : Nat} {f1 f2 : Ev} {ρ : Rho} {S : Sto} (e : toPy x = some p) (h : Shw d w p) (hd : d ≤ 40) (hw : w ≤ 100000) (h1 : f1 ρ S = .ok x S) (h2 : f2 ρ S = .ok x S) :
    tB2 neD (eCall (g1 reprD) (aCons f1 aNil)) (eCall (g1 reprD) (aCons f2 aNil)) ρ S = .ok false S := by
  have k : reprD x S = .ok (.str p.shown) S := by
    unfold reprD
    rw [e]
    show (if okShow p = true then ret (D.str p.shown) else dv) S = _
    rw [if_pos (shw_ok h hd hw)]; rfl
  exact tb2_to (bd_to (acons_to h1 rfl) k) (bd_to (acons_to h2 rfl) k) (ne_str (b := false) (beq_self_eq_true _))
end LW

set_option Elab.async false
set_option linter.all false
set_option maxRecDepth 100000
set_option maxHeartbeats 4000000
namespace LW
open LS
/-! ### the rows of a system -/
structure Ineq where
  w : List Int
  le : Bool
  c : Int
def dW (w : List Int) : List D := w.map .int
theorem dW_len (w : List Int) : (dW w).length = w.length := by unfold dW; rw [List.length_map]
def letT (k : Nat) : PySem.Str := if k = 0 then ("x" : PySem.Str) else "y"
/-- a term without its sign -/
def wT (n k : Nat) : PySem.Str := if n = 1 then letT k else cT (n : Int) ++ ("*" : PySem.Str) ++ letT k
def sgT (a : Int) : PySem.Str := if a < 0 then ("-" : PySem.Str) else ""
def opT (a : Int) : PySem.Str := if a < 0 then ("-" : PySem.Str) else "+"
def fT (a : Int) (k : Nat) : PySem.Str := sgT a ++ wT a.natAbs k
/-- the words of a sum -/
def sw : List Int → List PySem.Str
  | [a] => [fT a 0]
  | [a, b] => if a = 0 then [fT b 1] else [fT a 0, opT b, wT b.natAbs 1]
  | _ => []
def sumT (w : List Int) : PySem.Str := PySem.Txt.join (" " : PySem.Str) (sw w)
def signT (b : Bool) : PySem.Str := if b = true then ("<=" : PySem.Str) else ">="
def Ineq.text (r : Ineq) : PySem.Str := sumT r.w ++ (" " : PySem.Str) ++ signT r.le ++ (" " : PySem.Str) ++ cT r.c
inductive GW : Nat → List Int → Prop
  | one {a : Int} : a ≠ 0 → a.natAbs ≤ 99 → GW 1 [a]
  | two {a b : Int} : b ≠ 0 → a.natAbs ≤ 99 → b.natAbs ≤ 99 → GW 2 [a, b]
def Good (m : Nat) (r : Ineq) : Prop := GW m r.w ∧ r.c.natAbs ≤ 1000000
/-! what there is to know about a term -/
abbrev okT (n k : Nat) : Prop :=
  (TL.tl (wT n k)).contains 32 = false ∧ (TL.tl (wT n k)).contains 10 = false ∧ (wT n k).length ≤ 4 ∧
  (wT n k == "+") = false ∧ (wT n k == "-") = false ∧ (("-" : PySem.Str) ++ wT n k == "+") = false ∧ (("-" : PySem.Str) ++ wT n k == "-") = false ∧
  (L2.atI (TL.tl (wT n k)) 0).map (fun c => decide (c = 45)) = some false ∧
  PySem.Txt.split (wT n k) ("*" : PySem.Str) = (if n = 1 then [letT k] else [cT n, letT k]) ∧
  decide (1 < (wT n k).length) = decide (n ≠ 1) ∧ (n ≠ 1 → L2.cutS (wT n k) none (some (-2)) = cT n) ∧ L2.atI (TL.tl (wT n k)) (-1) = some (120 + k) ∧ L2.cutS (("-" : PySem.Str) ++ wT n k) (some 1) none = wT n k
theorem okT_all : ∀ i : Fin 99, ∀ k : Fin 2, okT (i.val + 1) k.val := by decide +kernel
theorem okT_of {n k : Nat} (h0 : 0 < n) (h : n ≤ 99) (hk : k ≤ 1) : okT n k := by
  have := okT_all ⟨n - 1, by omega⟩ ⟨k, by omega⟩
  rw [show n - 1 + 1 = n by omega] at this
  exact this
theorem add_str {x y : PySem.Str} {S : Sto} (h : x.length + y.length ≤ PySem.sizeLine) : addD (.str x) (.str y) S = .ok (.str (x ++ y)) S := two_to (decide_eq_true h)
theorem len_app (x y : PySem.Str) : (x ++ y).length = x.length + y.length := PySem.Str.length_append ..
theorem sl1000 : 1000 ≤ PySem.sizeLine := by decide
theorem eq_int {f1 f2 : Ev} {v k : Int} {ρ : Rho} {S : Sto} {b : Bool} (h : f1 ρ S = .ok (.int v) S) (h2 : f2 ρ S = .ok (.int k) S) (e : decide (v = k) = b) : tB2 eqD f1 f2 ρ S = .ok b S :=
  tb2_to (x := .int v) (y := .int k) (S1 := S) (S2 := S) h h2 (by subst e; rfl)
theorem abs_to {a : Int} {f : Ev} {ρ : Rho} {S : Sto} (h : f ρ S = .ok (.int a) S) : eCall (g1 absD) (aCons f aNil) ρ S = .ok (.int ((a.natAbs : Nat) : Int)) S := by
  refine bd_to (acons_to h rfl) ?_
  show Res.ok (D.int (if a < 0 then -a else a)) S = _
  congr 2
  split <;> omega
/-- a term written by the law -/
theorem lterm_ok {a : Int} {k : Nat} (h0 : a ≠ 0) (h : a.natAbs ≤ 99) (hk : k ≤ 1) (S : Sto) : f__law_term [.int a, .str (letT k)] S = .ok (.str (wT a.natAbs k)) S := by
  have ha : eCall (g1 absD) (aCons (eLook 0) aNil) (rho0 2 [.int a, .str (letT k)]) S = .ok (.int ((a.natAbs : Nat) : Int)) S := abs_to rfl
  have lk : (letT k).length ≤ 1 := by unfold letT; split <;> decide
  refine fn_rt (ret_to ?_)
  by_cases c : a.natAbs = 1
  · have e : wT a.natAbs k = letT k := by unfold wT; rw [if_pos c]
    rw [e]
    exact eif_t (eq_int ha rfl (b := true) (decide_eq_true (by omega))) rfl
  · have e : wT a.natAbs k = cT ((a.natAbs : Nat) : Int) ++ ("*" : PySem.Str) ++ letT k := by unfold wT; rw [if_neg c]
    rw [e]
    have b : Bg ((a.natAbs : Nat) : Int) := by
      show _ < 10 ^ 100
      exact Nat.lt_of_le_of_lt (show (((a.natAbs : Nat) : Int)).natAbs ≤ 99 by omega) (by decide)
    have l := cT_len b
    refine eif_f (eq_int ha rfl (b := false) (decide_eq_false (by omega))) (e2_to (x := .str (cT ((a.natAbs : Nat) : Int) ++ ("*" : PySem.Str))) (y := .str (letT k)) (S1 := S) (S2 := S) (e2_to (y := .str "*") (S2 := S) (bd_to (acons_to ha rfl) (str_cT b S)) rfl (add_str ?_)) rfl (add_str ?_))
    · exact Nat.le_trans (by show _ + 1 ≤ 1000; omega) sl1000
    · rw [len_app]; exact Nat.le_trans (by show _ + 1 + _ ≤ 1000; omega) sl1000
abbrev sumB : Sx := sIf (tB2 neD (eLook 2) (eC (.int 0))) (sSeq (sSet 4 (eIf (tB2 eqD (eLook 1) (eC (.str ""))) (eIf (tB2 ltD (eLook 2) (eC (.int 0))) (eC (.str "-")) (eC (.str ""))) (eIf (tB2 ltD (eLook 2) (eC (.int 0))) (eC (.str " - ")) (eC (.str " + ")))))
    (sSet 1 (e2 addD (e2 addD (eLook 1) (eLook 4)) (eFn 2 f__law_term (aCons (eVar 2) (aCons (eVar 3) aNil)))))) sNil
theorem sum_first {a : Int} {k : Nat} (h0 : a ≠ 0) (h : a.natAbs ≤ 99) (hk : k ≤ 1) {o0 o4 : Option Sl} {S : Sto} :
    ∃ o, sumB [o0, some (.val (.str "")), dI a, some (.val (.str (letT k))), o4] S = .ok (.nx [o0, some (.val (.str (fT a k))), dI a, some (.val (.str (letT k))), o]) S := by
  have lw : (wT a.natAbs k).length ≤ 4 := (okT_of (by omega) h hk).2.2.1
  have e0 : (("" : PySem.Str) ++ sgT a) = sgT a := TL.ext_tl (by rw [TL.tl_append]; rfl)
  have ls : (sgT a).length ≤ 1 := by unfold sgT; split <;> decide
  refine ⟨some (.val (.str (sgT a))), if_t (S1 := S) ?_ (seq_nx (ρ1 := [o0, some (.val (.str "")), dI a, some (.val (.str (letT k))), some (.val (.str (sgT a)))]) (S1 := S) (set_to (eif_t (S1 := S) rfl ?_) (by show 4 < 5; decide)) (set_to (e2_to (x := .str (("" : PySem.Str) ++ sgT a)) (S1 := S) (e2_to (x := .str "") (y := .str (sgT a)) (S1 := S) (S2 := S) rfl rfl (add_str ?_)) (call_to (acons_to rfl (acons_to rfl rfl)) rfl (lterm_ok h0 h hk S)) ?_) (by show 1 < 5; decide)))⟩
  · refine tb2_to (x := .int a) (y := .int 0) (S1 := S) (S2 := S) rfl rfl ?_
    show blO (some (!(a == 0))) S = _
    rw [show (a == 0) = false from beq_false_of_ne h0]; rfl
  · unfold sgT
    by_cases c : a < 0
    · rw [if_pos c]; exact eif_t (int_lt (a := a) (b := 0) rfl rfl (decide_eq_true c)) rfl
    · rw [if_neg c]; exact eif_f (int_lt (a := a) (b := 0) rfl rfl (decide_eq_false c)) rfl
  · exact Nat.le_trans (by show 0 + _ ≤ 1000; omega) sl1000
  · rw [e0]; exact add_str (Nat.le_trans (by omega) sl1000)
theorem sum_more {a : Int} {x : PySem.Str} (h0 : a ≠ 0) (h : a.natAbs ≤ 99) (hx : (x == "") = false) (lx : x.length ≤ 10) {o0 o4 : Option Sl} {S : Sto} :
    ∃ o, sumB [o0, some (.val (.str x)), dI a, some (.val (.str "y")), o4] S = .ok (.nx [o0, some (.val (.str (PySem.Str.join (" " : PySem.Str) [x, opT a, wT a.natAbs 1]))), dI a, some (.val (.str "y")), o]) S := by
  have lw : (wT a.natAbs 1).length ≤ 4 := (okT_of (by omega) h (Nat.le_refl 1)).2.2.1
  let j : PySem.Str := if a < 0 then (" - " : PySem.Str) else " + "
  have lj : j.length = 3 := by show (if a < 0 then (" - " : PySem.Str) else " + ").length = 3; split <;> rfl
  have ej : PySem.Str.join (" " : PySem.Str) [x, opT a, wT a.natAbs 1] = x ++ j ++ wT a.natAbs 1 := by
    show x ++ " " ++ (opT a ++ " " ++ wT a.natAbs 1) = _
    apply TL.ext_tl
    simp only [TL.tl_append, List.append_assoc]
    have : TL.tl j = TL.tl (" " : PySem.Str) ++ (TL.tl (opT a) ++ TL.tl (" " : PySem.Str)) := by
      show TL.tl (if a < 0 then (" - " : PySem.Str) else " + ") = _
      unfold opT
      split <;> decide +kernel
    rw [this]
    simp only [List.append_assoc]
  rw [ej]
  refine ⟨some (.val (.str j)), if_t (S1 := S) ?_ (seq_nx (ρ1 := [o0, some (.val (.str x)), dI a, some (.val (.str "y")), some (.val (.str j))]) (S1 := S) (set_to (eif_f (S1 := S) (tb2_to (x := .str x) (y := .str "") (S1 := S) (S2 := S) rfl rfl (eq_str hx)) ?_) (by show 4 < 5; decide)) (set_to (e2_to (x := .str (x ++ j)) (S1 := S) (e2_to (x := .str x) (y := .str j) (S1 := S) (S2 := S) rfl rfl (add_str ?_)) (call_to (acons_to rfl (acons_to rfl rfl)) rfl (lterm_ok (k := 1) h0 h (Nat.le_refl 1) S)) (add_str ?_)) (by show 1 < 5; decide)))⟩
  · refine tb2_to (x := .int a) (y := .int 0) (S1 := S) (S2 := S) rfl rfl ?_
    show blO (some (!(a == 0))) S = _
    rw [show (a == 0) = false from beq_false_of_ne h0]; rfl
  · show _ = Res.ok (D.str (if a < 0 then (" - " : PySem.Str) else " + ")) S
    by_cases c : a < 0
    · rw [if_pos c]; exact eif_t (int_lt (a := a) (b := 0) rfl rfl (decide_eq_true c)) rfl
    · rw [if_neg c]; exact eif_f (int_lt (a := a) (b := 0) rfl rfl (decide_eq_false c)) rfl
  · exact Nat.le_trans (by omega) sl1000
  · rw [len_app]; exact Nat.le_trans (by omega) sl1000
theorem fT_len {a : Int} {k : Nat} (h0 : a ≠ 0) (h : a.natAbs ≤ 99) (hk : k ≤ 1) : (fT a k).length ≤ 5 := by
  have lw : (wT a.natAbs k).length ≤ 4 := (okT_of (by omega) h hk).2.2.1
  have ls : (sgT a).length ≤ 1 := by unfold sgT; split <;> decide
  unfold fT; rw [len_app]; omega
theorem fT_ne {a : Int} {k : Nat} (h0 : a ≠ 0) (h : a.natAbs ≤ 99) (hk : k ≤ 1) : (fT a k == "") = false := by
  obtain ⟨-, -, -, -, -, -, -, f, -⟩ := okT_of (n := a.natAbs) (by omega) h hk
  refine str_ne ?_
  unfold fT
  rw [TL.tl_append]
  intro e
  have e2 := (List.append_eq_nil_iff.mp e).2
  rw [e2] at f
  cases f
theorem sum_skip {o0 o1 o4 : Option Sl} {x : PySem.Str} {S : Sto} : sumB [o0, o1, dI 0, some (.val (.str x)), o4] S = .ok (.nx [o0, o1, dI 0, some (.val (.str x)), o4]) S := if_f (S1 := S) rfl rfl
/-- the text of a sum -/
theorem sum_text {m : Nat} {w : List Int} (h : GW m w) (S : Sto) : f__law_sum_text [.lst (dW w)] S = .ok (.str (sumT w)) S := by
  cases h with
  | @one a h0 h1 =>
    obtain ⟨o, e⟩ := sum_first (k := 0) (o0 := some (.val (.lst (dW [a])))) (o4 := none) (S := S) h0 h1 (by decide)
    have ej : sumT [a] = fT a 0 := by unfold sumT; rw [TL.join_eq]; rfl
    rw [ej]
    exact fn_rt (seq_nx (ρ1 := [some (.val (.lst (dW [a]))), some (.val (.str "")), none, none, none]) (S1 := S) rfl (seq_nx (for_to (ds := [.tup [.int a, .str "x"]]) (S1 := S) rfl (for_cons (ρ1 := [some (.val (.lst (dW [a]))), some (.val (.str "")), dI a, some (.val (.str "x")), none]) (S1 := S) rfl e for_nil)) (ret_to rfl)))
  | @two a b h0 h1 h2 =>
    let R : Option Sl := some (.val (.lst (dW [a, b])))
    by_cases c : a = 0
    · subst c
      obtain ⟨o, e⟩ := sum_first (k := 1) (o0 := some (.val (.lst (dW [0, b])))) (o4 := none) (S := S) h0 h2 (by decide)
      have ej : sumT [0, b] = fT b 1 := by unfold sumT; rw [TL.join_eq]; rfl
      rw [ej]
      exact fn_rt (seq_nx (ρ1 := [R, some (.val (.str "")), none, none, none]) (S1 := S) rfl (seq_nx (for_to (ds := [.tup [.int 0, .str "x"], .tup [.int b, .str "y"]]) (S1 := S) rfl (for_cons (ρ1 := [R, some (.val (.str "")), dI 0, some (.val (.str "x")), none]) (S1 := S) rfl sum_skip
        (for_cons (ρ1 := [R, some (.val (.str "")), dI b, some (.val (.str "y")), none]) (S1 := S) rfl e for_nil))) (ret_to rfl)))
    · obtain ⟨o, e⟩ := sum_first (k := 0) (o0 := R) (o4 := none) (S := S) c h1 (by decide)
      obtain ⟨o', e'⟩ := sum_more (x := fT a 0) (o0 := R) (o4 := o) (S := S) h0 h2 (fT_ne c h1 (by decide)) (Nat.le_trans (fT_len c h1 (by decide)) (by decide))
      have ej : sumT [a, b] = PySem.Str.join (" " : PySem.Str) [fT a 0, opT b, wT b.natAbs 1] := by
        have : sw [a, b] = [fT a 0, opT b, wT b.natAbs 1] := if_neg c
        unfold sumT; rw [this, TL.join_eq]
      rw [ej]
      exact fn_rt (seq_nx (ρ1 := [R, some (.val (.str "")), none, none, none]) (S1 := S) rfl (seq_nx (for_to (ds := [.tup [.int a, .str "x"], .tup [.int b, .str "y"]]) (S1 := S) rfl (for_cons (ρ1 := [R, some (.val (.str "")), dI a, some (.val (.str "x")), none]) (S1 := S) rfl e
        (for_cons (ρ1 := [R, some (.val (.str (fT a 0))), dI b, some (.val (.str "y")), o]) (S1 := S) rfl e' for_nil))) (ret_to rfl)))
end LW

set_option Elab.async false
set_option linter.all false
set_option maxRecDepth 100000
set_option maxHeartbeats 4000000
namespace LW
open LS
/-! ### the words of a row read -/
def sgn (a : Int) : Int := if a < 0 then -1 else 1
theorem sgn_abs (a : Int) : sgn a * ((a.natAbs : Nat) : Int) = a := by
  unfold sgn
  split <;> omega
theorem sgn_b (a : Int) : Bg (sgn a) := by
  unfold sgn Bg
  split <;> decide
theorem bg_small {n : Nat} (h : n ≤ 1000000) : Bg (n : Int) := by
  have e : ((n : Int)).natAbs = n := by omega
  show _ < 10 ^ 100
  rw [e]
  exact Nat.lt_of_le_of_lt h (by decide)
theorem term_ok {n k : Nat} (h0 : 0 < n) (h : n ≤ 99) (hk : k = 0 ∨ k = 1) (S : Sto) : f_term_in [.str (wT n k)] S = .ok (.tup [.int n, .int k]) S := by
  obtain ⟨-, -, tl, -, -, -, -, -, hs, -⟩ := okT_of (k := k) h0 h (by omega)
  have ls : (wT n k).length + 2 ≤ PySem.sizeLine := Nat.le_trans (by omega) sl1000
  by_cases c : n = 1
  · subst c
    rw [if_pos rfl] at hs
    refine fn_rt (seq_nx (ρ1 := [some (.val (.str (wT 1 k))), some (.val (.lst [.str (letT k)])), none]) (S1 := S) (set_to ((split_to (a := wT 1 k) rfl rfl ls).trans (by rw [hs]; rfl)) (by show 1 < 3; decide)) ?_)
    rcases hk with rfl | rfl <;> with_unfolding_all rfl
  · rw [if_neg c] at hs
    let P : Option Sl := some (.val (.lst [.str (cT n), .str (letT k)]))
    let o0 : Option Sl := some (.val (.str (wT n k)))
    refine fn_rt (seq_nx (ρ1 := [o0, P, none]) (S1 := S) (set_to ((split_to (a := wT n k) rfl rfl ls).trans (by rw [hs]; rfl)) (by show 1 < 3; decide)) ?_)
    refine seq_nx (ρ1 := [o0, P, none]) (S1 := S) ?_ (seq_nx (ρ1 := [o0, P, dI n]) (S1 := S) (set_to (eif_f (S1 := S) ?_ (call_to (acons_to (d := .str (cT n)) (S1 := S) ?_ rfl) rfl (number_ok (bg_nat (bg_small (by omega))) S))) (by show 2 < 3; decide)) (seq_nx (ρ1 := [o0, P, dI n]) (S1 := S) (if_f (S1 := S) (or_f (S1 := S) rfl (and_t (S1 := S) ?_ (not_to (k := true) (tch_to (a := 2) (b := n) (c := 99) rfl rfl rfl (by omega) (by omega))))) rfl) ?_))
    · rcases hk with rfl | rfl <;> with_unfolding_all rfl
    · with_unfolding_all rfl
    · with_unfolding_all rfl
    · with_unfolding_all rfl
    · rcases hk with rfl | rfl <;> with_unfolding_all rfl
theorem head_W {n k : Nat} (h0 : 0 < n) (h : n ≤ 99) (hk : k ≤ 1) : ∃ c r, TL.tl (wT n k) = c :: r ∧ c ≠ 45 := by
  obtain ⟨-, -, -, -, -, -, -, f, -⟩ := okT_of (k := k) h0 h hk
  cases e : TL.tl (wT n k) with
  | nil => rw [e] at f; cases f
  | cons c r =>
    rw [e] at f
    have : L2.atI (c :: r) 0 = some c := by
      unfold L2.atI L2.ixN
      simp
    rw [this] at f
    refine ⟨c, r, rfl, fun q => ?_⟩
    subst q
    cases f
theorem fT_neg {a : Int} {k : Nat} (c : a < 0) : fT a k = ("-" : PySem.Str) ++ wT a.natAbs k := by unfold fT sgT; rw [if_pos c]
theorem fT_pos {a : Int} {k : Nat} (c : ¬ a < 0) : fT a k = wT a.natAbs k := by
  unfold fT sgT
  rw [if_neg c]
  exact TL.ext_tl (by rw [TL.tl_append]; rfl)
theorem tl_fneg {a : Int} {k : Nat} (c : a < 0) : TL.tl (fT a k) = 45 :: TL.tl (wT a.natAbs k) := by rw [fT_neg c, TL.tl_append]; rfl
section
variable {a : Int} {k : Nat} {S : Sto} {ρ : Rho} {fw : Ev}
theorem fT_size (h0 : a ≠ 0) (h : a.natAbs ≤ 99) (hk : k ≤ 1) : (fT a k).length ≤ PySem.sizeLine := Nat.le_trans (Nat.le_trans (fT_len h0 h hk) (by decide)) sl1000
/-- is there a sign ahead of the first word? -/
theorem less_ok (h0 : a ≠ 0) (h : a.natAbs ≤ 99) (hk : k ≤ 1) (hw : fw ρ S = .ok (.str (fT a k)) S) : e2 eqD (eSl fw oNo (oInt (eC (.int 1)))) (eC (.str "-")) ρ S = .ok (.bl (decide (a < 0))) S := by
  refine e2_to (S1 := S) (S2 := S) (esl_to (lo := none) (hi := some 1) hw rfl rfl (sl_str (fT_size h0 h hk))) rfl ?_
  by_cases c : a < 0
  · rw [decide_eq_true c]
    refine eq_str ?_
    rw [show L2.cutS (fT a k) none (some 1) = ("-" : PySem.Str) from TL.ext_tl (cut_one (tl_fneg c))]
    rfl
  · rw [decide_eq_false c]
    obtain ⟨x, r, e, ne⟩ := head_W (n := a.natAbs) (k := k) (by omega) h hk
    refine eq_str (str_ne ?_)
    rw [fT_pos c, cut_one e]
    intro q
    have : x = 45 := by injection q
    exact ne this
/-- the first word without its sign -/
theorem bare_ok {ft : Rho → M Bool} (h0 : a ≠ 0) (h : a.natAbs ≤ 99) (hk : k ≤ 1) (ht : ft ρ S = .ok (decide (a < 0)) S) (hw : fw ρ S = .ok (.str (fT a k)) S) : eIf ft (eSl fw (oInt (eC (.int 1))) oNo) fw ρ S = .ok (.str (wT a.natAbs k)) S := by
  by_cases c : a < 0
  · rw [decide_eq_true c] at ht
    refine eif_t (S1 := S) ht (esl_to (lo := some 1) (hi := none) hw rfl rfl ?_)
    rw [sl_str (fT_size h0 h hk), show L2.cutS (fT a k) (some 1) none = wT a.natAbs k from TL.ext_tl (cut_rest (tl_fneg c))]
  · rw [decide_eq_false c] at ht
    rw [fT_pos c] at hw
    exact eif_f (S1 := S) ht hw
theorem sign_ok {ft : Rho → M Bool} (ht : ft ρ S = .ok (decide (a < 0)) S) : eIf ft (e1 negD (eC (.int 1))) (eC (.int 1)) ρ S = .ok (.int (sgn a)) S := by
  unfold sgn
  by_cases c : a < 0
  · rw [decide_eq_true c] at ht; rw [if_pos c]; exact eif_t (S1 := S) ht rfl
  · rw [decide_eq_false c] at ht; rw [if_neg c]; exact eif_f (S1 := S) ht rfl
theorem item_own {i j : Nat} {ds : List D} {d : D} {z : Int} {fi : Ev} (hr : ρ[i]? = some (some (.own ds))) (hf : fi ρ S = .ok (.int z) S) (k : L2.ixN ds.length z = some j) : gItem i fi d ρ S = .ok (ρ.set i (some (.own (ds.set j d)))) S := by
  unfold gItem
  rw [hr]
  exact bd_to hf (by simp [k]; rfl)
end
/-! the program's reading of a sum -/
abbrev sumL : Sx := sAsg (e2 mulD (eLook 6) (e2 ixD (eLook 7) (eC (.int 0)))) (gItem 5 (e2 ixD (eLook 7) (eC (.int 1))))
theorem sumL_ok {a : Int} {k : Nat} {ds : List D} {o0 o1 o2 o3 o4 o8 o9 : Option Sl} {S : Sto} (h : a.natAbs ≤ 99) (hk : L2.ixN ds.length k = some k) :
    sumL [o0, o1, o2, o3, o4, some (.own ds), dI (sgn a), some (.val (.tup [.int a.natAbs, .int k])), o8, o9] S = .ok (.nx [o0, o1, o2, o3, o4, some (.own (ds.set k (.int a))), dI (sgn a), some (.val (.tup [.int a.natAbs, .int k])), o8, o9]) S := by
  refine asg_to (d := .int a) (S1 := S) (e2_to (x := .int (sgn a)) (y := .int a.natAbs) (S1 := S) (S2 := S) rfl rfl ((mulB (sgn_b a) (bg_small (by omega))).trans (by rw [sgn_abs]))) ?_
  exact item_own (z := k) rfl rfl hk
theorem sum_in1 {a : Int} {m k : Nat} (hmk : (m = 1 ∧ k = 0) ∨ (m = 2 ∧ k = 1)) (h0 : a ≠ 0) (h : a.natAbs ≤ 99) (S : Sto) : f_sum_in [.lst [.str (fT a k)], .int m] S = .ok (.tup (dW (if m = 1 then [a] else [0, a]))) S := by
  have hk : k ≤ 1 := by omega
  let W : Option Sl := some (.val (.lst [.str (fT a k)]))
  let L : Option Sl := some (.val (.bl (decide (a < 0))))
  let T : D := .tup [.int a.natAbs, .int k]
  have s2 := less_ok (S := S) (ρ := [W, dI m, none, none, none, none, none, none, none, none]) (fw := e2 ixD (eLook 0) (eC (.int 0))) h0 h hk (by with_unfolding_all rfl)
  have t3 := term_ok (n := a.natAbs) (k := k) (by omega) h (by omega) S
  have b3 := bare_ok (S := S) (ρ := [W, dI m, L, none, none, none, none, none, none, none]) (fw := e2 ixD (eLook 0) (eC (.int 0))) (ft := tT (eLook 2)) h0 h hk rfl (by with_unfolding_all rfl)
  have g4 := sign_ok (a := a) (S := S) (ρ := [W, dI m, L, some (.own [T]), none, none, none, none, none, none]) (ft := tT (eLook 2)) rfl
  refine fn_rt (seq_nx (ρ1 := [W, dI m, none, none, none, none, none, none, none, none]) (S1 := S) ?_
    (seq_nx (ρ1 := [W, dI m, L, none, none, none, none, none, none, none]) (S1 := S) (set_to s2 (by show 2 < 10; decide))
    (seq_nx (ρ1 := [W, dI m, L, some (.own [T]), none, none, none, none, none, none]) (S1 := S) (bd_to (a := [T]) (S1 := S) (bd_to (acons_to (d := T) (S1 := S) (call_to (acons_to b3 rfl) rfl t3) rfl) rfl) rfl)
    (seq_nx (ρ1 := [W, dI m, L, some (.own [T]), some (.own [.int (sgn a)]), none, none, none, none, none]) (S1 := S) (bd_to (a := [.int (sgn a)]) (S1 := S) (bd_to (acons_to g4 rfl) rfl) rfl)
    (seq_nx (ρ1 := [W, dI m, L, some (.own [T]), some (.own [.int (sgn a)]), none, none, none, none, none]) (S1 := S) (if_f (S1 := S) (by with_unfolding_all rfl) rfl)
    (seq_nx (ρ1 := [W, dI m, L, some (.own [T]), some (.own [.int (sgn a)]), none, none, none, none, none]) (S1 := S) ?_
    (seq_nx (ρ1 := [W, dI m, L, some (.own [T]), some (.own [.int (sgn a)]), none, none, none, none, none]) (S1 := S) (if_f (S1 := S) (by with_unfolding_all rfl) rfl)
    (seq_nx (ρ1 := [W, dI m, L, some (.own [T]), some (.own [.int (sgn a)]), some (.own (List.replicate m (.int 0))), none, none, none, none]) (S1 := S) ?_
    (seq_nx (ρ1 := [W, dI m, L, some (.val (.lst [T])), some (.val (.lst [.int (sgn a)])), some (.own ((List.replicate m (.int 0)).set k (.int a))), dI (sgn a), some (.val T), none, none]) (S1 := S) ?_ ?_)))))))))
  · with_unfolding_all rfl
  · rcases hmk with ⟨rfl, rfl⟩ | ⟨rfl, rfl⟩ <;> with_unfolding_all rfl
  · rcases hmk with ⟨rfl, rfl⟩ | ⟨rfl, rfl⟩ <;> with_unfolding_all rfl
  · show sFor (iA zipM (aCons (eVar 4) (aCons (eVar 3) aNil))) (gTp 2 (gMore (gNm 6) (gMore (gNm 7) gNone))) sumL [W, dI m, L, some (.val (.lst [T])), some (.val (.lst [.int (sgn a)])), some (.own (List.replicate m (.int 0))), none, none, none, none] S = _
    refine for_to (ρ := [W, dI m, L, some (.val (.lst [T])), some (.val (.lst [.int (sgn a)])), some (.own (List.replicate m (.int 0))), none, none, none, none]) (ds := [.tup [.int (sgn a), T]]) (S1 := S) (by with_unfolding_all rfl) (for_cons (ρ1 := [W, dI m, L, some (.val (.lst [T])), some (.val (.lst [.int (sgn a)])), some (.own (List.replicate m (.int 0))), dI (sgn a), some (.val T), none, none]) (S1 := S) (by with_unfolding_all rfl) (sumL_ok h ?_) for_nil)
    rcases hmk with ⟨rfl, rfl⟩ | ⟨rfl, rfl⟩ <;> rfl
  · rcases hmk with ⟨rfl, rfl⟩ | ⟨rfl, rfl⟩ <;> with_unfolding_all rfl
theorem sum_in2 {a b : Int} (h0 : a ≠ 0) (h : a.natAbs ≤ 99) (h1 : b ≠ 0) (h2 : b.natAbs ≤ 99) (S : Sto) : f_sum_in [.lst [.str (fT a 0), .str (opT b), .str (wT b.natAbs 1)], .int 2] S = .ok (.tup (dW [a, b])) S := by
  let W : Option Sl := some (.val (.lst [.str (fT a 0), .str (opT b), .str (wT b.natAbs 1)]))
  let L : Option Sl := some (.val (.bl (decide (a < 0))))
  let T : D := .tup [.int a.natAbs, .int ((0 : Nat) : Int)]
  let U : D := .tup [.int b.natAbs, .int ((1 : Nat) : Int)]
  have s2 := less_ok (k := 0) (S := S) (ρ := [W, dI 2, none, none, none, none, none, none, none, none]) (fw := e2 ixD (eLook 0) (eC (.int 0))) h0 h (by decide) (by with_unfolding_all rfl)
  have t3 := term_ok (n := a.natAbs) (k := 0) (by omega) h (by omega) S
  have t5 := term_ok (n := b.natAbs) (k := 1) (by omega) h2 (by omega) S
  have b3 := bare_ok (k := 0) (S := S) (ρ := [W, dI 2, L, none, none, none, none, none, none, none]) (fw := e2 ixD (eLook 0) (eC (.int 0))) (ft := tT (eLook 2)) h0 h (by decide) rfl (by with_unfolding_all rfl)
  have g4 := sign_ok (a := a) (S := S) (ρ := [W, dI 2, L, some (.own [T]), none, none, none, none, none, none]) (ft := tT (eLook 2)) rfl
  have o5 : sSeq (sIf (tB2 ninD (e2 ixD (eLook 0) (eC (.int 1))) (eTup (aCons (eC (.str "+")) (aCons (eC (.str "-")) aNil)))) (sRet (eC .non)) sNil)
    (sSeq (sMut 3 kApp (aCons (eFn 1 f_term_in (aCons (e2 ixD (eLook 0) (eC (.int 2))) aNil)) aNil))
    (sMut 4 kApp (aCons (eIf (tB2 eqD (e2 ixD (eLook 0) (eC (.int 1))) (eC (.str "+"))) (eC (.int 1)) (e1 negD (eC (.int 1)))) aNil))) [W, dI 2, L, some (.own [T]), some (.own [.int (sgn a)]), none, none, none, none, none] S = .ok (.nx [W, dI 2, L, some (.own [T, U]), some (.own [.int (sgn a), .int (sgn b)]), none, none, none, none, none]) S := by
    refine seq_nx (ρ1 := [W, dI 2, L, some (.own [T]), some (.own [.int (sgn a)]), none, none, none, none, none]) (S1 := S) (if_f (S1 := S) ?_ rfl) (seq_nx (ρ1 := [W, dI 2, L, some (.own [T, U]), some (.own [.int (sgn a)]), none, none, none, none, none]) (S1 := S) ?_ ?_)
    · show tB2 ninD (e2 ixD (eLook 0) (eC (.int 1))) (eTup (aCons (eC (.str "+")) (aCons (eC (.str "-")) aNil))) [some (.val (.lst [.str (fT a 0), .str (opT b), .str (wT b.natAbs 1)])), dI 2, L, some (.own [T]), some (.own [.int (sgn a)]), none, none, none, none, none] S = _
      unfold opT
      split <;> with_unfolding_all rfl
    · exact bd_to (a := [U]) (S1 := S) (acons_to (d := U) (S1 := S) (call_to (acons_to (d := .str (wT b.natAbs 1)) (S1 := S) (by with_unfolding_all rfl) rfl) rfl t5) rfl) (bd_to (a := [T, U]) (S1 := S) rfl rfl)
    · have e : eIf (tB2 eqD (e2 ixD (eLook 0) (eC (.int 1))) (eC (.str "+"))) (eC (.int 1)) (e1 negD (eC (.int 1))) [some (.val (.lst [.str (fT a 0), .str (opT b), .str (wT b.natAbs 1)])), dI 2, L, some (.own [T, U]), some (.own [.int (sgn a)]), none, none, none, none, none] S = .ok (.int (sgn b)) S := by
        unfold opT sgn
        split <;> with_unfolding_all rfl
      exact bd_to (a := [.int (sgn b)]) (S1 := S) (acons_to e rfl) (bd_to (a := [.int (sgn a), .int (sgn b)]) (S1 := S) rfl rfl)
  refine fn_rt (seq_nx (ρ1 := [W, dI 2, none, none, none, none, none, none, none, none]) (S1 := S) ?_
    (seq_nx (ρ1 := [W, dI 2, L, none, none, none, none, none, none, none]) (S1 := S) (set_to s2 (by show 2 < 10; decide))
    (seq_nx (ρ1 := [W, dI 2, L, some (.own [T]), none, none, none, none, none, none]) (S1 := S) (bd_to (a := [T]) (S1 := S) (bd_to (acons_to (d := T) (S1 := S) (call_to (acons_to b3 rfl) rfl t3) rfl) rfl) rfl)
    (seq_nx (ρ1 := [W, dI 2, L, some (.own [T]), some (.own [.int (sgn a)]), none, none, none, none, none]) (S1 := S) (bd_to (a := [.int (sgn a)]) (S1 := S) (bd_to (acons_to g4 rfl) rfl) rfl)
    (seq_nx (ρ1 := [W, dI 2, L, some (.own [T, U]), some (.own [.int (sgn a), .int (sgn b)]), none, none, none, none, none]) (S1 := S) (if_t (S1 := S) (by with_unfolding_all rfl) o5)
    (seq_nx (ρ1 := [W, dI 2, L, some (.own [T, U]), some (.own [.int (sgn a), .int (sgn b)]), none, none, none, none, none]) (S1 := S) ?_
    (seq_nx (ρ1 := [W, dI 2, L, some (.own [T, U]), some (.own [.int (sgn a), .int (sgn b)]), none, none, none, none, none]) (S1 := S) (if_f (S1 := S) (by with_unfolding_all rfl) rfl)
    (seq_nx (ρ1 := [W, dI 2, L, some (.own [T, U]), some (.own [.int (sgn a), .int (sgn b)]), some (.own [.int 0, .int 0]), none, none, none, none]) (S1 := S) ?_
    (seq_nx (ρ1 := [W, dI 2, L, some (.val (.lst [T, U])), some (.val (.lst [.int (sgn a), .int (sgn b)])), some (.own [.int a, .int b]), dI (sgn b), some (.val U), none, none]) (S1 := S) ?_ ?_)))))))))
  · with_unfolding_all rfl
  · with_unfolding_all rfl
  · with_unfolding_all rfl
  · show sFor (iA zipM (aCons (eVar 4) (aCons (eVar 3) aNil))) (gTp 2 (gMore (gNm 6) (gMore (gNm 7) gNone))) sumL [W, dI 2, L, some (.val (.lst [T, U])), some (.val (.lst [.int (sgn a), .int (sgn b)])), some (.own [.int 0, .int 0]), none, none, none, none] S = _
    exact for_to (ρ := [W, dI 2, L, some (.val (.lst [T, U])), some (.val (.lst [.int (sgn a), .int (sgn b)])), some (.own [.int 0, .int 0]), none, none, none, none]) (ds := [.tup [.int (sgn a), T], .tup [.int (sgn b), U]]) (S1 := S) (by with_unfolding_all rfl) (for_cons (ρ1 := [W, dI 2, L, some (.val (.lst [T, U])), some (.val (.lst [.int (sgn a), .int (sgn b)])), some (.own [.int 0, .int 0]), dI (sgn a), some (.val T), none, none]) (S1 := S) (by with_unfolding_all rfl) (sumL_ok (k := 0) h rfl)
      (for_cons (ρ1 := [W, dI 2, L, some (.val (.lst [T, U])), some (.val (.lst [.int (sgn a), .int (sgn b)])), some (.own [.int a, .int 0]), dI (sgn b), some (.val U), none, none]) (S1 := S) (by with_unfolding_all rfl) (sumL_ok (k := 1) h2 rfl) for_nil))
  · with_unfolding_all rfl
end LW

set_option Elab.async false
set_option linter.all false
set_option maxRecDepth 100000
set_option maxHeartbeats 4000000
namespace LW
open LS
/-! ### the law's reading of a sum -/
abbrev lwR : Sx := sSeq (sSet 5 (eIf (tB2 gtD (eCall (g1 lenD) (aCons (eLook 4) aNil)) (eC (.int 1))) (eCall (g1 intD) (aCons (eSl (eLook 4) oNo (oInt (e1 negD (eC (.int 2))))) aNil)) (eC (.int 1))))
    (sAsg (e2 mulD (eLook 3) (eLook 5)) (gItem 2 (m2 sindexD (eC (.str "xy")) (e2 ixD (eLook 4) (e1 negD (eC (.int 1)))))))
abbrev lwB : Sx := sIf (tB2 inD (eLook 4) (eN (nLst (aCons (eC (.str "+")) (aCons (eC (.str "-")) aNil))))) (sSet 3 (eIf (tB2 eqD (eLook 4) (eC (.str "+"))) (eC (.int 1)) (e1 negD (eC (.int 1))))) (sSeq (sAsg (eIf (tB2 eqD (e2 ixD (eLook 4) (eC (.int 0))) (eC (.str "-"))) (eTup (aCons (e1 negD (eC (.int 1))) (aCons (eSl (eLook 4) (oInt (eC (.int 1))) oNo) aNil))) (eTup (aCons (eVar 3) (aCons (eVar 4) aNil)))) (gTp 2 (gMore (gNm 3) (gMore (gNm 4) gNone)))) lwR)
section
variable {a : Int} {n k : Nat} {S : Sto} {ds : List D} {o0 o1 o5 : Option Sl}
theorem ix_end {x : PySem.Str} {c : Nat} (h : L2.atI (TL.tl x) (-1) = some c) (l : x.length ≤ PySem.sizeLine) : ixD (.str x) (.int (-1)) S = .ok (chr c) S := by
  show (if x.length ≤ PySem.sizeLine then (match L2.atI x.cps.toList (-1) with | some c => Res.ok (D.str ⟨#[c]⟩) S | none => Res.div) else Res.div) = _
  rw [if_pos l, show L2.atI x.cps.toList (-1) = some c from h]; rfl
theorem xy_ix (hk : k = 0 ∨ k = 1) : sindexD (.str "xy") (chr (120 + k)) S = .ok (.int k) S := by
  rcases hk with rfl | rfl <;> with_unfolding_all rfl
theorem lw_rest {s : Int} (hs : Bg s) (h0 : 0 < n) (h : n ≤ 99) (hk : k = 0 ∨ k = 1) (hi : L2.ixN ds.length k = some k) :
    lwR [o0, o1, some (.own ds), dI s, some (.val (.str (wT n k))), o5] S = .ok (.nx [o0, o1, some (.own (ds.set k (.int (s * n)))), dI s, some (.val (.str (wT n k))), dI n]) S := by
  obtain ⟨-, -, tl, -, -, -, -, -, -, hl, hc, he, -⟩ := okT_of (k := k) h0 h (by omega)
  have ls : (wT n k).length ≤ PySem.sizeLine := Nat.le_trans (by omega) sl1000
  have lv : eCall (g1 lenD) (aCons (eLook 4) aNil) [o0, o1, some (.own ds), dI s, some (.val (.str (wT n k))), o5] S = .ok (.int (wT n k).length) S := bd_to (acons_to (d := .str (wT n k)) (S1 := S) rfl rfl) (two_to (decide_eq_true ls))
  refine seq_nx (ρ1 := [o0, o1, some (.own ds), dI s, some (.val (.str (wT n k))), dI n]) (S1 := S) (set_to ?_ (by show 5 < 6; decide)) (asg_to (d := .int (s * n)) (S1 := S) (e2_to (x := .int s) (y := .int n) (S1 := S) (S2 := S) rfl rfl (mulB hs (bg_small (by omega)))) (item_own (z := k) rfl ?_ hi))
  · have hl2 : 1 < (wT n k).length ↔ n ≠ 1 := decide_eq_decide.mp hl
    by_cases c : n = 1
    · have z : ¬ 1 < (wT n k).length := fun q => (hl2.mp q) c
      rw [c] at z lv ⊢
      exact eif_f (S1 := S) (int_gt (a := ((wT 1 k).length : Int)) (b := 1) lv rfl (decide_eq_false (by omega))) rfl
    · have z := hl2.mpr c
      refine eif_t (S1 := S) (int_gt (a := ((wT n k).length : Int)) (b := 1) lv rfl (decide_eq_true (by omega))) (bd_to (acons_to (d := .str (cT n)) (S1 := S) (esl_to (x := .str (wT n k)) (lo := none) (hi := some (-2)) rfl rfl rfl ((sl_str ls).trans (by rw [hc c]))) rfl) (int_of ?_ (int_cT (bg_small (by omega)))))
      exact Nat.le_trans (cT_len (bg_small (by omega))) (by decide)
  · exact bd_to (a := .str "xy") (S1 := S) rfl (bd_to (a := chr (120 + k)) (S1 := S) (e2_to (x := .str (wT n k)) (y := .int (-1)) (S1 := S) (S2 := S) rfl rfl (ix_end he ls)) (xy_ix hk))
theorem not_op {x : PySem.Str} (h1 : (x == "+") = false) (h2 : (x == "-") = false) {o2 o3 : Option Sl} : tB2 inD (eLook 4) (eN (nLst (aCons (eC (.str "+")) (aCons (eC (.str "-")) aNil)))) [o0, o1, o2, o3, some (.val (.str x)), o5] S = .ok false S := by
  refine tb2_to (x := .str x) (y := .lst [.str "+", .str "-"]) (S1 := S) (S2 := S) rfl rfl ?_
  have e : eqF (.str "+") (.str x) = false := by
    show (("+" : PySem.Str) == x) = false
    exact beq_false_of_ne fun q => by rw [← q] at h1; simp at h1
  have e2 : eqF (.str "-") (.str x) = false := by
    show (("-" : PySem.Str) == x) = false
    exact beq_false_of_ne fun q => by rw [← q] at h2; simp at h2
  show Res.ok (D.bl (eqF (.str "+") (.str x) || (eqF (.str "-") (.str x) || false))) S = _
  rw [e, e2]; rfl
theorem fst_is {x : PySem.Str} {c : Nat} {r : List Nat} (h : TL.tl x = c :: r) (l : x.length ≤ PySem.sizeLine) {o2 o3 : Option Sl} : tB2 eqD (e2 ixD (eLook 4) (eC (.int 0))) (eC (.str "-")) [o0, o1, o2, o3, some (.val (.str x)), o5] S = .ok (decide (c = 45)) S := by
  refine tb2_to (x := chr c) (y := .str "-") (S1 := S) (S2 := S) (e2_to (x := .str x) (y := .int 0) (S1 := S) (S2 := S) rfl rfl (ix_head h l)) rfl (eq_str ?_)
  by_cases q : c = 45
  · subst q; rfl
  · rw [decide_eq_false q]
    refine str_ne ?_
    intro e
    have : c = 45 := by injection e
    exact q this
theorem lw_first (h0 : a ≠ 0) (h : a.natAbs ≤ 99) (hk : k = 0 ∨ k = 1) (hi : L2.ixN ds.length k = some k) :
    lwB [o0, o1, some (.own ds), dI 1, some (.val (.str (fT a k))), o5] S = .ok (.nx [o0, o1, some (.own (ds.set k (.int a))), dI (sgn a), some (.val (.str (wT a.natAbs k))), dI a.natAbs]) S := by
  obtain ⟨-, -, tl, p1, p2, p3, p4, -⟩ := okT_of (n := a.natAbs) (k := k) (by omega) h (by omega)
  have fs := fT_size (k := k) h0 h (by omega)
  have r := lw_rest (S := S) (ds := ds) (o0 := o0) (o1 := o1) (o5 := o5) (n := a.natAbs) (sgn_b a) (by omega) h hk hi
  rw [sgn_abs] at r
  by_cases c : a < 0
  · have e := fT_neg (k := k) c
    refine if_f (S1 := S) (not_op (by rw [e]; exact p3) (by rw [e]; exact p4)) (seq_nx (S1 := S) (asg_to (d := .tup [.int (-1), .str (wT a.natAbs k)]) (S1 := S) (eif_t (S1 := S) (fst_is (tl_fneg c) fs) (tup_to (ds := [.int (-1), .str (wT a.natAbs k)]) (S1 := S) (acons_to rfl (acons_to (esl_to (x := .str (fT a k)) (lo := some 1) (hi := none) rfl rfl rfl ((sl_str fs).trans (by rw [show L2.cutS (fT a k) (some 1) none = wT a.natAbs k from TL.ext_tl (cut_rest (tl_fneg c))]))) rfl)) (by show 2 ≤ PySem.sizeLine; decide))) (ρ1 := [o0, o1, some (.own ds), dI (sgn a), some (.val (.str (wT a.natAbs k))), o5]) (S2 := S) ?_) r)
    have es : sgn a = -1 := if_pos c
    rw [es]; rfl
  · have e := fT_pos (k := k) c
    obtain ⟨x, q, ex, nx⟩ := head_W (n := a.natAbs) (k := k) (by omega) h (by omega)
    refine if_f (S1 := S) (not_op (by rw [e]; exact p1) (by rw [e]; exact p2)) (seq_nx (S1 := S) (asg_to (d := .tup [.int 1, .str (wT a.natAbs k)]) (S1 := S) (eif_f (S1 := S) ((fst_is (c := x) (r := q) (by rw [e]; exact ex) fs).trans (by rw [decide_eq_false nx])) (tup_to (ds := [.int 1, .str (wT a.natAbs k)]) (S1 := S) (acons_to rfl (acons_to (by rw [e]; rfl) rfl)) (by show 2 ≤ PySem.sizeLine; decide))) (ρ1 := [o0, o1, some (.own ds), dI (sgn a), some (.val (.str (wT a.natAbs k))), o5]) (S2 := S) ?_) r)
    have es : sgn a = 1 := if_neg c
    rw [es]; rfl
theorem lw_op {o2 o3 : Option Sl} : lwB [o0, o1, o2, o3, some (.val (.str (opT a))), o5] S = .ok (.nx [o0, o1, o2, dI (sgn a), some (.val (.str (opT a))), o5]) S := by
  unfold opT sgn
  split <;> with_unfolding_all rfl
theorem lw_next (h0 : a ≠ 0) (h : a.natAbs ≤ 99) (hi : L2.ixN ds.length 1 = some 1) :
    lwB [o0, o1, some (.own ds), dI (sgn a), some (.val (.str (wT a.natAbs 1))), o5] S = .ok (.nx [o0, o1, some (.own (ds.set 1 (.int a))), dI (sgn a), some (.val (.str (wT a.natAbs 1))), dI a.natAbs]) S := by
  obtain ⟨-, -, tl, p1, p2, -⟩ := okT_of (n := a.natAbs) (k := 1) (by omega) h (by omega)
  have ls : (wT a.natAbs 1).length ≤ PySem.sizeLine := Nat.le_trans (by omega) sl1000
  obtain ⟨x, q, ex, nx⟩ := head_W (n := a.natAbs) (k := 1) (by omega) h (by omega)
  have r := lw_rest (S := S) (ds := ds) (o0 := o0) (o1 := o1) (o5 := o5) (n := a.natAbs) (sgn_b a) (by omega) h (.inr rfl) hi
  rw [sgn_abs] at r
  exact if_f (S1 := S) (not_op p1 p2) (seq_nx (S1 := S) (asg_to (d := .tup [.int (sgn a), .str (wT a.natAbs 1)]) (S1 := S) (eif_f (S1 := S) ((fst_is (c := x) (r := q) ex ls).trans (by rw [decide_eq_false nx])) (tup_to (ds := [.int (sgn a), .str (wT a.natAbs 1)]) (S1 := S) (acons_to rfl (acons_to rfl rfl)) (by show 2 ≤ PySem.sizeLine; decide))) (ρ1 := [o0, o1, some (.own ds), dI (sgn a), some (.val (.str (wT a.natAbs 1))), o5]) (S2 := S) rfl) r)
end
theorem wts1 {a : Int} {m k : Nat} (hmk : (m = 1 ∧ k = 0) ∨ (m = 2 ∧ k = 1)) (h0 : a ≠ 0) (h : a.natAbs ≤ 99) (S : Sto) : f__law_weights [.lst [.str (fT a k)], .int m] S = .ok (.tup (dW (if m = 1 then [a] else [0, a]))) S := by
  let W : Option Sl := some (.val (.lst [.str (fT a k)]))
  refine fn_rt (seq_nx (ρ1 := [W, dI m, some (.own (List.replicate m (.int 0))), dI 1, none, none]) (S1 := S) ?_ (seq_nx (S1 := S) (for_to (ds := [.str (fT a k)]) (S1 := S) (by with_unfolding_all rfl) (for_cons (ρ1 := [W, dI m, some (.own (List.replicate m (.int 0))), dI 1, some (.val (.str (fT a k))), none]) (S1 := S) rfl (lw_first h0 h (by omega) ?_) for_nil)) (ret_to ?_)))
  · rcases hmk with ⟨rfl, rfl⟩ | ⟨rfl, rfl⟩ <;> with_unfolding_all rfl
  · rcases hmk with ⟨rfl, rfl⟩ | ⟨rfl, rfl⟩ <;> rfl
  · rcases hmk with ⟨rfl, rfl⟩ | ⟨rfl, rfl⟩ <;> with_unfolding_all rfl
theorem wts2 {a b : Int} (h0 : a ≠ 0) (h : a.natAbs ≤ 99) (h1 : b ≠ 0) (h2 : b.natAbs ≤ 99) (S : Sto) : f__law_weights [.lst [.str (fT a 0), .str (opT b), .str (wT b.natAbs 1)], .int 2] S = .ok (.tup (dW [a, b])) S := by
  let W : Option Sl := some (.val (.lst [.str (fT a 0), .str (opT b), .str (wT b.natAbs 1)]))
  refine fn_rt (seq_nx (ρ1 := [W, dI 2, some (.own [.int 0, .int 0]), dI 1, none, none]) (S1 := S) ?_ (seq_nx (S1 := S) (for_to (ds := [.str (fT a 0), .str (opT b), .str (wT b.natAbs 1)]) (S1 := S) (by with_unfolding_all rfl) (for_cons (ρ1 := [W, dI 2, some (.own [.int 0, .int 0]), dI 1, some (.val (.str (fT a 0))), none]) (S1 := S) rfl (lw_first (k := 0) h0 h (.inl rfl) rfl)
    (for_cons (ρ1 := [W, dI 2, some (.own [.int a, .int 0]), dI (sgn a), some (.val (.str (opT b))), dI a.natAbs]) (S1 := S) rfl lw_op
    (for_cons (ρ1 := [W, dI 2, some (.own [.int a, .int 0]), dI (sgn b), some (.val (.str (wT b.natAbs 1))), dI a.natAbs]) (S1 := S) rfl (lw_next h1 h2 rfl) for_nil)))) (ret_to ?_)))
  · with_unfolding_all rfl
  · with_unfolding_all rfl
/-! both read a sum as its weights -/
theorem sums_read {m : Nat} {w : List Int} (g : GW m w) (S : Sto) : f_sum_in [.lst ((sw w).map .str), .int m] S = .ok (.tup (dW w)) S ∧ f__law_weights [.lst ((sw w).map .str), .int m] S = .ok (.tup (dW w)) S := by
  cases g with
  | @one a h0 h => exact ⟨sum_in1 (.inl ⟨rfl, rfl⟩) h0 h S, wts1 (.inl ⟨rfl, rfl⟩) h0 h S⟩
  | @two a b h0 h1 h2 =>
    by_cases c : a = 0
    · subst c
      exact ⟨sum_in1 (.inr ⟨rfl, rfl⟩) h0 h2 S, wts1 (.inr ⟨rfl, rfl⟩) h0 h2 S⟩
    · have e : sw [a, b] = [fT a 0, opT b, wT b.natAbs 1] := if_neg c
      rw [e]
      exact ⟨sum_in2 c h1 h0 h2 S, wts2 c h1 h0 h2 S⟩
/-! the texts of rows fall into their words -/
theorem fT_free {a : Int} {k : Nat} (h0 : a ≠ 0) (h : a.natAbs ≤ 99) (hk : k ≤ 1) : 32 ∉ TL.tl (fT a k) ∧ 10 ∉ TL.tl (fT a k) := by
  obtain ⟨p1, p2, -⟩ := okT_of (n := a.natAbs) (k := k) (by omega) h hk
  have q1 : 32 ∉ TL.tl (wT a.natAbs k) := fun m => by
    rw [List.contains_iff_mem.mpr m] at p1; cases p1
  have q2 : 10 ∉ TL.tl (wT a.natAbs k) := fun m => by
    rw [List.contains_iff_mem.mpr m] at p2; cases p2
  by_cases c : a < 0
  · rw [tl_fneg c]
    exact ⟨fun m => (List.mem_cons.mp m).elim (by decide) q1, fun m => (List.mem_cons.mp m).elim (by decide) q2⟩
  · rw [fT_pos c]; exact ⟨q1, q2⟩
theorem wT_free {n k : Nat} (h0 : 0 < n) (h : n ≤ 99) (hk : k ≤ 1) : 32 ∉ TL.tl (wT n k) ∧ 10 ∉ TL.tl (wT n k) := by
  obtain ⟨p1, p2, -⟩ := okT_of (k := k) h0 h hk
  exact ⟨fun m => (by rw [List.contains_iff_mem.mpr m] at p1; cases p1), fun m => (by rw [List.contains_iff_mem.mpr m] at p2; cases p2)⟩
theorem opT_free (a : Int) : (32 ∉ TL.tl (opT a) ∧ 10 ∉ TL.tl (opT a)) ∧ (opT a).length = 1 := by
  unfold opT
  split <;> decide +kernel
theorem sw_free {m : Nat} {w : List Int} (g : GW m w) : (∀ p ∈ sw w, 32 ∉ TL.tl p ∧ 10 ∉ TL.tl p) ∧ sw w ≠ [] ∧ ((sw w).length = 1 ∨ (sw w).length = 3) ∧ (sumT w).length ≤ 20 ∧ 10 ∉ TL.tl (sumT w) := by
  have one : ∀ {a : Int} {k : Nat}, a ≠ 0 → a.natAbs ≤ 99 → k ≤ 1 → PySem.Txt.join (" " : PySem.Str) [fT a k] = fT a k := fun _ _ _ => by rw [TL.join_eq]; rfl
  cases g with
  | @one a h0 h =>
    have f := fT_free (k := 0) h0 h (by decide)
    have l := fT_len (k := 0) h0 h (by decide)
    refine ⟨fun p hp => ?_, nofun, .inl rfl, ?_, ?_⟩
    · rw [List.mem_singleton.mp hp]; exact f
    · show (PySem.Txt.join (" " : PySem.Str) [fT a 0]).length ≤ 20
      rw [one h0 h (by decide)]; omega
    · show 10 ∉ TL.tl (PySem.Txt.join (" " : PySem.Str) [fT a 0])
      rw [one h0 h (by decide)]; exact f.2
  | @two a b h0 h1 h2 =>
    by_cases c : a = 0
    · subst c
      have f := fT_free (k := 1) h0 h2 (by decide)
      have l := fT_len (k := 1) h0 h2 (by decide)
      refine ⟨fun p hp => ?_, nofun, .inl rfl, ?_, ?_⟩
      · rw [List.mem_singleton.mp hp]; exact f
      · show (PySem.Txt.join (" " : PySem.Str) [fT b 1]).length ≤ 20
        rw [one h0 h2 (by decide)]; omega
      · show 10 ∉ TL.tl (PySem.Txt.join (" " : PySem.Str) [fT b 1])
        rw [one h0 h2 (by decide)]; exact f.2
    · have e : sw [a, b] = [fT a 0, opT b, wT b.natAbs 1] := if_neg c
      have f := fT_free (k := 0) c h1 (by decide)
      have l := fT_len (k := 0) c h1 (by decide)
      have f2 := wT_free (n := b.natAbs) (k := 1) (by omega) h2 (by decide)
      have l2 := (okT_of (n := b.natAbs) (k := 1) (by omega) h2 (by decide)).2.2.1
      have o := opT_free b
      have ej : sumT [a, b] = fT a 0 ++ (" " : PySem.Str) ++ (opT b ++ (" " : PySem.Str) ++ wT b.natAbs 1) := by
        unfold sumT; rw [e, TL.join_eq]; rfl
      rw [ej, e]
      refine ⟨fun p hp => ?_, nofun, .inr rfl, ?_, ?_⟩
      · simp only [List.mem_cons, List.not_mem_nil, or_false] at hp
        rcases hp with rfl | rfl | rfl
        · exact f
        · exact o.1
        · exact f2
      · rw [len_app, len_app, len_app, len_app, o.2, show (" " : PySem.Str).length = 1 from rfl]
        omega
      · rw [TL.tl_append, TL.tl_append, TL.tl_append, TL.tl_append]
        have sp : 10 ∉ TL.tl (" " : PySem.Str) := by decide +kernel
        intro m
        simp only [List.mem_append] at m
        rcases m with (m | m) | (m | m) | m
        · exact f.2 m
        · exact sp m
        · exact o.1.2 m
        · exact sp m
        · exact f2.2 m
theorem join_end (y b c : PySem.Str) : ∀ a : List PySem.Str, a ≠ [] → PySem.Str.join y (a ++ [b, c]) = PySem.Str.join y a ++ y ++ b ++ y ++ c
  | [], h => absurd rfl h
  | [x], _ => by
    show x ++ y ++ (b ++ y ++ c) = x ++ y ++ b ++ y ++ c
    apply TL.ext_tl
    simp only [TL.tl_append, List.append_assoc]
  | x :: z :: r, _ => by
    have ih := join_end y b c (z :: r) (by simp)
    show x ++ y ++ PySem.Str.join y (z :: r ++ [b, c]) = x ++ y ++ PySem.Str.join y (z :: r) ++ y ++ b ++ y ++ c
    rw [ih]
    apply TL.ext_tl
    simp only [TL.tl_append, List.append_assoc]
theorem cT_short {c : Int} (h : c.natAbs ≤ 1000000) : (cT c).length ≤ 8 := by
  rcases Int.lt_or_le c 0 with l | l
  · obtain ⟨n, rfl⟩ : ∃ n : Nat, c = -(n : Int) := ⟨c.natAbs, by omega⟩
    rw [TL.len_tl, tl_neg (by omega), List.length_cons]
    have := TL.numL_len (n := n) (k := 7) (by decide) (by show n < 10000000; omega)
    omega
  · obtain ⟨n, rfl⟩ : ∃ n : Nat, c = (n : Int) := ⟨c.natAbs, by omega⟩
    rw [TL.len_tl, tl_nat]
    have := TL.numL_len (n := n) (k := 7) (by decide) (by show n < 10000000; omega)
    omega
theorem bg_c {c : Int} (h : c.natAbs ≤ 1000000) : Bg c := Nat.lt_of_le_of_lt h (by decide)
theorem row_words {m : Nat} {r : Ineq} (g : Good m r) : PySem.Txt.split r.text (" " : PySem.Str) = sw r.w ++ [signT r.le, cT r.c] ∧ r.text.length ≤ 40 ∧ 10 ∉ TL.tl r.text := by
  obtain ⟨w, b, c⟩ := r
  obtain ⟨gw, gc⟩ := g
  have gc : c.natAbs ≤ 1000000 := gc
  obtain ⟨h1, ne, -, h4, h3⟩ := sw_free (w := w) gw
  have k1 : 32 ∉ TL.tl (cT c) := cT_free (by decide)
  have k2 : 10 ∉ TL.tl (cT c) := cT_free (by decide)
  have k3 := cT_short gc
  have t : Ineq.text ⟨w, b, c⟩ = PySem.Txt.join (" " : PySem.Str) (sw w ++ [signT b, cT c]) := by
    rw [TL.join_eq, join_end _ _ _ _ ne, ← TL.join_eq]; rfl
  have s1 : ∀ b : Bool, 32 ∉ TL.tl (signT b) ∧ 10 ∉ TL.tl (signT b) ∧ (signT b).length = 2 := by decide +kernel
  refine ⟨?_, ?_, ?_⟩
  · rw [t]
    refine TL.split_join (s := 32) (S := []) (by decide +kernel) (by decide +kernel) (by simp) fun p hp => ?_
    rcases List.mem_append.mp hp with hp | hp
    · exact (h1 p hp).1
    · simp only [List.mem_cons, List.not_mem_nil, or_false] at hp
      rcases hp with rfl | rfl
      · exact (s1 b).1
      · exact k1
  · show (sumT w ++ (" " : PySem.Str) ++ signT b ++ (" " : PySem.Str) ++ cT c).length ≤ 40
    rw [len_app, len_app, len_app, len_app, (s1 b).2.2, show (" " : PySem.Str).length = 1 from rfl]
    omega
  · show 10 ∉ TL.tl (sumT w ++ (" " : PySem.Str) ++ signT b ++ (" " : PySem.Str) ++ cT c)
    rw [TL.tl_append, TL.tl_append, TL.tl_append, TL.tl_append]
    intro m
    simp only [List.mem_append] at m
    have sp : 10 ∉ TL.tl (" " : PySem.Str) := by decide +kernel
    rcases m with (((m | m) | m) | m) | m
    · exact h3 m
    · exact sp m
    · exact (s1 b).2.1 m
    · exact sp m
    · exact k2 m
end LW

set_option Elab.async false
set_option linter.all false
set_option maxRecDepth 100000
set_option maxHeartbeats 4000000
namespace LW
open LS
def upr (b : Bool) (w : List Int) (c : Int) : List Int × Int := if b = true then (w, c) else (w.map (- ·), -c)
def upD (q : List Int × Int) : D := .tup [.tup (dW q.1), .int q.2]
theorem neg_lc {a b c d e f : Option Sl} {S : Sto} : ∀ w : List Int, lcM (gNm 5) yes (e1 negD (eLook 5)) [a, b, c, d, e, f] (dW w) S = .ok (dW (w.map (- ·))) S
  | [] => rfl
  | x :: w => lc_yes (ρ1 := [a, b, c, d, e, some (.val (.int x))]) (S1 := S) (S2 := S) (S3 := S) (y := .int (-x)) rfl rfl rfl (neg_lc w)
def Short (s : List PySem.Str) : Prop := (∃ a, s = [a]) ∨ ∃ a b c, s = [a, b, c]
theorem short_of {s : List PySem.Str} (h : s.length = 1 ∨ s.length = 3) : Short s := by
  rcases h with h | h
  · match s, h with
    | [a], _ => exact .inl ⟨a, rfl⟩
  · match s, h with
    | [a, b, c], _ => exact .inr ⟨a, b, c, rfl⟩
/-- a row read by the program -/
theorem ineq_in {m : Nat} {t : PySem.Str} {s : List PySem.Str} {b : Bool} {ct : PySem.Str} {w : List Int} {c : Int} {S : Sto} (hs : PySem.Txt.split t (" " : PySem.Str) = s ++ [signT b, ct]) (tl : t.length ≤ 40) (l : Short s)
    (h1 : f_sum_in [.lst (s.map .str), .int m] S = .ok (.tup (dW w)) S) (h2 : f_signed_in [.str ct] S = .ok (.int c) S) (hc : -1000000 ≤ c ∧ c ≤ 1000000) (wl : w.length ≤ 10) : f_inequality_in [.str t, .int m] S = .ok (upD (upr b w c)) S := by
  let ds : List D := (s ++ [signT b, ct]).map .str
  let ρ1 : Rho := [some (.val (.str t)), dI m, some (.val (.lst ds)), none, none, none]
  let ρ2 : Rho := [some (.val (.str t)), dI m, some (.val (.lst ds)), some (.val (.tup (dW w))), dI c, none]
  have k1 : sSet 2 (eIf (tT (e1 (isTyM "str" own_cs) (eLook 0))) (eN (splitN (eLook 0) (eC (.str " ")))) (eN (nLst aNil))) (rho0 6 [.str t, .int m]) S = .ok (.nx ρ1) S := by
    refine set_to (eif_t (S1 := S) rfl ((split_to (a := t) rfl rfl (Nat.le_trans (Nat.add_le_add_right tl 2) (by decide))).trans ?_)) (by show 2 < 6; decide)
    rw [hs]
  have k2 : sIf (tOrB (tB2 ltD (eCall (g1 lenD) (aCons (eLook 2) aNil)) (eC (.int 3))) (tB2 ninD (e2 ixD (eLook 2) (e1 negD (eC (.int 2)))) (eTup (aCons (eC (.str "<=")) (aCons (eC (.str ">=")) aNil))))) (sRet (eC .non)) sNil ρ1 S = .ok (.nx ρ1) S := by
    rcases l with ⟨a, rfl⟩ | ⟨a, a2, a3, rfl⟩ <;> cases b <;> with_unfolding_all rfl
  have k3 : sPX2 3 4 (xV (eFn 2 f_sum_in (aCons (eSl (eLook 2) oNo (oInt (e1 negD (eC (.int 2))))) (aCons (eVar 1) aNil))) (xV (eFn 1 f_signed_in (aCons (e2 ixD (eLook 2) (e1 negD (eC (.int 1)))) aNil)) xNil)) ρ1 S = .ok (.nx ρ2) S := by
    have x1 : eSl (eLook 2) oNo (oInt (e1 negD (eC (.int 2)))) ρ1 S = .ok (.lst (s.map .str)) S := by
      rcases l with ⟨a, rfl⟩ | ⟨a, a2, a3, rfl⟩ <;> with_unfolding_all rfl
    have x2 : e2 ixD (eLook 2) (e1 negD (eC (.int 1))) ρ1 S = .ok (.str ct) S := by
      rcases l with ⟨a, rfl⟩ | ⟨a, a2, a3, rfl⟩ <;> with_unfolding_all rfl
    exact bd_to (a := [.val (.tup (dW w)), .val (.int c)]) (S1 := S) (bd_to (call_to (acons_to x1 (acons_to rfl rfl)) rfl h1) (bd_to (bd_to (call_to (acons_to x2 rfl) rfl h2) (bd_to rfl rfl)) rfl)) rfl
  have k4 : sIf (tOrB (tB2 isNoneD (eLook 3) (eC .non)) (tOrB (tB2 isNoneD (eLook 4) (eC .non)) (tNotB (tCh leD leD (e1 negD (eC (.int 1000000))) (eLook 4) (eC (.int 1000000)))))) (sRet (eC .non)) sNil ρ2 S = .ok (.nx ρ2) S :=
    if_f (S1 := S) (or_f (S1 := S) rfl (or_f (S1 := S) rfl (not_to (k := true) (S1 := S) (tch_to (a := -1000000) (b := c) (c := 1000000) rfl rfl rfl (by omega) (by omega))))) rfl
  refine fn_rt (seq_nx k1 (seq_nx k2 (seq_nx k3 (seq_nx k4 ?_))))
  cases b with
  | true =>
    refine seq_rt (if_t (S1 := S) ?_ (ret_to (tup_to (acons_to (d := .tup (dW w)) (S1 := S) rfl (acons_to (d := .int c) (S1 := S) rfl rfl)) (by show 2 ≤ PySem.sizeLine; decide))))
    rcases l with ⟨a, rfl⟩ | ⟨a, a2, a3, rfl⟩ <;> with_unfolding_all rfl
  | false =>
    refine seq_nx (ρ1 := ρ2) (S1 := S) (if_f (S1 := S) ?_ rfl) (ret_to (tup_to (ds := [.tup (dW (w.map (- ·))), .int (-c)]) (acons_to (d := .tup (dW (w.map (- ·)))) (S1 := S) (bd_to (acons_to (bd_to (lcn_to (ds := dW w) (S1 := S) rfl (by rw [dW_len]; exact Nat.le_trans wl (by decide)) (neg_lc w)) rfl) rfl) rfl) (acons_to (d := .int (-c)) (S1 := S) rfl rfl)) (by show 2 ≤ PySem.sizeLine; decide)))
    rcases l with ⟨a, rfl⟩ | ⟨a, a2, a3, rfl⟩ <;> with_unfolding_all rfl
/-- a row read by the law -/
theorem upright {m : Nat} {t : PySem.Str} {s : List PySem.Str} {b : Bool} {ct : PySem.Str} {w : List Int} {c : Int} {S : Sto} (hs : PySem.Txt.split t (" " : PySem.Str) = s ++ [signT b, ct]) (tl : t.length ≤ 40) (l : Short s)
    (h1 : f__law_weights [.lst (s.map .str), .int m] S = .ok (.tup (dW w)) S) (h2 : PySem.intText? ct = some c) (h3 : ct.length ≤ 640) (wl : w.length ≤ 10) : f__law_upright [.str t, .int m] S = .ok (upD (upr b w c)) S := by
  let ds : List D := (s ++ [signT b, ct]).map .str
  let ρ1 : Rho := [some (.val (.str t)), dI m, some (.val (.lst ds)), none, none, none]
  let ρ2 : Rho := [some (.val (.str t)), dI m, some (.val (.lst ds)), some (.val (.tup (dW w))), dI c, none]
  have k1 : sSet 2 (eN (splitN (eLook 0) (eC (.str " ")))) (rho0 6 [.str t, .int m]) S = .ok (.nx ρ1) S := by
    refine set_to ((split_to (a := t) rfl rfl (Nat.le_trans (Nat.add_le_add_right tl 2) (by decide))).trans ?_) (by show 2 < 6; decide)
    rw [hs]
  have k3 : sPX2 3 4 (xV (eFn 2 f__law_weights (aCons (eSl (eLook 2) oNo (oInt (e1 negD (eC (.int 2))))) (aCons (eVar 1) aNil))) (xV (eCall (g1 intD) (aCons (e2 ixD (eLook 2) (e1 negD (eC (.int 1)))) aNil)) xNil)) ρ1 S = .ok (.nx ρ2) S := by
    have x1 : eSl (eLook 2) oNo (oInt (e1 negD (eC (.int 2)))) ρ1 S = .ok (.lst (s.map .str)) S := by
      rcases l with ⟨a, rfl⟩ | ⟨a, a2, a3, rfl⟩ <;> with_unfolding_all rfl
    have x2 : e2 ixD (eLook 2) (e1 negD (eC (.int 1))) ρ1 S = .ok (.str ct) S := by
      rcases l with ⟨a, rfl⟩ | ⟨a, a2, a3, rfl⟩ <;> with_unfolding_all rfl
    have x3 : intD (.str ct) S = .ok (.int c) S := by
      show (if ct.length ≤ 640 then optM ((PySem.intText? ct).map D.int) else dv) S = _
      rw [if_pos h3, h2]; rfl
    exact bd_to (a := [.val (.tup (dW w)), .val (.int c)]) (S1 := S) (bd_to (call_to (acons_to x1 (acons_to rfl rfl)) rfl h1) (bd_to (bd_to (bd_to (acons_to x2 rfl) x3) (bd_to rfl rfl)) rfl)) rfl
  refine fn_rt (seq_nx k1 (seq_nx k3 ?_))
  cases b with
  | true =>
    refine seq_rt (if_t (S1 := S) ?_ (ret_to (tup_to (acons_to (d := .tup (dW w)) (S1 := S) rfl (acons_to (d := .int c) (S1 := S) rfl rfl)) (by show 2 ≤ PySem.sizeLine; decide))))
    rcases l with ⟨a, rfl⟩ | ⟨a, a2, a3, rfl⟩ <;> with_unfolding_all rfl
  | false =>
    refine seq_nx (ρ1 := ρ2) (S1 := S) (if_f (S1 := S) ?_ rfl) (ret_to (tup_to (ds := [.tup (dW (w.map (- ·))), .int (-c)]) (acons_to (d := .tup (dW (w.map (- ·)))) (S1 := S) (bd_to (acons_to (bd_to (lcn_to (ds := dW w) (S1 := S) rfl (by rw [dW_len]; exact Nat.le_trans wl (by decide)) (neg_lc w)) rfl) rfl) rfl) (acons_to (d := .int (-c)) (S1 := S) rfl rfl)) (by show 2 ≤ PySem.sizeLine; decide)))
    rcases l with ⟨a, rfl⟩ | ⟨a, a2, a3, rfl⟩ <;> with_unfolding_all rfl
def Ineq.up (r : Ineq) : List Int × Int := upr r.le r.w r.c
theorem gw_len {m : Nat} {w : List Int} (g : GW m w) : w.length = m := by cases g <;> rfl
theorem row_read {m : Nat} {r : Ineq} (hm : m = 1 ∨ m = 2) (g : Good m r) (S : Sto) : f_inequality_in [.str r.text, .int m] S = .ok (upD r.up) S ∧ f__law_upright [.str r.text, .int m] S = .ok (upD r.up) S ∧ r.text.length ≤ 40 ∧ 10 ∉ TL.tl r.text := by
  obtain ⟨o1, o2, o3⟩ := row_words g
  obtain ⟨gw, gc⟩ := g
  obtain ⟨e1, e2⟩ := sums_read gw S
  obtain ⟨-, -, l, -⟩ := sw_free gw
  have wl : r.w.length ≤ 10 := by rw [gw_len gw]; omega
  exact ⟨ineq_in o1 o2 (short_of l) e1 (signed_ok (bg_c gc) S) (by omega) wl, upright o1 o2 (short_of l) e2 (int_cT (bg_c gc)) (Nat.le_trans (cT_short gc) (by decide)) wl, o2, o3⟩
end LW

set_option Elab.async false
set_option linter.all false
set_option maxRecDepth 100000
set_option maxHeartbeats 4000000
namespace LW
open LS
def heads : Nat → List PySem.Str
  | 1 => ["x whole", "x any"]
  | 2 => ["x whole, y whole", "x whole, y any", "x any, y whole", "x any, y any"]
  | _ => []
def rowD (rs : List Ineq) : List D := rs.map (fun r => .str r.text)
theorem rowD_len (a : List Ineq) : (rowD a).length = a.length := by unfold rowD; rw [List.length_map]
/-! ### systems made -/
def kOf (b : Bool) : PySem.Str := if b = true then ("whole" : PySem.Str) else "any"
def kD (bs : List Bool) : List D := bs.map fun b => .str (kOf b)
theorem kD_len (bs : List Bool) : (kD bs).length = bs.length := by unfold kD; rw [List.length_map]
def letS (bs : List Bool) : PySem.Str := if bs.length = 1 then ("x" : PySem.Str) else "xy"
def solS (bs : List Bool) : PySem.Str := match bs with
  | [true] => ("x" : PySem.Str)
  | [true, true] => ("xy" : PySem.Str)
  | [true, false] => ("x" : PySem.Str)
  | [false, true] => ("y" : PySem.Str)
  | _ => ("" : PySem.Str)
structure HeadOk (m : Nat) (f : PySem.Str) (bs : List Bool) : Prop where
  many : bs.length = m
  short : f.length ≤ 20
  line : 10 ∉ TL.tl f
  unk : ∀ S, f_unknowns_in [.str f] S = .ok (.tup (kD bs)) S
  kin : ∀ a S, lcM (gNm 1) yes (e2 ixD (eN (splitN (eLook 1) (eC (.str " ")))) (eC (.int 1))) [a, none] ((PySem.Txt.split f (", " : PySem.Str)).map .str) S = .ok (kD bs) S
  kil : (PySem.Txt.split f (", " : PySem.Str)).length = m
  let_ : ∀ x a b S, eSl (eC (.str "xy")) oNo (oInt (eCall (g1 lenD) (aCons (eFldM 0 [(0, 1)]) aNil))) [some (.mak 0 [x, .tup (kD bs)]), a, b, none, none, none] S = .ok (.str (letS bs)) S
  sol : ∀ x l a b S, m2 joinD (eC (.str "")) (eN (lcN (iA zipM (aCons (eC (.str "xy")) (aCons (eFldM 0 [(0, 1)]) aNil))) (gTp 2 (gMore (gNm 3) (gMore (gNm 4) gNone))) (tB2 eqD (eLook 4) (eC (.str "whole"))) (eVar 3) [3, 4])) [some (.mak 0 [x, .tup (kD bs), l]), a, b, none, none, none] S = .ok (.str (solS bs)) S
theorem ho1 : HeadOk 1 "x whole" [true] := ⟨rfl, by decide, by decide +kernel, fun S => by with_unfolding_all rfl, fun a S => by with_unfolding_all rfl, by decide +kernel, fun x a b S => by with_unfolding_all rfl, fun x l a b S => by with_unfolding_all rfl⟩
theorem ho2 : HeadOk 1 "x any" [false] := ⟨rfl, by decide, by decide +kernel, fun S => by with_unfolding_all rfl, fun a S => by with_unfolding_all rfl, by decide +kernel, fun x a b S => by with_unfolding_all rfl, fun x l a b S => by with_unfolding_all rfl⟩
theorem ho3 : HeadOk 2 "x whole, y whole" [true, true] := ⟨rfl, by decide, by decide +kernel, fun S => by with_unfolding_all rfl, fun a S => by with_unfolding_all rfl, by decide +kernel, fun x a b S => by with_unfolding_all rfl, fun x l a b S => by with_unfolding_all rfl⟩
theorem ho4 : HeadOk 2 "x whole, y any" [true, false] := ⟨rfl, by decide, by decide +kernel, fun S => by with_unfolding_all rfl, fun a S => by with_unfolding_all rfl, by decide +kernel, fun x a b S => by with_unfolding_all rfl, fun x l a b S => by with_unfolding_all rfl⟩
theorem ho5 : HeadOk 2 "x any, y whole" [false, true] := ⟨rfl, by decide, by decide +kernel, fun S => by with_unfolding_all rfl, fun a S => by with_unfolding_all rfl, by decide +kernel, fun x a b S => by with_unfolding_all rfl, fun x l a b S => by with_unfolding_all rfl⟩
theorem ho6 : HeadOk 2 "x any, y any" [false, false] := ⟨rfl, by decide, by decide +kernel, fun S => by with_unfolding_all rfl, fun a S => by with_unfolding_all rfl, by decide +kernel, fun x a b S => by with_unfolding_all rfl, fun x l a b S => by with_unfolding_all rfl⟩
theorem head_ok {m : Nat} {f : PySem.Str} (hm : m = 1 ∨ m = 2) (h : f ∈ heads m) : ∃ bs, HeadOk m f bs := by
  rcases hm with rfl | rfl
  · simp only [heads, List.mem_cons, List.not_mem_nil, or_false] at h
    rcases h with rfl | rfl
    · exact ⟨_, ho1⟩
    · exact ⟨_, ho2⟩
  · simp only [heads, List.mem_cons, List.not_mem_nil, or_false] at h
    rcases h with rfl | rfl | rfl | rfl
    · exact ⟨_, ho3⟩
    · exact ⟨_, ho4⟩
    · exact ⟨_, ho5⟩
    · exact ⟨_, ho6⟩
variable {m : Nat} {f : PySem.Str} {bs : List Bool} {rs : List Ineq} {S : Sto}
theorem lkinds_ok (o : HeadOk m f bs) (ds : List D) (hm : m = 1 ∨ m = 2) : f__law_kinds [.lst (.str f :: ds)] S = .ok (.lst (kD bs)) S := by
  refine fn_rt (ret_to (bd_to (lcn_to (ds := (PySem.Txt.split f (", " : PySem.Str)).map .str) (S1 := S) (bd_to (split_to (e2_to rfl rfl ix0) rfl (Nat.le_trans (Nat.add_le_add_right o.short 2) (by decide))) rfl) ?_ (o.kin _ S)) rfl))
  rw [List.length_map, o.kil]
  rcases hm with rfl | rfl <;> decide
theorem wr_loop (hm : m = 1 ∨ m = 2) (hk : (kD bs).length = m) {R : Option Sl} : ∀ (rs : List Ineq) (k : Nat) (o1 o2 : Option Sl), (∀ r ∈ rs, Good m r) → ∃ p1 p2, forM (gTp 2 (gMore (gNm 2) (gMore (gNm 3) gNone))) (sIf (tAndB (tB2 gtD (eLook 2) (eC (.int 0))) (tB2 isNoneD (eFn 2 f_inequality_in (aCons (eVar 3) (aCons (eCall (g1 lenD) (aCons (eLook 1) aNil)) aNil))) (eC .non))) (sRet (eTup (aCons (eVar 2) aNil))) sNil) (enD (k + 1) (rowD rs)) [R, some (.val (.tup (kD bs))), o1, o2] S = .ok (.nx [R, some (.val (.tup (kD bs))), p1, p2]) S
  | [], k, o1, o2, _ => ⟨o1, o2, rfl⟩
  | r :: rs, k, o1, o2, g => by
    have h1 := (row_read hm (g r (List.mem_cons_self ..)) S).1
    rw [← hk] at h1
    obtain ⟨p1, p2, ih⟩ := wr_loop hm hk rs (k + 1) (some (.val (.int ((k + 1 : Nat) : Int)))) (some (.val (.str r.text))) fun x hx => g x (List.mem_cons_of_mem _ hx)
    exact ⟨p1, p2, for_cons (ρ1 := [R, some (.val (.tup (kD bs))), some (.val (.int ((k + 1 : Nat) : Int))), some (.val (.str r.text))]) (S1 := S) rfl (if_f (S1 := S) (and_t (S1 := S) (int_gt rfl rfl (decide_eq_true (by omega))) (tb2_to (call_to (acons_to rfl (acons_to (len_tup rfl) rfl)) rfl h1) rfl rfl)) rfl) ih⟩
theorem wrong_ok (hm : m = 1 ∨ m = 2) (o : HeadOk m f bs) (g : ∀ r ∈ rs, Good m r) (hl : rs.length ≤ 6) {R : D} (hR : R = .lst (.str f :: rowD rs) ∨ R = .tup (.str f :: rowD rs)) : f_wrong_rows [R] S = .ok (.tup []) S := by
  have hk : (kD bs).length = m := by rw [kD_len, o.many]
  have lenR : eCall (g1 lenD) (aCons (eLook 0) aNil) [some (.val R), none, none, none] S = .ok (.int ((D.str f :: rowD rs).length : Nat)) S := by rcases hR with rfl | rfl <;> rfl
  have ixR : ixD R (.int 0) S = .ok (.str f) S := by
    rcases hR with rfl | rfl
    · exact ix0
    · exact ix0t
  have enR : enM [R] S = .ok (enD 0 (.str f :: rowD rs)) S := by rcases hR with rfl | rfl <;> rfl
  have ll : ((D.str f :: rowD rs).length : Int) ≤ 7 := by rw [List.length_cons, rowD_len]; omega
  have l0 : (1 : Int) ≤ ((D.str f :: rowD rs).length : Int) := by rw [List.length_cons]; omega
  obtain ⟨p1, p2, lp⟩ := wr_loop (S := S) hm hk (R := some (.val R)) rs 0 (some (.val (.int 0))) (some (.val (.str f))) g
  exact fn_rt (seq_nx (ρ1 := [some (.val R), none, none, none]) (S1 := S) (if_f (S1 := S) (not_to (k := true) (S1 := S) (tch_to (c := 11) rfl lenR rfl l0 (by omega))) rfl)
    (seq_nx (ρ1 := [some (.val R), some (.val (.tup (kD bs))), none, none]) (S1 := S) (set_to (call_to (acons_to (e2_to rfl rfl ixR) rfl) rfl (o.unk S)) (by show 1 < 4; decide))
    (seq_nx (ρ1 := [some (.val R), some (.val (.tup (kD bs))), none, none]) (S1 := S) (if_f (S1 := S) rfl rfl)
    (seq_nx (for_to (bd_to (acons_to rfl rfl) enR) (for_cons (ρ1 := [some (.val R), some (.val (.tup (kD bs))), some (.val (.int 0)), some (.val (.str f))]) (S1 := S) rfl (if_f (S1 := S) (and_f (S1 := S) (int_gt (a := 0) (b := 0) rfl rfl rfl)) rfl) lp)) (ret_to rfl)))))
def bndD (rs : List Ineq) : List D := rs.map fun r => upD r.up
theorem bndD_len : (bndD rs).length = rs.length := by unfold bndD; rw [List.length_map]
theorem init_x (hm : m = 1 ∨ m = 2) (o : HeadOk m f bs) (g : ∀ r ∈ rs, Good m r) (hl : rs.length ≤ 6) : f_System_init (.str f :: rowD rs) S = .ok [.tup (.str f :: rowD rs), .tup (kD bs), .str (letS bs), .str (solS bs), .tup (bndD rs)] S := by
  have hk : (kD bs).length = m := by rw [kD_len, o.many]
  let I : D := .tup (.str f :: rowD rs)
  let l : D := .str (letS bs)
  let s : D := .str (solS bs)
  have el := o.let_ I (some (.val I)) (some (.val (.tup []))) S
  have es := o.sol I l (some (.val I)) (some (.val (.tup []))) S
  unfold f_System_init
  rw [if_pos (by rw [List.length_cons, rowD_len]; exact Nat.le_trans (Nat.add_le_add_right hl 1) (by decide))]
  have bnd : eCall (g1 tupleD) (aCons (eN (lcN (iE (eSl (eLook 1) (oInt (eC (.int 1))) oNo)) (gNm 5) yes (eFn 2 f_inequality_in (aCons (eVar 5) (aCons (eCall (g1 lenD) (aCons (eFldM 0 [(0, 1)]) aNil)) aNil))) [5])) aNil) [some (.mak 0 [I, .tup (kD bs), l, s]), some (.val I), some (.val (.tup [])), none, none, none] S = .ok (.tup (bndD rs)) S := by
    refine bd_to (acons_to (bd_to (lcn_to (ds := rowD rs) (S1 := S) (bd_to (slT1 rfl) rfl) (by rw [rowD_len]; exact Nat.le_trans hl (by decide)) (lc_map (q := fun r => upD r.up) fun r hr => ⟨[some (.mak 0 [I, .tup (kD bs), l, s]), some (.val I), some (.val (.tup [])), none, none, some (.val (.str r.text))], rfl, rfl, ?_⟩)) rfl) rfl) rfl
    have h1 := (row_read hm (g r hr) S).1
    rw [← hk] at h1
    exact call_to (acons_to rfl (acons_to (len_tup rfl) rfl)) rfl h1
  refine bd_to (a := .nx [some (.mak 0 [I, .tup (kD bs), l, s, .tup (bndD rs)]), some (.val I), some (.val (.tup [])), none, none, none]) (S1 := S) ?_ rfl
  exact seq_nx (ρ1 := [some (.mak 0 []), some (.val I), some (.val (.tup [])), none, none, none]) (S1 := S) (set_to (call_to (acons_to rfl rfl) rfl (wrong_ok hm o g hl (.inr rfl))) (by show 2 < 6; decide))
    (seq_nx (ρ1 := [some (.mak 0 []), some (.val I), some (.val (.tup [])), none, none, none]) (S1 := S) (if_f (S1 := S) rfl rfl)
    (seq_nx (ρ1 := [some (.mak 0 [I]), some (.val I), some (.val (.tup [])), none, none, none]) (S1 := S) (bd_to (a := I) (S1 := S) rfl rfl)
    (seq_nx (ρ1 := [some (.mak 0 [I, .tup (kD bs)]), some (.val I), some (.val (.tup [])), none, none, none]) (S1 := S) (bd_to (call_to (acons_to (e2_to rfl rfl ix0t) rfl) rfl (o.unk S)) rfl)
    (seq_nx (ρ1 := [some (.mak 0 [I, .tup (kD bs), l]), some (.val I), some (.val (.tup [])), none, none, none]) (S1 := S) (bd_to el rfl)
    (seq_nx (ρ1 := [some (.mak 0 [I, .tup (kD bs), l, s]), some (.val I), some (.val (.tup [])), none, none, none]) (S1 := S) (bd_to es rfl) (bd_to bnd rfl))))))
theorem init_ok (hm : m = 1 ∨ m = 2) (o : HeadOk m f bs) (g : ∀ r ∈ rs, Good m r) (hl : rs.length ≤ 6) : ∃ l s, f_System_init (.str f :: rowD rs) S = .ok [.tup (.str f :: rowD rs), .tup (kD bs), l, s, .tup (bndD rs)] S := ⟨_, _, init_x hm o g hl⟩
def sysD (f : PySem.Str) (bs : List Bool) (rs : List Ineq) : D := .obj 0 [.tup (.str f :: rowD rs), .tup (kD bs), .str (letS bs), .str (solS bs), .tup (bndD rs)]
/-! the text of a system and its rows -/
theorem strs_rows : ∀ rs : List Ineq, strsO (rowD rs) = some (rs.map Ineq.text)
  | [] => rfl
  | r :: rs => by
    show (strsO (rowD rs)).map (r.text :: ·) = _
    rw [strs_rows rs]; rfl
theorem rows_str (rs : List Ineq) : (rs.map Ineq.text).map D.str = rowD rs := by unfold rowD; rw [List.map_map]; rfl
theorem sum_le : ∀ ts : List PySem.Str, (∀ t ∈ ts, t.length ≤ 40) → (ts.map (·.length)).sum ≤ 40 * ts.length
  | [], _ => Nat.le_refl _
  | t :: ts, h => by
    have := h t (List.mem_cons_self ..)
    have := sum_le ts fun x hx => h x (List.mem_cons_of_mem _ hx)
    rw [List.map_cons, List.sum_cons, List.length_cons]; omega
theorem join_len (y : PySem.Str) : ∀ ts : List PySem.Str, (PySem.Str.join y ts).length ≤ (ts.map (·.length)).sum + ts.length * y.length
  | [] => Nat.zero_le _
  | [t] => by
    show t.length ≤ _
    simp
  | t :: u :: ts => by
    have ih := join_len y (u :: ts)
    show (t ++ y ++ PySem.Str.join y (u :: ts)).length ≤ _
    rw [len_app, len_app, List.map_cons, List.sum_cons, List.length_cons, Nat.add_mul]
    omega
def IsSys (sys : D) (bs : List Bool) (rs : List Ineq) : Prop := ∃ a l s, sys = .obj 0 [a, .tup (kD bs), l, s, .tup (bndD rs)]
/-- the text of a system -/
def sheet (f : PySem.Str) (rs : List Ineq) : PySem.Str := PySem.Txt.join ("\n" : PySem.Str) (f :: rs.map Ineq.text)
theorem sheet_facts (hm : m = 1 ∨ m = 2) (o : HeadOk m f bs) (g : ∀ r ∈ rs, Good m r) (hl : rs.length ≤ 6) : (sheet f rs).length ≤ 300 ∧ PySem.Txt.split (sheet f rs) ("\n" : PySem.Str) = f :: rs.map Ineq.text ∧ (∀ S, joinD (.str "\n") (.lst (.str f :: rowD rs)) S = .ok (.str (sheet f rs)) S) ∧ ∀ S, joinD (.str "\n") (.tup (.str f :: rowD rs)) S = .ok (.str (sheet f rs)) S := by
  let ts := f :: rs.map Ineq.text
  have tl : ts.length = rs.length + 1 := by show (f :: rs.map Ineq.text).length = _; rw [List.length_cons, List.length_map]
  have t40 : ∀ t ∈ ts, t.length ≤ 40 := fun t ht => by
    rcases List.mem_cons.mp ht with rfl | ht
    · exact Nat.le_trans o.short (by decide)
    · obtain ⟨r, hr, rfl⟩ := List.mem_map.mp ht
      exact (row_read hm (g r hr) []).2.2.1
  have tn : ∀ t ∈ ts, 10 ∉ TL.tl t := fun t ht => by
    rcases List.mem_cons.mp ht with rfl | ht
    · exact o.line
    · obtain ⟨r, hr, rfl⟩ := List.mem_map.mp ht
      exact (row_read hm (g r hr) []).2.2.2
  have sm := sum_le ts t40
  have y1 : ("\n" : PySem.Str).length = 1 := rfl
  let x : PySem.Str := PySem.Txt.join ("\n" : PySem.Str) ts
  have xl : x.length ≤ 300 := by
    have := join_len ("\n" : PySem.Str) ts
    rw [← TL.join_eq, y1] at this
    show (PySem.Txt.join ("\n" : PySem.Str) ts).length ≤ 300
    omega
  have xs : PySem.Txt.split x ("\n" : PySem.Str) = ts := TL.split_join (s := 10) (S := []) (by decide +kernel) (by decide +kernel) (by simp [ts]) tn
  have ed : ts.map D.str = .str f :: rowD rs := by show (f :: rs.map Ineq.text).map D.str = _; rw [List.map_cons, rows_str]
  refine ⟨xl, xs, fun S => ?_, fun S => ?_⟩
  · show (match (strsO (rowD rs)).map (f :: ·) with | some ts => _ | none => _) = _
    rw [strs_rows]
    show (if (ts.map (·.length)).sum + ts.length * ("\n" : PySem.Str).length ≤ 16777216 then Res.ok (D.str (PySem.Txt.join ("\n" : PySem.Str) ts)) S else .div) = _
    rw [if_pos (by rw [y1]; omega)]; rfl
  · show (match (strsO (rowD rs)).map (f :: ·) with | some ts => _ | none => _) = _
    rw [strs_rows]
    show (if (ts.map (·.length)).sum + ts.length * ("\n" : PySem.Str).length ≤ 16777216 then Res.ok (D.str (PySem.Txt.join ("\n" : PySem.Str) ts)) S else .div) = _
    rw [if_pos (by rw [y1]; omega)]; rfl
/-- a sheet read -/
theorem read_x (hm : m = 1 ∨ m = 2) (o : HeadOk m f bs) (g : ∀ r ∈ rs, Good m r) (hl : rs.length ≤ 6) : f_System_read [.str (sheet f rs)] S = .ok (sysD f bs rs) S := by
  obtain ⟨xl, xs, -, -⟩ := sheet_facts hm o g hl
  have e := init_x (S := S) hm o g hl
  have ed : (f :: rs.map Ineq.text).map D.str = .str f :: rowD rs := by rw [List.map_cons, rows_str]
  refine bd_to (a := .rt (sysD f bs rs)) (S1 := S) ?_ rfl
  refine seq_nx (ρ1 := [none, some (.val (.str (sheet f rs))), some (.val (.lst (.str f :: rowD rs)))]) (S1 := S) (set_to (eif_t (S1 := S) rfl ((split_to (a := sheet f rs) rfl rfl (Nat.le_trans (Nat.add_le_add_right xl 2) (by decide))).trans (by rw [xs, ed]))) (by show 2 < 3; decide)) ?_
  refine seq_nx (ρ1 := [none, some (.val (.str (sheet f rs))), some (.val (.lst (.str f :: rowD rs)))]) (S1 := S) (if_f (S1 := S) (bd_to (call_to (acons_to rfl rfl) rfl (wrong_ok hm o g hl (.inl rfl))) rfl) rfl) ?_
  refine ret_to (bd_to (a := .str f :: rowD rs) (S1 := S) rfl ?_)
  show bd (f_System_init (.str f :: rowD rs)) _ S = _
  exact bd_to e rfl
theorem made_x (hm : m = 1 ∨ m = 2) (o : HeadOk m f bs) (g : ∀ r ∈ rs, Good m r) (hl : rs.length ≤ 6) : f__law_made [.lst (.str f :: rowD rs)] S = .ok (sysD f bs rs) S := by
  obtain ⟨-, -, j, -⟩ := sheet_facts hm o g hl
  exact fn_rt (ret_to (call_to (acons_to (d := .str (sheet f rs)) (S1 := S) (j S) rfl) rfl (read_x hm o g hl)))
theorem made_ok (hm : m = 1 ∨ m = 2) (o : HeadOk m f bs) (g : ∀ r ∈ rs, Good m r) (hl : rs.length ≤ 6) : ∃ sys, f__law_made [.lst (.str f :: rowD rs)] S = .ok sys S ∧ IsSys sys bs rs := ⟨_, made_x hm o g hl, _, _, _, rfl⟩
theorem uprights_ok (hm : m = 1 ∨ m = 2) (o : HeadOk m f bs) (g : ∀ r ∈ rs, Good m r) (hl : rs.length ≤ 6) : f__law_uprights [.lst (.str f :: rowD rs)] S = .ok (.lst (bndD rs)) S := by
  have hk : (kD bs).length = m := by rw [kD_len, o.many]
  refine fn_rt (seq_nx (ρ1 := [some (.val (.lst (.str f :: rowD rs))), dI m, none]) (S1 := S) (set_to ((len_lst (call_to (acons_to rfl rfl) rfl (lkinds_ok o _ hm))).trans (by rw [hk])) (by show 1 < 3; decide)) (ret_to (bd_to (lcn_to (ds := rowD rs) (S1 := S) (bd_to (slL1 rfl) rfl) (by rw [rowD_len]; exact Nat.le_trans hl (by decide)) (lc_map (q := fun r => upD r.up) fun r hr => ⟨[some (.val (.lst (.str f :: rowD rs))), dI m, some (.val (.str r.text))], rfl, rfl, ?_⟩)) rfl)))
  exact call_to (acons_to rfl (acons_to rfl rfl)) rfl (row_read hm (g r hr) S).2.1
end LW

set_option Elab.async false
set_option linter.all false
set_option maxRecDepth 100000
set_option maxHeartbeats 4000000
namespace LW
open LS
theorem nol_keep {S S' : Sto} {n : Nat} {u : Int} (h : S.all Ob.nol = true) (r : Rest S S' n) (s : Spr S' n u) : S'.all Ob.nol = true := by
  rw [List.all_eq_true] at *
  intro o m
  obtain ⟨i, l, e⟩ := List.getElem_of_mem m
  have e2 : S'[i]? = some o := by rw [List.getElem?_eq_getElem l, e]
  by_cases q : i = n
  · subst q
    obtain ⟨a, b, c, k, _⟩ := s
    rw [k] at e2
    cases e2
    rfl
  · rw [r.2 i q] at e2
    exact h o (List.mem_of_getElem? e2)
theorem Spr.le {S : Sto} {n : Nat} {u v : Int} (h : Spr S n u) (l : u ≤ v) : Spr S n v := by
  obtain ⟨a, m, c, k, q1, q2, q3, q4, q5⟩ := h
  exact ⟨a, m, c, k, q1, q2, q3, q4, by omega⟩
theorem first_ok {S : Sto} {n : Nat} {u : Int} (h : Spr S n u) (hu : u < 2 ^ 59) :
    ∃ f S', f__law_first_row [.ref n] S = .ok (.str f) S' ∧ (f ∈ heads 1 ∨ f ∈ heads 2) ∧ Spr S' n (u + 1) ∧ Rest S S' n := by
  obtain ⟨d, S1, e1, m1, sp1, r1⟩ := of_ok (ds := [.str "x whole, y whole", .str "x whole, y whole", .str "x whole, y whole", .str "x whole", .str "x any", .str "x whole, y any", .str "x any, y whole", .str "x any, y any"]) h (by omega) (by decide) (by decide)
  have key : ∃ f : PySem.Str, d = .str f ∧ (f ∈ heads 1 ∨ f ∈ heads 2) := by
    simp only [List.mem_cons, List.not_mem_nil, or_false] at m1
    rcases m1 with rfl | rfl | rfl | rfl | rfl | rfl | rfl | rfl
    · exact ⟨_, rfl, .inr (by simp [heads])⟩
    · exact ⟨_, rfl, .inr (by simp [heads])⟩
    · exact ⟨_, rfl, .inr (by simp [heads])⟩
    · exact ⟨_, rfl, .inl (by simp [heads])⟩
    · exact ⟨_, rfl, .inl (by simp [heads])⟩
    · exact ⟨_, rfl, .inr (by simp [heads])⟩
    · exact ⟨_, rfl, .inr (by simp [heads])⟩
    · exact ⟨_, rfl, .inr (by simp [heads])⟩
  obtain ⟨f, rfl, hf⟩ := key
  exact ⟨f, S1, fn_rt (seq_nx (ρ1 := [some (.val (.ref n)), some (.val (.lst [.str "x whole, y whole", .str "x whole, y whole", .str "x whole, y whole", .str "x whole", .str "x any", .str "x whole, y any"]))]) rfl (ret_to (call_to (acons_to rfl (acons_to rfl rfl)) rfl e1))), hf, sp1, r1⟩
theorem heads_len : ∀ m, m = 1 ∨ m = 2 → ∀ f ∈ heads m, ((PySem.Txt.split f (", " : PySem.Str)).length = m ∧ f.length ≤ 20) := by
  intro m hm
  rcases hm with rfl | rfl <;> decide +kernel
theorem cat_to {fa fb : Ev} {ρ : Rho} {S S1 S2 : Sto} {xs ys : List D} (h : fa ρ S = .ok (.lst xs) S1) (q : fb ρ S1 = .ok (.lst ys) S2) (l : xs.length + ys.length ≤ PySem.sizeLine) : eN (n2 catN fa fb) ρ S = .ok (.lst (xs ++ ys)) S2 :=
  bd_to (a := xs ++ ys) (S1 := S2) (bd_to h (bd_to q (by show (if xs.length + ys.length ≤ PySem.sizeLine then ret (xs ++ ys) else dv) S2 = _; rw [if_pos l]; rfl))) rfl
def K62 (j : Int) : M (List D) := if -(2 ^ 62) ≤ j ∧ j < 2 ^ 62 then ret (rngD 0 j.toNat) else dv
theorem rng1_k (d : D) : rng1M [d] = intM d K62 := rfl
theorem intM_k (j : Int) (k : Int → M (List D)) : intM (.int j) k = k j := rfl
theorem k62 {c : Nat} {S : Sto} (p : -(2 ^ 62) ≤ (c : Int) ∧ (c : Int) < 2 ^ 62) : K62 c S = .ok (rngD 0 c) S := by
  unfold K62
  rw [if_pos p, Int.toNat_natCast]
  unfold ret
  exact Eq.refl _
theorem rng1_to {c : Nat} {S : Sto} (p : c ≤ 100) : rng1M [.int c] S = .ok (rngD 0 c) S := by
  have q : -(2 ^ 62) ≤ (c : Int) ∧ (c : Int) < 2 ^ 62 := by omega
  rw [rng1_k, intM_k, k62 q]
theorem rng_len (k : Int) (c : Nat) : (rngD k c).length = c := by unfold rngD; simp
/-! ### what is drawn -/
theorem var_to {i : Nat} {ρ : Rho} {d : D} {S : Sto} (h : ρ[i]? = some (some (.val d))) : eVar i ρ S = .ok d S := by unfold eVar; rw [h]; rfl
theorem look_to {i : Nat} {ρ : Rho} {d : D} {S : Sto} (h : ρ[i]? = some (some (.val d))) : eLook i ρ S = .ok d S := by unfold eLook; rw [h]; rfl
section
variable {S : Sto} {n : Nat} {u z : Int} {ρ : Rho}
theorem drawE (h : Spr S n u) (hu : u < 2 ^ 60) (z0 : 0 < z) (z1 : z < 1073741824) (h0 : ρ[0]? = some (some (.val (.ref n)))) {fz : Ev} (hz : ∀ S, fz ρ S = .ok (.int z) S) :
    ∃ v S', eFn 2 f__law_draw (aCons (eVar 0) (aCons fz aNil)) ρ S = .ok (.int v) S' ∧ 0 ≤ v ∧ v < z ∧ Spr S' n (u + 1) ∧ Rest S S' n := by
  obtain ⟨v, S', e, a, b, sp, r⟩ := draw_ok h hu z0 z1
  exact ⟨v, S', call_to (acons_to (var_to h0) (acons_to (hz S) rfl)) rfl e, a, b, sp, r⟩
theorem dsubE (c : Int) (h : Spr S n u) (hu : u < 2 ^ 60) (z0 : 0 < z) (z1 : z < 1073741824) (h0 : ρ[0]? = some (some (.val (.ref n)))) :
    ∃ v S', e2 subD (eFn 2 f__law_draw (aCons (eVar 0) (aCons (eC (.int z)) aNil))) (eC (.int c)) ρ S = .ok (.int v) S' ∧ -c ≤ v ∧ v < z - c ∧ Spr S' n (u + 1) ∧ Rest S S' n := by
  obtain ⟨v, S', e, a, b, sp, r⟩ := drawE h hu z0 z1 h0 (fz := eC (.int z)) (fun _ => rfl)
  exact ⟨v - c, S', e2_to e rfl rfl, by omega, by omega, sp, r⟩
theorem pair2 {f g : Ev} {x y : D} {S1 S2 : Sto} (h : f ρ S = .ok x S1) (k : g ρ S1 = .ok y S2) : eN (nLst (aCons f (aCons g aNil))) ρ S = .ok (.lst [x, y]) S2 :=
  bd_to (a := [x, y]) (S1 := S2) (bd_to (acons_to h (acons_to k rfl)) rfl) rfl
theorem eqz_t {f : Ev} {d c : Int} {S1 : Sto} (h : f ρ S = .ok (.int d) S1) (e : d = c) : tB2 eqD f (eC (.int c)) ρ S = .ok true S1 := tb2_to h rfl (by subst e; show blO (some (d == d)) S1 = _; rw [beq_self_eq_true]; rfl)
theorem eqz_f {f : Ev} {d c : Int} {S1 : Sto} (h : f ρ S = .ok (.int d) S1) (e : ¬ d = c) : tB2 eqD f (eC (.int c)) ρ S = .ok false S1 := tb2_to h rfl (by show blO (some (d == c)) S1 = _; rw [beq_false_of_ne e]; rfl)
/-- two weights -/
theorem two_end {a b : Int} {o0 o2 : Option Sl} (ha : a.natAbs ≤ 99) (hb : b.natAbs ≤ 99) : ∃ c : Int, sRet (eIf (tB2 eqD (e2 ixD (eLook 1) (eC (.int 1))) (eC (.int 0))) (eTup (aCons (e2 ixD (eLook 1) (eC (.int 0))) (aCons (eC (.int 6)) aNil))) (eCall (g1 tupleD) (aCons (eLook 1) aNil))) [o0, some (.val (.lst [.int a, .int b])), o2] S = .ok (.rt (.tup [.int a, .int c])) S ∧ c ≠ 0 ∧ c.natAbs ≤ 99 := by
  by_cases c : b = 0
  · exact ⟨6, ret_to (eif_t (S1 := S) (eq_int (v := b) (k := 0) rfl rfl (decide_eq_true c)) rfl), by decide, by decide⟩
  · exact ⟨b, ret_to (eif_f (S1 := S) (eq_int (v := b) (k := 0) rfl rfl (decide_eq_false c)) rfl), c, hb⟩
theorem two_ok (h : Spr S n u) (hu : u < 2 ^ 58) : ∃ (a b : Int) (S' : Sto), f__law_two [.ref n] S = .ok (.tup [.int a, .int b]) S' ∧ a.natAbs ≤ 99 ∧ b.natAbs ≤ 99 ∧ b ≠ 0 ∧ Spr S' n (u + 6) ∧ Rest S S' n := by
  let R : Option Sl := some (.val (.ref n))
  obtain ⟨a, S1, e1, a0, a1, sp1, r1⟩ := dsubE (z := 199) (ρ := [R, none, none]) 99 h (by omega) (by decide) (by decide) rfl
  obtain ⟨b, S2, e2, b0, b1, sp2, r2⟩ := dsubE (z := 199) (ρ := [R, none, none]) 99 sp1 (by omega) (by decide) (by decide) rfl
  obtain ⟨d, S3, e3, d0, d1, sp3, r3⟩ := drawE (z := 3) (ρ := [R, some (.val (.lst [.int a, .int b])), none]) sp2 (by omega) (by decide) (by decide) rfl (fz := eC (.int 3)) (fun _ => rfl)
  have k1 : sSet 1 (eN (nLst (aCons (LS.e2 subD (eFn 2 f__law_draw (aCons (eVar 0) (aCons (eC (.int 199)) aNil))) (eC (.int 99))) (aCons (LS.e2 subD (eFn 2 f__law_draw (aCons (eVar 0) (aCons (eC (.int 199)) aNil))) (eC (.int 99))) aNil)))) [R, none, none] S = .ok (.nx [R, some (.val (.lst [.int a, .int b])), none]) S2 := set_to (pair2 e1 e2) (by show 1 < 3; decide)
  by_cases c : d = 0
  · obtain ⟨t, S4, e4, m4, sp4, r4⟩ := of_ok (ds := [.int 2, .int 3, .int 5, .int 7, .int 11]) sp3 (by omega) (by decide) (by decide)
    obtain ⟨k, rfl, k0, kb⟩ : ∃ k : Int, t = .int k ∧ 0 < k ∧ k ≤ 11 := by
      simp only [List.mem_cons, List.not_mem_nil, or_false] at m4
      rcases m4 with rfl | rfl | rfl | rfl | rfl
      · exact ⟨2, rfl, by decide, by decide⟩
      · exact ⟨3, rfl, by decide, by decide⟩
      · exact ⟨5, rfl, by decide, by decide⟩
      · exact ⟨7, rfl, by decide, by decide⟩
      · exact ⟨11, rfl, by decide, by decide⟩
    obtain ⟨p, S5, e5, p0, p1, sp5, r5⟩ := dsubE (z := 17) (ρ := [R, some (.val (.lst [.int a, .int b])), dI k]) 8 sp4 (by omega) (by decide) (by decide) rfl
    obtain ⟨q, S6, e6, q0, q1, sp6, r6⟩ := dsubE (z := 17) (ρ := [R, some (.val (.lst [.int a, .int b])), dI k]) 8 sp5 (by omega) (by decide) (by decide) rfl
    have hp : (k * p).natAbs ≤ 99 := Nat.le_trans (nab_mul (A := 11) (B := 8) (by omega) (by omega)) (by decide)
    have hq : (k * q).natAbs ≤ 99 := Nat.le_trans (nab_mul (A := 11) (B := 8) (by omega) (by omega)) (by decide)
    obtain ⟨y, ey, y0, y1⟩ := two_end (S := S6) (o0 := R) (o2 := dI k) hp hq
    have kb2 : Bg k := bg_c (by omega)
    refine ⟨k * p, y, S6, fn_rt (seq_nx k1 (seq_nx (ρ1 := [R, some (.val (.lst [.int (k * p), .int (k * q)])), dI k]) (if_t (S1 := S3) (eqz_t e3 c) (seq_nx (ρ1 := [R, some (.val (.lst [.int a, .int b])), dI k]) (S1 := S4) (set_to (call_to (acons_to rfl (acons_to rfl rfl)) rfl e4) (by show 2 < 3; decide)) (set_to (pair2 (S1 := S5) (e2_to rfl e5 (mulB kb2 (bg_c (by omega)))) (e2_to rfl e6 (mulB kb2 (bg_c (by omega))))) (by show 1 < 3; decide)))) ey)), hp, y1, y0, sp6.le (by omega), r1.trans (r2.trans (r3.trans (r4.trans (r5.trans r6))))⟩
  · obtain ⟨y, ey, y0, y1⟩ := two_end (S := S3) (o0 := R) (o2 := none) (a := a) (b := b) (by omega) (by omega)
    refine ⟨a, y, S3, fn_rt (seq_nx k1 (seq_nx (ρ1 := [R, some (.val (.lst [.int a, .int b])), none]) (if_f (S1 := S3) (eqz_f e3 c) rfl) ey)), by omega, y1, y0, sp3.le (by omega), r1.trans (r2.trans r3)⟩
end
end LW

set_option Elab.async false
set_option linter.all false
set_option maxRecDepth 100000
set_option maxHeartbeats 4000000
namespace LW
open LS
section
variable {S : Sto} {n : Nat} {u z : Int} {ρ : Rho}
theorem mil_to : e2 powD (eC (.int 10)) (eC (.int 6)) ρ S = .ok (.int 1000000) S := rfl
theorem great_ok (h : Spr S n u) (hu : u < 2 ^ 58) : ∃ (c : Int) (S' : Sto), f__law_great [.ref n] S = .ok (.int c) S' ∧ c.natAbs ≤ 1000000 ∧ Spr S' n (u + 4) ∧ Rest S S' n := by
  let R : Option Sl := some (.val (.ref n))
  obtain ⟨a, S1, e1, a0, a1, sp1, r1⟩ := dsubE (z := 40) (ρ := [R, none]) 20 h (by omega) (by decide) (by decide) rfl
  obtain ⟨b, S2, e2, b0, b1, sp2, r2⟩ := drawE (z := 1000000) (ρ := [R, none]) sp1 (by omega) (by decide) (by decide) rfl (fz := LS.e2 powD (eC (.int 10)) (eC (.int 6))) (fun _ => mil_to)
  obtain ⟨d, S3, e3, d0, d1, sp3, r3⟩ := drawE (z := 1000000) (ρ := [R, none]) sp2 (by omega) (by decide) (by decide) rfl (fz := LS.e2 powD (eC (.int 10)) (eC (.int 6))) (fun _ => mil_to)
  obtain ⟨t, S4, e4, m4, sp4, r4⟩ := of_ok (ds := [.int a, .int b, .int (0 - d), .int 1000000, .int (0 - 1000000)]) sp3 (by omega) (by show 0 < 5; decide) (by show 5 < 1073741824; decide)
  obtain ⟨c, rfl, hc⟩ : ∃ c : Int, t = .int c ∧ c.natAbs ≤ 1000000 := by
    simp only [List.mem_cons, List.not_mem_nil, or_false] at m4
    rcases m4 with rfl | rfl | rfl | rfl | rfl
    · exact ⟨_, rfl, by omega⟩
    · exact ⟨_, rfl, by omega⟩
    · exact ⟨_, rfl, by omega⟩
    · exact ⟨_, rfl, by decide⟩
    · exact ⟨_, rfl, by decide⟩
  let ρ1 : Rho := [R, some (.val (.lst [.int a, .int b, .int (0 - d)]))]
  have k2 : eN (nLst (aCons (LS.e2 powD (eC (.int 10)) (eC (.int 6))) (aCons (LS.e2 subD (eC (.int 0)) (LS.e2 powD (eC (.int 10)) (eC (.int 6)))) aNil))) ρ1 S3 = .ok (.lst [.int 1000000, .int (0 - 1000000)]) S3 := pair2 (S1 := S3) mil_to (e2_to (S1 := S3) rfl mil_to rfl)
  refine ⟨c, S4, fn_rt (seq_nx (ρ1 := ρ1) (S1 := S3) (set_to (bd_to (a := [.int a, .int b, .int (0 - d)]) (S1 := S3) (bd_to (acons_to e1 (acons_to e2 (acons_to (e2_to rfl e3 rfl) rfl))) rfl) rfl) (by show 1 < 2; decide)) (ret_to (call_to (acons_to (d := .ref n) (S1 := S3) rfl (acons_to (cat_to (fa := eLook 1) (xs := [.int a, .int b, .int (0 - d)]) (S1 := S3) rfl k2 (by show 3 + 2 ≤ PySem.sizeLine; decide)) rfl)) rfl e4))), hc, sp4.le (by omega), r1.trans (r2.trans (r3.trans r4))⟩
theorem row_text {m : Nat} {w : List Int} {b : Bool} {c : Int} (g : GW m w) (hc : c.natAbs ≤ 1000000) : f__law_row_text [.lst (dW w), .str (signT b), .int c] S = .ok (.str (Ineq.text ⟨w, b, c⟩)) S := by
  obtain ⟨-, -, -, l, -⟩ := sw_free g
  have lc := cT_short hc
  have ls : (signT b).length = 2 := by cases b <;> rfl
  have l1 : (" " : PySem.Str).length = 1 := rfl
  have e0 : eFn 1 f__law_sum_text (aCons (eVar 0) aNil) (rho0 3 [.lst (dW w), .str (signT b), .int c]) S = .ok (.str (sumT w)) S := call_to (acons_to rfl rfl) rfl (sum_text g S)
  refine fn_rt (ret_to (e2_to (S1 := S) (S2 := S) (e2_to (y := .str " ") (S1 := S) (S2 := S) (e2_to (y := .str (signT b)) (S1 := S) (S2 := S) (e2_to (y := .str " ") (S2 := S) e0 rfl (add_str ?_)) rfl (add_str ?_)) rfl (add_str ?_)) (bd_to (acons_to (d := .int c) (S1 := S) rfl rfl) (str_cT (bg_c hc) S)) (add_str ?_)))
  · exact Nat.le_trans (by rw [l1]; omega) sl1000
  · rw [len_app]; exact Nat.le_trans (by rw [l1]; omega) sl1000
  · rw [len_app, len_app]; exact Nat.le_trans (by rw [l1]; omega) sl1000
  · rw [len_app, len_app, len_app]; exact Nat.le_trans (by rw [l1]; omega) sl1000
/-! equality of lists of integers -/
theorem eq_one (a : Int) : eqD (.lst [.int a]) (.lst [.int 0]) S = .ok (.bl (decide (a = 0))) S := by
  show blO (eqP (.lst [.int a]) (.lst [.int 0])) S = _
  have e : ∀ i : Int, toPy (.lst [.int i]) = some (.list [.int i]) := fun i => by simp [toPy, toPys]
  have s : ∀ i : Int, PySem.SeqAt.shaped (.list [.int i]) = true := fun i => by simp [PySem.SeqAt.shaped, PySem.PyData.canLay0, PySem.PyData.canLayAll0, PySem.PyData.depth, PySem.PyData.depthAll]
  unfold eqP
  rw [e, e]
  simp only [s, Bool.and_self, if_true]
  by_cases c : a = 0
  · subst c; rfl
  · have z : PySem.PyData.eqv (.list [.int a]) (.list [.int 0]) = false := by simp [PySem.PyData.eqv, PySem.PyData.eqvAll, c]
    rw [z, decide_eq_false c]; rfl
theorem eq_two (a b : Int) : eqD (.lst [.int a, .int b]) (.lst [.int 0]) S = .ok (.bl false) S := by
  show blO (eqP (.lst [.int a, .int b]) (.lst [.int 0])) S = _
  have e : toPy (.lst [.int a, .int b]) = some (.list [.int a, .int b]) := by simp [toPy, toPys]
  have e2 : toPy (.lst [.int 0]) = some (.list [.int 0]) := by simp [toPy, toPys]
  have s : PySem.SeqAt.shaped (.list [.int a, .int b]) = true := by simp [PySem.SeqAt.shaped, PySem.PyData.canLay0, PySem.PyData.canLayAll0, PySem.PyData.depth, PySem.PyData.depthAll]
  have s2 : PySem.SeqAt.shaped (.list [.int 0]) = true := by simp [PySem.SeqAt.shaped, PySem.PyData.canLay0, PySem.PyData.canLayAll0, PySem.PyData.depth, PySem.PyData.depthAll]
  unfold eqP
  rw [e, e2]
  simp only [s, s2, Bool.and_self, if_true]
  have z : PySem.PyData.eqv (.list [.int a, .int b]) (.list [.int 0]) = false := by simp [PySem.PyData.eqv, PySem.PyData.eqvAll]
  rw [z]; rfl
/-! the rows of a wide system -/
abbrev wideB : Sx := sSeq (sSet 5 (eSl (eN (listN (aCons (eFn 1 f__law_two (aCons (eVar 0) aNil)) aNil))) oNo (oInt (eLook 2))))
    (sSeq (sSet 5 (eIf (tB2 eqD (eLook 5) (eN (nLst (aCons (eC (.int 0)) aNil)))) (eN (nLst (aCons (eC (.int 7)) aNil))) (eVar 5)))
    (sMut 3 kApp (aCons (eFn 3 f__law_row_text (aCons (eVar 5) (aCons (eFn 2 f__law_of (aCons (eVar 0) (aCons (eN (nLst (aCons (eC (.str "<=")) (aCons (eC (.str ">=")) aNil)))) aNil))) (aCons (eFn 1 f__law_great (aCons (eVar 0) aNil)) aNil)))) aNil)))
theorem wide_step {m : Nat} (hm : m = 1 ∨ m = 2) (h : Spr S n u) (hu : u < 2 ^ 57) {o1 o4 o5 : Option Sl} {xs : List D} (lx : xs.length ≤ 20) :
    ∃ r S' o, wideB [some (.val (.ref n)), o1, dI m, some (.own xs), o4, o5] S = .ok (.nx [some (.val (.ref n)), o1, dI m, some (.own (xs ++ [.str (Ineq.text r)])), o4, o]) S' ∧ Good m r ∧ Spr S' n (u + 11) ∧ Rest S S' n := by
  let R : Option Sl := some (.val (.ref n))
  obtain ⟨a, b, S1, e1, ha, hb, b0, sp1, r1⟩ := two_ok h (by omega)
  obtain ⟨d, S2, e2, md, sp2, r2⟩ := of_ok (ds := [.str "<=", .str ">="]) sp1 (by omega) (by decide) (by decide)
  obtain ⟨c, S3, e3, hc, sp3, r3⟩ := great_ok sp2 (by omega)
  obtain ⟨le, rfl⟩ : ∃ le : Bool, d = .str (signT le) := by
    simp only [List.mem_cons, List.not_mem_nil, or_false] at md
    rcases md with rfl | rfl
    · exact ⟨true, rfl⟩
    · exact ⟨false, rfl⟩
  let w0 : List Int := if m = 1 then [a] else [a, b]
  let w : List Int := if m = 1 then (if a = 0 then [7] else [a]) else [a, b]
  have gw : GW m w := by
    rcases hm with rfl | rfl
    · show GW 1 (if a = 0 then [7] else [a])
      by_cases z : a = 0
      · rw [if_pos z]; exact .one (by decide) (by decide)
      · rw [if_neg z]; exact .one z ha
    · exact .two b0 ha hb
  have k1 : eSl (eN (listN (aCons (eFn 1 f__law_two (aCons (eVar 0) aNil)) aNil))) oNo (oInt (eLook 2)) [R, o1, dI m, some (.own xs), o4, o5] S = .ok (.lst (dW w0)) S1 := by
    refine bd_to (a := .lst [.int a, .int b]) (S1 := S1) (bd_to (a := [.int a, .int b]) (S1 := S1) (bd_to (a := [.tup [.int a, .int b]]) (S1 := S1) (acons_to (call_to (acons_to rfl rfl) rfl e1) rfl) rfl) rfl) ?_
    rcases hm with rfl | rfl <;> with_unfolding_all rfl
  have k2 : eIf (tB2 eqD (eLook 5) (eN (nLst (aCons (eC (.int 0)) aNil)))) (eN (nLst (aCons (eC (.int 7)) aNil))) (eVar 5) [R, o1, dI m, some (.own xs), o4, some (.val (.lst (dW w0)))] S1 = .ok (.lst (dW w)) S1 := by
    rcases hm with rfl | rfl
    · show eIf _ _ _ _ S1 = .ok (.lst (dW (if a = 0 then [7] else [a]))) S1
      have t : tB2 eqD (eLook 5) (eN (nLst (aCons (eC (.int 0)) aNil))) [R, o1, dI ((1 : Nat) : Int), some (.own xs), o4, some (.val (.lst (dW [a])))] S1 = .ok (decide (a = 0)) S1 := tb2_to (x := .lst [.int a]) (y := .lst [.int 0]) (S1 := S1) (S2 := S1) rfl rfl (eq_one a)
      by_cases z : a = 0
      · rw [if_pos z]; rw [decide_eq_true z] at t; exact eif_t (S1 := S1) t rfl
      · rw [if_neg z]; rw [decide_eq_false z] at t; exact eif_f (S1 := S1) t rfl
    · exact eif_f (S1 := S1) (tb2_to (x := .lst [.int a, .int b]) (y := .lst [.int 0]) (S1 := S1) (S2 := S1) rfl rfl (eq_two a b)) rfl
  refine ⟨⟨w, le, c⟩, S3, some (.val (.lst (dW w))), seq_nx (ρ1 := [R, o1, dI m, some (.own xs), o4, some (.val (.lst (dW w0)))]) (S1 := S1) (set_to k1 (by show 5 < 6; decide)) (seq_nx (ρ1 := [R, o1, dI m, some (.own xs), o4, some (.val (.lst (dW w)))]) (S1 := S1) (set_to k2 (by show 5 < 6; decide)) ?_), ⟨gw, hc⟩, sp3.le (by omega), r1.trans (r2.trans r3)⟩
  refine bd_to (a := [.str (Ineq.text ⟨w, le, c⟩)]) (S1 := S3) (acons_to (call_to (acons_to (d := .lst (dW w)) (S1 := S1) rfl (acons_to (d := .str (signT le)) (S1 := S2) (call_to (acons_to (d := .ref n) (S1 := S1) rfl (acons_to (d := .lst [.str "<=", .str ">="]) (S1 := S1) rfl rfl)) rfl e2) (acons_to (call_to (acons_to (d := .ref n) (S1 := S2) rfl rfl) rfl e3) rfl))) rfl (row_text gw hc)) rfl) (bd_to (a := xs ++ [.str (Ineq.text ⟨w, le, c⟩)]) (S1 := S3) ?_ rfl)
  show (if xs.length < PySem.sizeLine then ret (xs ++ [.str (Ineq.text ⟨w, le, c⟩)]) else dv) S3 = _
  rw [if_pos (Nat.lt_of_le_of_lt lx (by decide))]; rfl
end
theorem wide_loop {m n : Nat} (hm : m = 1 ∨ m = 2) {o1 : Option Sl} : ∀ (j : Nat) (k : Int) (S : Sto) (u : Int) (xs : List D) (o4 o5 : Option Sl), xs.length + j ≤ 20 → u + 11 * j < 2 ^ 57 → Spr S n u →
    ∃ rs S' p4 p5, forM (gNm 4) wideB (rngD k j) [some (.val (.ref n)), o1, dI m, some (.own xs), o4, o5] S = .ok (.nx [some (.val (.ref n)), o1, dI m, some (.own (xs ++ rowD rs)), p4, p5]) S' ∧ (∀ r ∈ rs, Good m r) ∧ rs.length = j ∧ Spr S' n (u + 11 * j) ∧ Rest S S' n
  | 0, k, S, u, xs, o4, o5, _, _, h => ⟨[], S, o4, o5, by rw [show rowD [] = [] from rfl, List.append_nil]; rfl, nofun, rfl, h.le (by omega), .refl⟩
  | j + 1, k, S, u, xs, o4, o5, lx, hu, h => by
    have hj : ((j + 1 : Nat) : Int) = (j : Int) + 1 := by omega
    rw [hj] at hu
    obtain ⟨r, S1, o, e1, g, sp1, r1⟩ := wide_step (o1 := o1) (o4 := dI k) (o5 := o5) (xs := xs) hm h (by omega) (by omega)
    obtain ⟨rs, S2, p4, p5, e2, gs, l, sp2, r2⟩ := wide_loop hm (o1 := o1) j (k + 1) S1 (u + 11) (xs ++ [.str r.text]) (dI k) o (by rw [List.length_append]; show xs.length + 1 + j ≤ 20; omega) (by omega) sp1
    refine ⟨r :: rs, S2, p4, p5, ?_, fun x hx => ?_, by rw [List.length_cons, l], sp2.le (by rw [hj]; omega), r1.trans r2⟩
    · rw [rng_step]
      rw [show xs ++ rowD (r :: rs) = xs ++ [.str r.text] ++ rowD rs by rw [List.append_assoc]; rfl]
      exact for_cons (ρ1 := [some (.val (.ref n)), o1, dI m, some (.own xs), dI k, o5]) rfl e1 e2
    · rcases List.mem_cons.mp hx with rfl | hx
      · exact g
      · exact gs x hx
theorem rows_ok {S : Sto} {n : Nat} {u : Int} (h : Spr S n u) (hu : u < 2 ^ 55) :
    ∃ m f rs S', f__law_wide_rows [.ref n] S = .ok (.lst (.str f :: rowD rs)) S' ∧ (m = 1 ∨ m = 2) ∧ f ∈ heads m ∧ (∀ r ∈ rs, Good m r) ∧ rs.length ≤ 6 ∧ Spr S' n (u + 60) ∧ Rest S S' n := by
  let R : Option Sl := some (.val (.ref n))
  obtain ⟨f, S1, ef, hf, sp1, r1⟩ := first_ok h (by omega)
  obtain ⟨m, hm, hfm⟩ : ∃ m, (m = 1 ∨ m = 2) ∧ f ∈ heads m := by
    rcases hf with hf | hf
    · exact ⟨1, .inl rfl, hf⟩
    · exact ⟨2, .inr rfl, hf⟩
  obtain ⟨hl, fl⟩ := heads_len m hm f hfm
  let F : Option Sl := some (.val (.str f))
  obtain ⟨v, S2, e2, v0, v1, sp2, r2⟩ := drawE (z := 6) (ρ := [R, F, dI m, some (.own [.str f]), none, none]) sp1 (by omega) (by decide) (by decide) rfl (fz := eC (.int 6)) (fun _ => rfl)
  obtain ⟨c, rfl⟩ : ∃ c : Nat, v = c := ⟨v.toNat, by omega⟩
  obtain ⟨rs, S3, p4, p5, e3, g, l, sp3, r3⟩ := wide_loop (o1 := F) hm c 0 S2 (u + 1 + 1) [.str f] none none (by show 1 + c ≤ 20; omega) (by omega) sp2
  refine ⟨m, f, rs, S3, ?_, hm, hfm, g, by omega, sp3.le (by omega), r1.trans (r2.trans r3)⟩
  refine fn_rt (seq_nx (ρ1 := [R, F, none, none, none, none]) (S1 := S1) (set_to (call_to (acons_to rfl rfl) rfl ef) (by show 1 < 6; decide)) (seq_nx (ρ1 := [R, F, dI m, some (.own [.str f]), none, none]) (S1 := S1) ?_ (seq_nx (for_to (ds := rngD 0 c) (S1 := S2) (bd_to (acons_to e2 rfl) (rng1_to (by omega))) e3) rfl)))
  have k : eCall (g1 lenD) (aCons (eN (splitN (eLook 1) (eC (.str ", ")))) aNil) [R, F, none, none, none, none] S1 = .ok (.int m) S1 := by
    refine (len_lst ((split_to (a := f) rfl rfl (Nat.le_trans (Nat.add_le_add_right fl 2) (by decide))))).trans ?_
    rw [List.length_map, hl]
  exact bd_to (a := [.val (.int m), .own [.str f]]) (S1 := S1) (bd_to k (bd_to (bd_to (a := [.str f]) (S1 := S1) rfl (bd_to rfl rfl)) rfl)) rfl
end LW

set_option Elab.async false
set_option linter.all false
set_option maxRecDepth 100000
set_option maxHeartbeats 4000000
namespace LW
open LS
/-! ### points and sums -/
structure Pn where
  d : D
  a : Int
  b : Int
structure Pok (k : Bool) (p : Pn) : Prop where
  ha : p.a.natAbs ≤ 10 ^ 40
  h0 : 0 < p.b
  hb : p.b ≤ 10 ^ 38
  hg : Int.gcd p.a p.b = 1
  hd : (k = true ∧ p.d = .int p.a ∧ p.b = 1) ∨ (k = false ∧ p.d = dQ (p.a, p.b))
theorem Pok.hbn {k : Bool} {p : Pn} (h : Pok k p) : p.b.natAbs ≤ 10 ^ 38 := by have := h.hb; have := h.h0; omega
def ptD (ps : List Pn) : List D := ps.map fun p => p.d
def frD (ps : List Pn) : List D := ps.map fun p => dQ (p.a, p.b)
theorem bgA {x : Int} {n : Nat} (h : x.natAbs ≤ n) (l : n < 10 ^ 100) : Bg x := Nat.lt_of_le_of_lt h l
/-- the program's sum and product of fractions -/
theorem times_ok {a b k : Int} {S : Sto} (ha : Bg a) (hb : 0 < b) (hb2 : Bg b) (hk : Bg k) (hak : Bg (a * k)) : f_times [dQ (a, b), .int k] S = .ok (dQ (lowest (a * k) b)) S :=
  fn_rt (ret_to (call_to (acons_to (e2_to (e2_to (x := dQ (a, b)) (S1 := S) rfl rfl rfl) rfl (mulB ha hk)) (acons_to (e2_to (x := dQ (a, b)) (S1 := S) rfl rfl rfl) rfl)) rfl (ratio_ok (a * k) b S (by omega) hak hb2)))
theorem plus_ok {a b c e : Int} {S : Sto} (ha : Bg a) (hb : 0 < b) (hb2 : Bg b) (hc : Bg c) (he : 0 < e) (he2 : Bg e) (h1 : Bg (a * e + c * b)) (h2 : Bg (b * e)) : f_plus [dQ (a, b), dQ (c, e)] S = .ok (dQ (lowest (a * e + c * b) (b * e))) S := by
  have p0 := Int.mul_pos hb he
  have i0 : ∀ S, e2 ixD (eLook 0) (eC (.int 0)) (rho0 2 [dQ (a, b), dQ (c, e)]) S = .ok (.int a) S := fun S => rfl
  have i1 : ∀ S, e2 ixD (eLook 0) (eC (.int 1)) (rho0 2 [dQ (a, b), dQ (c, e)]) S = .ok (.int b) S := fun S => rfl
  have j0 : ∀ S, e2 ixD (eLook 1) (eC (.int 0)) (rho0 2 [dQ (a, b), dQ (c, e)]) S = .ok (.int c) S := fun S => rfl
  have j1 : ∀ S, e2 ixD (eLook 1) (eC (.int 1)) (rho0 2 [dQ (a, b), dQ (c, e)]) S = .ok (.int e) S := fun S => rfl
  exact fn_rt (ret_to (call_to (acons_to (e2_to (e2_to (i0 S) (j1 S) (mulB ha he2)) (e2_to (j0 S) (i1 S) (mulB hc hb2)) rfl) (acons_to (e2_to (i1 S) (j1 S) (mulB hb2 he2)) rfl)) rfl (ratio_ok _ _ S (by omega) h1 h2)))
/-- tops and bottoms of a sum, the law's way -/
def tops : List Int → List Pn → Int × Int → Int × Int
  | x :: w, p :: ps, q => tops w ps (q.1 * p.b + x * p.a * q.2, q.2 * p.b)
  | _, _, q => q
abbrev lsumB : Sx := sSeq (sAsg (eIf (tT (e1 (isTyM "tuple" own_cs) (eLook 5))) (eVar 5) (eTup (aCons (eVar 5) (aCons (eC (.int 1)) aNil)))) (gTp 2 (gMore (gNm 6) (gMore (gNm 7) gNone))))
    (sPX2 2 3 (xV (e2 addD (e2 mulD (eLook 2) (eLook 7)) (e2 mulD (e2 mulD (eLook 4) (eLook 6)) (eLook 3))) (xV (e2 mulD (eLook 3) (eLook 7)) xNil)))
theorem law_step {o0 o1 o6 o7 : Option Sl} {x T B : Int} {k : Bool} {p : Pn} {S : Sto} (hp : Pok k p) (hT : T.natAbs ≤ 10 ^ 43) (hB : B.natAbs ≤ 10 ^ 40) (hx : x.natAbs ≤ 99) :
    lsumB [o0, o1, dI T, dI B, dI x, some (.val p.d), o6, o7] S = .ok (.nx [o0, o1, dI (T * p.b + x * p.a * B), dI (B * p.b), dI x, some (.val p.d), dI p.a, dI p.b]) S := by
  have hb := hp.hbn
  have m1 := nab_mul hx hp.ha
  have k6 : sAsg (eIf (tT (e1 (isTyM "tuple" own_cs) (eLook 5))) (eVar 5) (eTup (aCons (eVar 5) (aCons (eC (.int 1)) aNil)))) (gTp 2 (gMore (gNm 6) (gMore (gNm 7) gNone))) [o0, o1, dI T, dI B, dI x, some (.val p.d), o6, o7] S = .ok (.nx [o0, o1, dI T, dI B, dI x, some (.val p.d), dI p.a, dI p.b]) S := by
    rcases hp.hd with ⟨-, e, e2⟩ | ⟨-, e⟩
    · rw [e, e2]
      exact asg_to (d := .tup [.int p.a, .int 1]) (S1 := S) (eif_f (S1 := S) rfl (tup_to (ds := [.int p.a, .int 1]) rfl (by show 2 ≤ PySem.sizeLine; decide))) rfl
    · rw [e]
      exact asg_to (d := dQ (p.a, p.b)) (S1 := S) (eif_t (S1 := S) rfl rfl) rfl
  have bT : Bg T := bgA hT (by decide)
  have bB : Bg B := bgA hB (by decide)
  have bb : Bg p.b := bgA hb (by decide)
  refine seq_nx k6 ?_
  have h1 : e2 addD (e2 mulD (eLook 2) (eLook 7)) (e2 mulD (e2 mulD (eLook 4) (eLook 6)) (eLook 3)) [o0, o1, dI T, dI B, dI x, some (.val p.d), dI p.a, dI p.b] S = .ok (.int (T * p.b + x * p.a * B)) S :=
    e2_to (e2_to (x := .int T) (y := .int p.b) (S1 := S) (S2 := S) rfl rfl (mulB bT bb)) (e2_to (y := .int B) (S1 := S) (S2 := S) (e2_to (x := .int x) (y := .int p.a) (S1 := S) (S2 := S) rfl rfl (mulB (bgA hx (by decide)) (bgA hp.ha (by decide)))) rfl (mulB (bgA m1 (by decide)) bB)) rfl
  have h2 : e2 mulD (eLook 3) (eLook 7) [o0, o1, dI T, dI B, dI x, some (.val p.d), dI p.a, dI p.b] S = .ok (.int (B * p.b)) S :=
    e2_to (x := .int B) (y := .int p.b) (S1 := S) (S2 := S) rfl rfl (mulB bB bb)
  exact bd_to (a := [.val (.int (T * p.b + x * p.a * B)), .val (.int (B * p.b))]) (S1 := S) (bd_to h1 (bd_to (bd_to h2 (bd_to rfl rfl)) rfl)) rfl
/-- the weights fit the point -/
inductive Fit : List Bool → List Int → List Pn → Prop
  | one {k : Bool} {x : Int} {p : Pn} : x.natAbs ≤ 99 → Pok k p → Fit [k] [x] [p]
  | two {k l : Bool} {x y : Int} {p q : Pn} : x.natAbs ≤ 99 → y.natAbs ≤ 99 → Pok k p → Pok l q → Fit [k, l] [x, y] [p, q]
def sT (w : List Int) (ps : List Pn) : Int × Int := tops w ps (0, 1)
theorem b_one {x : Int} {k : Bool} {p : Pn} (hx : x.natAbs ≤ 99) (hp : Pok k p) : (0 * p.b + x * p.a * 1).natAbs ≤ 99 * 10 ^ 40 ∧ 0 < 1 * p.b ∧ 1 * p.b ≤ 10 ^ 38 := by
  have := nab_mul hx hp.ha
  have := hp.h0
  have := hp.hb
  rw [Int.zero_mul, Int.zero_add, Int.mul_one, Int.one_mul]
  exact ⟨by omega, by omega, by omega⟩
theorem b_two {T B y : Int} {k : Bool} {q : Pn} (hT : T.natAbs ≤ 99 * 10 ^ 40) (h0 : 0 < B) (hB : B ≤ 10 ^ 38) (hy : y.natAbs ≤ 99) (hq : Pok k q) : (T * q.b + y * q.a * B).natAbs ≤ 10 ^ 81 ∧ 0 < B * q.b ∧ B * q.b ≤ 10 ^ 76 := by
  have hb := hq.hbn
  have hBn : B.natAbs ≤ 10 ^ 38 := by omega
  have a1 := nab_mul hT hb
  have a2 := nab_mul (nab_mul hy hq.ha) hBn
  have a3 := nab_mul hBn hb
  have := Int.mul_pos h0 hq.h0
  refine ⟨by omega, by omega, by omega⟩
theorem sT_b {ks : List Bool} {w : List Int} {ps : List Pn} (h : Fit ks w ps) : (sT w ps).1.natAbs ≤ 10 ^ 81 ∧ 0 < (sT w ps).2 ∧ (sT w ps).2 ≤ 10 ^ 76 := by
  cases h with
  | one hx hp =>
    obtain ⟨a, b, c⟩ := b_one hx hp
    exact ⟨Nat.le_trans a (by decide), b, Int.le_trans c (by decide)⟩
  | two hx hy hp hq =>
    obtain ⟨a, b, c⟩ := b_one hx hp
    exact b_two a b c hy hq
theorem pos_b {x : Int} {n : Nat} (h0 : 0 < x) (h : x ≤ (n : Int)) : x.natAbs ≤ n := by omega
theorem b38 {x : Int} (h0 : 0 < x) (h : x ≤ 10 ^ 38) : x.natAbs ≤ 10 ^ 38 := by omega
theorem b76 {x : Int} (h0 : 0 < x) (h : x ≤ 10 ^ 76) : x.natAbs ≤ 10 ^ 76 := by omega
theorem lsum_ok {ks : List Bool} {w : List Int} {ps : List Pn} {S : Sto} (h : Fit ks w ps) : f__law_sum [.tup (dW w), .tup (ptD ps)] S = .ok (dQ (lowest (sT w ps).1 (sT w ps).2)) S := by
  obtain ⟨q1, q2, q3⟩ := sT_b h
  have fin : ∀ o4 o5 o6 o7, (sRet (eFn 2 f__law_ratio (aCons (eVar 2) (aCons (eVar 3) aNil)))) [some (.val (.tup (dW w))), some (.val (.tup (ptD ps))), dI (sT w ps).1, dI (sT w ps).2, o4, o5, o6, o7] S = .ok (.rt (dQ (lowest (sT w ps).1 (sT w ps).2))) S := fun o4 o5 o6 o7 =>
    ret_to (call_to (acons_to rfl (acons_to rfl rfl)) rfl (lratio_ok _ _ S (by omega) (bgA q1 (by decide)) (bgA (b76 q2 q3) (by decide))))
  cases h with
  | @one k x p hx hp =>
    have e := law_step (o0 := some (.val (.tup (dW [x])))) (o1 := some (.val (.tup (ptD [p])))) (o6 := none) (o7 := none) (T := 0) (B := 1) (S := S) hp (by decide) (by decide) hx
    exact fn_rt (seq_nx (ρ1 := [some (.val (.tup (dW [x]))), some (.val (.tup (ptD [p]))), dI 0, dI 1, none, none, none, none]) (S1 := S) (asg_to (d := .tup [.int 0, .int 1]) (S1 := S) rfl rfl) (seq_nx (for_to (ds := [.tup [.int x, p.d]]) (S1 := S) rfl (for_cons (ρ1 := [some (.val (.tup (dW [x]))), some (.val (.tup (ptD [p]))), dI 0, dI 1, dI x, some (.val p.d), none, none]) (S1 := S) rfl e for_nil)) (fin _ _ _ _)))
  | @two k l x y p q hx hy hp hq =>
    obtain ⟨b1, b2, b3⟩ := b_one hx hp
    have e := law_step (o0 := some (.val (.tup (dW [x, y])))) (o1 := some (.val (.tup (ptD [p, q])))) (o6 := none) (o7 := none) (T := 0) (B := 1) (S := S) hp (by decide) (by decide) hx
    have e' := law_step (o0 := some (.val (.tup (dW [x, y])))) (o1 := some (.val (.tup (ptD [p, q])))) (o6 := dI p.a) (o7 := dI p.b) (T := 0 * p.b + x * p.a * 1) (B := 1 * p.b) (S := S) hq (Nat.le_trans b1 (by decide)) (Nat.le_trans (b38 b2 b3) (by decide)) hy
    exact fn_rt (seq_nx (ρ1 := [some (.val (.tup (dW [x, y]))), some (.val (.tup (ptD [p, q]))), dI 0, dI 1, none, none, none, none]) (S1 := S) (asg_to (d := .tup [.int 0, .int 1]) (S1 := S) rfl rfl) (seq_nx (for_to (ds := [.tup [.int x, p.d], .tup [.int y, q.d]]) (S1 := S) rfl (for_cons (ρ1 := [some (.val (.tup (dW [x, y]))), some (.val (.tup (ptD [p, q]))), dI 0, dI 1, dI x, some (.val p.d), none, none]) (S1 := S) rfl e
      (for_cons (ρ1 := [some (.val (.tup (dW [x, y]))), some (.val (.tup (ptD [p, q]))), dI (0 * p.b + x * p.a * 1), dI (1 * p.b), dI y, some (.val q.d), dI p.a, dI p.b]) (S1 := S) rfl e' for_nil))) (fin _ _ _ _)))
/-- a step of the program's sum -/
theorem prog_step {o0 o1 : Option Sl} {x T B : Int} {k : Bool} {p : Pn} {S : Sto} (hp : Pok k p) (hT : T.natAbs ≤ 99 * 10 ^ 40) (h0 : 0 < B) (hB : B ≤ 10 ^ 38) (hx : x.natAbs ≤ 99) :
    sSet 2 (eFn 2 f_plus (aCons (eVar 2) (aCons (eFn 2 f_times (aCons (eVar 4) (aCons (eVar 3) aNil))) aNil))) [o0, o1, some (.val (dQ (lowest T B))), dI x, some (.val (dQ (p.a, p.b)))] S = .ok (.nx [o0, o1, some (.val (dQ (lowest (T * p.b + x * p.a * B) (B * p.b)))), dI x, some (.val (dQ (p.a, p.b)))]) S := by
  have hb := hp.hbn
  have hhb := hp.hb
  obtain ⟨t1, t2, t3, -⟩ := low_le T B h0
  obtain ⟨s1, s2, s3, -⟩ := low_le (p.a * x) p.b hp.h0
  have m1 := nab_mul hp.ha hx
  have lt1 : (lowest T B).1.natAbs ≤ 99 * 10 ^ 40 := Nat.le_trans t1 hT
  have lt2 : (lowest T B).2.natAbs ≤ 10 ^ 38 := b38 t2 (Int.le_trans t3 hB)
  have ls1 : (lowest (p.a * x) p.b).1.natAbs ≤ 10 ^ 40 * 99 := Nat.le_trans s1 m1
  have ls2 : (lowest (p.a * x) p.b).2.natAbs ≤ 10 ^ 38 := b38 s2 (Int.le_trans s3 hhb)
  have n1 := nab_mul lt1 ls2
  have n2 := nab_mul ls1 lt2
  have n3 := nab_mul lt2 ls2
  have e1 := times_ok (S := S) (a := p.a) (b := p.b) (k := x) (bgA hp.ha (by decide)) hp.h0 (bgA hb (by decide)) (bgA hx (by decide)) (bgA m1 (by decide))
  have e2 := plus_ok (S := S) (a := (lowest T B).1) (b := (lowest T B).2) (c := (lowest (p.a * x) p.b).1) (e := (lowest (p.a * x) p.b).2) (bgA lt1 (by decide)) t2 (bgA lt2 (by decide)) (bgA ls1 (by decide)) s2 (bgA ls2 (by decide)) (bgA (n := 10 ^ 85) (by omega) (by decide)) (bgA n3 (by decide))
  rw [low_plus h0 hp.h0] at e2
  exact set_to (call_to (acons_to rfl (acons_to (call_to (acons_to rfl (acons_to rfl rfl)) rfl e1) rfl)) rfl e2) (by show 2 < 5; decide)
theorem psum_ok {ks : List Bool} {w : List Int} {ps : List Pn} {S : Sto} (h : Fit ks w ps) : f_sum_at [.tup (dW w), .tup (frD ps)] S = .ok (dQ (lowest (sT w ps).1 (sT w ps).2)) S := by
  have z : dQ (lowest 0 1) = .tup [.int 0, .int 1] := by rw [low_zero]; rfl
  cases h with
  | @one k x p hx hp =>
    have e := prog_step (o0 := some (.val (.tup (dW [x])))) (o1 := some (.val (.tup (frD [p])))) (T := 0) (B := 1) (S := S) hp (by decide) (by decide) (by decide) hx
    rw [z] at e
    exact fn_rt (seq_nx (ρ1 := [some (.val (.tup (dW [x]))), some (.val (.tup (frD [p]))), some (.val (.tup [.int 0, .int 1])), none, none]) (S1 := S) (set_to (tup_to (ds := [.int 0, .int 1]) rfl (by show 2 ≤ PySem.sizeLine; decide)) (by show 2 < 5; decide)) (seq_nx (for_to (ds := [.tup [.int x, dQ (p.a, p.b)]]) (S1 := S) rfl (for_cons (ρ1 := [some (.val (.tup (dW [x]))), some (.val (.tup (frD [p]))), some (.val (.tup [.int 0, .int 1])), dI x, some (.val (dQ (p.a, p.b)))]) (S1 := S) rfl e for_nil)) (ret_to rfl)))
  | @two k l x y p q hx hy hp hq =>
    obtain ⟨b1, b2, b3⟩ := b_one hx hp
    have e := prog_step (o0 := some (.val (.tup (dW [x, y])))) (o1 := some (.val (.tup (frD [p, q])))) (T := 0) (B := 1) (S := S) hp (by decide) (by decide) (by decide) hx
    rw [z] at e
    have e' := prog_step (o0 := some (.val (.tup (dW [x, y])))) (o1 := some (.val (.tup (frD [p, q])))) (T := 0 * p.b + x * p.a * 1) (B := 1 * p.b) (S := S) hq b1 b2 b3 hy
    exact fn_rt (seq_nx (ρ1 := [some (.val (.tup (dW [x, y]))), some (.val (.tup (frD [p, q]))), some (.val (.tup [.int 0, .int 1])), none, none]) (S1 := S) (set_to (tup_to (ds := [.int 0, .int 1]) rfl (by show 2 ≤ PySem.sizeLine; decide)) (by show 2 < 5; decide)) (seq_nx (for_to (ds := [.tup [.int x, dQ (p.a, p.b)], .tup [.int y, dQ (q.a, q.b)]]) (S1 := S) rfl (for_cons (ρ1 := [some (.val (.tup (dW [x, y]))), some (.val (.tup (frD [p, q]))), some (.val (.tup [.int 0, .int 1])), dI x, some (.val (dQ (p.a, p.b)))]) (S1 := S) rfl e
      (for_cons (ρ1 := [some (.val (.tup (dW [x, y]))), some (.val (.tup (frD [p, q]))), some (.val (dQ (lowest (0 * p.b + x * p.a * 1) (1 * p.b)))), dI y, some (.val (dQ (q.a, q.b)))]) (S1 := S) rfl e' for_nil))) (ret_to rfl)))
end LW

set_option Elab.async false
set_option linter.all false
set_option maxRecDepth 100000
set_option maxHeartbeats 4000000
namespace LW
open LS
/-! ### what the program answers -/
theorem tif_t {t u v : Rho → M Bool} {ρ : Rho} {S S1 : Sto} {r : Res Bool} (h : t ρ S = .ok true S1) (q : u ρ S1 = r) : tIf t u v ρ S = r := bd_to h q
theorem tif_f {t u v : Rho → M Bool} {ρ : Rho} {S S1 : Sto} {r : Res Bool} (h : t ρ S = .ok false S1) (q : v ρ S1 = r) : tIf t u v ρ S = r := bd_to h q
inductive Pts : List Bool → List Pn → Prop
  | one {k : Bool} {p : Pn} : Pok k p → Pts [k] [p]
  | two {k l : Bool} {p q : Pn} : Pok k p → Pok l q → Pts [k, l] [p, q]
variable {S : Sto} {sys : D} {bs : List Bool} {rs : List Ineq} {ps : List Pn}
theorem isint_t {i : Int} : f_is_integer [.int i] S = .ok (.bl true) S := rfl
theorem isint_f {q : Int × Int} : f_is_integer [dQ q] S = .ok (.bl false) S := rfl
theorem isfrac {a b : Int} (h0 : 0 < b) (ha : Bg a) (hb : Bg b) (g : Int.gcd a b = 1) : f_is_fraction [dQ (a, b)] S = .ok (.bl true) S := by
  have dv := divisor_ok a b S ha hb
  rw [g] at dv
  refine fn_rt (seq_nx (ρ1 := [some (.val (dQ (a, b))), none]) (S1 := S) (if_f (S1 := S) (by with_unfolding_all rfl) rfl) (ret_to ?_))
  refine bd_to (a := .bl true) (S1 := S) (e2_to (x := .int b) (y := .int 0) (S1 := S) rfl rfl ?_) ?_
  · show Res.ok (D.bl (decide (0 < b))) S = _; rw [decide_eq_true h0]
  · exact e2_to (x := .int ((1 : Nat) : Int)) (S1 := S) (call_to (acons_to (d := .int a) (S1 := S) rfl (acons_to (d := .int b) (S1 := S) rfl rfl)) rfl dv) rfl rfl
theorem chk_step {k : Bool} {p : Pn} (hp : Pok k p) {o0 o1 : Option Sl} : sIf (tNotB (tIf (tB2 eqD (eLook 2) (eC (.str "whole"))) (tT (eFn 1 f_is_integer (aCons (eVar 3) aNil))) (tT (eFn 1 f_is_fraction (aCons (eVar 3) aNil))))) (sRet (eC (.bl false))) sNil [o0, o1, some (.val (.str (kOf k))), some (.val p.d)] S = .ok (.nx [o0, o1, some (.val (.str (kOf k))), some (.val p.d)]) S := by
  refine if_f (S1 := S) (not_to (k := true) (S1 := S) ?_) rfl
  rcases hp.hd with ⟨rfl, e, -⟩ | ⟨rfl, e⟩
  · rw [e]
    exact tif_t (S1 := S) rfl (bd_to (a := .bl true) (S1 := S) (call_to (acons_to rfl rfl) rfl isint_t) rfl)
  · rw [e]
    exact tif_f (S1 := S) rfl (bd_to (a := .bl true) (S1 := S) (call_to (acons_to rfl rfl) rfl (isfrac hp.h0 (bgA hp.ha (by decide)) (bgA hp.hbn (by decide)) hp.hg)) rfl)
theorem ispoint (hs : IsSys sys bs rs) (hp : Pts bs ps) : f_is_point [sys, .tup (ptD ps)] S = .ok (.bl true) S := by
  obtain ⟨a, l, s, rfl⟩ := hs
  cases hp with
  | @one k p hp =>
    let o0 : Option Sl := some (.val (.obj 0 [a, .tup (kD [k]), l, s, .tup (bndD rs)]))
    let o1 : Option Sl := some (.val (.tup (ptD [p])))
    exact fn_rt (seq_nx (ρ1 := [o0, o1, none, none]) (S1 := S) (if_f (S1 := S) (by with_unfolding_all rfl) rfl) (seq_nx (for_to (ds := [.tup [.str (kOf k), p.d]]) (S1 := S) rfl (for_cons (ρ1 := [o0, o1, some (.val (.str (kOf k))), some (.val p.d)]) (S1 := S) rfl (chk_step hp) for_nil)) (ret_to rfl)))
  | @two k m p q hp hq =>
    let o0 : Option Sl := some (.val (.obj 0 [a, .tup (kD [k, m]), l, s, .tup (bndD rs)]))
    let o1 : Option Sl := some (.val (.tup (ptD [p, q])))
    exact fn_rt (seq_nx (ρ1 := [o0, o1, none, none]) (S1 := S) (if_f (S1 := S) (by with_unfolding_all rfl) rfl) (seq_nx (for_to (ds := [.tup [.str (kOf k), p.d], .tup [.str (kOf m), q.d]]) (S1 := S) rfl (for_cons (ρ1 := [o0, o1, some (.val (.str (kOf k))), some (.val p.d)]) (S1 := S) rfl (chk_step hp) (for_cons (ρ1 := [o0, o1, some (.val (.str (kOf m))), some (.val q.d)]) (S1 := S) rfl (chk_step hq) for_nil))) (ret_to rfl)))
theorem chkpoint (hs : IsSys sys bs rs) (hp : Pts bs ps) : f_check_point [sys, .tup (ptD ps)] S = .ok .non S :=
  fn_nx (if_f (S1 := S) (not_to (k := true) (S1 := S) (bd_to (call_to (acons_to rfl (acons_to rfl rfl)) rfl (ispoint hs hp)) rfl)) rfl)
theorem chksys (hs : IsSys sys bs rs) : f_check_system [sys] S = .ok .non S := by
  obtain ⟨a, l, s, rfl⟩ := hs
  rfl
theorem pts_all (hp : Pts bs ps) : ∀ p ∈ ps, ∃ k, Pok k p := by
  intro p m
  cases hp with
  | one h => exact ⟨_, (List.mem_singleton.mp m) ▸ h⟩
  | two h h2 =>
    simp only [List.mem_cons, List.not_mem_nil, or_false] at m
    rcases m with rfl | rfl
    · exact ⟨_, h⟩
    · exact ⟨_, h2⟩
theorem pts_len (hp : Pts bs ps) : ps.length ≤ 2 ∧ bs.length = ps.length := by
  cases hp
  · exact ⟨by show 1 ≤ 2; decide, rfl⟩
  · exact ⟨by show 2 ≤ 2; decide, rfl⟩
theorem asfr (hp : Pts bs ps) : f_as_fractions [.tup (ptD ps)] S = .ok (.tup (frD ps)) S := by
  refine fn_rt (ret_to (bd_to (acons_to (bd_to (lcn_to (ds := ptD ps) (S1 := S) rfl (by unfold ptD; rw [List.length_map]; exact Nat.le_trans (pts_len hp).1 (by decide)) (lc_map (q := fun p => dQ (p.a, p.b)) fun p m => ⟨[some (.val (.tup (ptD ps))), some (.val p.d)], rfl, rfl, ?_⟩)) rfl) rfl) rfl))
  obtain ⟨k, h⟩ := pts_all hp p m
  rcases h.hd with ⟨-, e, e2⟩ | ⟨-, e⟩
  · rw [e, e2]
    exact eif_t (S1 := S) (bd_to (a := .bl true) (S1 := S) (call_to (acons_to rfl rfl) rfl isint_t) rfl) (tup_to (ds := [.int p.a, .int 1]) rfl (by show 2 ≤ PySem.sizeLine; decide))
  · rw [e]
    exact eif_f (S1 := S) (bd_to (a := .bl false) (S1 := S) (call_to (acons_to rfl rfl) rfl isint_f) rfl) rfl
def sQ (w : List Int) (ps : List Pn) : Int × Int := lowest (sT w ps).1 (sT w ps).2
def gapQ (q : List Int × Int) (ps : List Pn) : Int × Int := lowest (q.2 * (sQ q.1 ps).2 - (sQ q.1 ps).1) (sQ q.1 ps).2
def gapsQ (rs : List Ineq) (ps : List Pn) : List (Int × Int) := rs.map fun r => gapQ r.up ps
/-- all rows fit the point -/
def Fits (bs : List Bool) (rs : List Ineq) (ps : List Pn) : Prop := ∀ r ∈ rs, Fit bs r.up.1 ps ∧ r.up.2.natAbs ≤ 1000000
theorem sQ_b {w : List Int} (h : Fit bs w ps) : (sQ w ps).1.natAbs ≤ 10 ^ 81 ∧ 0 < (sQ w ps).2 ∧ (sQ w ps).2 ≤ 10 ^ 76 := by
  obtain ⟨a, b, c⟩ := sT_b h
  obtain ⟨t1, t2, t3, -⟩ := low_le (sT w ps).1 (sT w ps).2 b
  exact ⟨Nat.le_trans t1 a, t2, Int.le_trans t3 c⟩
theorem gap_prog {w : List Int} {c : Int} (h : Fit bs w ps) (hc : c.natAbs ≤ 1000000) : ∃ t, f_times [dQ (sQ w ps), .int (-1)] S = .ok (dQ t) S ∧ f_plus [dQ (c, 1), dQ t] S = .ok (dQ (gapQ (w, c) ps)) S := by
  obtain ⟨a, b, e⟩ := sQ_b h
  have m1 : ((sQ w ps).1 * -1).natAbs ≤ 10 ^ 81 := by omega
  have e1 := times_ok (S := S) (a := (sQ w ps).1) (b := (sQ w ps).2) (k := -1) (bgA a (by decide)) b (bgA (b76 b e) (by decide)) (by decide) (bgA m1 (by decide))
  obtain ⟨t1, t2, t3, -⟩ := low_le ((sQ w ps).1 * -1) (sQ w ps).2 b
  have l1 : (lowest ((sQ w ps).1 * -1) (sQ w ps).2).1.natAbs ≤ 10 ^ 81 := Nat.le_trans t1 m1
  have l2 : (lowest ((sQ w ps).1 * -1) (sQ w ps).2).2.natAbs ≤ 10 ^ 76 := b76 t2 (Int.le_trans t3 e)
  have n1 := nab_mul hc l2
  have e2 := plus_ok (S := S) (a := c) (b := 1) (c := (lowest ((sQ w ps).1 * -1) (sQ w ps).2).1) (e := (lowest ((sQ w ps).1 * -1) (sQ w ps).2).2) (bg_c hc) (by decide) (by decide) (bgA l1 (by decide)) t2 (bgA l2 (by decide)) (bgA (n := 10 ^ 90) (by rw [Int.mul_one]; omega) (by decide)) (bgA (n := 10 ^ 76) (by rw [Int.one_mul]; exact l2) (by decide))
  rw [low_gap b] at e2
  exact ⟨_, e1, e2⟩
theorem gaps_at (hs : IsSys sys bs rs) (hl : rs.length ≤ 6) (hp : Pts bs ps) (hf : Fits bs rs ps) : f_gaps_at [sys, .tup (ptD ps)] S = .ok (.tup ((gapsQ rs ps).map dQ)) S := by
  obtain ⟨a, l, s, rfl⟩ := hs
  let o0 : Option Sl := some (.val (.obj 0 [a, .tup (kD bs), l, s, .tup (bndD rs)]))
  let o1 : Option Sl := some (.val (.tup (ptD ps)))
  let o2 : Option Sl := some (.val (.tup (frD ps)))
  refine fn_rt (seq_nx (ρ1 := [o0, o1, o2, none, none]) (S1 := S) (set_to (call_to (acons_to rfl rfl) rfl (asfr hp)) (by show 2 < 5; decide)) (ret_to (bd_to (acons_to (d := .lst ((gapsQ rs ps).map dQ)) (S1 := S) (bd_to (lcn_to (ds := bndD rs) (S1 := S) (ys := (gapsQ rs ps).map dQ) rfl (by rw [bndD_len]; exact Nat.le_trans hl (by decide)) ?_) rfl) rfl) rfl)))
  unfold gapsQ
  rw [List.map_map]
  refine lc_map (q := dQ ∘ fun r : Ineq => gapQ r.up ps) fun r m => ⟨[o0, o1, o2, some (.val (.tup (dW r.up.1))), dI r.up.2], rfl, rfl, ?_⟩
  obtain ⟨h, hc⟩ := hf r m
  obtain ⟨t, e1, e2⟩ := gap_prog (S := S) h hc
  exact call_to (acons_to (tup_to (ds := [.int r.up.2, .int 1]) rfl (by show 2 ≤ PySem.sizeLine; decide)) (acons_to (call_to (acons_to (call_to (acons_to rfl (acons_to rfl rfl)) rfl (psum_ok h)) (acons_to rfl rfl)) rfl e1) rfl)) rfl e2
theorem gaps_ok (hs : IsSys sys bs rs) (hl : rs.length ≤ 6) (hp : Pts bs ps) (hf : Fits bs rs ps) : f_gaps [sys, .tup (ptD ps)] S = .ok (.tup ((gapsQ rs ps).map dQ)) S :=
  fn_rt (seq_nx (expr_to (call_to (acons_to rfl rfl) rfl (chksys hs))) (seq_nx (expr_to (call_to (acons_to rfl (acons_to rfl rfl)) rfl (chkpoint hs hp))) (ret_to (call_to (acons_to rfl (acons_to rfl rfl)) rfl (gaps_at hs hl hp hf)))))
/-- the indexes of what is below 0 -/
def lostI : Nat → List (Int × Int) → List Int
  | _, [] => []
  | k, q :: qs => if q.1 < 0 then (k : Int) :: lostI (k + 1) qs else lostI (k + 1) qs
theorem lost_en {o0 o1 o2 o3 : Option Sl} : ∀ (qs : List (Int × Int)) (k : Nat), lcM (gTp 2 (gMore (gNm 2) (gMore (gNm 3) gNone))) (tB2 ltD (e2 ixD (eLook 3) (eC (.int 0))) (eC (.int 0))) (eVar 2) [o0, o1, o2, o3] (enD k (qs.map dQ)) S = .ok ((lostI k qs).map .int) S
  | [], k => rfl
  | q :: qs, k => by
    have ih := lost_en (o0 := o0) (o1 := o1) (o2 := o2) (o3 := o3) qs (k + 1)
    have t : tB2 ltD (e2 ixD (eLook 3) (eC (.int 0))) (eC (.int 0)) [o0, o1, some (.val (.int k)), some (.val (dQ q))] S = .ok (decide (q.1 < 0)) S := int_lt (a := q.1) (b := 0) (e2_to (x := dQ q) (S1 := S) rfl rfl rfl) rfl rfl
    show lcM _ _ _ _ (.tup [.int k, dQ q] :: enD (k + 1) (qs.map dQ)) S = .ok ((if q.1 < 0 then (k : Int) :: lostI (k + 1) qs else lostI (k + 1) qs).map .int) S
    by_cases c : q.1 < 0
    · rw [if_pos c]
      rw [decide_eq_true c] at t
      exact lc_yes (ρ1 := [o0, o1, some (.val (.int k)), some (.val (dQ q))]) (S1 := S) rfl t rfl ih
    · rw [if_neg c]
      rw [decide_eq_false c] at t
      exact lc_no (ρ1 := [o0, o1, some (.val (.int k)), some (.val (dQ q))]) (S1 := S) rfl t ih
theorem en_len : ∀ (ds : List D) (k : Nat), (enD k ds).length = ds.length
  | [], _ => rfl
  | _ :: ds, k => by show (_ :: enD (k + 1) ds).length = _; rw [List.length_cons, List.length_cons, en_len ds]
def lostD (rs : List Ineq) (ps : List Pn) : List Int := lostI 0 (gapsQ rs ps)
theorem broken_at (hs : IsSys sys bs rs) (hl : rs.length ≤ 6) (hp : Pts bs ps) (hf : Fits bs rs ps) : f_broken_at [sys, .tup (ptD ps)] S = .ok (.tup ((lostD rs ps).map .int)) S := by
  refine fn_rt (ret_to (bd_to (acons_to (bd_to (lcn_to (ds := enD 0 ((gapsQ rs ps).map dQ)) (S1 := S) (bd_to (acons_to (call_to (acons_to rfl (acons_to rfl rfl)) rfl (gaps_at hs hl hp hf)) rfl) rfl) ?_ (lost_en _ _)) rfl) rfl) rfl))
  rw [en_len, List.length_map]
  unfold gapsQ
  rw [List.length_map]
  exact Nat.le_trans hl (by decide)
theorem broken_ok (hs : IsSys sys bs rs) (hl : rs.length ≤ 6) (hp : Pts bs ps) (hf : Fits bs rs ps) : f_broken [sys, .tup (ptD ps)] S = .ok (.tup ((lostD rs ps).map .int)) S :=
  fn_rt (seq_nx (expr_to (call_to (acons_to rfl rfl) rfl (chksys hs))) (seq_nx (expr_to (call_to (acons_to rfl (acons_to rfl rfl)) rfl (chkpoint hs hp))) (ret_to (call_to (acons_to rfl (acons_to rfl rfl)) rfl (broken_at hs hl hp hf)))))
theorem fits_ok (hs : IsSys sys bs rs) (hl : rs.length ≤ 6) (hp : Pts bs ps) (hf : Fits bs rs ps) : f_fits [sys, .tup (ptD ps)] S = .ok (.bl (lostD rs ps).isEmpty) S := by
  refine fn_rt (seq_nx (expr_to (call_to (acons_to rfl rfl) rfl (chksys hs))) (seq_nx (expr_to (call_to (acons_to rfl (acons_to rfl rfl)) rfl (chkpoint hs hp))) (ret_to (bd_to (call_to (acons_to rfl (acons_to rfl rfl)) rfl (broken_at hs hl hp hf)) ?_))))
  cases lostD rs ps <;> rfl
/-- an aim -/
theorem isbtw {i : Int} (h : i.natAbs ≤ 99) : f_is_between [.int i, .int (-99), .int 99] S = .ok (.bl true) S := by
  refine fn_rt (ret_to (bd_to (a := .bl true) (S1 := S) (call_to (acons_to rfl rfl) rfl isint_t) ?_))
  show tChB leD leD (eLook 1) (eLook 0) (eLook 2) [dI i, dI (-99), dI 99] S = _
  refine bd_to (a := .int (-99)) (S1 := S) rfl (bd_to (a := .int i) (S1 := S) rfl (bd_to (a := true) (S1 := S) (bd_to (a := .bl true) (S1 := S) ?_ rfl) ?_))
  · show Res.ok (D.bl (decide (-99 ≤ i))) S = _; rw [decide_eq_true (by omega)]
  · rw [if_pos rfl]
    refine bd_to (a := .int 99) (S1 := S) rfl ?_
    show Res.ok (D.bl (decide (i ≤ 99))) S = _; rw [decide_eq_true (by omega)]
theorem all_yes : ∀ ws : List Int, allL (ws.map fun _ => .bl true) = some (.bl true)
  | [] => rfl
  | w :: ws => by
    have ih := all_yes ws
    unfold allL at ih ⊢
    show ((blsO (ws.map fun _ => D.bl true)).map (true :: ·)).map _ = _
    cases e : blsO (ws.map fun _ => D.bl true) with
    | none => rw [e] at ih; cases ih
    | some bs =>
      rw [e] at ih
      simp only [Option.map_some, Option.some.injEq, D.bl.injEq] at ih ⊢
      simpa using ih
theorem fit_w {w : List Int} (h : Fit bs w ps) : (∀ x ∈ w, x.natAbs ≤ 99) ∧ w.length = bs.length ∧ w.length ≤ 2 := by
  cases h with
  | one hx hp => exact ⟨fun x m => (List.mem_singleton.mp m) ▸ hx, rfl, by show 1 ≤ 2; decide⟩
  | two hx hy hp hq =>
    refine ⟨fun x m => ?_, rfl, by show 2 ≤ 2; decide⟩
    simp only [List.mem_cons, List.not_mem_nil, or_false] at m
    rcases m with rfl | rfl
    · exact hx
    · exact hy
theorem isaim (hs : IsSys sys bs rs) {w : List Int} (h : Fit bs w ps) : f_is_aim [sys, .tup (dW w)] S = .ok (.bl true) S := by
  obtain ⟨a, l, s, rfl⟩ := hs
  obtain ⟨hw, wl, w2⟩ := fit_w h
  let o0 : Option Sl := some (.val (.obj 0 [a, .tup (kD bs), l, s, .tup (bndD rs)]))
  refine fn_rt (seq_nx (ρ1 := [o0, some (.val (.tup (dW w))), none]) (S1 := S) (if_f (S1 := S) (or_f (S1 := S) rfl (tb2_to (x := .int (dW w).length) (y := .int (kD bs).length) (S1 := S) rfl rfl ?_)) rfl) (ret_to (bd_to (acons_to (d := .lst (w.map fun _ => .bl true)) (S1 := S) (bd_to (lcn_to (ds := dW w) (S1 := S) rfl (by rw [dW_len]; exact Nat.le_trans w2 (by decide)) (lc_map (q := fun _ => .bl true) fun x m => ⟨[o0, some (.val (.tup (dW w))), dI x], rfl, rfl, call_to (acons_to rfl (acons_to rfl (acons_to rfl rfl))) rfl (isbtw (hw x m))⟩)) rfl) rfl) ?_)))
  · rw [dW_len, kD_len, wl]
    show blO (some (!((bs.length : Int) == bs.length))) S = _
    rw [beq_self_eq_true]; rfl
  · show optM (allL (w.map fun _ => .bl true)) S = _
    rw [all_yes]; rfl
theorem value_ok (hs : IsSys sys bs rs) (hp : Pts bs ps) {w : List Int} (h : Fit bs w ps) : f_value [sys, .tup (dW w), .tup (ptD ps)] S = .ok (dQ (sQ w ps)) S :=
  fn_rt (seq_nx (expr_to (call_to (acons_to rfl rfl) rfl (chksys hs)))
    (seq_nx (expr_to (call_to (acons_to rfl (acons_to rfl rfl)) rfl (fn_nx (if_f (S1 := S) (not_to (k := true) (S1 := S) (bd_to (call_to (acons_to rfl (acons_to rfl rfl)) rfl (isaim hs h)) rfl)) rfl))))
    (seq_nx (expr_to (call_to (acons_to rfl (acons_to rfl rfl)) rfl (chkpoint hs hp))) (ret_to (call_to (acons_to rfl (acons_to (call_to (acons_to rfl rfl) rfl (asfr hp)) rfl)) rfl (psum_ok h))))))
end LW

set_option Elab.async false
set_option linter.all false
set_option maxRecDepth 100000
set_option maxHeartbeats 4000000
namespace LW
open LS
/-! ### points drawn -/
section
variable {S : Sto} {n : Nat} {u : Int} {ρ : Rho}
abbrev farB : Sx := sSet 1 (e2 addD (e2 mulD (eC (.int 10)) (eLook 1)) (eFn 2 f__law_draw (aCons (eVar 0) (aCons (eC (.int 10)) aNil))))
theorem far_loop {n : Nat} : ∀ (j i v : Nat) (k : Int) (S : Sto) (u : Int) (o2 : Option Sl), i + j ≤ 39 → v < 10 ^ i → u + j < 2 ^ 58 → Spr S n u →
    ∃ (w : Nat) (S' : Sto) (p : Option Sl), forM (gNm 2) farB (rngD k j) [some (.val (.ref n)), dI v, o2] S = .ok (.nx [some (.val (.ref n)), dI w, p]) S' ∧ w < 10 ^ 39 ∧ Spr S' n (u + j) ∧ Rest S S' n
  | 0, i, v, k, S, u, o2, l, hv, _, h => ⟨v, S, o2, rfl, Nat.lt_of_lt_of_le hv (Nat.pow_le_pow_right (by decide) (by omega)), h.le (by omega), .refl⟩
  | j + 1, i, v, k, S, u, o2, l, hv, hu, h => by
    have hj : ((j + 1 : Nat) : Int) = (j : Int) + 1 := by omega
    rw [hj] at hu
    have bv : Bg (v : Int) := by
      have e : ((v : Int)).natAbs = v := by omega
      show _ < 10 ^ 100
      rw [e]
      exact Nat.lt_of_lt_of_le hv (Nat.pow_le_pow_right (by decide) (by omega))
    obtain ⟨d, S1, e1, d0, d1, sp1, r1⟩ := drawE (z := 10) (ρ := [some (.val (.ref n)), dI v, dI k]) h (by omega) (by decide) (by decide) rfl (fz := eC (.int 10)) (fun _ => rfl)
    obtain ⟨c, rfl⟩ : ∃ c : Nat, d = c := ⟨d.toNat, by omega⟩
    obtain ⟨w, S2, p, e2, hw, sp2, r2⟩ := far_loop j (i + 1) (10 * v + c) (k + 1) S1 (u + 1) (dI k) (by omega) (by rw [Nat.pow_succ]; omega) (by omega) sp1
    refine ⟨w, S2, p, ?_, hw, sp2.le (by omega), r1.trans r2⟩
    rw [rng_step]
    refine for_cons (ρ1 := [some (.val (.ref n)), dI v, dI k]) rfl (set_to (e2_to (e2_to (x := .int 10) (y := .int v) (S1 := S) (S2 := S) rfl rfl (mulB (by decide) bv)) e1 rfl) (by show 1 < 3; decide)) ?_
    have e : (10 : Int) * (v : Int) + (c : Int) = ((10 * v + c : Nat) : Int) := by omega
    rw [e]; exact e2
theorem far_ok (h : Spr S n u) (hu : u < 2 ^ 57) : ∃ (a : Int) (S' : Sto), f__law_far_integer [.ref n] S = .ok (.int a) S' ∧ a.natAbs ≤ 10 ^ 40 ∧ Spr S' n (u + 42) ∧ Rest S S' n := by
  let R : Option Sl := some (.val (.ref n))
  obtain ⟨t, S1, e1, m1, sp1, r1⟩ := of_ok (ds := [.int 1, .int 2, .int 7, .int 39]) h (by omega) (by decide) (by decide)
  obtain ⟨j, rfl, hj⟩ : ∃ j : Nat, t = .int j ∧ j ≤ 39 := by
    simp only [List.mem_cons, List.not_mem_nil, or_false] at m1
    rcases m1 with rfl | rfl | rfl | rfl
    · exact ⟨1, rfl, by decide⟩
    · exact ⟨2, rfl, by decide⟩
    · exact ⟨7, rfl, by decide⟩
    · exact ⟨39, rfl, by decide⟩
  obtain ⟨w, S2, p, e2, hw, sp2, r2⟩ := far_loop (n := n) j 0 0 0 S1 (u + 1) none (by omega) (by decide) (by omega) sp1
  obtain ⟨t2, S3, e3, m3, sp3, r3⟩ := of_ok (ds := [.int w, .int w, .int (10 ^ 39 + (w : Int)), .int (9 * 10 ^ 39)]) sp2 (by omega) (by show 0 < 4; decide) (by show 4 < 1073741824; decide)
  obtain ⟨b, rfl, hb⟩ : ∃ b : Int, t2 = .int b ∧ b.natAbs ≤ 10 ^ 40 := by
    simp only [List.mem_cons, List.not_mem_nil, or_false] at m3
    rcases m3 with rfl | rfl | rfl | rfl
    · exact ⟨_, rfl, by omega⟩
    · exact ⟨_, rfl, by omega⟩
    · exact ⟨_, rfl, by omega⟩
    · exact ⟨_, rfl, by decide⟩
  obtain ⟨d, S4, e4, d0, d1, sp4, r4⟩ := drawE (z := 2) (ρ := [R, dI b, p]) sp3 (by omega) (by decide) (by decide) rfl (fz := eC (.int 2)) (fun _ => rfl)
  have k3 : eN (nLst (aCons (eVar 1) (aCons (eVar 1) (aCons (LS.e2 addD (LS.e2 powD (eC (.int 10)) (eC (.int 39))) (eLook 1)) (aCons (LS.e2 mulD (eC (.int 9)) (LS.e2 powD (eC (.int 10)) (eC (.int 39)))) aNil))))) [R, dI w, p] S2 = .ok (.lst [.int w, .int w, .int (10 ^ 39 + (w : Int)), .int (9 * 10 ^ 39)]) S2 := by
    have p39 : ∀ ρ : Rho, LS.e2 powD (eC (.int 10)) (eC (.int 39)) ρ S2 = .ok (.int (10 ^ 39)) S2 := fun ρ => rfl
    exact bd_to (a := [.int w, .int w, .int (10 ^ 39 + (w : Int)), .int (9 * 10 ^ 39)]) (S1 := S2) (bd_to (acons_to (d := .int w) (S1 := S2) rfl (acons_to (d := .int w) (S1 := S2) rfl (acons_to (d := .int (10 ^ 39 + (w : Int))) (S1 := S2) (e2_to (S2 := S2) (y := .int w) (p39 _) rfl rfl) (acons_to (d := .int (9 * 10 ^ 39)) (S1 := S2) (e2_to (x := .int 9) (S1 := S2) rfl (p39 _) (mulB (by decide) (bgA (n := 10 ^ 39) (by decide) (by decide)))) rfl)))) rfl) rfl
  have fin : ∃ a : Int, sRet (eIf (tB2 eqD (eFn 2 f__law_draw (aCons (eVar 0) (aCons (eC (.int 2)) aNil))) (eC (.int 0))) (eVar 1) (LS.e2 subD (eC (.int 0)) (eLook 1))) [R, dI b, p] S3 = .ok (.rt (.int a)) S4 ∧ a.natAbs ≤ 10 ^ 40 := by
    by_cases c : d = 0
    · exact ⟨b, ret_to (eif_t (S1 := S4) (eqz_t e4 c) rfl), hb⟩
    · exact ⟨0 - b, ret_to (eif_f (S1 := S4) (eqz_f e4 c) rfl), by omega⟩
  obtain ⟨a, ea, ha⟩ := fin
  refine ⟨a, S4, fn_rt (seq_nx (ρ1 := [R, dI 0, none]) (S1 := S) rfl (seq_nx (ρ1 := [R, dI w, p]) (S1 := S2) (for_to (ds := rngD 0 j) (S1 := S1) (bd_to (acons_to (call_to (acons_to rfl (acons_to rfl rfl)) rfl e1) rfl) (rng1_to (by omega))) e2) (seq_nx (ρ1 := [R, dI b, p]) (S1 := S3) (set_to (call_to (acons_to rfl (acons_to k3 rfl)) rfl e3) (by show 1 < 3; decide)) ea))), ha, sp4.le (by omega), r1.trans (r2.trans (r3.trans r4))⟩
theorem val_ok (h : Spr S n u) (hu : u < 2 ^ 56) (k : Bool) : ∃ (p : Pn) (S' : Sto), f__law_value_for [.ref n, .str (kOf k)] S = .ok p.d S' ∧ Pok k p ∧ Spr S' n (u + 84) ∧ Rest S S' n := by
  let R : Option Sl := some (.val (.ref n))
  obtain ⟨a, S1, e1, ha, sp1, r1⟩ := far_ok h (by omega)
  cases k with
  | true =>
    refine ⟨⟨.int a, a, 1⟩, S1, fn_rt (seq_rt (if_t (S1 := S) rfl (ret_to (call_to (acons_to rfl rfl) rfl e1)))), ⟨ha, by show (0 : Int) < 1; decide, by show (1 : Int) ≤ 10 ^ 38; decide, by rw [Int.gcd_one_right], .inl ⟨rfl, rfl, rfl⟩⟩, sp1.le (by omega), r1⟩
  | false =>
    obtain ⟨b, S2, e2, hb, sp2, r2⟩ := far_ok sp1 (by omega)
    let c : Int := 1 + (((b.natAbs : Nat) : Int)).fmod (10 ^ 38)
    have em : (((b.natAbs : Nat) : Int)).fmod (10 ^ 38) = (((b.natAbs : Nat) : Int)) % (10 ^ 38) := Int.fmod_eq_emod_of_nonneg _ (by decide)
    have c0 : 0 < c ∧ c ≤ 10 ^ 38 := by
      show 0 < 1 + _ ∧ 1 + _ ≤ _
      rw [em]
      omega
    obtain ⟨g, g0, q1, q2, q3, q4⟩ := low_spec a c c0.1
    obtain ⟨l1, l2, l3, -⟩ := low_le a c c0.1
    have bc : c.natAbs ≤ 10 ^ 38 := b38 c0.1 c0.2
    refine ⟨⟨dQ (lowest a c), (lowest a c).1, (lowest a c).2⟩, S2, fn_rt (seq_nx (ρ1 := [R, some (.val (.str "any"))]) (S1 := S) (if_f (S1 := S) rfl rfl) (ret_to (call_to (acons_to (call_to (acons_to rfl rfl) rfl e1) (acons_to (d := .int c) (S1 := S2) ?_ rfl)) rfl (lratio_ok a c S2 (by omega) (bgA ha (by decide)) (bgA bc (by decide)))))), ⟨Nat.le_trans l1 ha, l2, Int.le_trans l3 c0.2, q4, .inr ⟨rfl, rfl⟩⟩, sp2.le (by omega), r1.trans r2⟩
    have p38 : ∀ (ρ : Rho) (S : Sto), LS.e2 powD (eC (.int 10)) (eC (.int 38)) ρ S = .ok (.int (10 ^ 38)) S := fun ρ S => rfl
    have ab : eCall (g1 intD) (aCons (eCall (g1 absD) (aCons (eFn 1 f__law_far_integer (aCons (eVar 0) aNil)) aNil)) aNil) [R, some (.val (.str "any"))] S1 = .ok (.int ((b.natAbs : Nat) : Int)) S2 := by
      refine bd_to (acons_to (d := .int ((b.natAbs : Nat) : Int)) (S1 := S2) (bd_to (acons_to (call_to (acons_to rfl rfl) rfl e2) rfl) ?_) rfl) rfl
      show Res.ok (D.int (if b < 0 then -b else b)) S2 = _
      congr 2
      split <;> omega
    exact e2_to (x := .int 1) (S1 := S1) rfl (e2_to ab (p38 _ _) (mod_to (by decide))) rfl
abbrev valE : Ev := eFn 2 f__law_value_for (aCons (eVar 0) (aCons (eVar 16) aNil))
theorem vals_ok {n : Nat} {ρ : Rho} (h0 : ρ[0]? = some (some (.val (.ref n)))) (hl : 16 < ρ.length) : ∀ (bs : List Bool) (S : Sto) (u : Int), u + 84 * bs.length < 2 ^ 56 → Spr S n u →
    ∃ ps S', lcM (gNm 16) yes valE ρ (kD bs) S = .ok (ptD ps) S' ∧ All2 Pok bs ps ∧ Spr S' n (u + 84 * bs.length) ∧ Rest S S' n
  | [], S, u, _, h => ⟨[], S, rfl, .nil, h.le (by show u ≤ u + 84 * ((0 : Nat) : Int); omega), .refl⟩
  | b :: bs, S, u, hu, h => by
    have hb : (((b :: bs).length : Nat) : Int) = (bs.length : Int) + 1 := by rw [List.length_cons]; omega
    rw [hb] at hu
    obtain ⟨p, S1, e1, hp, sp1, r1⟩ := val_ok h (by omega) b
    obtain ⟨ps, S2, e2, hps, sp2, r2⟩ := vals_ok h0 hl bs S1 (u + 84) (by omega) sp1
    refine ⟨p :: ps, S2, lc_yes (ρ1 := ρ.set 16 (some (.val (.str (kOf b))))) (S1 := S) (nm_to hl) rfl (call_to (acons_to (var_to ?_) (acons_to (var_to ?_) rfl)) rfl e1) e2, .cons hp hps, sp2.le (by rw [hb]; omega), r1.trans r2⟩
    · rw [List.getElem?_set_ne (by decide)]; exact h0
    · rw [List.getElem?_set_self hl]
theorem pts_of {m : Nat} {bs : List Bool} {ps : List Pn} (hm : m = 1 ∨ m = 2) (hb : bs.length = m) (h : All2 Pok bs ps) : Pts bs ps := by
  rcases hm with rfl | rfl
  · cases h with
    | nil => cases hb
    | cons h1 h2 =>
      cases h2 with
      | nil => exact .one h1
      | cons h3 h4 => simp at hb
  · cases h with
    | nil => cases hb
    | cons h1 h2 =>
      cases h2 with
      | nil => simp at hb
      | cons h3 h4 =>
        cases h4 with
        | nil => exact .two h1 h3
        | cons h5 h6 => simp at hb
/-- a point drawn -/
theorem spot_ok {m : Nat} {bs : List Bool} {ρ : Rho} (hm : m = 1 ∨ m = 2) (hb : bs.length = m) (h0 : ρ[0]? = some (some (.val (.ref n)))) (h3 : ρ[3]? = some (some (.val (.lst (kD bs))))) (hl : 16 < ρ.length) (h : Spr S n u) (hu : u < 2 ^ 55) :
    ∃ ps S', eCall (g1 tupleD) (aCons (eN (lcN (iE (eLook 3)) (gNm 16) yes valE [16])) aNil) ρ S = .ok (.tup (ptD ps)) S' ∧ Pts bs ps ∧ Spr S' n (u + 168) ∧ Rest S S' n := by
  have w0 : (wipeR ρ [16])[0]? = some (some (.val (.ref n))) := by
    show (ρ.set 16 none)[0]? = _
    rw [List.getElem?_set_ne (by decide)]; exact h0
  obtain ⟨ps, S1, e1, hp, sp, r⟩ := vals_ok w0 (by show 16 < (ρ.set 16 none).length; rw [List.length_set]; exact hl) bs S u (by omega) h
  refine ⟨ps, S1, bd_to (acons_to (bd_to (lcn_to (ds := kD bs) (S1 := S) (bd_to (look_to h3) rfl) (by rw [kD_len, hb]; rcases hm with rfl | rfl <;> decide) e1) rfl) rfl) rfl, pts_of hm hb hp, sp.le (by omega), r⟩
abbrev aimE : Ev := e2 subD (eFn 2 f__law_draw (aCons (eVar 0) (aCons (eC (.int 199)) aNil))) (eC (.int 99))
theorem aims_ok {n : Nat} {ρ : Rho} (h0 : ρ[0]? = some (some (.val (.ref n)))) (hl : 16 < ρ.length) : ∀ (bs : List Bool) (S : Sto) (u : Int), u + bs.length < 2 ^ 56 → Spr S n u →
    ∃ w S', lcM (gNm 16) yes aimE ρ (kD bs) S = .ok (dW w) S' ∧ (∀ x ∈ w, x.natAbs ≤ 99) ∧ w.length = bs.length ∧ Spr S' n (u + bs.length) ∧ Rest S S' n
  | [], S, u, _, h => ⟨[], S, rfl, nofun, rfl, h.le (by show u ≤ u + ((0 : Nat) : Int); omega), .refl⟩
  | b :: bs, S, u, hu, h => by
    have hb : (((b :: bs).length : Nat) : Int) = (bs.length : Int) + 1 := by rw [List.length_cons]; omega
    rw [hb] at hu
    obtain ⟨v, S1, e1, v0, v1, sp1, r1⟩ := dsubE (z := 199) (ρ := ρ.set 16 (some (.val (.str (kOf b))))) 99 h (by omega) (by decide) (by decide) (by rw [List.getElem?_set_ne (by decide)]; exact h0)
    obtain ⟨w, S2, e2, hw, lw, sp2, r2⟩ := aims_ok h0 hl bs S1 (u + 1) (by omega) sp1
    refine ⟨v :: w, S2, lc_yes (ρ1 := ρ.set 16 (some (.val (.str (kOf b))))) (S1 := S) (nm_to hl) rfl e1 e2, fun x hx => ?_, by rw [List.length_cons, List.length_cons, lw], sp2.le (by rw [hb]; omega), r1.trans r2⟩
    rcases List.mem_cons.mp hx with rfl | hx
    · omega
    · exact hw x hx
theorem aim_ok {m : Nat} {bs : List Bool} {ρ : Rho} (hm : m = 1 ∨ m = 2) (hb : bs.length = m) (h0 : ρ[0]? = some (some (.val (.ref n)))) (h3 : ρ[3]? = some (some (.val (.lst (kD bs))))) (hl : 16 < ρ.length) (h : Spr S n u) (hu : u < 2 ^ 55) :
    ∃ w S', eCall (g1 tupleD) (aCons (eN (lcN (iE (eLook 3)) (gNm 16) yes aimE [16])) aNil) ρ S = .ok (.tup (dW w)) S' ∧ (∀ x ∈ w, x.natAbs ≤ 99) ∧ w.length = bs.length ∧ Spr S' n (u + 2) ∧ Rest S S' n := by
  have w0 : (wipeR ρ [16])[0]? = some (some (.val (.ref n))) := by
    show (ρ.set 16 none)[0]? = _
    rw [List.getElem?_set_ne (by decide)]; exact h0
  obtain ⟨w, S1, e1, hw, lw, sp, r⟩ := aims_ok w0 (by show 16 < (ρ.set 16 none).length; rw [List.length_set]; exact hl) bs S u (by omega) h
  exact ⟨w, S1, bd_to (acons_to (bd_to (lcn_to (ds := kD bs) (S1 := S) (bd_to (look_to h3) rfl) (by rw [kD_len, hb]; rcases hm with rfl | rfl <;> decide) e1) rfl) rfl) rfl, hw, lw, sp.le (by omega), r⟩
end
end LW

set_option Elab.async false
set_option linter.all false
set_option maxRecDepth 100000
set_option maxHeartbeats 4000000
namespace LW
open LS
/-! ### the console -/
variable {S : Sto} {bs : List Bool} {rs : List Ineq} {ps : List Pn} {f : PySem.Str}
theorem eMeth_to {c n : Nat} {g : List D → M D} {e : Ev} {fl : Rho → M (List D)} {fs ds : List D} {ρ : Rho} {S1 S2 : Sto} {r : Res D} (h : e ρ S = .ok (.obj c fs) S1) (q : fl ρ S1 = .ok ds S2) (l : (D.obj c fs :: ds).length = n) (z : g (.obj c fs :: ds) S2 = r) : eMeth c n g e fl ρ S = r := by
  refine bd_to h ?_
  show (if c = c then bd (fl ρ) fun ds => if (D.obj c fs :: ds).length = n then g (.obj c fs :: ds) else dv else dv) S1 = _
  rw [if_pos rfl]
  exact bd_to q (by rw [if_pos l]; exact z)
/-- numbers with spaces between -/
def wordsT (zs : List Int) : PySem.Str := PySem.Txt.join (" " : PySem.Str) (zs.map cT)
theorem strs_cT : ∀ zs : List Int, strsO (zs.map fun z => D.str (cT z)) = some (zs.map cT)
  | [] => rfl
  | z :: zs => by
    show (strsO (zs.map fun z => D.str (cT z))).map (cT z :: ·) = _
    rw [strs_cT zs]; rfl
theorem sum_cT : ∀ zs : List Int, (∀ z ∈ zs, Bg z) → ((zs.map cT).map (·.length)).sum ≤ 101 * zs.length
  | [], _ => Nat.le_refl _
  | z :: zs, h => by
    have := cT_len (h z (List.mem_cons_self ..))
    have := sum_cT zs fun x hx => h x (List.mem_cons_of_mem _ hx)
    rw [List.map_cons, List.map_cons, List.sum_cons, List.length_cons]; omega
theorem words_any {zs : List Int} (h : ∀ z ∈ zs, Bg z) (l : zs.length ≤ 10) : sRet (m2 joinD (eC (.str " ")) (eN (lcN (iE (eLook 0)) (gNm 1) yes (eCall (g1 strD) (aCons (eLook 1) aNil)) [1]))) (rho0 2 [.tup (zs.map .int)]) S = .ok (.rt (.str (wordsT zs))) S := by
  refine ret_to (bd_to (a := .str " ") (S1 := S) rfl ?_)
  show bd (eN (lcN (iE (eLook 0)) (gNm 1) yes (eCall (g1 strD) (aCons (eLook 1) aNil)) [1]) (rho0 2 [.tup (zs.map .int)])) (fun y => joinD (.str " ") y) S = _
  refine (bd_to (a := .lst (zs.map fun z => .str (cT z))) (S1 := S) (bd_to (lcn_to (ds := zs.map .int) (S1 := S) rfl (by rw [List.length_map]; exact Nat.le_trans l (by decide)) (lc_map (q := fun z => .str (cT z)) fun z hz => ⟨[some (.val (.tup (zs.map .int))), dI z], rfl, rfl, bd_to (acons_to (d := .int z) (S1 := S) rfl rfl) (str_cT (h z hz) S)⟩)) rfl) ?_)
  show (match strsO (zs.map fun z => D.str (cT z)) with | some ts => if ((ts : List PySem.Str).map (fun t : PySem.Str => t.length)).sum + ts.length * (" " : PySem.Str).length ≤ 16777216 then Res.ok (D.str (PySem.Txt.join (" " : PySem.Str) ts)) S else .div | none => .div) = _
  rw [strs_cT]
  have s := sum_cT zs h
  have : ((zs.map cT).map (·.length)).sum + (zs.map cT).length * (" " : PySem.Str).length ≤ 16777216 := by
    rw [List.length_map, show (" " : PySem.Str).length = 1 from rfl]; omega
  show (if ((zs.map cT).map (·.length)).sum + (zs.map cT).length * (" " : PySem.Str).length ≤ 16777216 then Res.ok (D.str (PySem.Txt.join (" " : PySem.Str) (zs.map cT))) S else .div) = _
  rw [if_pos this]; rfl
theorem lwords_ok {zs : List Int} (h : ∀ z ∈ zs, Bg z) (l : zs.length ≤ 10) : f__law_words_of [.tup (zs.map .int)] S = .ok (.str (wordsT zs)) S := fn_rt (words_any h l)
theorem said_ok {zs : List Int} (h : ∀ z ∈ zs, Bg z) (l : zs.length ≤ 10) : f_numbers_said [.tup (zs.map .int)] S = .ok (.str (wordsT zs)) S := fn_rt (words_any h l)
/-- a line of the console -/
def lineT (zs : List Int) : PySem.Str := ("point " : PySem.Str) ++ wordsT zs
theorem line_split {zs : List Int} (h : ∀ z ∈ zs, Bg z) (l : zs.length ≤ 10) (n : zs ≠ []) : PySem.Txt.split (lineT zs) (" " : PySem.Str) = ("point" : PySem.Str) :: zs.map cT ∧ (lineT zs).length ≤ 2000 ∧ (wordsT zs).length ≤ 1500 := by
  have e : lineT zs = PySem.Txt.join (" " : PySem.Str) (("point" : PySem.Str) :: zs.map cT) := by
    cases zs with
    | nil => exact absurd rfl n
    | cons z zs =>
      unfold lineT wordsT
      rw [TL.join_eq, TL.join_eq]
      show _ = ("point" : PySem.Str) ++ " " ++ PySem.Str.join (" " : PySem.Str) ((z :: zs).map cT)
      apply TL.ext_tl
      rw [TL.tl_append, TL.tl_append, TL.tl_append]
      have : TL.tl ("point " : PySem.Str) = TL.tl ("point" : PySem.Str) ++ TL.tl (" " : PySem.Str) := by decide +kernel
      rw [this]
  have s := sum_cT zs h
  have wl : (wordsT zs).length ≤ 1500 := by
    have j := join_len (" " : PySem.Str) (zs.map cT)
    rw [← TL.join_eq, List.length_map, show (" " : PySem.Str).length = 1 from rfl] at j
    show (PySem.Txt.join (" " : PySem.Str) (zs.map cT)).length ≤ 1500
    omega
  refine ⟨?_, ?_, wl⟩
  · rw [e]
    refine TL.split_join (s := 32) (S := []) (by decide +kernel) (by decide +kernel) (by simp) fun p hp => ?_
    rcases List.mem_cons.mp hp with rfl | hp
    · decide +kernel
    · obtain ⟨z, -, rfl⟩ := List.mem_map.mp hp
      exact cT_free (by decide)
  · unfold lineT
    rw [len_app, show ("point " : PySem.Str).length = 6 from rfl]; omega
/-- what is due -/
def dueT (lost : List Int) : PySem.Str := if lost.isEmpty = true then ("kept" : PySem.Str) else wordsT lost
/-- all unknowns are whole -/
inductive Sol : List Bool → List Pn → List Int → Prop
  | one {p : Pn} : Pok true p → Sol [true] [p] [p.a]
  | two {p q : Pn} : Pok true p → Pok true q → Sol [true, true] [p, q] [p.a, q.a]
theorem pok_int {p : Pn} (h : Pok true p) : p.d = .int p.a := by
  rcases h.hd with ⟨-, e, -⟩ | ⟨e, -⟩
  · exact e
  · cases e
theorem sol_pts {zs : List Int} (h : Sol bs ps zs) : Pts bs ps ∧ ptD ps = zs.map .int ∧ (∀ z ∈ zs, Bg z) ∧ zs ≠ [] ∧ zs.length ≤ 2 := by
  cases h with
  | one h1 =>
    refine ⟨.one h1, ?_, fun z hz => ?_, nofun, by show 1 ≤ 2; decide⟩
    · unfold ptD; rw [List.map_cons, pok_int h1]; rfl
    · rw [List.mem_singleton.mp hz]; exact bgA h1.ha (by decide)
  | two h1 h2 =>
    refine ⟨.two h1 h2, ?_, fun z hz => ?_, nofun, by show 2 ≤ 2; decide⟩
    · unfold ptD; rw [List.map_cons, List.map_cons, pok_int h1, pok_int h2]; rfl
    · simp only [List.mem_cons, List.not_mem_nil, or_false] at hz
      rcases hz with rfl | rfl
      · exact bgA h1.ha (by decide)
      · exact bgA h2.ha (by decide)
theorem is_sys : IsSys (sysD f bs rs) bs rs := ⟨_, _, _, rfl⟩
theorem lost_b : ∀ (qs : List (Int × Int)) (k : Nat), (lostI k qs).length ≤ qs.length ∧ ∀ i ∈ lostI k qs, i.natAbs ≤ k + qs.length
  | [], k => ⟨Nat.le_refl _, nofun⟩
  | q :: qs, k => by
    obtain ⟨a, b⟩ := lost_b qs (k + 1)
    show (if q.1 < 0 then (k : Int) :: lostI (k + 1) qs else lostI (k + 1) qs).length ≤ _ ∧ ∀ i ∈ (if q.1 < 0 then (k : Int) :: lostI (k + 1) qs else lostI (k + 1) qs), _
    by_cases c : q.1 < 0
    · rw [if_pos c]
      refine ⟨by rw [List.length_cons, List.length_cons]; omega, fun i hi => ?_⟩
      rw [List.length_cons]
      rcases List.mem_cons.mp hi with rfl | hi
      · omega
      · have := b i hi; omega
    · rw [if_neg c]
      refine ⟨by rw [List.length_cons]; omega, fun i hi => ?_⟩
      rw [List.length_cons]
      have := b i hi; omega
theorem gapsQ_len : (gapsQ rs ps).length = rs.length := by unfold gapsQ; rw [List.length_map]
theorem lost_bg (hl : rs.length ≤ 6) : (∀ z ∈ lostD rs ps, Bg z ∧ z.natAbs ≤ 6) ∧ (lostD rs ps).length ≤ 6 := by
  obtain ⟨a, b⟩ := lost_b (gapsQ rs ps) 0
  rw [gapsQ_len] at a b
  exact ⟨fun z hz => ⟨bg_c (by have := b z hz; omega), by have := b z hz; omega⟩, Nat.le_trans a hl⟩
theorem aimed_ok {zs : List Int} (h : Sol bs ps zs) (hl : rs.length ≤ 6) (hf : Fits bs rs ps) : f_Console_aimed [.obj 1 [sysD f bs rs], .str "point", .tup (zs.map .int)] S = .ok (.str (dueT (lostD rs ps))) S := by
  obtain ⟨hp, ez, -, -, -⟩ := sol_pts h
  have bk := broken_at (S := S) (sys := sysD f bs rs) is_sys hl hp hf
  rw [ez] at bk
  obtain ⟨lb, ll⟩ := lost_bg (rs := rs) (ps := ps) hl
  let o0 : Option Sl := some (.val (.obj 1 [sysD f bs rs]))
  let o1 : Option Sl := some (.val (.str "point"))
  let o2 : Option Sl := some (.val (.tup (zs.map .int)))
  let L : Option Sl := some (.val (.tup ((lostD rs ps).map .int)))
  have fin : sRet (eIf (tT (eLook 3)) (eFn 1 f_numbers_said (aCons (eVar 3) aNil)) (eC (.str "kept"))) [o0, o1, o2, L, none] S = .ok (.rt (.str (dueT (lostD rs ps)))) S := by
    show sRet _ [o0, o1, o2, some (.val (.tup ((lostD rs ps).map .int))), none] S = _
    generalize lostD rs ps = ls at *
    cases ls with
    | nil => exact ret_to (eif_f (S1 := S) rfl rfl)
    | cons i is => exact ret_to (eif_t (S1 := S) rfl (call_to (acons_to rfl rfl) rfl (said_ok (fun z hz => (lb z hz).1) (Nat.le_trans ll (by decide)))))
  refine fn_rt (seq_nx (ρ1 := [o0, o1, o2, none, none]) (S1 := S) (if_f (S1 := S) (and_f (S1 := S) (tb2_to (x := .str "point") (y := .str "best") (S1 := S) (S2 := S) rfl rfl rfl)) rfl) (seq_nx (ρ1 := [o0, o1, o2, none, none]) (S1 := S) (if_f (S1 := S) (by with_unfolding_all rfl) rfl) (seq_nx (ρ1 := [o0, o1, o2, none, none]) (S1 := S) (if_f (S1 := S) ?_ rfl) (seq_rt (if_t (S1 := S) (tb2_to (x := .str "point") (y := .str "point") (S1 := S) (S2 := S) rfl rfl rfl) (seq_nx (ρ1 := [o0, o1, o2, L, none]) (S1 := S) (set_to (call_to (acons_to (d := sysD f bs rs) (S1 := S) rfl (acons_to rfl rfl)) rfl bk) (by show 3 < 5; decide)) fin))))))
  cases h <;> with_unfolding_all rfl
theorem answer_ok {zs : List Int} (h : Sol bs ps zs) (hl : rs.length ≤ 6) (hf : Fits bs rs ps) : f_Console_answer [.obj 1 [sysD f bs rs], .str "point", .lst (zs.map fun z => .str (cT z))] S = .ok (.str (dueT (lostD rs ps))) S := by
  obtain ⟨hp, ez, hb, -, zl⟩ := sol_pts h
  have am := aimed_ok (S := S) (f := f) h hl hf
  let o0 : Option Sl := some (.val (.obj 1 [sysD f bs rs]))
  let o1 : Option Sl := some (.val (.str "point"))
  let o2 : Option Sl := some (.val (.lst (zs.map fun z => .str (cT z))))
  let o5 : Option Sl := some (.val (.tup (zs.map .int)))
  refine fn_rt (seq_nx (ρ1 := [o0, o1, o2, none, none, none, none]) (S1 := S) (if_f (S1 := S) (and_f (S1 := S) (tb2_to (x := .str "point") (y := .str "row") (S1 := S) (S2 := S) rfl rfl rfl)) rfl) (seq_nx (ρ1 := [o0, o1, o2, none, none, none, none]) (S1 := S) (if_f (S1 := S) (tb2_to (x := .str "point") (y := .str "lot") (S1 := S) (S2 := S) rfl rfl rfl) rfl) (seq_nx (ρ1 := [o0, o1, o2, none, none, none, none]) (S1 := S) (if_f (S1 := S) (and_f (S1 := S) (tb2_to (x := .str "point") (y := .str "reach") (S1 := S) (S2 := S) rfl rfl rfl)) rfl) (seq_nx (ρ1 := [o0, o1, o2, none, none, o5, none]) (S1 := S) (set_to (bd_to (acons_to (bd_to (lcn_to (ds := zs.map fun z => .str (cT z)) (S1 := S) rfl (by rw [List.length_map]; exact Nat.le_trans zl (by decide)) (lc_map (q := fun z => .int z) fun z hz => ⟨[o0, o1, o2, none, none, none, some (.val (.str (cT z)))], rfl, rfl, call_to (acons_to rfl rfl) rfl (signed_ok (hb z hz) S)⟩)) rfl) rfl) rfl) (by show 5 < 7; decide)) (seq_nx (ρ1 := [o0, o1, o2, none, none, o5, none]) (S1 := S) (if_f (S1 := S) ?_ rfl) (ret_to (eMeth_to (S1 := S) (S2 := S) rfl (acons_to rfl (acons_to rfl rfl)) rfl am)))))))
  cases h <;> with_unfolding_all rfl
theorem say_ok {zs : List Int} (h : Sol bs ps zs) (hl : rs.length ≤ 6) (hf : Fits bs rs ps) : f_Console_say [.obj 1 [sysD f bs rs], .str (lineT zs)] S = .ok (.str (dueT (lostD rs ps))) S := by
  obtain ⟨hp, ez, hb, ne, zl⟩ := sol_pts h
  have an := answer_ok (S := S) (f := f) h hl hf
  obtain ⟨hs, ln, -⟩ := line_split hb (Nat.le_trans zl (by decide)) ne
  let o0 : Option Sl := some (.val (.obj 1 [sysD f bs rs]))
  let o1 : Option Sl := some (.val (.str (lineT zs)))
  let W : List D := .str "point" :: zs.map fun z => .str (cT z)
  have eW : (("point" : PySem.Str) :: zs.map cT).map D.str = W := by rw [List.map_cons, List.map_map]; rfl
  have z0 : 0 < zs.length := by cases zs with
    | nil => exact absurd rfl ne
    | cons z zs => exact Nat.succ_pos _
  refine fn_rt (seq_nx (ρ1 := [o0, o1, some (.val (.lst W)), none]) (S1 := S) (set_to (eif_t (S1 := S) rfl ((split_to (a := lineT zs) rfl rfl (Nat.le_trans (Nat.add_le_add_right ln 2) (by decide))).trans (by rw [hs, eW]))) (by show 2 < 4; decide)) (seq_nx (ρ1 := [o0, o1, some (.val (.lst W)), some (.val (.str (dueT (lostD rs ps))))]) (S1 := S) (set_to (eif_f (S1 := S) (eqz_f (d := (W.length : Nat)) (len_lst rfl) ?_) (eMeth_to (S1 := S) (S2 := S) rfl (acons_to (d := .str "point") (S1 := S) (e2_to rfl rfl ix0) (acons_to (slL1 (d := .str "point") (ds := zs.map fun z => .str (cT z)) rfl) rfl)) rfl an)) (by show 3 < 4; decide)) (seq_nx (ρ1 := [o0, o1, some (.val (.lst W)), some (.val (.str (dueT (lostD rs ps))))]) (S1 := S) (if_f (S1 := S) rfl rfl) (ret_to rfl))))
  show ¬ (((D.str "point" :: zs.map fun z => D.str (cT z)).length : Nat) : Int) = 1
  rw [List.length_cons, List.length_map]; omega
theorem console_ok {ρ : Rho} {e : Ev} (h : e ρ S = .ok (sysD f bs rs) S) : eMk 1 (some 1) f_Console_init (aCons e aNil) ρ S = .ok (.obj 1 [sysD f bs rs]) S := by
  have c := chksys (S := S) (sys := sysD f bs rs) (bs := bs) (rs := rs) is_sys
  refine bd_to (acons_to h rfl) ?_
  show bd (f_Console_init [sysD f bs rs]) (fun fs => ret (D.obj 1 fs)) S = _
  have k : f_Console_init [sysD f bs rs] S = .ok [sysD f bs rs] S := by
    show mkM 2 1 1 q_Console_init [sysD f bs rs] S = _
    unfold mkM
    refine bd_to (a := Fl.nx [some (.mak 1 [sysD f bs rs]), some (.val (sysD f bs rs))]) (S1 := S) ?_ rfl
    exact seq_nx (ρ1 := [some (.mak 1 []), some (.val (sysD f bs rs))]) (S1 := S) (expr_to (call_to (acons_to rfl rfl) rfl c)) (bd_to (a := sysD f bs rs) (S1 := S) rfl rfl)
  exact bd_to k rfl
end LW

set_option Elab.async false
set_option linter.all false
set_option maxRecDepth 100000
set_option maxHeartbeats 4000000
namespace LW
open LS
/-! ### the repr of a system's text and inequalities -/
def Asc (x : PySem.Str) : Prop := ∀ c ∈ TL.tl x, c < 16 ^ 8
theorem Asc.app {x y : PySem.Str} (a : Asc x) (b : Asc y) : Asc (x ++ y) := fun c m => by
  rw [TL.tl_append] at m
  rcases List.mem_append.mp m with m | m
  · exact a c m
  · exact b c m
theorem asc_join {y : PySem.Str} (b : Asc y) : ∀ xs : List PySem.Str, (∀ x ∈ xs, Asc x) → Asc (PySem.Str.join y xs)
  | [], _ => fun c m => nomatch m
  | [x], h => h x (List.mem_singleton.mpr rfl)
  | x :: z :: xs, h => by
    have ih := asc_join b (z :: xs) fun w hw => h w (List.mem_cons_of_mem _ hw)
    show Asc (x ++ y ++ PySem.Str.join y (z :: xs))
    exact ((h x (List.mem_cons_self ..)).app b).app ih
theorem asc_all {x : PySem.Str} (h : (TL.tl x).all (fun c => decide (c < 16 ^ 8)) = true) : Asc x := fun c m => of_decide_eq_true (List.all_eq_true.mp h c m)
theorem asc_cT (c : Int) : Asc (cT c) := fun k m => by
  have : k ≤ 57 := by
    rcases Int.lt_or_le c 0 with l | l
    · obtain ⟨n, rfl⟩ : ∃ n : Nat, c = -(n : Int) := ⟨c.natAbs, by omega⟩
      rw [tl_neg (by omega)] at m
      rcases List.mem_cons.mp m with m | m
      · omega
      · exact (TL.numL_digits n k m).2
    · obtain ⟨n, rfl⟩ : ∃ n : Nat, c = (n : Int) := ⟨c.natAbs, by omega⟩
      rw [tl_nat] at m
      exact (TL.numL_digits n k m).2
  exact Nat.lt_of_le_of_lt this (by decide)
theorem asc_wT (n k : Nat) : Asc (wT n k) := by
  have l : Asc (letT k) := by unfold letT; split <;> exact asc_all (by decide +kernel)
  unfold wT
  split
  · exact l
  · exact ((asc_cT _).app (asc_all (by decide +kernel))).app l
theorem asc_fT (a : Int) (k : Nat) : Asc (fT a k) := by
  have l : Asc (sgT a) := by unfold sgT; split <;> exact asc_all (by decide +kernel)
  exact l.app (asc_wT _ _)
theorem asc_opT (a : Int) : Asc (opT a) := by unfold opT; split <;> exact asc_all (by decide +kernel)
theorem asc_signT (b : Bool) : Asc (signT b) := by cases b <;> exact asc_all (by decide +kernel)
theorem asc_sw : ∀ w : List Int, ∀ x ∈ sw w, Asc x
  | [], x, m => nomatch m
  | [a], x, m => by
    rw [List.mem_singleton.mp m]; exact asc_fT a 0
  | [a, b], x, m => by
    by_cases c : a = 0
    · have e : sw [a, b] = [fT b 1] := if_pos c
      rw [e] at m
      rw [List.mem_singleton.mp m]; exact asc_fT b 1
    · have e : sw [a, b] = [fT a 0, opT b, wT b.natAbs 1] := if_neg c
      rw [e] at m
      simp only [List.mem_cons, List.not_mem_nil, or_false] at m
      rcases m with rfl | rfl | rfl
      · exact asc_fT a 0
      · exact asc_opT b
      · exact asc_wT _ _
  | _ :: _ :: _ :: _, x, m => nomatch m
theorem asc_row (r : Ineq) : Asc r.text := by
  have sp : Asc (" " : PySem.Str) := asc_all (by decide +kernel)
  have s : Asc (sumT r.w) := by unfold sumT; rw [TL.join_eq]; exact asc_join sp _ (asc_sw r.w)
  exact (((s.app sp).app (asc_signT r.le)).app sp).app (asc_cT r.c)
theorem asc_head : ∀ m, m = 1 ∨ m = 2 → ∀ f ∈ heads m, (TL.tl f).all (fun c => decide (c < 16 ^ 8)) = true := by
  intro m hm
  rcases hm with rfl | rfl <;> decide +kernel
theorem asc_sheet {m : Nat} {f : PySem.Str} (hm : m = 1 ∨ m = 2) (hf : f ∈ heads m) (rs : List Ineq) : Asc (sheet f rs) := by
  unfold sheet
  rw [TL.join_eq]
  refine asc_join (asc_all (by decide +kernel)) _ fun x hx => ?_
  rcases List.mem_cons.mp hx with rfl | hx
  · exact asc_all (asc_head m hm _ hf)
  · obtain ⟨r, -, rfl⟩ := List.mem_map.mp hx
    exact asc_row r
def pyU (q : List Int × Int) : PySem.PyData := .tuple [.tuple (q.1.map .int), .int q.2]
theorem toPys_ints (w : List Int) : toPys (w.map .int) = some (w.map .int) := toPys_map (f := D.int) (g := PySem.PyData.int) (by simp [toPy]) w
theorem toPy_u (q : List Int × Int) : toPy (upD q) = some (pyU q) := by
  have : toPys (dW q.1) = some (q.1.map .int) := toPys_ints q.1
  simp [upD, pyU, toPy, toPys, this]
theorem up_b {m : Nat} {r : Ineq} (g : Good m r) (hm : m = 1 ∨ m = 2) : r.up.1.length = m ∧ (∀ x ∈ r.up.1, x.natAbs ≤ 99) ∧ r.up.2.natAbs ≤ 1000000 := by
  obtain ⟨w, b, c⟩ := r
  obtain ⟨gw, gc⟩ := g
  have gc : c.natAbs ≤ 1000000 := gc
  have wb : w.length = m ∧ ∀ x ∈ w, x.natAbs ≤ 99 := by
    cases gw with
    | one h0 h =>
      refine ⟨rfl, fun x hx => ?_⟩
      rw [List.mem_singleton.mp hx]; exact h
    | two h0 h1 h2 =>
      refine ⟨rfl, fun x hx => ?_⟩
      simp only [List.mem_cons, List.not_mem_nil, or_false] at hx
      rcases hx with rfl | rfl
      · exact h1
      · exact h2
  cases b with
  | true => exact ⟨wb.1, wb.2, gc⟩
  | false =>
    refine ⟨by show (w.map (- ·)).length = m; rw [List.length_map]; exact wb.1, fun x hx => ?_, by show (-c).natAbs ≤ 1000000; omega⟩
    obtain ⟨y, hy, rfl⟩ := List.mem_map.mp (show x ∈ w.map (- ·) from hx)
    have := wb.2 y hy
    omega
theorem shw_u {m : Nat} {r : Ineq} (g : Good m r) (hm : m = 1 ∨ m = 2) : Shw 2 1610 (pyU r.up) := by
  obtain ⟨l, h, c⟩ := up_b g hm
  refine shw_tup (n := 2) (d := 1) (w := 804) (fun y hy => ?_) (by show 2 ≤ 2; decide)
  simp only [List.mem_cons, List.not_mem_nil, or_false] at hy
  rcases hy with rfl | rfl
  · refine shw_tup (n := 2) (d := 0) (w := 401) (fun y hy => ?_) (by rw [List.length_map, l]; omega)
    obtain ⟨x, hx, rfl⟩ := List.mem_map.mp hy
    exact shw_int (bg_c (Nat.le_trans (h x hx) (by decide)))
  · exact (shw_int (bg_c c)).up (by decide) (by decide)
def pyT (f : PySem.Str) (rs : List Ineq) : PySem.PyData := .list [.str (sheet f rs), .tuple (rs.map fun r => pyU r.up)]
theorem toPy_t (f : PySem.Str) (rs : List Ineq) : toPy (.lst [.str (sheet f rs), .tup (bndD rs)]) = some (pyT f rs) := by
  have : toPys (bndD rs) = some (rs.map fun r => pyU r.up) := toPys_map (f := fun r : Ineq => upD r.up) (g := fun r => pyU r.up) (fun r => toPy_u r.up) rs
  simp [pyT, toPy, toPys, this]
theorem shw_t {m : Nat} {f : PySem.Str} {bs : List Bool} {rs : List Ineq} (hm : m = 1 ∨ m = 2) (hf : f ∈ heads m) (o : HeadOk m f bs) (g : ∀ r ∈ rs, Good m r) (hl : rs.length ≤ 6) : Shw 4 19334 (pyT f rs) := by
  obtain ⟨sl, -⟩ := sheet_facts hm o g hl
  refine shw_lst (n := 2) (d := 3) (w := 9666) (fun y hy => ?_) (by show 2 ≤ 2; decide)
  simp only [List.mem_cons, List.not_mem_nil, or_false] at hy
  rcases hy with rfl | rfl
  · exact (shw_str sl (asc_sheet hm hf rs)).up (by decide) (by decide)
  · refine shw_tup (n := 6) (d := 2) (w := 1610) (fun y hy => ?_) (by rw [List.length_map]; exact hl)
    obtain ⟨r, hr, rfl⟩ := List.mem_map.mp hy
    exact shw_u (g r hr) hm
end LW

set_option Elab.async false
set_option linter.all false
set_option maxRecDepth 100000
set_option maxHeartbeats 4000000
namespace LW
open LS
abbrev restB : Sx := (sSeq (sSet 11 (eFn 2 f__law_sum (aCons (eVar 9) (aCons (eVar 7) aNil))))
    (sMut 8 kApp (aCons (eFn 2 f__law_ratio (aCons (e2 subD (e2 mulD (eLook 10) (e2 ixD (eLook 11) (eC (.int 1)))) (e2 ixD (eLook 11) (eC (.int 0)))) (aCons (e2 ixD (eLook 11) (eC (.int 1))) aNil))) aNil)))
abbrev rightI : Sx := (sSeq (sSet 7 (eCall (g1 tupleD) (aCons (eN (lcN (iE (eLook 3)) (gNm 16) yes (eFn 2 f__law_value_for (aCons (eVar 0) (aCons (eVar 16) aNil))) [16])) aNil)))
    (sSeq (sOwn 8 (nLst aNil))
    (sSeq (sFor (iE (eVar 4)) (gTp 2 (gMore (gNm 9) (gMore (gNm 10) gNone))) restB)
    (sSeq (sSet 12 (eCall (g1 tupleD) (aCons (eN (lcN (iA rng1M (aCons (eCall (g1 lenD) (aCons (eLook 8) aNil)) aNil)) (gNm 17) (tB2 ltD (e2 ixD (e2 ixD (eLook 8) (eLook 17)) (eC (.int 0))) (eC (.int 0))) (eVar 17) [17])) aNil)))
    (sSeq (sSet 13 (eN (nLst (aCons (eFn 2 f_gaps (aCons (eVar 5) (aCons (eVar 7) aNil))) (aCons (eFn 2 f_broken (aCons (eVar 5) (aCons (eVar 7) aNil))) (aCons (eKw 0 2 [1, 0] 2 f_fits aNil (aCons (eVar 7) (aCons (eVar 5) aNil))) aNil))))))
    (sSeq (sIf (tB2 neD (eCall (g1 reprD) (aCons (eLook 13) aNil)) (eCall (g1 reprD) (aCons (eN (nLst (aCons (eCall (g1 tupleD) (aCons (eLook 8) aNil)) (aCons (eVar 12) (aCons (e2 eqD (eLook 12) (eTup aNil)) aNil))))) aNil))) (sRet (eC (.bl false))) sNil)
    (sSeq (sSet 14 (eCall (g1 tupleD) (aCons (eN (lcN (iE (eLook 3)) (gNm 16) yes (e2 subD (eFn 2 f__law_draw (aCons (eVar 0) (aCons (eC (.int 199)) aNil))) (eC (.int 99))) [16])) aNil)))
    (sSeq (sIf (tB2 neD (eCall (g1 reprD) (aCons (eFn 3 f_value (aCons (eVar 5) (aCons (eVar 14) (aCons (eVar 7) aNil)))) aNil)) (eCall (g1 reprD) (aCons (eFn 2 f__law_sum (aCons (eVar 14) (aCons (eVar 7) aNil))) aNil))) (sRet (eC (.bl false))) sNil)
    (sIf (tB2 ninD (eC (.str "any")) (eLook 3)) (sSeq (sSet 15 (eIf (tB2 neD (eLook 12) (eTup aNil)) (eFn 1 f__law_words_of (aCons (eVar 12) aNil)) (eC (.str "kept"))))
    (sIf (tB2 neD (eMeth 1 2 f_Console_say (eMk 1 (some 1) f_Console_init (aCons (eVar 5) aNil)) (aCons (e2 addD (eC (.str "point ")) (eFn 1 f__law_words_of (aCons (eVar 7) aNil))) aNil)) (eLook 15)) (sRet (eC (.bl false))) sNil)) sNil)))))))))
abbrev rightB : Sx := (sSeq (sSet 2 (eFn 1 f__law_wide_rows (aCons (eVar 0) aNil)))
    (sSeq (sPX2 3 4 (xV (eFn 1 f__law_kinds (aCons (eVar 2) aNil)) (xV (eFn 1 f__law_uprights (aCons (eVar 2) aNil)) xNil)))
    (sSeq (sSet 5 (eFn 1 f__law_made (aCons (eVar 2) aNil)))
    (sSeq (sIf (tB2 neD (eCall (g1 reprD) (aCons (eN (nLst (aCons (e1 (propO 0 f_System_text) (eLook 5)) (aCons (e1 (propO 0 f_System_inequalities) (eLook 5)) aNil)))) aNil)) (eCall (g1 reprD) (aCons (eN (nLst (aCons (m2 joinD (eC (.str "\n")) (eLook 2)) (aCons (eCall (g1 tupleD) (aCons (eLook 4) aNil)) aNil)))) aNil))) (sRet (eC (.bl false))) sNil)
    (sFor (iA rng1M (aCons (eC (.int 3)) aNil)) (gNm 6) rightI)))))
theorem right_eq : q__law_right = (sSeq (sFor (iA rng1M (aCons (eC (.int 3)) aNil)) (gNm 1) rightB)
    (sRet (eC (.bl true)))) := rfl
variable {S : Sto} {bs : List Bool} {rs : List Ineq} {ps : List Pn} {f : PySem.Str} {m n : Nat} {u : Int}
theorem kw_to {k j np : Nat} {pi : List Nat} {g : List D → M D} {fl fk : Rho → M (List D)} {ds es : List D} {ρ : Rho} {r : Res D} (h : fl ρ S = .ok ds S) (q : fk ρ S = .ok es S) (c : ds.length = k ∧ es.length = j ∧ (perm pi (ds ++ es)).length = np) (z : g (perm pi (ds ++ es)) S = r) : eKw k j pi np g fl fk ρ S = r :=
  bd_to h (bd_to q (by rw [if_pos c]; exact z))
theorem fit_mk {w : List Int} (hp : Pts bs ps) (l : w.length = bs.length) (h : ∀ x ∈ w, x.natAbs ≤ 99) : Fit bs w ps := by
  cases hp with
  | one hp =>
    match w, l with
    | [x], _ => exact .one (h x (by simp)) hp
  | two hp hq =>
    match w, l with
    | [x, y], _ => exact .two (h x (by simp)) (h y (by simp)) hp hq
theorem fits_of (hm : m = 1 ∨ m = 2) (hb : bs.length = m) (hp : Pts bs ps) (g : ∀ r ∈ rs, Good m r) : Fits bs rs ps := fun r hr => by
  obtain ⟨l, h, c⟩ := up_b (g r hr) hm
  exact ⟨fit_mk hp (by rw [hb]; exact l) h, c⟩
theorem gap_b {q : List Int × Int} (h : Fit bs q.1 ps) (hc : q.2.natAbs ≤ 1000000) : Bg (sQ q.1 ps).1 ∧ Bg (sQ q.1 ps).2 ∧ (sQ q.1 ps).2 ≠ 0 ∧ Bg (q.2 * (sQ q.1 ps).2 - (sQ q.1 ps).1) ∧ Low (gapQ q ps) := by
  obtain ⟨b1, b2, b3⟩ := sQ_b h
  have m1 := nab_mul hc (b76 b2 b3)
  have hh : (q.2 * (sQ q.1 ps).2 - (sQ q.1 ps).1).natAbs ≤ 10 ^ 90 := by omega
  obtain ⟨t1, t2, t3, -⟩ := low_le (q.2 * (sQ q.1 ps).2 - (sQ q.1 ps).1) (sQ q.1 ps).2 b2
  exact ⟨bgA b1 (by decide), bgA (b76 b2 b3) (by decide), by omega, bgA hh (by decide), bgA (Nat.le_trans t1 hh) (by decide), bgA (b76 t2 (Int.le_trans t3 b3)) (by decide)⟩
theorem low_gaps (hf : Fits bs rs ps) : ∀ q ∈ gapsQ rs ps, Low q := fun q hq => by
  obtain ⟨r, hr, rfl⟩ := List.mem_map.mp hq
  exact (gap_b (hf r hr).1 (hf r hr).2).2.2.2.2
/-! the law's own lists -/
theorem rest_step {b0 b1 b2 b3 b4 b5 b6 o11 b12 b13 b14 b15 b16 b17 : Option Sl} {r : Ineq} {qs : List (Int × Int)} (h : Fit bs r.up.1 ps) (hc : r.up.2.natAbs ≤ 1000000) (l : qs.length ≤ 10) :
    restB [b0, b1, b2, b3, b4, b5, b6, some (.val (.tup (ptD ps))), some (.own (qs.map dQ)), some (.val (.tup (dW r.up.1))), dI r.up.2, o11, b12, b13, b14, b15, b16, b17] S = .ok (.nx [b0, b1, b2, b3, b4, b5, b6, some (.val (.tup (ptD ps))), some (.own ((qs ++ [gapQ r.up ps]).map dQ)), some (.val (.tup (dW r.up.1))), dI r.up.2, some (.val (dQ (sQ r.up.1 ps))), b12, b13, b14, b15, b16, b17]) S := by
  obtain ⟨q1, q2, q3, q4, -⟩ := gap_b h hc
  let ρ1 : Rho := [b0, b1, b2, b3, b4, b5, b6, some (.val (.tup (ptD ps))), some (.own (qs.map dQ)), some (.val (.tup (dW r.up.1))), dI r.up.2, some (.val (dQ (sQ r.up.1 ps))), b12, b13, b14, b15, b16, b17]
  have y1 : e2 ixD (eLook 11) (eC (.int 1)) ρ1 S = .ok (.int (sQ r.up.1 ps).2) S := e2_to (x := dQ (sQ r.up.1 ps)) (S1 := S) rfl rfl rfl
  have y0 : e2 ixD (eLook 11) (eC (.int 0)) ρ1 S = .ok (.int (sQ r.up.1 ps).1) S := e2_to (x := dQ (sQ r.up.1 ps)) (S1 := S) rfl rfl rfl
  have z : eFn 2 f__law_ratio (aCons (e2 subD (e2 mulD (eLook 10) (e2 ixD (eLook 11) (eC (.int 1)))) (e2 ixD (eLook 11) (eC (.int 0)))) (aCons (e2 ixD (eLook 11) (eC (.int 1))) aNil)) ρ1 S = .ok (dQ (gapQ r.up ps)) S :=
    call_to (acons_to (e2_to (e2_to (x := .int r.up.2) (S1 := S) rfl y1 (mulB (bg_c hc) q2)) y0 rfl) (acons_to y1 rfl)) rfl (lratio_ok _ _ S q3 q4 q2)
  refine seq_nx (ρ1 := ρ1) (S1 := S) (set_to (call_to (acons_to rfl (acons_to rfl rfl)) rfl (lsum_ok h)) (by show 11 < 18; decide)) ?_
  refine bd_to (a := [dQ (gapQ r.up ps)]) (S1 := S) (acons_to z rfl) (bd_to (a := (qs ++ [gapQ r.up ps]).map dQ) (S1 := S) ?_ rfl)
  show (if (qs.map dQ).length < PySem.sizeLine then ret (qs.map dQ ++ [dQ (gapQ r.up ps)]) else dv) S = _
  rw [if_pos (by rw [List.length_map]; exact Nat.lt_of_le_of_lt l (by decide)), List.map_append]; rfl
theorem rest_loop {b0 b1 b2 b3 b4 b5 b6 b12 b13 b14 b15 b16 b17 : Option Sl} : ∀ (rs : List Ineq) (qs : List (Int × Int)) (o9 o10 o11 : Option Sl), Fits bs rs ps → qs.length + rs.length ≤ 10 →
    ∃ p9 p10 p11, forM (gTp 2 (gMore (gNm 9) (gMore (gNm 10) gNone))) restB (bndD rs) [b0, b1, b2, b3, b4, b5, b6, some (.val (.tup (ptD ps))), some (.own (qs.map dQ)), o9, o10, o11, b12, b13, b14, b15, b16, b17] S = .ok (.nx [b0, b1, b2, b3, b4, b5, b6, some (.val (.tup (ptD ps))), some (.own ((qs ++ gapsQ rs ps).map dQ)), p9, p10, p11, b12, b13, b14, b15, b16, b17]) S
  | [], qs, o9, o10, o11, _, _ => ⟨o9, o10, o11, by rw [show gapsQ [] ps = [] from rfl, List.append_nil]; rfl⟩
  | r :: rs, qs, o9, o10, o11, hf, l => by
    rw [List.length_cons] at l
    obtain ⟨h, hc⟩ := hf r (List.mem_cons_self ..)
    obtain ⟨p9, p10, p11, ih⟩ := rest_loop (b0 := b0) (b1 := b1) (b2 := b2) (b3 := b3) (b4 := b4) (b5 := b5) (b6 := b6) (b12 := b12) (b13 := b13) (b14 := b14) (b15 := b15) (b16 := b16) (b17 := b17) rs (qs ++ [gapQ r.up ps]) (some (.val (.tup (dW r.up.1)))) (dI r.up.2) (some (.val (dQ (sQ r.up.1 ps)))) (fun x hx => hf x (List.mem_cons_of_mem _ hx)) (by rw [List.length_append]; show qs.length + 1 + rs.length ≤ 10; omega)
    refine ⟨p9, p10, p11, for_cons (ρ1 := [b0, b1, b2, b3, b4, b5, b6, some (.val (.tup (ptD ps))), some (.own (qs.map dQ)), some (.val (.tup (dW r.up.1))), dI r.up.2, o11, b12, b13, b14, b15, b16, b17]) (S1 := S) rfl (rest_step h hc (by omega)) ?_⟩
    have e : qs ++ [gapQ r.up ps] ++ gapsQ rs ps = qs ++ gapsQ (r :: rs) ps := by rw [List.append_assoc]; rfl
    rw [e] at ih
    exact ih
theorem lost_rng {ρ : Rho} (hl : 17 < ρ.length) {full : List (Int × Int)} (h8 : ρ[8]? = some (some (.own (full.map dQ)))) : ∀ (qs : List (Int × Int)) (k : Nat), (∀ i, full[k + i]? = qs[i]?) → lcM (gNm 17) (tB2 ltD (e2 ixD (e2 ixD (eLook 8) (eLook 17)) (eC (.int 0))) (eC (.int 0))) (eVar 17) ρ (rngD k qs.length) S = .ok ((lostI k qs).map .int) S
  | [], k, _ => rfl
  | q :: qs, k, h => by
    have ih := lost_rng hl h8 qs (k + 1) fun i => by
      have := h (i + 1)
      rw [show k + 1 + i = k + (i + 1) by omega, this]; rfl
    have hk : (full.map dQ)[k]? = some (dQ q) := by
      have := h 0
      rw [Nat.add_zero] at this
      rw [List.getElem?_map, this]; rfl
    let ρ1 : Rho := ρ.set 17 (some (.val (.int (k : Int))))
    have l8 : eLook 8 ρ1 S = .ok (.lst (full.map dQ)) S := by
      unfold eLook
      rw [show ρ1[8]? = some (some (.own (full.map dQ))) by show (ρ.set 17 _)[8]? = _; rw [List.getElem?_set_ne (by decide)]; exact h8]; rfl
    have g17 : ρ1[17]? = some (some (.val (.int (k : Int)))) := List.getElem?_set_self hl
    have t : tB2 ltD (e2 ixD (e2 ixD (eLook 8) (eLook 17)) (eC (.int 0))) (eC (.int 0)) ρ1 S = .ok (decide (q.1 < 0)) S := int_lt (a := q.1) (b := 0) (e2_to (e2_to l8 (look_to g17) (ixN_to hk)) rfl rfl) rfl rfl
    rw [List.length_cons, rng_step]
    rw [show ((k + 1 : Nat) : Int) = (k : Int) + 1 from rfl] at ih
    show _ = Res.ok ((if q.1 < 0 then (k : Int) :: lostI (k + 1) qs else lostI (k + 1) qs).map D.int) S
    by_cases c : q.1 < 0
    · rw [if_pos c]
      rw [decide_eq_true c] at t
      exact lc_yes (ρ1 := ρ1) (S1 := S) (nm_to hl) t (var_to g17) ih
    · rw [if_neg c]
      rw [decide_eq_false c] at t
      exact lc_no (ρ1 := ρ1) (S1 := S) (nm_to hl) t ih
abbrev lostE : Ev := eCall (g1 tupleD) (aCons (eN (lcN (iA rng1M (aCons (eCall (g1 lenD) (aCons (eLook 8) aNil)) aNil)) (gNm 17) (tB2 ltD (e2 ixD (e2 ixD (eLook 8) (eLook 17)) (eC (.int 0))) (eC (.int 0))) (eVar 17) [17])) aNil)
theorem lost_ok {ρ : Rho} (hl : 17 < ρ.length) {qs : List (Int × Int)} (h8 : ρ[8]? = some (some (.own (qs.map dQ)))) (l : qs.length ≤ 6) : lostE ρ S = .ok (.tup ((lostI 0 qs).map .int)) S := by
  have l8 : eLook 8 ρ S = .ok (.lst (qs.map dQ)) S := by unfold eLook; rw [h8]; rfl
  refine bd_to (acons_to (bd_to (lcn_to (ds := rngD 0 qs.length) (S1 := S) (bd_to (acons_to ((len_lst l8).trans (by rw [List.length_map])) rfl) (rng1_to (by omega))) (by rw [rng_len]; exact Nat.le_trans l (by decide)) (lost_rng (ρ := ρ.set 17 none) (by rw [List.length_set]; exact hl) (full := qs) (by rw [List.getElem?_set_ne (by decide)]; exact h8) qs 0 fun i => by rw [Nat.zero_add])) rfl) rfl) rfl
/-! () == -/
theorem can_ints : ∀ ns : List Int, PySem.PyData.canLayAll0 (ns.map PySem.PyData.int) = true
  | [] => by simp [PySem.PyData.canLayAll0]
  | n :: ns => by simp [PySem.PyData.canLayAll0, PySem.PyData.canLay0, can_ints ns]
theorem dep_ints : ∀ ns : List Int, PySem.PyData.depthAll (ns.map PySem.PyData.int) = 0
  | [] => by simp [PySem.PyData.depthAll]
  | n :: ns => by simp [PySem.PyData.depthAll, PySem.PyData.depth, dep_ints ns]
theorem shaped_ints (ns : List Int) : PySem.SeqAt.shaped (.tuple (ns.map PySem.PyData.int)) = true := by
  simp [PySem.SeqAt.shaped, PySem.PyData.canLay0, PySem.PyData.depth, can_ints, dep_ints]
theorem eqP_empty (ns : List Int) : eqP (.tup (ns.map D.int)) (.tup []) = some ns.isEmpty := by
  have e1 : toPy (.tup (ns.map D.int)) = some (.tuple (ns.map PySem.PyData.int)) := by simp [toPy, toPys_ints]
  have e2 : toPy (.tup []) = some (.tuple []) := by simp [toPy, toPys]
  unfold eqP
  rw [e1, e2]
  simp only [shaped_ints ns, show PySem.SeqAt.shaped (.tuple []) = true from shaped_ints [], Bool.and_self, if_true]
  cases ns with
  | nil => simp [PySem.PyData.eqv, PySem.PyData.eqvAll]
  | cons n ns => simp [PySem.PyData.eqv, PySem.PyData.eqvAll]
theorem eq_empty (ns : List Int) : eqD (.tup (ns.map D.int)) (.tup []) S = .ok (.bl ns.isEmpty) S := by
  show blO (eqP (.tup (ns.map D.int)) (.tup [])) S = _
  rw [eqP_empty]; rfl
theorem ne_empty (ns : List Int) : neD (.tup (ns.map D.int)) (.tup []) S = .ok (.bl (!ns.isEmpty)) S := by
  show blO ((eqP (.tup (ns.map D.int)) (.tup [])).map (!·)) S = _
  rw [eqP_empty]; rfl
/-! what is told about a point -/
def pyG (qs : List (Int × Int)) (ns : List Int) (b : Bool) : PySem.PyData := .list [.tuple (qs.map pyQ), .tuple (ns.map .int), .bool b]
theorem toPy_g (qs : List (Int × Int)) (ns : List Int) (b : Bool) : toPy (.lst [.tup (qs.map dQ), .tup (ns.map .int), .bl b]) = some (pyG qs ns b) := by
  simp [pyG, toPy, toPys, toPys_ints, toPys_map toPy_q]
theorem shw_g {qs : List (Int × Int)} {ns : List Int} {b : Bool} (h : ∀ q ∈ qs, Low q) (l : qs.length ≤ 6) (k : ∀ z ∈ ns, Bg z) (l2 : ns.length ≤ 6) : Shw 3 14493 (pyG qs ns b) := by
  refine shw_lst (n := 3) (d := 2) (w := 4830) (fun y hy => ?_) (by show 3 ≤ 3; decide)
  simp only [List.mem_cons, List.not_mem_nil, or_false] at hy
  rcases hy with rfl | rfl | rfl
  · refine shw_tup (n := 6) (d := 1) (w := 804) (fun y hy => ?_) (by rw [List.length_map]; exact l)
    obtain ⟨q, hq, rfl⟩ := List.mem_map.mp hy
    exact shw_q (h q hq)
  · refine (shw_tup (n := 6) (d := 0) (w := 401) (fun y hy => ?_) (by rw [List.length_map]; exact l2)).up (by decide) (by decide)
    obtain ⟨z, hz, rfl⟩ := List.mem_map.mp hy
    exact shw_int (k z hz)
  · exact shw_bl.up (by decide) (by decide)
end LW

set_option Elab.async false
set_option linter.all false
set_option maxRecDepth 100000
set_option maxHeartbeats 4000000
namespace LW
open LS
variable {S : Sto} {bs : List Bool} {rs : List Ineq} {ps : List Pn} {f : PySem.Str} {m n : Nat} {u : Int}
/-- the console's answer, if it is asked -/
theorem any_ok {R o1 o2 o6 o8 o9 o10 o11 o13 o14 o15 o16 o17 : Option Sl} (hp : Pts bs ps) (hl : rs.length ≤ 6) (hf : Fits bs rs ps) :
    ∃ p15, sIf (tB2 ninD (eC (.str "any")) (eLook 3)) (sSeq (sSet 15 (eIf (tB2 neD (eLook 12) (eTup aNil)) (eFn 1 f__law_words_of (aCons (eVar 12) aNil)) (eC (.str "kept"))))
    (sIf (tB2 neD (eMeth 1 2 f_Console_say (eMk 1 (some 1) f_Console_init (aCons (eVar 5) aNil)) (aCons (e2 addD (eC (.str "point ")) (eFn 1 f__law_words_of (aCons (eVar 7) aNil))) aNil)) (eLook 15)) (sRet (eC (.bl false))) sNil)) sNil [R, o1, o2, some (.val (.lst (kD bs))), some (.val (.lst (bndD rs))), some (.val (sysD f bs rs)), o6, some (.val (.tup (ptD ps))), o8, o9, o10, o11, some (.val (.tup ((lostD rs ps).map .int))), o13, o14, o15, o16, o17] S = .ok (.nx [R, o1, o2, some (.val (.lst (kD bs))), some (.val (.lst (bndD rs))), some (.val (sysD f bs rs)), o6, some (.val (.tup (ptD ps))), o8, o9, o10, o11, some (.val (.tup ((lostD rs ps).map .int))), o13, o14, p15, o16, o17]) S := by
  by_cases so : ∃ zs, Sol bs ps zs
  · obtain ⟨zs, so⟩ := so
    obtain ⟨-, ez, hb, ne, zl⟩ := sol_pts so
    obtain ⟨lb, ll⟩ := lost_bg (rs := rs) (ps := ps) hl
    obtain ⟨-, -, wl⟩ := line_split hb (Nat.le_trans zl (by decide)) ne
    have sy := say_ok (S := S) (f := f) so hl hf
    rw [ez]
    let ρ : Rho := [R, o1, o2, some (.val (.lst (kD bs))), some (.val (.lst (bndD rs))), some (.val (sysD f bs rs)), o6, some (.val (.tup (zs.map .int))), o8, o9, o10, o11, some (.val (.tup ((lostD rs ps).map .int))), o13, o14, o15, o16, o17]
    let ρ1 : Rho := [R, o1, o2, some (.val (.lst (kD bs))), some (.val (.lst (bndD rs))), some (.val (sysD f bs rs)), o6, some (.val (.tup (zs.map .int))), o8, o9, o10, o11, some (.val (.tup ((lostD rs ps).map .int))), o13, o14, some (.val (.str (dueT (lostD rs ps)))), o16, o17]
    have t : tB2 ninD (eC (.str "any")) (eLook 3) ρ S = .ok true S := by
      show tB2 ninD (eC (.str "any")) (eLook 3) [R, o1, o2, some (.val (.lst (kD bs))), some (.val (.lst (bndD rs))), some (.val (sysD f bs rs)), o6, some (.val (.tup (zs.map .int))), o8, o9, o10, o11, some (.val (.tup ((lostD rs ps).map .int))), o13, o14, o15, o16, o17] S = _
      cases so <;> with_unfolding_all rfl
    have due : eIf (tB2 neD (eLook 12) (eTup aNil)) (eFn 1 f__law_words_of (aCons (eVar 12) aNil)) (eC (.str "kept")) ρ S = .ok (.str (dueT (lostD rs ps))) S := by
      have q : tB2 neD (eLook 12) (eTup aNil) ρ S = .ok (!(lostD rs ps).isEmpty) S := tb2_to (x := .tup ((lostD rs ps).map .int)) (y := .tup []) (S1 := S) (S2 := S) rfl rfl (ne_empty _)
      cases e : (lostD rs ps).isEmpty with
      | true =>
        rw [e] at q
        have d : dueT (lostD rs ps) = "kept" := by unfold dueT; rw [if_pos e]
        rw [d]
        exact eif_f (S1 := S) q rfl
      | false =>
        rw [e] at q
        have d : dueT (lostD rs ps) = wordsT (lostD rs ps) := by unfold dueT; rw [e]; rfl
        rw [d]
        exact eif_t (S1 := S) q (call_to (acons_to rfl rfl) rfl (lwords_ok (fun z hz => (lb z hz).1) (Nat.le_trans ll (by decide))))
    have ln : e2 addD (eC (.str "point ")) (eFn 1 f__law_words_of (aCons (eVar 7) aNil)) ρ1 S = .ok (.str (lineT zs)) S :=
      e2_to (x := .str "point ") (S1 := S) rfl (call_to (acons_to rfl rfl) rfl (lwords_ok hb (Nat.le_trans zl (by decide)))) (add_str (Nat.le_trans (by show 6 + _ ≤ 4300; omega) sl4300))
    refine ⟨some (.val (.str (dueT (lostD rs ps)))), if_t (S1 := S) t (seq_nx (ρ1 := ρ1) (S1 := S) (set_to due (by show 15 < 18; decide)) (if_f (S1 := S) (tb2_to (x := .str (dueT (lostD rs ps))) (y := .str (dueT (lostD rs ps))) (S1 := S) (S2 := S) (eMeth_to (S1 := S) (S2 := S) (console_ok rfl) (acons_to ln rfl) rfl sy) rfl (ne_str (b := false) (beq_self_eq_true _))) rfl))⟩
  · refine ⟨o15, if_f (S1 := S) ?_ rfl⟩
    cases hp with
    | @one k p h =>
      cases k
      · with_unfolding_all rfl
      · exact absurd ⟨_, .one h⟩ so
    | @two k l p q h1 h2 =>
      cases k <;> cases l
      · with_unfolding_all rfl
      · with_unfolding_all rfl
      · with_unfolding_all rfl
      · exact absurd ⟨_, .two h1 h2⟩ so
/-- one point of a system -/
theorem inner_ok {o1 o2 o6 o7 o8 o9 o10 o11 o12 o13 o14 o15 o16 o17 : Option Sl} (hm : m = 1 ∨ m = 2) (hb : bs.length = m) (hl : rs.length ≤ 6) (g : ∀ r ∈ rs, Good m r) (h : Spr S n u) (hu : u < 2 ^ 54) :
    ∃ p7 p8 p9 p10 p11 p12 p13 p14 p15 S', rightI [some (.val (.ref n)), o1, o2, some (.val (.lst (kD bs))), some (.val (.lst (bndD rs))), some (.val (sysD f bs rs)), o6, o7, o8, o9, o10, o11, o12, o13, o14, o15, o16, o17] S = .ok (.nx [some (.val (.ref n)), o1, o2, some (.val (.lst (kD bs))), some (.val (.lst (bndD rs))), some (.val (sysD f bs rs)), o6, p7, p8, p9, p10, p11, p12, p13, p14, p15, o16, o17]) S' ∧ Spr S' n (u + 200) ∧ Rest S S' n := by
  let R : Option Sl := some (.val (.ref n))
  let a3 : Option Sl := some (.val (.lst (kD bs)))
  let a4 : Option Sl := some (.val (.lst (bndD rs)))
  let a5 : Option Sl := some (.val (sysD f bs rs))
  obtain ⟨ps, S1, e1, hp, sp1, r1⟩ := spot_ok (ρ := [R, o1, o2, a3, a4, a5, o6, o7, o8, o9, o10, o11, o12, o13, o14, o15, o16, o17]) hm hb rfl rfl (by show 16 < 18; decide) h (by omega)
  have hf := fits_of hm hb hp g
  let P : Option Sl := some (.val (.tup (ptD ps)))
  obtain ⟨p9, p10, p11, e3⟩ := rest_loop (S := S1) (bs := bs) (ps := ps) (b0 := R) (b1 := o1) (b2 := o2) (b3 := a3) (b4 := a4) (b5 := a5) (b6 := o6) (b12 := o12) (b13 := o13) (b14 := o14) (b15 := o15) (b16 := o16) (b17 := o17) rs [] o9 o10 o11 hf (by show 0 + rs.length ≤ 10; omega)
  rw [List.nil_append] at e3
  let a8 : Option Sl := some (.own ((gapsQ rs ps).map dQ))
  let a12 : Option Sl := some (.val (.tup ((lostD rs ps).map .int)))
  let G : D := .lst [.tup ((gapsQ rs ps).map dQ), .tup ((lostD rs ps).map .int), .bl (lostD rs ps).isEmpty]
  let a13 : Option Sl := some (.val G)
  have hg : (gapsQ rs ps).length ≤ 6 := by rw [gapsQ_len]; exact hl
  obtain ⟨lb, ll⟩ := lost_bg (rs := rs) (ps := ps) hl
  have e4 := lost_ok (S := S1) (ρ := [R, o1, o2, a3, a4, a5, o6, P, a8, p9, p10, p11, o12, o13, o14, o15, o16, o17]) (by show 17 < 18; decide) (qs := gapsQ rs ps) rfl hg
  have told : eN (nLst (aCons (eFn 2 f_gaps (aCons (eVar 5) (aCons (eVar 7) aNil))) (aCons (eFn 2 f_broken (aCons (eVar 5) (aCons (eVar 7) aNil))) (aCons (eKw 0 2 [1, 0] 2 f_fits aNil (aCons (eVar 7) (aCons (eVar 5) aNil))) aNil)))) [R, o1, o2, a3, a4, a5, o6, P, a8, p9, p10, p11, a12, o13, o14, o15, o16, o17] S1 = .ok G S1 :=
    bd_to (a := [.tup ((gapsQ rs ps).map dQ), .tup ((lostD rs ps).map .int), .bl (lostD rs ps).isEmpty]) (S1 := S1) (bd_to (acons_to (call_to (acons_to rfl (acons_to rfl rfl)) rfl (gaps_ok (sys := sysD f bs rs) is_sys hl hp hf)) (acons_to (call_to (acons_to rfl (acons_to rfl rfl)) rfl (broken_ok (sys := sysD f bs rs) is_sys hl hp hf)) (acons_to (kw_to (ds := []) (es := [.tup (ptD ps), sysD f bs rs]) rfl (acons_to rfl (acons_to rfl rfl)) ⟨rfl, rfl, rfl⟩ (fits_ok (sys := sysD f bs rs) is_sys hl hp hf)) rfl))) rfl) rfl
  have due : eN (nLst (aCons (eCall (g1 tupleD) (aCons (eLook 8) aNil)) (aCons (eVar 12) (aCons (e2 eqD (eLook 12) (eTup aNil)) aNil)))) [R, o1, o2, a3, a4, a5, o6, P, a8, p9, p10, p11, a12, a13, o14, o15, o16, o17] S1 = .ok G S1 :=
    bd_to (a := [.tup ((gapsQ rs ps).map dQ), .tup ((lostD rs ps).map .int), .bl (lostD rs ps).isEmpty]) (S1 := S1) (bd_to (acons_to (bd_to (acons_to (d := .lst ((gapsQ rs ps).map dQ)) (S1 := S1) rfl rfl) rfl) (acons_to rfl (acons_to (e2_to (x := .tup ((lostD rs ps).map .int)) (y := .tup []) (S1 := S1) (S2 := S1) rfl rfl (eq_empty _)) rfl))) rfl) rfl
  obtain ⟨w, S2, ew, hw, lw, sp2, r2⟩ := aim_ok (ρ := [R, o1, o2, a3, a4, a5, o6, P, a8, p9, p10, p11, a12, a13, o14, o15, o16, o17]) hm hb rfl rfl (by show 16 < 18; decide) sp1 (by omega)
  have fw : Fit bs w ps := fit_mk hp lw hw
  let a14 : Option Sl := some (.val (.tup (dW w)))
  have val := value_ok (S := S2) (sys := sysD f bs rs) is_sys hp fw
  have lsm := lsum_ok (S := S2) fw
  obtain ⟨b1, b2, b3⟩ := sQ_b fw
  have lo : Low (sQ w ps) := ⟨bgA b1 (by decide), bgA (b76 b2 b3) (by decide)⟩
  obtain ⟨p15, ea⟩ := any_ok (S := S2) (f := f) (R := R) (o1 := o1) (o2 := o2) (o6 := o6) (o8 := a8) (o9 := p9) (o10 := p10) (o11 := p11) (o13 := a13) (o14 := a14) (o15 := o15) (o16 := o16) (o17 := o17) hp hl hf
  refine ⟨P, a8, p9, p10, p11, a12, a13, a14, p15, S2, ?_, sp2.le (by omega), r1.trans r2⟩
  refine seq_nx (ρ1 := [R, o1, o2, a3, a4, a5, o6, P, o8, o9, o10, o11, o12, o13, o14, o15, o16, o17]) (S1 := S1) (set_to e1 (by show 7 < 18; decide)) ?_
  refine seq_nx (ρ1 := [R, o1, o2, a3, a4, a5, o6, P, some (.own []), o9, o10, o11, o12, o13, o14, o15, o16, o17]) (S1 := S1) rfl ?_
  refine seq_nx (ρ1 := [R, o1, o2, a3, a4, a5, o6, P, a8, p9, p10, p11, o12, o13, o14, o15, o16, o17]) (S1 := S1) (for_to (ds := bndD rs) (S1 := S1) rfl e3) ?_
  refine seq_nx (ρ1 := [R, o1, o2, a3, a4, a5, o6, P, a8, p9, p10, p11, a12, o13, o14, o15, o16, o17]) (S1 := S1) (set_to e4 (by show 12 < 18; decide)) ?_
  refine seq_nx (ρ1 := [R, o1, o2, a3, a4, a5, o6, P, a8, p9, p10, p11, a12, a13, o14, o15, o16, o17]) (S1 := S1) (set_to told (by show 13 < 18; decide)) ?_
  refine seq_nx (ρ1 := [R, o1, o2, a3, a4, a5, o6, P, a8, p9, p10, p11, a12, a13, o14, o15, o16, o17]) (S1 := S1) (if_f (S1 := S1) (repr_to (toPy_g _ _ _) (shw_g (low_gaps hf) hg (fun z hz => (lb z hz).1) ll) (by decide) (by decide) rfl due) rfl) ?_
  refine seq_nx (ρ1 := [R, o1, o2, a3, a4, a5, o6, P, a8, p9, p10, p11, a12, a13, a14, o15, o16, o17]) (S1 := S2) (set_to ew (by show 14 < 18; decide)) ?_
  refine seq_nx (ρ1 := [R, o1, o2, a3, a4, a5, o6, P, a8, p9, p10, p11, a12, a13, a14, o15, o16, o17]) (S1 := S2) (if_f (S1 := S2) (repr_to (x := dQ (sQ w ps)) (toPy_q _) (shw_q lo) (by decide) (by decide) (call_to (acons_to rfl (acons_to rfl (acons_to rfl rfl))) rfl val) (call_to (acons_to rfl (acons_to rfl rfl)) rfl lsm)) rfl) ?_
  exact ea
theorem three_ok (hm : m = 1 ∨ m = 2) (hb : bs.length = m) (hl : rs.length ≤ 6) (g : ∀ r ∈ rs, Good m r) {o1 o2 : Option Sl} : ∀ (ds : List D) (S : Sto) (u : Int) (o6 o7 o8 o9 o10 o11 o12 o13 o14 o15 o16 o17 : Option Sl), Spr S n u → u + 200 * ds.length < 2 ^ 54 →
    ∃ p6 p7 p8 p9 p10 p11 p12 p13 p14 p15 S', forM (gNm 6) rightI ds [some (.val (.ref n)), o1, o2, some (.val (.lst (kD bs))), some (.val (.lst (bndD rs))), some (.val (sysD f bs rs)), o6, o7, o8, o9, o10, o11, o12, o13, o14, o15, o16, o17] S = .ok (.nx [some (.val (.ref n)), o1, o2, some (.val (.lst (kD bs))), some (.val (.lst (bndD rs))), some (.val (sysD f bs rs)), p6, p7, p8, p9, p10, p11, p12, p13, p14, p15, o16, o17]) S' ∧ Spr S' n (u + 200 * ds.length) ∧ Rest S S' n
  | [], S, u, o6, o7, o8, o9, o10, o11, o12, o13, o14, o15, o16, o17, h, hu => ⟨o6, o7, o8, o9, o10, o11, o12, o13, o14, o15, S, rfl, h.le (by simp), .refl⟩
  | d :: ds, S, u, o6, o7, o8, o9, o10, o11, o12, o13, o14, o15, o16, o17, h, hu => by
    rw [List.length_cons] at hu
    obtain ⟨p7, p8, p9, p10, p11, p12, p13, p14, p15, S1, e1, sp1, r1⟩ := inner_ok (o1 := o1) (o2 := o2) (o6 := some (.val d)) (o7 := o7) (o8 := o8) (o9 := o9) (o10 := o10) (o11 := o11) (o12 := o12) (o13 := o13) (o14 := o14) (o15 := o15) (o16 := o16) (o17 := o17) (f := f) hm hb hl g h (by omega)
    obtain ⟨q6, q7, q8, q9, q10, q11, q12, q13, q14, q15, S2, e2, sp2, r2⟩ := three_ok hm hb hl g ds S1 (u + 200) (some (.val d)) p7 p8 p9 p10 p11 p12 p13 p14 p15 o16 o17 sp1 (by omega)
    exact ⟨q6, q7, q8, q9, q10, q11, q12, q13, q14, q15, S2, for_cons (ρ1 := [some (.val (.ref n)), o1, o2, some (.val (.lst (kD bs))), some (.val (.lst (bndD rs))), some (.val (sysD f bs rs)), some (.val d), o7, o8, o9, o10, o11, o12, o13, o14, o15, o16, o17]) (S1 := S) rfl e1 e2, sp2.le (by rw [List.length_cons]; omega), r1.trans r2⟩
end LW

set_option Elab.async false
set_option linter.all false
set_option maxRecDepth 100000
set_option maxHeartbeats 4000000
namespace LW
open LS
variable {S : Sto} {n : Nat} {u : Int}
/-- the system that is made and the rows tell the same -/
theorem text_ok {m : Nat} {f : PySem.Str} {bs : List Bool} {rs : List Ineq} {ρ : Rho} (hm : m = 1 ∨ m = 2) (hf : f ∈ heads m) (o : HeadOk m f bs) (g : ∀ r ∈ rs, Good m r) (hl : rs.length ≤ 6) (h2 : ρ[2]? = some (some (.val (.lst (.str f :: rowD rs))))) (h4 : ρ[4]? = some (some (.val (.lst (bndD rs))))) (h5 : ρ[5]? = some (some (.val (sysD f bs rs)))) :
    tB2 neD (eCall (g1 reprD) (aCons (eN (nLst (aCons (e1 (propO 0 f_System_text) (eLook 5)) (aCons (e1 (propO 0 f_System_inequalities) (eLook 5)) aNil)))) aNil)) (eCall (g1 reprD) (aCons (eN (nLst (aCons (m2 joinD (eC (.str "\n")) (eLook 2)) (aCons (eCall (g1 tupleD) (aCons (eLook 4) aNil)) aNil)))) aNil)) ρ S = .ok false S := by
  obtain ⟨-, -, j1, j2⟩ := sheet_facts hm o g hl
  have l5 : eLook 5 ρ S = .ok (sysD f bs rs) S := look_to h5
  have tx : e1 (propO 0 f_System_text) (eLook 5) ρ S = .ok (.str (sheet f rs)) S := by
    refine e1_to l5 ?_
    show nox (f_System_text [sysD f bs rs]) S = _
    have k : f_System_text [sysD f bs rs] S = .ok (.str (sheet f rs)) S := by
      refine fn_rt (ret_to (bd_to (a := .str "\n") (S1 := S) rfl ?_))
      show bd (e1 (fldM [(0, 0)]) (eVar 0) (rho0 1 [sysD f bs rs])) (fun y => joinD (.str "\n") y) S = _
      exact bd_to (a := .tup (.str f :: rowD rs)) (S1 := S) rfl (j2 S)
    unfold nox
    rw [k]
  have iq : e1 (propO 0 f_System_inequalities) (eLook 5) ρ S = .ok (.tup (bndD rs)) S := by
    refine e1_to l5 ?_
    show nox (f_System_inequalities [sysD f bs rs]) S = _
    have k : f_System_inequalities [sysD f bs rs] S = .ok (.tup (bndD rs)) S := fn_rt (ret_to rfl)
    unfold nox
    rw [k]
  have jo : m2 joinD (eC (.str "\n")) (eLook 2) ρ S = .ok (.str (sheet f rs)) S := by
    refine bd_to (a := .str "\n") (S1 := S) rfl ?_
    show bd (eLook 2 ρ) (fun y => joinD (.str "\n") y) S = _
    exact bd_to (look_to h2) (j1 S)
  have tp : eCall (g1 tupleD) (aCons (eLook 4) aNil) ρ S = .ok (.tup (bndD rs)) S := bd_to (acons_to (look_to h4) rfl) rfl
  exact repr_to (toPy_t f rs) (shw_t hm hf o g hl) (by decide) (by decide) (pair2 tx iq) (pair2 jo tp)
/-- one system -/
theorem turn_ok {o1 o2 o3 o4 o5 o6 o7 o8 o9 o10 o11 o12 o13 o14 o15 o16 o17 : Option Sl} (h : Spr S n u) (hu : u < 2 ^ 53) :
    ∃ p2 p3 p4 p5 p6 p7 p8 p9 p10 p11 p12 p13 p14 p15 S', rightB [some (.val (.ref n)), o1, o2, o3, o4, o5, o6, o7, o8, o9, o10, o11, o12, o13, o14, o15, o16, o17] S = .ok (.nx [some (.val (.ref n)), o1, p2, p3, p4, p5, p6, p7, p8, p9, p10, p11, p12, p13, p14, p15, o16, o17]) S' ∧ Spr S' n (u + 700) ∧ Rest S S' n := by
  obtain ⟨m, f, rs, S1, e1, hm, hf, g, hl, sp1, r1⟩ := rows_ok h (by omega)
  obtain ⟨bs, o⟩ := head_ok hm hf
  have em := made_x (S := S1) hm o g hl
  have ek := lkinds_ok (S := S1) o (rowD rs) hm
  have eu := uprights_ok (S := S1) hm o g hl
  let R : Option Sl := some (.val (.lst (.str f :: rowD rs)))
  obtain ⟨p6, p7, p8, p9, p10, p11, p12, p13, p14, p15, S2, e2, sp2, r2⟩ := three_ok (n := n) (f := f) hm o.many hl g (o1 := o1) (o2 := R) (rngD 0 3) S1 (u + 60) o6 o7 o8 o9 o10 o11 o12 o13 o14 o15 o16 o17 sp1 (by show u + 60 + 200 * (3 : Int) < _; omega)
  refine ⟨R, some (.val (.lst (kD bs))), some (.val (.lst (bndD rs))), some (.val (sysD f bs rs)), p6, p7, p8, p9, p10, p11, p12, p13, p14, p15, S2, ?_, sp2.le (by show u + 60 + 200 * (3 : Int) ≤ _; omega), r1.trans r2⟩
  refine seq_nx (ρ1 := [some (.val (.ref n)), o1, R, o3, o4, o5, o6, o7, o8, o9, o10, o11, o12, o13, o14, o15, o16, o17]) (S1 := S1) (set_to (call_to (acons_to rfl rfl) rfl e1) (by show 2 < 18; decide)) ?_
  refine seq_nx (ρ1 := [some (.val (.ref n)), o1, R, some (.val (.lst (kD bs))), some (.val (.lst (bndD rs))), o5, o6, o7, o8, o9, o10, o11, o12, o13, o14, o15, o16, o17]) (S1 := S1) (bd_to (a := [.val (.lst (kD bs)), .val (.lst (bndD rs))]) (S1 := S1) (bd_to (call_to (acons_to rfl rfl) rfl ek) (bd_to (bd_to (call_to (acons_to rfl rfl) rfl eu) (bd_to rfl rfl)) rfl)) rfl) ?_
  refine seq_nx (ρ1 := [some (.val (.ref n)), o1, R, some (.val (.lst (kD bs))), some (.val (.lst (bndD rs))), some (.val (sysD f bs rs)), o6, o7, o8, o9, o10, o11, o12, o13, o14, o15, o16, o17]) (S1 := S1) (set_to (call_to (acons_to rfl rfl) rfl em) (by show 5 < 18; decide)) ?_
  refine seq_nx (ρ1 := [some (.val (.ref n)), o1, R, some (.val (.lst (kD bs))), some (.val (.lst (bndD rs))), some (.val (sysD f bs rs)), o6, o7, o8, o9, o10, o11, o12, o13, o14, o15, o16, o17]) (S1 := S1) (if_f (S1 := S1) (text_ok hm hf o g hl rfl rfl rfl) rfl) ?_
  exact for_to (ds := rngD 0 3) (S1 := S1) (bd_to (a := [.int 3]) (S1 := S1) rfl (rng1_to (c := 3) (by decide))) e2
theorem turns_ok : ∀ (ds : List D) (S : Sto) (u : Int) (o1 o2 o3 o4 o5 o6 o7 o8 o9 o10 o11 o12 o13 o14 o15 o16 o17 : Option Sl), Spr S n u → u + 700 * ds.length < 2 ^ 53 →
    ∃ ρ' S', forM (gNm 1) rightB ds [some (.val (.ref n)), o1, o2, o3, o4, o5, o6, o7, o8, o9, o10, o11, o12, o13, o14, o15, o16, o17] S = .ok (.nx ρ') S' ∧ Spr S' n (u + 700 * ds.length) ∧ Rest S S' n
  | [], S, u, _, _, _, _, _, _, _, _, _, _, _, _, _, _, _, _, _, h, hu => ⟨_, S, rfl, h.le (by simp), .refl⟩
  | d :: ds, S, u, o1, o2, o3, o4, o5, o6, o7, o8, o9, o10, o11, o12, o13, o14, o15, o16, o17, h, hu => by
    rw [List.length_cons] at hu
    obtain ⟨p2, p3, p4, p5, p6, p7, p8, p9, p10, p11, p12, p13, p14, p15, S1, e1, sp1, r1⟩ := turn_ok (o1 := some (.val d)) (o2 := o2) (o3 := o3) (o4 := o4) (o5 := o5) (o6 := o6) (o7 := o7) (o8 := o8) (o9 := o9) (o10 := o10) (o11 := o11) (o12 := o12) (o13 := o13) (o14 := o14) (o15 := o15) (o16 := o16) (o17 := o17) h (by omega)
    obtain ⟨ρ', S2, e2, sp2, r2⟩ := turns_ok ds S1 (u + 700) (some (.val d)) p2 p3 p4 p5 p6 p7 p8 p9 p10 p11 p12 p13 p14 p15 o16 o17 sp1 (by omega)
    exact ⟨ρ', S2, for_cons (ρ1 := [some (.val (.ref n)), some (.val d), o2, o3, o4, o5, o6, o7, o8, o9, o10, o11, o12, o13, o14, o15, o16, o17]) (S1 := S) rfl e1 e2, sp2.le (by rw [List.length_cons]; omega), r1.trans r2⟩
theorem right_ok (h : Spr S n 0) : ∃ S', f__law_right [.ref n] S = .ok (.bl true) S' ∧ Spr S' n 2100 ∧ Rest S S' n := by
  obtain ⟨ρ', S', e, sp, r⟩ := turns_ok (n := n) (rngD 0 3) S 0 none none none none none none none none none none none none none none none none none h (by show (0 : Int) + 700 * 3 < _; decide)
  refine ⟨S', ?_, sp.le (by show (0 : Int) + 700 * 3 ≤ _; decide), r⟩
  show fnM 18 q__law_right [.ref n] S = _
  rw [right_eq]
  exact fn_rt (seq_nx (for_to (ds := rngD 0 3) (S1 := S) (bd_to (a := [.int 3]) (S1 := S) rfl (rng1_to (c := 3) (by decide))) e) (ret_to rfl))
end LW

set_option Elab.async false
set_option linter.all false
set_option maxRecDepth 100000
set_option maxHeartbeats 4000000
namespace LW
open LS
/-! ### springs -/
theorem stir {o0 : Option Sl} {k c : Int} (hk : k.natAbs ≤ 100) {S : Sto} : ∀ (zs : List Int) (m : Int) (o4 : Option Sl), 0 ≤ m → m < 2147483647 → ∃ m' o, 0 ≤ m' ∧ m' < 2147483647 ∧ forM (gNm 4) (sSet 3 (e2 modD (eCall (g1 intD) (aCons (e2 addD (e2 addD (e2 mulD (eLook 3) (eC (.int 48271))) (eCall (g1 intD) (aCons (eLook 4) aNil))) (e2 mulD (eC (.int 11)) (eLook 1))) aNil)) (eC (.int 2147483647)))) (zs.map .int) [o0, dI k, dI c, dI m, o4] S = .ok (.nx [o0, dI k, dI c, dI m', o]) S
  | [], m, o4, m0, m1 => ⟨m, o4, m0, m1, rfl⟩
  | z :: zs, m, o4, m0, m1 => by
    let y : Int := (m * 48271 + z + 11 * k).fmod 2147483647
    have ey : y = (m * 48271 + z + 11 * k) % 2147483647 := Int.fmod_eq_emod_of_nonneg _ (by decide)
    obtain ⟨m', o, a, b, e⟩ := stir hk zs y (dI z) (by rw [ey]; omega) (by rw [ey]; omega) (o0 := o0) (c := c) (S := S)
    refine ⟨m', o, a, b, for_cons (ρ1 := [o0, dI k, dI c, dI m, dI z]) (S1 := S) rfl ?_ e⟩
    exact set_to (LS.e2_to (bd_to (acons_to (LS.e2_to (LS.e2_to (LS.e2_to rfl rfl (mul_to (by omega) (by decide))) (bd_to (acons_to rfl rfl) rfl) rfl) (LS.e2_to rfl rfl (mul_to (by decide) (by omega))) rfl) rfl) rfl) rfl (mod_to (by decide))) (by show 3 < 5; decide)
theorem spring_ok {S : Sto} (zs : List Int) (k : Nat) (hk : k ≤ 10) (hz : zs.length ≤ 63) : ∃ a m : Int, f__law_spring [.scr (zs.map .int), .int k] S = .ok (.ref S.length) (S ++ [.lst [.int a, .int m, .int 0]]) ∧ 0 ≤ a ∧ 0 ≤ m ∧ m < 2147483647 := by
  let o0 : Option Sl := some (.val (.scr (zs.map .int)))
  have cell : ∃ c : Int, sSet 2 (eIf (tB2 ltD (eLook 1) (eCall (g1 lenD) (aCons (eLook 0) aNil))) (e2 ixD (eLook 0) (eLook 1)) (e2 addD (e2 mulD (eC (.int 7)) (eLook 1)) (eC (.int 2)))) (rho0 5 [.scr (zs.map .int), .int k]) S = .ok (.nx [o0, dI k, dI c, none, none]) S := by
    have t : tB2 ltD (eLook 1) (eCall (g1 lenD) (aCons (eLook 0) aNil)) (rho0 5 [.scr (zs.map .int), .int k]) S = .ok (decide ((k : Int) < (zs.length : Int))) S := int_lt (b := ((zs.map D.int).length : Nat)) rfl rfl (by rw [List.length_map])
    by_cases c : (k : Int) < (zs.length : Int)
    · rw [decide_eq_true c] at t
      have l : k < zs.length := by omega
      refine ⟨zs[k], set_to (eif_t t (LS.e2_to (x := .scr (zs.map .int)) (y := .int k) (S1 := S) (S2 := S) rfl rfl ?_)) (by show 2 < 5; decide)⟩
      simp [ixD, itemsO, L2.atI, L2.ixN, (by omega : (0 : Int) ≤ (k : Int)), c, l]
    · rw [decide_eq_false c] at t
      exact ⟨7 * k + 2, set_to (eif_f t (LS.e2_to (LS.e2_to rfl rfl (mul_to (by decide) (by omega))) rfl rfl)) (by show 2 < 5; decide)⟩
  obtain ⟨c, ec⟩ := cell
  have hd : ∀ d ∈ cutL (zs.map D.int) none (some 8), ∃ i, d = D.int i := fun d hd => by
    have := List.mem_of_mem_drop (List.mem_of_mem_take hd)
    obtain ⟨i, -, rfl⟩ := List.mem_map.mp this
    exact ⟨i, rfl⟩
  have hi : ∃ ys : List Int, cutL (zs.map D.int) none (some 8) = ys.map D.int := by
    refine ⟨(cutL (zs.map D.int) none (some 8)).map fun d => match d with | .int i => i | _ => 0, ?_⟩
    rw [List.map_map]
    refine (List.map_id _).symm.trans (List.map_congr_left fun d m => ?_)
    obtain ⟨i, rfl⟩ := hd d m
    rfl
  obtain ⟨ys, ey⟩ := hi
  have yl : ys.length ≤ 63 := by
    have : (cutL (zs.map D.int) none (some 8)).length = ys.length := by rw [ey, List.length_map]
    unfold cutL at this
    rw [List.length_take, List.length_drop, List.length_map] at this
    omega
  obtain ⟨m', o, m0, m1, es⟩ := stir (o0 := o0) (k := k) (c := c) (S := S) (by omega) (ys ++ [c]) (90001 + 7919 * k) none (by omega) (by omega)
  have big : ∃ a : Int, 0 ≤ a ∧ eIf (tOrB (tB2 ltD (eLook 2) (eC (.int 0))) (tB2 geD (eLook 2) (e2 powD (eC (.int 10)) (eC (.int 18))))) (eCall (g1 absD) (aCons (eLook 2) aNil)) (eC (.int 0)) [o0, dI k, dI c, dI m', o] S = .ok (.int a) S := by
    have t1 : tB2 ltD (eLook 2) (eC (.int 0)) [o0, dI k, dI c, dI m', o] S = .ok (decide (c < 0)) S := int_lt rfl rfl rfl
    have t2 : tB2 geD (eLook 2) (e2 powD (eC (.int 10)) (eC (.int 18))) [o0, dI k, dI c, dI m', o] S = .ok (decide ((10 : Int) ^ 18 ≤ c)) S := tb2_to (x := .int c) (y := .int (10 ^ 18)) (S1 := S) rfl (LS.e2_to (x := .int 10) (y := .int 18) (S1 := S) (S2 := S) rfl rfl (two_to (decide_eq_true ⟨by decide, by decide, by decide⟩))) rfl
    have ab : eCall (g1 absD) (aCons (eLook 2) aNil) [o0, dI k, dI c, dI m', o] S = .ok (.int (if c < 0 then -c else c)) S := rfl
    by_cases c1 : c < 0
    · rw [decide_eq_true c1] at t1
      exact ⟨_, by rw [if_pos c1]; omega, eif_t (or_t t1) ab⟩
    · rw [decide_eq_false c1] at t1
      by_cases c2 : (10 : Int) ^ 18 ≤ c
      · rw [decide_eq_true c2] at t2
        exact ⟨_, by rw [if_neg c1]; omega, eif_t (or_f t1 t2) ab⟩
      · rw [decide_eq_false c2] at t2
        exact ⟨0, by decide, eif_f (or_f t1 t2) rfl⟩
  obtain ⟨a, a0, ea⟩ := big
  refine ⟨a, m', ?_, a0, m0, m1⟩
  refine fn_rt (seq_nx ec (seq_nx (ρ1 := [o0, dI k, dI c, dI (90001 + 7919 * k), none]) (S1 := S) (set_to (LS.e2_to rfl (LS.e2_to rfl rfl (mul_to (by decide) (by omega))) rfl) (by show 3 < 5; decide)) (seq_nx (for_to (ds := (ys ++ [c]).map .int) (S1 := S) (bd_to (a := .lst ((ys ++ [c]).map .int)) (S1 := S) (bd_to (a := (ys ++ [c]).map .int) (S1 := S) ?_ rfl) rfl) es) (ret_to (bd_to (a := [.int a, .int m', .int 0]) (S1 := S) (bd_to (acons_to ea (acons_to rfl (acons_to rfl rfl))) rfl) rfl)))))
  refine bd_to (a := .lst (ys.map D.int)) (S1 := S) ?_ (bd_to (a := .lst [.int c]) (S1 := S) rfl ?_)
  · rw [← ey]; rfl
  · show (if (ys.map D.int).length + 1 ≤ PySem.sizeLine then ret (ys.map D.int ++ [D.int c]) else dv) S = _
    rw [if_pos (by rw [List.length_map]; exact Nat.le_trans (by omega : ys.length + 1 ≤ 64) (by decide)), List.map_append]; rfl
/-- every spring's turns are right -/
theorem springs_ok (zs : List Int) (hz : zs.length ≤ 63) {o1 : Option Sl} : ∀ (j k : Nat) (S : Sto), k + j ≤ 10 → ∃ S', lcM (gNm 1) (tNotB (tT (eFn 1 f__law_right (aCons (eFn 2 f__law_spring (aCons (eVar 0) (aCons (eVar 1) aNil))) aNil)))) (eVar 1) [some (.val (.scr (zs.map .int))), o1] (rngD k j) S = .ok [] S'
  | 0, k, S, _ => ⟨S, rfl⟩
  | j + 1, k, S, hk => by
    obtain ⟨a, m, e1, a0, m0, m1⟩ := spring_ok (S := S) zs k (by omega) hz
    have sp : Spr (S ++ [Ob.lst [.int a, .int m, .int 0]]) S.length 0 := ⟨a, m, 0, by simp, a0, m0, m1, by decide, by decide⟩
    obtain ⟨S2, e2, sp2, r2⟩ := right_ok sp
    obtain ⟨S3, e3⟩ := springs_ok zs hz (o1 := o1) j (k + 1) S2 (by omega)
    refine ⟨S3, ?_⟩
    rw [rng_step]
    rw [show ((k + 1 : Nat) : Int) = (k : Int) + 1 from rfl] at e3
    exact lc_no (ρ1 := [some (.val (.scr (zs.map .int))), dI k]) (S1 := S) (S2 := S2) rfl (not_to (k := true) (bd_to (a := .bl true) (S1 := S2) (call_to (acons_to (call_to (acons_to rfl (acons_to rfl rfl)) rfl e1) rfl) rfl e2) rfl)) e3
theorem plain (zs : List Int) (h : zs.length ≤ 63) (hb : ∀ z ∈ zs, PySem.Builtin.Int.intBits z ≤ 1048576) : ∃ Se, f_law [.scr (zs.map .int)] [] = .ok (.bl true) Se := by
  let o0 : Option Sl := some (.val (.scr (zs.map .int)))
  obtain ⟨c, hc, ec⟩ : ∃ c : Nat, c ≤ 5 ∧ eCall (g2 max2D) (aCons (eC (.int 2)) (aCons (eCall (g2 min2D) (aCons (eCall (g1 lenD) (aCons (eLook 0) aNil)) (aCons (eC (.int 5)) aNil))) aNil)) [o0, none] [] = .ok (.int c) [] := by
    have e : eCall (g2 max2D) (aCons (eC (.int 2)) (aCons (eCall (g2 min2D) (aCons (eCall (g1 lenD) (aCons (eLook 0) aNil)) (aCons (eC (.int 5)) aNil))) aNil)) [o0, none] [] = .ok (.int (if (if (5 : Int) < ((zs.map D.int).length : Nat) then (5 : Int) else ((zs.map D.int).length : Nat)) > 2 then (if (5 : Int) < ((zs.map D.int).length : Nat) then (5 : Int) else ((zs.map D.int).length : Nat)) else 2)) [] := rfl
    rw [e]
    generalize (zs.map D.int).length = q
    refine ⟨(if (if (5 : Int) < q then (5 : Int) else q) > 2 then (if (5 : Int) < q then (5 : Int) else q) else 2).toNat, ?_, ?_⟩
    · split <;> (try split) <;> omega
    · congr 2
      split <;> (try split) <;> omega
  obtain ⟨S', es⟩ := springs_ok zs h (o1 := none) c 0 [] (by omega)
  refine ⟨S', fn_rt (ret_to (e2_to (x := .lst []) (y := .lst []) (S1 := S') (S2 := S') (bd_to (lcn_to (ds := rngD 0 c) (S1 := []) (bd_to (acons_to ec rfl) (rng1_to (by omega))) (by rw [rng_len]; exact Nat.le_trans hc (by decide)) es) rfl) rfl rfl))⟩
end LW

theorem PySem.Challenge.cw_fewenough_k70_whole_points_of_forty_digi_holds : PySem.Challenge.rw_fewenough_k70_whole_points_of_forty_digi.Holds :=
  LW.early ⟨LW.f_law, LW.plain, fun Z => LW.fg_law Z⟩
