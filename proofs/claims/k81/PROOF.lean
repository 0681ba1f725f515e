import PyProof.Rows.All
import Wide.All
import OpenK.AllK
import Wide.FinOn
import PySem.Challenge.RW_affinewalk_k81_lists_that_decide
import HandS.ForMost
import HandS.ForExc
import HandS.Defaults
import HandS.CallSlots
import HandS.Flow
import HandS.Style
import HandS.TupAny
import HandS.Wide
import HandS.Strs
import HandS.SetKeys
import HandS.RaiseMore
import HandS.Deep
import KE.SortData
import KE.DataCmp
import HandS.TupSets
import HandS.Ends
import HandS.Head0
import HandS.Head1
import HandS.Head2
import HandS.HeadEnd
import HandS.HeadHook1
import HandS.HeadHook2
set_option Elab.async false
set_option linter.all false
set_option maxRecDepth 100000
set_option maxHeartbeats 4000000
/-! VL: a layer of data over the readings. D: data by value; a store of changeable things by number; slots. -/
namespace VL
open PySem L2

/-- data: what a name, an item, a field holds. h n: the n-th changeable thing of the store -/
inductive D where
  | non | bl (b : Bool) | int (i : Int) | str (x : Str)
  | tup (l : List D) | lst (l : List D) | scr (l : List D)
  | dK (l : List (Key × D)) | dT (l : List (List Key × D))
  | ins (c : Str) (l : List (Str × D))
  | h (n : Nat) | raw (v : V)

structure Gm where
  K : PySem.W.Frag
  ca : Str → Addr

def unf : HO → HO
  | .frz _ (.dK k) => .dK k
  | .frz _ (.dT k) => .dT k
  | o => o

abbrev Hp0 : Hp := fun _ => none

section
variable (Γ : Gm) (η : List Addr) (L : Addr → Prop) (H : Hp)
mutual
inductive Rp : V → D → Prop
  | non : Rp .non .non
  | bl (b : Bool) : Rp (.bl b) (.bl b)
  | int (i : Int) : Rp (.int i) (.int i)
  | str (x : Str) : Rp (.str x) (.str x)
  | tup {a : Addr} {xs : List V} {ds : List D} : (H a = some (.tup xs) ∨ SqT Γ.K Hp0 a xs) → Rps xs ds → Rp (.ref a) (.tup ds)
  | lst {a : Addr} {xs : List V} {ds : List D} : H a = some (.lst xs) → ¬ L a → Rps xs ds → Rp (.ref a) (.lst ds)
  | scr {a : Addr} {xs : List V} {ds : List D} : ((∃ o, H a = some (.frz o (.lst xs)) ∧ ¬ L a) ∨ SqL Γ.K Hp0 a xs) → Rps xs ds → Rp (.ref a) (.scr ds)
  | dK {a : Addr} {o : HO} {kvs : List (Key × V)} {kds : List (Key × D)} : H a = some o → unf o = .dK kvs → ¬ L a → kvs.map (·.1) = kds.map (·.1) → Rps (kvs.map (·.2)) (kds.map (·.2)) → Rp (.ref a) (.dK kds)
  | dT {a : Addr} {o : HO} {kvs : List (List Key × V)} {kds : List (List Key × D)} : H a = some o → unf o = .dT kvs → ¬ L a → kvs.map (·.1) = kds.map (·.1) → Rps (kvs.map (·.2)) (kds.map (·.2)) → Rp (.ref a) (.dT kds)
  | ins {a dx : Addr} {c : Str} {fs : List (Str × V)} {fds : List (Str × D)} : H a = some (.ins (Γ.ca c) dx fs) → ¬ L a → fs.map (·.1) = fds.map (·.1) → Rps (fs.map (·.2)) (fds.map (·.2)) → Rp (.ref a) (.ins c fds)
  | h {a : Addr} {n : Nat} : η[n]? = some a → Rp (.ref a) (.h n)
  | raw (v : V) : Rp v (.raw v)
inductive Rps : List V → List D → Prop
  | nil : Rps [] []
  | cons {v : V} {d : D} {vs : List V} {ds : List D} : Rp v d → Rps vs ds → Rps (v :: vs) (d :: ds)
end
/-- what stands at a changeable thing's address -/
def ObOk (a : Addr) : D → Prop
  | .lst ds => ∃ xs, H a = some (.lst xs) ∧ Rps Γ η L H xs ds
  | .dK kds => ∃ kvs, H a = some (.dK kvs) ∧ kvs.map (·.1) = kds.map (·.1) ∧ Rps Γ η L H (kvs.map (·.2)) (kds.map (·.2))
  | .dT kds => ∃ kvs, H a = some (.dT kvs) ∧ kvs.map (·.1) = kds.map (·.1) ∧ Rps Γ η L H (kvs.map (·.2)) (kds.map (·.2))
  | .ins c fds => ∃ dx fs, H a = some (.ins (Γ.ca c) dx fs) ∧ fs.map (·.1) = fds.map (·.1) ∧ Rps Γ η L H (fs.map (·.2)) (fds.map (·.2))
  | _ => False
end

/-- from a heap with live things L to a later one -/
structure Step (L : Addr → Prop) (H : Hp) (L' : Addr → Prop) (H' : Hp) : Prop where
  keep : ∀ a o, H a = some o → ¬ L a → ∃ o', H' a = some o' ∧ unf o' = unf o
  tup : ∀ a xs, H a = some (.tup xs) → H' a = some (.tup xs)
  live : ∀ a, L' a → L a ∨ H a = none
  none : ∀ a, H' a = none → H a = none

/-- .. that leaves the other frames' things as they are -/
structure Ste (Z : Addr → Prop) (L : Addr → Prop) (H : Hp) (L' : Addr → Prop) (H' : Hp) : Prop extends Step L H L' H' where
  oth : ∀ a, Z a → H' a = H a

theorem unf_lst {o : HO} {xs : List V} (h : unf o = .lst xs) : o = .lst xs := by
  unfold unf at h; split at h <;> first | exact h | cases h
theorem unf_ins {o : HO} {C dx : Addr} {fs : List (Str × V)} (h : unf o = .ins C dx fs) : o = .ins C dx fs := by
  unfold unf at h; split at h <;> first | exact h | cases h
theorem unf_frzl {o : HO} {ob : Obj} {xs : List V} (h : unf o = .frz ob (.lst xs)) : o = .frz ob (.lst xs) := by
  unfold unf at h; split at h <;> first | exact h | cases h

section
variable {Γ : Gm} {η η' η'' : List Addr} {L L' L'' : Addr → Prop} {H H' H'' : Hp}
theorem Step.refl : Step L H L H := ⟨fun a o h _ => ⟨o, h, rfl⟩, fun _ _ h => h, fun _ h => .inl h, fun _ h => h⟩
theorem Step.trans (a : Step L H L' H') (b : Step L' H' L'' H'') : Step L H L'' H'' where
  keep := fun x o h n => by
    obtain ⟨o1, h1, e1⟩ := a.keep x o h n
    have n1 : ¬ L' x := fun z => (a.live x z).elim n fun e => by rw [e] at h; cases h
    obtain ⟨o2, h2, e2⟩ := b.keep x o1 h1 n1
    exact ⟨o2, h2, e2.trans e1⟩
  tup := fun x xs h => b.tup x xs (a.tup x xs h)
  live := fun x h => by
    rcases b.live x h with h | h
    · exact a.live x h
    · exact .inr (a.none x h)
  none := fun x h => a.none x (b.none x h)
theorem Ste.refl {Z : Addr → Prop} : Ste Z L H L H := ⟨Step.refl, fun _ _ => rfl⟩
theorem Ste.trans {Z : Addr → Prop} (a : Ste Z L H L' H') (b : Ste Z L' H' L'' H'') : Ste Z L H L'' H'' := ⟨a.toStep.trans b.toStep, fun x z => (b.oth x z).trans (a.oth x z)⟩
theorem Step.ex (e : ∀ a o, H a = some o → H' a = some o) : Step L H L H' :=
  ⟨fun a o h _ => ⟨o, e a o h, rfl⟩, fun a xs h => e a _ h, fun _ h => .inl h, fun a h => by
    cases q : H a with
    | none => rfl
    | some o => rw [e a o q] at h; cases h⟩
theorem Ste.ex {Z : Addr → Prop} (e : ∀ a o, H a = some o → H' a = some o) (hz : ∀ a, Z a → H a ≠ none) : Ste Z L H L H' := ⟨Step.ex e, fun a z => by
  cases q : H a with
  | none => exact (hz a z q).elim
  | some o => exact e a o q⟩
theorem Step.nlive (s : Step L H L' H') {a : Addr} {o : HO} (h : H a = some o) (n : ¬ L a) : ¬ L' a := fun z => (s.live a z).elim n fun e => by rw [e] at h; cases h
theorem pre_get {n : Nat} {a : Addr} (p : η <+: η') (h : η[n]? = some a) : η'[n]? = some a := by
  obtain ⟨t, rfl⟩ := p
  rw [List.getElem?_append_left (List.getElem?_eq_some_iff.mp h).1]
  exact h
mutual
theorem Rp.step (s : Step L H L' H') (p : η <+: η') : ∀ {v d}, Rp Γ η L H v d → Rp Γ η' L' H' v d
  | _, _, .non => .non
  | _, _, .bl b => .bl b
  | _, _, .int i => .int i
  | _, _, .str x => .str x
  | _, _, .tup h r => .tup (h.imp (s.tup _ _) id) (Rps.step s p r)
  | _, _, .lst h n r => by
    obtain ⟨o', h', e⟩ := s.keep _ _ h n
    have := unf_lst (e.trans rfl)
    subst this
    exact .lst h' (s.nlive h n) (Rps.step s p r)
  | _, _, .scr h r => .scr (h.imp (fun ⟨o, h, n⟩ => by
    obtain ⟨o', h', e⟩ := s.keep _ _ h n
    have := unf_frzl (e.trans rfl)
    subst this
    exact ⟨o, h', s.nlive h n⟩) id) (Rps.step s p r)
  | _, _, .dK h e n k r => by
    obtain ⟨o', h', e'⟩ := s.keep _ _ h n
    exact .dK h' (e'.trans e) (s.nlive h n) k (Rps.step s p r)
  | _, _, .dT h e n k r => by
    obtain ⟨o', h', e'⟩ := s.keep _ _ h n
    exact .dT h' (e'.trans e) (s.nlive h n) k (Rps.step s p r)
  | _, _, .ins h n k r => by
    obtain ⟨o', h', e⟩ := s.keep _ _ h n
    have := unf_ins (e.trans rfl)
    subst this
    exact .ins h' (s.nlive h n) k (Rps.step s p r)
  | _, _, .h e => .h (pre_get p e)
  | _, _, .raw v => .raw v
theorem Rps.step (s : Step L H L' H') (p : η <+: η') : ∀ {v d}, Rps Γ η L H v d → Rps Γ η' L' H' v d
  | _, _, .nil => .nil
  | _, _, .cons a b => .cons (Rp.step s p a) (Rps.step s p b)
end
theorem ObOk.step (s : Step L H L' H') (p : η <+: η') {a : Addr} (e : H' a = H a) : ∀ {d}, ObOk Γ η L H a d → ObOk Γ η' L' H' a d := by
  intro d h
  cases d <;> first | exact h | skip
  · obtain ⟨xs, h1, r⟩ := h; exact ⟨xs, e.trans h1, r.step s p⟩
  · obtain ⟨xs, h1, k, r⟩ := h; exact ⟨xs, e.trans h1, k, r.step s p⟩
  · obtain ⟨xs, h1, k, r⟩ := h; exact ⟨xs, e.trans h1, k, r.step s p⟩
  · obtain ⟨dx, xs, h1, k, r⟩ := h; exact ⟨dx, xs, e.trans h1, k, r.step s p⟩
theorem ObOk.some {a : Addr} {d : D} (h : ObOk Γ η L H a d) : ∃ o, H a = some o := by
  cases d <;> first | exact h.elim | skip
  · obtain ⟨xs, h1, r⟩ := h; exact ⟨_, h1⟩
  · obtain ⟨xs, h1, r⟩ := h; exact ⟨_, h1⟩
  · obtain ⟨xs, h1, r⟩ := h; exact ⟨_, h1⟩
  · obtain ⟨dx, xs, h1, r⟩ := h; exact ⟨_, h1⟩
/-- a live thing is given up: from now on it is data -/
theorem ObOk.froze {a : Addr} {d : D} (h : ObOk Γ η L H a d) (n : ¬ L a) : Rp Γ η L H (.ref a) d := by
  cases d <;> first | exact h.elim | skip
  · obtain ⟨xs, h1, r⟩ := h; exact .lst h1 n r
  · obtain ⟨xs, h1, k, r⟩ := h; exact .dK h1 rfl n k r
  · obtain ⟨xs, h1, k, r⟩ := h; exact .dT h1 rfl n k r
  · obtain ⟨dx, xs, h1, k, r⟩ := h; exact .ins h1 n k r
theorem Rps.length : ∀ {vs ds}, Rps Γ η L H vs ds → vs.length = ds.length
  | _, _, .nil => rfl
  | _, _, .cons _ b => by simp [Rps.length b]
theorem Rps.append : ∀ {vs ds ws es}, Rps Γ η L H vs ds → Rps Γ η L H ws es → Rps Γ η L H (vs ++ ws) (ds ++ es)
  | _, _, _, _, .nil, r => r
  | _, _, _, _, .cons a b, r => .cons a (Rps.append b r)
theorem Rps.get : ∀ {vs ds} {i : Nat} {d : D}, Rps Γ η L H vs ds → ds[i]? = some d → ∃ v, vs[i]? = some v ∧ Rp Γ η L H v d
  | _, _, _, _, .nil, e => by simp at e
  | _, _, 0, _, .cons a _, e => by simp at e; subst e; exact ⟨_, rfl, a⟩
  | _, _, i + 1, _, .cons _ b, e => by
    obtain ⟨v, h1, h2⟩ := Rps.get (i := i) b (by simpa using e)
    exact ⟨v, by simpa using h1, h2⟩
theorem Rps.getV : ∀ {vs ds} {i : Nat} {v : V}, Rps Γ η L H vs ds → vs[i]? = some v → ∃ d, ds[i]? = some d ∧ Rp Γ η L H v d
  | _, _, _, _, .nil, e => by simp at e
  | _, _, 0, _, .cons a _, e => by simp at e; subst e; exact ⟨_, rfl, a⟩
  | _, _, i + 1, _, .cons _ b, e => by
    obtain ⟨v, h1, h2⟩ := Rps.getV (i := i) b (by simpa using e)
    exact ⟨v, by simpa using h1, h2⟩
theorem Rps.take : ∀ {vs ds} (n : Nat), Rps Γ η L H vs ds → Rps Γ η L H (vs.take n) (ds.take n)
  | _, _, 0, _ => .nil
  | _, _, _ + 1, .nil => .nil
  | _, _, n + 1, .cons a b => .cons a (Rps.take n b)
theorem Rps.drop : ∀ {vs ds} (n : Nat), Rps Γ η L H vs ds → Rps Γ η L H (vs.drop n) (ds.drop n)
  | _, _, 0, r => r
  | _, _, _ + 1, .nil => .nil
  | _, _, n + 1, .cons _ b => Rps.drop n b
theorem Rps.set : ∀ {vs ds} (i : Nat) {v d}, Rps Γ η L H vs ds → Rp Γ η L H v d → Rps Γ η L H (vs.set i v) (ds.set i d)
  | _, _, _, _, _, .nil, _ => .nil
  | _, _, 0, _, _, .cons _ b, r => .cons r b
  | _, _, i + 1, _, _, .cons a b, r => .cons a (Rps.set i b r)
theorem Rps.erase : ∀ {vs ds} (i : Nat), Rps Γ η L H vs ds → Rps Γ η L H (vs.eraseIdx i) (ds.eraseIdx i)
  | _, _, _, .nil => .nil
  | _, _, 0, .cons _ b => b
  | _, _, i + 1, .cons a b => .cons a (Rps.erase i b)
theorem Rps.reverse {vs ds} (r : Rps Γ η L H vs ds) : Rps Γ η L H vs.reverse ds.reverse := by
  suffices h : ∀ {vs ds ws es}, Rps Γ η L H vs ds → Rps Γ η L H ws es → Rps Γ η L H (vs.reverseAux ws) (ds.reverseAux es) from h r .nil
  intro vs
  induction vs with
  | nil => intro ds ws es r q; cases r; exact q
  | cons v vs ih => intro ds ws es r q; cases r with | cons a b => exact ih (ds := _) (ws := v :: ws) (es := _ :: es) b (.cons a q)
theorem Rps.ints : ∀ {ns : List Int} {vs}, Rps Γ η L H vs (ns.map D.int) → vs = ns.map V.int
  | [], _, .nil => rfl
  | _ :: _, _, .cons a b => by cases a; rw [Rps.ints b]; rfl
theorem Rps.strs : ∀ {ns : List Str} {vs}, Rps Γ η L H vs (ns.map D.str) → vs = ns.map V.str
  | [], _, .nil => rfl
  | _ :: _, _, .cons a b => by cases a; rw [Rps.strs b]; rfl
theorem Rps.ofInts : ∀ (ns : List Int), Rps Γ η L H (ns.map V.int) (ns.map D.int)
  | [] => .nil
  | i :: r => .cons (.int i) (Rps.ofInts r)
theorem Rps.ofStrs : ∀ (ns : List Str), Rps Γ η L H (ns.map V.str) (ns.map D.str)
  | [] => .nil
  | i :: r => .cons (.str i) (Rps.ofStrs r)
end

/-! ### frames -/
inductive Slot where
  | no | val (d : D) | own (d : D)
structure Fr where
  env : List Slot
  st : List D
/-- an expression's result -/
inductive Res (α : Type) where
  | ok (a : α) (s : Fr) | exc (c : Str) (p : List (Str × D)) (s : Fr) | bad
/-- a statement's result -/
inductive SR where
  | nx (s : Fr) | ret (d : D) (st : List D) | brk (s : Fr) | ct (s : Fr) | exc (c : Str) (p : List (Str × D)) (s : Fr) | bad
abbrev EF := Fr → Res D
abbrev TF := Fr → Res Bool
abbrev AF := Fr → Res (List D)
abbrev SF := Fr → SR

/-- live: other frames' things, the store's, this frame's own -/
def Lv (Z : Addr → Prop) (η : List Addr) (ω : List (Option Addr)) (a : Addr) : Prop := Z a ∨ a ∈ η ∨ some a ∈ ω
def Zp (Z : Addr → Prop) (a : Addr) : Addr → Prop := fun b => Z b ∨ b = a

structure Good (Γ : Gm) (Z : Addr → Prop) (η : List Addr) (ω : List (Option Addr)) (σ : St) (H : Hp) (s : Fr) : Prop where
  nd : η.Nodup
  zη : ∀ a ∈ η, ¬ Z a
  zω : ∀ a, some a ∈ ω → ¬ Z a ∧ a ∉ η
  zH : ∀ a, Lv Z η ω a → H a ≠ none
  len : s.env.length = σ.length
  lenω : ω.length = σ.length
  stl : s.st.length = η.length
  inj : ∀ (i j : Nat) a, ω[i]? = some (some a) → ω[j]? = some (some a) → i = j
  val : ∀ (i : Nat) d, s.env[i]? = some (.val d) → ∃ v, σ[i]? = some (some v) ∧ Rp Γ η (Lv Z η ω) H v d
  own : ∀ (i : Nat) d, s.env[i]? = some (.own d) → ∃ a, σ[i]? = some (some (.ref a)) ∧ ω[i]? = some (some a) ∧ ObOk Γ η (Lv Z η ω) H a d
  hs : ∀ (n : Nat) d, s.st[n]? = some d → ∃ a, η[n]? = some a ∧ ObOk Γ η (Lv Z η ω) H a d

section
variable {Γ : Gm} {Z : Addr → Prop} {η η' : List Addr} {ω ω' : List (Option Addr)} {σ : St} {H H' : Hp} {s : Fr}
theorem mem_of_get {α : Type} {l : List α} {i : Nat} {x : α} (h : l[i]? = some x) : x ∈ l := List.mem_of_getElem? h
/-- more is laid -/
theorem Good.ex (g : Good Γ Z η ω σ H s) (e : ∀ a o, H a = some o → H' a = some o) : Good Γ Z η ω σ H' s := by
  have st : Step (Lv Z η ω) H (Lv Z η ω) H' := Step.ex e
  have keep : ∀ {a d}, ObOk Γ η (Lv Z η ω) H a d → ObOk Γ η (Lv Z η ω) H' a d := fun {a d} h => by
    obtain ⟨o, q⟩ := h.some
    exact h.step st (List.prefix_refl _) ((e a o q).trans q.symm)
  refine ⟨g.nd, g.zη, g.zω, fun a h q => g.zH a h (st.none a q), g.len, g.lenω, g.stl, g.inj, fun i d h => ?_, fun i d h => ?_, fun n d h => ?_⟩
  · obtain ⟨v, h1, h2⟩ := g.val i d h; exact ⟨v, h1, h2.step st (List.prefix_refl _)⟩
  · obtain ⟨a, h1, h2, h3⟩ := g.own i d h; exact ⟨a, h1, h2, keep h3⟩
  · obtain ⟨a, h1, h2⟩ := g.hs n d h; exact ⟨a, h1, keep h2⟩
/-- fewer things of other frames are forbidden -/
theorem Good.less {Z' : Addr → Prop} (g : Good Γ Z η ω σ H s) (h : ∀ a, Z' a → Z a) : Good Γ Z' η ω σ H s := by
  have l : ∀ a, Lv Z' η ω a → Lv Z η ω a := fun a q => q.imp (h a) id
  have st : Step (Lv Z η ω) H (Lv Z' η ω) H := ⟨fun a o q _ => ⟨o, q, rfl⟩, fun _ _ q => q, fun a q => .inl (l a q), fun _ q => q⟩
  have p : η <+: η := List.prefix_refl _
  refine ⟨g.nd, fun a q z => g.zη a q (h a z), fun a q => ⟨fun z => (g.zω a q).1 (h a z), (g.zω a q).2⟩, fun a q => g.zH a (l a q), g.len, g.lenω, g.stl, g.inj, fun i d q => ?_, fun i d q => ?_, fun n d q => ?_⟩
  · obtain ⟨v, h1, h2⟩ := g.val i d q; exact ⟨v, h1, h2.step st p⟩
  · obtain ⟨a, h1, h2, h3⟩ := g.own i d q; exact ⟨a, h1, h2, h3.step st p rfl⟩
  · obtain ⟨a, h1, h2⟩ := g.hs n d q; exact ⟨a, h1, h2.step st p rfl⟩
end
end VL
set_option Elab.async false
set_option linter.all false
set_option maxRecDepth 100000
set_option maxHeartbeats 4000000
namespace VL
open PySem L2

def Res.bind {α β : Type} (r : Res α) (f : α → Fr → Res β) : Res β := match r with
  | .ok a s => f a s
  | .exc c p s => .exc c p s
  | .bad => .bad
/-- r, then f: of an operation's result -/
def Res.of {β : Type} (o : Option β) (s : Fr) : Res β := match o with
  | some b => .ok b s
  | none => .bad
def Res.sr (r : Res α) (f : α → Fr → SR) : SR := match r with
  | .ok a s => f a s
  | .exc c p s => .exc c p s
  | .bad => .bad

abbrev PostT (β W : Type) := List Addr → List (Option Addr) → Hp → β → Fr → W → Hp → Prop
abbrev RelT (β W : Type) := Gm → List Addr → (Addr → Prop) → Hp → β → W → Prop
section
variable (Γ : Gm) (Z : Addr → Prop) (σ : St) (EX : WX)
def PoX {β W : Type} (P : RelT β W) : PostT β W := fun η ω H b s w H' =>
  ∃ η' ω', η <+: η' ∧ Good Γ Z η' ω' σ H' s ∧ Ste Z (Lv Z η ω) H (Lv Z η' ω') H' ∧ P Γ η' (Lv Z η' ω') H' b w
/-- a new thing that none else holds -/
def PoO : PostT D V := fun η ω H b s w H' =>
  ∃ η' ω' a, w = .ref a ∧ ¬ Z a ∧ η <+: η' ∧ Good Γ (Zp Z a) η' ω' σ H' s ∧ Ste Z (Lv Z η ω) H (Lv (Zp Z a) η' ω') H' ∧ ObOk Γ η' (Lv (Zp Z a) η' ω') H' a b
def RE (η : List Addr) (ω : List (Option Addr)) (H : Hp) (c : Str) (p : List (Str × D)) (s' : Fr) : Prop :=
  ∀ dd H' σ' η' ω' vs, η <+: η' → Good Γ Z η' ω' σ' H' s' → Ste Z (Lv Z η ω) H (Lv Z η' ω') H' → H dd = none → H' dd = some (.xd ((p.map (·.1)).zip vs)) →
    Rps Γ η' (Lv Z η' ω') H' vs (p.map (·.2)) → EX (.ref (Γ.ca c)) (some dd) σ' H'
def Run {β W : Type} (Po : PostT β W) (η : List Addr) (ω : List (Option Addr)) (H : Hp) (r : Res β) (Q : W → Hp → Prop) : Prop := match r with
  | .ok b s' => ∀ w H', Po η ω H b s' w H' → Q w H'
  | .exc c p s' => RE Γ Z EX η ω H c p s'
  | .bad => False
end
def liftG (Γ : Gm) (EX : WX) {β W : Type} (P : RelT β W) (F : Fr → Res β) (σ : St) (H : Hp) (Q : W → Hp → Prop) : Prop :=
  ∃ Z η ω s, Good Γ Z η ω σ H s ∧ Run Γ Z EX (PoX Γ Z σ P) η ω H (F s) Q
def liftO (Γ : Gm) (EX : WX) (F : EF) : TE := fun σ H Q =>
  ∃ Z η ω s, Good Γ Z η ω σ H s ∧ Run Γ Z EX (PoO Γ Z σ) η ω H (F s) Q

def relD : RelT D V := fun Γ η L H d v => Rp Γ η L H v d
def relB : RelT Bool Bool := fun _ _ _ _ b w => b = w
def relA : RelT (List D) (List V) := fun Γ η L H ds vs => Rps Γ η L H vs ds
def relI : RelT (Option Int) (Option Int) := fun _ _ _ _ b w => b = w

class Later (Z : Addr → Prop) {β W : Type} (Po : PostT β W) : Prop where
  tr : ∀ {η ω H η1 ω1 H1 b s w H'}, Po η1 ω1 H1 b s w H' → η <+: η1 → Ste Z (Lv Z η ω) H (Lv Z η1 ω1) H1 → Po η ω H b s w H'
section
variable {Γ : Gm} {Z : Addr → Prop} {σ : St} {EX : WX} {η η1 : List Addr} {ω ω1 : List (Option Addr)} {H H1 : Hp} {s : Fr} {β W γ W' : Type}
instance {P : RelT β W} : Later Z (PoX Γ Z σ P) := ⟨fun ⟨η', ω', p, g, st, r⟩ p0 s0 => ⟨η', ω', p0.trans p, g, s0.trans st, r⟩⟩
instance : Later Z (PoO Γ Z σ) := ⟨fun ⟨η', ω', a, e, z, p, g, st, r⟩ p0 s0 => ⟨η', ω', a, e, z, p0.trans p, g, s0.trans st, r⟩⟩
theorem Run.later {Po : PostT β W} [l : Later Z Po] {r : Res β} {Q : W → Hp → Prop} (p0 : η <+: η1) (s0 : Ste Z (Lv Z η ω) H (Lv Z η1 ω1) H1) (h : Run Γ Z EX Po η ω H r Q) : Run Γ Z EX Po η1 ω1 H1 r Q := by
  cases r with
  | ok b s => exact fun w H' q => h w H' (l.tr q p0 s0)
  | exc c p s => exact fun dd H' σ' η' ω' vs a b c d e f => h dd H' σ' η' ω' vs (p0.trans a) b (s0.trans c) (s0.none dd d) e f
  | bad => exact h
/-- THE STEP: a part runs, then the rest -/
theorem go {P1 : RelT β W} {Po : PostT γ W'} [l : Later Z Po] {F : Fr → Res β} {G : β → Fr → Res γ} {Q : W' → Hp → Prop} {Q' : W → Hp → Prop} (g : Good Γ Z η ω σ H s) (h : Run Γ Z EX Po η ω H ((F s).bind G) Q)
    (k : ∀ b s1 w H1 η1 ω1, η <+: η1 → Good Γ Z η1 ω1 σ H1 s1 → Ste Z (Lv Z η ω) H (Lv Z η1 ω1) H1 → P1 Γ η1 (Lv Z η1 ω1) H1 b w → Run Γ Z EX Po η1 ω1 H1 (G b s1) Q → Q' w H1) : liftG Γ EX P1 F σ H Q' := by
  refine ⟨Z, η, ω, s, g, ?_⟩
  cases e : F s with
  | ok b s1 =>
    rw [e] at h
    intro w H1 ⟨η1, ω1, p, g1, st, r⟩
    exact k b s1 w H1 η1 ω1 p g1 st r (h.later p st)
  | exc c p s1 => rw [e] at h; exact h
  | bad => rw [e] at h; exact h
theorem Good.zl (g : Good Γ Z η ω σ H s) : ∀ a, Lv Z η ω a → H a ≠ none := g.zH
theorem zp_live {a b : Addr} (h : Lv (Zp Z a) η ω b) : Lv Z η ω b ∨ b = a := by
  rcases h with (h | h) | h
  · exact .inl (.inl h)
  · exact .inr h
  · exact .inl (.inr h)
theorem live_zp {a b : Addr} (h : Lv Z η ω b) : Lv (Zp Z a) η ω b := h.imp .inl id
theorem PoO.x {d : D} {w : V} {H' : Hp} {s' : Fr} (h : PoO Γ Z σ η ω H d s' w H') : PoX Γ Z σ relD η ω H d s' w H' := by
  obtain ⟨η', ω', a, rfl, nz, p, g, st, ob⟩ := h
  have nl : ¬ Lv Z η' ω' a := by
    rintro (z | z | z)
    · exact nz z
    · exact g.zη a z (.inr rfl)
    · exact (g.zω a z).1 (.inr rfl)
  have st2 : Step (Lv (Zp Z a) η' ω') H' (Lv Z η' ω') H' := ⟨fun a o q _ => ⟨o, q, rfl⟩, fun _ _ q => q, fun a q => .inl (live_zp q), fun _ q => q⟩
  exact ⟨η', ω', p, g.less fun b z => .inl z, st.trans ⟨st2, fun _ _ => rfl⟩, (ob.step st2 (List.prefix_refl _) rfl).froze nl⟩
end
end VL
set_option Elab.async false
set_option linter.all false
set_option maxRecDepth 100000
set_option maxHeartbeats 4000000
namespace VL
open PySem L2

abbrev gm (X : Cx) (ca : Str → Addr) : Gm := ⟨X.K, ca⟩
def XE (X : Cx) (ca : Str → Addr) (EX : WX) (e : Expr) (F : EF) : Prop := PE X e (liftG (gm X ca) EX relD F)
def XO (X : Cx) (ca : Str → Addr) (EX : WX) (e : Expr) (F : EF) : Prop := PE X e (liftO (gm X ca) EX F)
def XT (X : Cx) (ca : Str → Addr) (EX : WX) (e : Expr) (F : TF) : Prop := PT X e (liftG (gm X ca) EX relB F)
def XA (X : Cx) (ca : Str → Addr) (EX : WX) (es : List Expr) (F : AF) : Prop := PA X es (liftG (gm X ca) EX relA F)
theorem _root_.L2.PE.weak {X : Cx} {e : Expr} {t t' : TE} (h : PE X e t) (k : ∀ σ H Q, t' σ H Q → t σ H Q) : PE X e t' := ⟨fun pins s σ H Q I q => h.run pins s σ H Q I (k _ _ _ q)⟩
theorem _root_.L2.PT.weak {X : Cx} {e : Expr} {t t' : TT} (h : PT X e t) (k : ∀ σ H Q, t' σ H Q → t σ H Q) : PT X e t' := ⟨fun pins s σ H Q I q => h.run pins s σ H Q I (k _ _ _ q)⟩
theorem _root_.L2.PA.weak {X : Cx} {e : List Expr} {t t' : TA} (h : PA X e t) (k : ∀ σ H Q, t' σ H Q → t σ H Q) : PA X e t' := ⟨fun pos pins s σ H Q I q => h.run pos pins s σ H Q I (k _ _ _ q)⟩
theorem _root_.L2.PE.or {X : Cx} {e : Expr} {t t' : TE} (h : PE X e t) (h' : PE X e t') : PE X e (fun σ H Q => t σ H Q ∨ t' σ H Q) := ⟨fun pins s σ H Q I q => q.elim (h.run pins s σ H Q I) (h'.run pins s σ H Q I)⟩

abbrev Ex (H H' : Hp) : Prop := ∀ a o, H a = some o → H' a = some o
theorem ex_new {H : Hp} {p : Addr} {o : HO} (n : H p = none) : Ex H (upd H p o) := fun a u e => by rw [upd_ne (ne_of_none e n)]; exact e

section
variable {Γ : Gm} {Z : Addr → Prop} {σ : St} {EX : WX} {η η1 : List Addr} {ω ω1 : List (Option Addr)} {H H1 H' : Hp} {s s' : Fr} {β W γ W' : Type}
theorem stepNew {a : Addr} (n : H a = none) (e : Ex H H') : Step (Lv Z η ω) H (Lv (Zp Z a) η ω) H' :=
  ⟨fun b o h _ => ⟨o, e b o h, rfl⟩, fun b xs h => e b _ h, fun b h => (zp_live h).imp id fun q => by rw [q]; exact n, fun b h => by
    cases q : H b with
    | none => rfl
    | some o => rw [e b o q] at h; cases h⟩
theorem Good.more (g : Good Γ Z η ω σ H s) {a : Addr} (n : H a = none) (e : Ex H H') (h' : H' a ≠ none) : Good Γ (Zp Z a) η ω σ H' s := by
  have st : Step (Lv Z η ω) H (Lv (Zp Z a) η ω) H' := stepNew n e
  have keep : ∀ {b d}, ObOk Γ η (Lv Z η ω) H b d → ObOk Γ η (Lv (Zp Z a) η ω) H' b d := fun {b d} h => by
    obtain ⟨o, q⟩ := h.some
    exact h.step st (List.prefix_refl _) ((e b o q).trans q.symm)
  refine ⟨g.nd, fun b q z => ?_, fun b q => ⟨fun z => ?_, (g.zω b q).2⟩, fun b q => ?_, g.len, g.lenω, g.stl, g.inj, fun i d h => ?_, fun i d h => ?_, fun n d h => ?_⟩
  · rcases z with z | rfl
    · exact g.zη b q z
    · exact g.zH b (.inr (.inl q)) n
  · rcases z with z | rfl
    · exact (g.zω b q).1 z
    · exact g.zH b (.inr (.inr q)) n
  · rcases zp_live q with q | rfl
    · exact fun z => g.zH b q (st.none b z)
    · exact h'
  · obtain ⟨v, h1, h2⟩ := g.val i d h; exact ⟨v, h1, h2.step st (List.prefix_refl _)⟩
  · obtain ⟨b, h1, h2, h3⟩ := g.own i d h; exact ⟨b, h1, h2, keep h3⟩
  · obtain ⟨b, h1, h2⟩ := g.hs n d h; exact ⟨b, h1, keep h2⟩
/-- the end: a value -/
theorem Run.fin {P : RelT β W} {b : β} {Q : W → Hp → Prop} {w : W} (g : Good Γ Z η ω σ H s) (h : Run Γ Z EX (PoX Γ Z σ P) η ω H (.ok b s) Q) (e : Ex H H') (r : P Γ η (Lv Z η ω) H' b w) : Q w H' :=
  h w H' ⟨η, ω, List.prefix_refl _, g.ex e, Ste.ex e fun a z => g.zH a (.inl z), r⟩
/-- the end: a new thing -/
theorem Run.finO {d : D} {Q : VK} {a : Addr} (g : Good Γ Z η ω σ H s) (h : Run Γ Z EX (PoO Γ Z σ) η ω H (.ok d s) Q) (n : H a = none) (e : Ex H H') (ob : ObOk Γ η (Lv (Zp Z a) η ω) H' a d) : Q (.ref a) H' := by
  obtain ⟨o, ho⟩ := ob.some
  exact h (.ref a) H' ⟨η, ω, a, rfl, fun z => g.zH a (.inl z) n, List.prefix_refl _, g.more n e (by rw [ho]; simp), ⟨stepNew n e, (Ste.ex (L := Lv Z η ω) e fun a z => g.zH a (.inl z)).oth⟩, ob⟩
theorem zp_eq : Lv (Zp Z a) η ω = fun b => Lv Z η ω b ∨ b = a := by
  funext b
  apply propext
  constructor
  · exact zp_live
  · rintro (h | rfl)
    · exact live_zp h
    · exact .inl (.inr rfl)
end
/-- a new thing may be taken for data -/
theorem XO.x {X : Cx} {ca : Str → Addr} {EX : WX} {e : Expr} {F : EF} (h : XO X ca EX e F) : XE X ca EX e F := h.weak fun σ H Q ⟨Z, η, ω, s, g, r⟩ => by
  refine ⟨Z, η, ω, s, g, ?_⟩
  cases q : F s with
  | ok d s' => rw [q] at r; exact fun w H' po => r w H' po.x
  | exc c p s' => rw [q] at r; exact r
  | bad => rw [q] at r; exact r

/-! ### names, constants -/
def eVar (i : Nat) : EF := fun s => match s.env[i]? with
  | some (.val d) => .ok d s
  | some (.own d) => .ok d { s with env := s.env.set i (.val d) }
  | _ => .bad
def eC (d : D) : EF := fun s => .ok d s
theorem mem_set_none {ω : List (Option Addr)} {i : Nat} {a : Addr} (h : some a ∈ ω.set i none) : some a ∈ ω := by
  rcases List.mem_or_eq_of_mem_set h with h | h
  · exact h
  · cases h
theorem get_set_none {ω : List (Option Addr)} {i j : Nat} {a : Addr} (h : (ω.set i none)[j]? = some (some a)) : j ≠ i ∧ ω[j]? = some (some a) := by
  by_cases e : i = j
  · subst e
    by_cases hl : i < ω.length
    · rw [List.getElem?_set_self hl] at h; cases h
    · rw [List.getElem?_eq_none (by simpa using hl)] at h; cases h
  · rw [List.getElem?_set_ne e] at h; exact ⟨fun q => e q.symm, h⟩
section
variable {Γ : Gm} {Z : Addr → Prop} {σ : St} {EX : WX} {η η1 : List Addr} {ω ω1 : List (Option Addr)} {H H1 H' : Hp} {s s' : Fr}
/-- a slot's own thing is given up -/
theorem Good.froze {i : Nat} {d : D} (g : Good Γ Z η ω σ H s) (h : s.env[i]? = some (.own d)) :
    Good Γ Z η (ω.set i none) σ H { s with env := s.env.set i (.val d) } ∧ Step (Lv Z η ω) H (Lv Z η (ω.set i none)) H ∧ ∃ a, σ[i]? = some (some (.ref a)) ∧ Rp Γ η (Lv Z η (ω.set i none)) H (.ref a) d := by
  obtain ⟨a, e1, e2, ob⟩ := g.own i d h
  have sub : ∀ b, Lv Z η (ω.set i none) b → Lv Z η ω b := fun b q => q.imp id fun q => q.imp id mem_set_none
  have st : Step (Lv Z η ω) H (Lv Z η (ω.set i none)) H := ⟨fun b o q _ => ⟨o, q, rfl⟩, fun _ _ q => q, fun b q => .inl (sub b q), fun _ q => q⟩
  have p := List.prefix_refl η
  have na : ¬ Lv Z η (ω.set i none) a := by
    have m := g.zω a (mem_of_get e2)
    rintro (z | z | z)
    · exact m.1 z
    · exact m.2 z
    · obtain ⟨j, hj, q⟩ := List.getElem_of_mem z
      obtain ⟨n, q2⟩ := get_set_none (j := j) (i := i) (a := a) (by rw [List.getElem?_eq_some_iff]; exact ⟨hj, q⟩)
      exact n (g.inj j i a q2 e2)
  have rp := (ob.step st p rfl).froze na
  refine ⟨⟨g.nd, g.zη, fun b q => g.zω b (mem_set_none q), fun b q => g.zH b (sub b q), by simpa using g.len, by simpa using g.lenω, g.stl, fun j k b q1 q2 => g.inj j k b (get_set_none q1).2 (get_set_none q2).2, fun j e q => ?_, fun j e q => ?_, fun n e q => ?_⟩, st, a, e1, rp⟩
  · by_cases hj : i = j
    · subst hj
      have hl := (List.getElem?_eq_some_iff.mp h).1
      simp only [List.getElem?_set_self hl] at q
      cases q
      exact ⟨_, e1, rp⟩
    · simp only [List.getElem?_set_ne hj] at q
      obtain ⟨v, h1, h2⟩ := g.val j e q
      exact ⟨v, h1, h2.step st p⟩
  · by_cases hj : i = j
    · subst hj
      have hl := (List.getElem?_eq_some_iff.mp h).1
      simp only [List.getElem?_set_self hl] at q
      cases q
    · simp only [List.getElem?_set_ne hj] at q
      obtain ⟨b, h1, h2, h3⟩ := g.own j e q
      exact ⟨b, h1, by rw [List.getElem?_set_ne hj]; exact h2, h3.step st p rfl⟩
  · obtain ⟨b, h1, h2⟩ := g.hs n e q
    exact ⟨b, h1, h2.step st p rfl⟩
end
section
variable {X : Cx} {ca : Str → Addr} {EX : WX}
theorem xe_var {i : Nat} {x : Str} {pos : Pos} (h : PE X (.Name x pos) (tVar i)) : XE X ca EX (.Name x pos) (eVar i) := h.weak fun σ H Q ⟨Z, η, ω, s, g, r⟩ => by
  unfold eVar at r
  cases q : s.env[i]? with
  | none => rw [q] at r; exact r.elim
  | some sl =>
    rw [q] at r
    cases sl with
    | no => exact r.elim
    | val d =>
      obtain ⟨v, h1, h2⟩ := g.val i d q
      exact ⟨v, h1, r.fin g (fun _ _ z => z) h2⟩
    | own d =>
      obtain ⟨g2, st, a, h1, h2⟩ := g.froze q
      exact ⟨_, h1, r (.ref a) H ⟨η, _, List.prefix_refl _, g2, ⟨st, fun _ _ => rfl⟩, h2⟩⟩
theorem xe_c {e : Expr} {v : V} {d : D} (h : PE X e (tC v)) (r : ∀ Γ η L H, Rp Γ η L H v d) : XE X ca EX e (eC d) := h.weak fun σ H Q ⟨Z, η, ω, s, g, h⟩ => h.fin g (fun _ _ z => z) (r _ _ _ _)
theorem xe_int {i : Int} {j pos} : XE X ca EX (.Constant (.int i) j pos) (eC (.int i)) := xe_c pe_int fun _ _ _ _ => .int i
theorem xe_bl {i : Bool} {j pos} : XE X ca EX (.Constant (.bool i) j pos) (eC (.bl i)) := xe_c pe_bl fun _ _ _ _ => .bl i
theorem xe_str {i : Str} {j pos} : XE X ca EX (.Constant (.str i) j pos) (eC (.str i)) := xe_c pe_str fun _ _ _ _ => .str i
theorem xe_non {j pos} : XE X ca EX (.Constant .none j pos) (eC .non) := xe_c pe_non fun _ _ _ _ => .non

/-! ### operators -/
def OpV (ca : Str → Addr) (K : PySem.W.Frag) (r : R2) (f : D → D → Option D) : Prop := ∀ {η : List Addr} {L : Addr → Prop} {H : Hp} {x y : V} {d e res : D} {Q : VK}, (∀ a, L a → H a ≠ none) → Rp ⟨K, ca⟩ η L H x d → Rp ⟨K, ca⟩ η L H y e → f d e = some res →
  (∀ v H', Ex H H' → Rp ⟨K, ca⟩ η L H' v res → Q v H') → r x y H Q
/-- .. where the result is a new thing -/
def OpO (ca : Str → Addr) (K : PySem.W.Frag) (r : R2) (f : D → D → Option D) : Prop := ∀ {η : List Addr} {L : Addr → Prop} {H : Hp} {x y : V} {d e res : D} {Q : VK}, (∀ a, L a → H a ≠ none) → Rp ⟨K, ca⟩ η L H x d → Rp ⟨K, ca⟩ η L H y e → f d e = some res →
  (∀ a H', H a = none → Ex H H' → ObOk ⟨K, ca⟩ η (fun b => L b ∨ b = a) H' a res → Q (.ref a) H') → r x y H Q
theorem stepL {L : Addr → Prop} {H H' : Hp} {a : Addr} (n : H a = none) (e : Ex H H') : Step L H (fun b => L b ∨ b = a) H' :=
  ⟨fun b o h _ => ⟨o, e b o h, rfl⟩, fun b xs h => e b _ h, fun b h => h.imp id fun q => by rw [q]; exact n, fun b h => by
    cases q : H b with
    | none => rfl
    | some o => rw [e b o q] at h; cases h⟩
theorem stepM {L : Addr → Prop} {H : Hp} {a : Addr} : Step (fun b => L b ∨ b = a) H L H := ⟨fun b o q _ => ⟨o, q, rfl⟩, fun _ _ q => q, fun b q => .inl (.inl q), fun _ q => q⟩
theorem OpO.v {K : PySem.W.Frag} {r : R2} {f : D → D → Option D} (h : OpO ca K r f) : OpV ca K r f := fun hl rx ry e k => h hl rx ry e fun a H' n ex ob =>
  k _ _ ex ((ob.step stepM (List.prefix_refl _) rfl).froze fun z => hl a z n)
def eOp (f : D → D → Option D) (F G : EF) : EF := fun s => (F s).bind fun d s1 => (G s1).bind fun e s2 => .of (f d e) s2
def tCmp2 (f : D → D → Option Bool) (F G : EF) : TF := fun s => (F s).bind fun d s1 => (G s1).bind fun e s2 => .of (f d e) s2
section
variable {a b : Expr} {F G : EF} {r : R2} {f : D → D → Option D} {fb : D → D → Option Bool}
theorem op_v {σ : St} {H : Hp} {Q : VK} (hv : OpV ca X.K r f) (h : liftG (gm X ca) EX relD (eOp f F G) σ H Q) : tOp r (liftG (gm X ca) EX relD F) (liftG (gm X ca) EX relD G) σ H Q := by
  obtain ⟨Z, η, ω, s, g, h⟩ := h
  refine go g h fun d s1 x H1 η1 ω1 p1 g1 st1 r1 h1 => go g1 h1 fun e s2 y H2 η2 ω2 p2 g2 st2 r2 h2 => ?_
  cases q : f d e with
  | none => rw [q] at h2; exact h2.elim
  | some res => rw [q] at h2; exact hv g2.zH (r1.step st2.toStep p2) r2 q fun v H' ex rv => h2.fin g2 ex rv
theorem op_o {σ : St} {H : Hp} {Q : VK} (hv : OpO ca X.K r f) (h : liftO (gm X ca) EX (eOp f F G) σ H Q) : tOp r (liftG (gm X ca) EX relD F) (liftG (gm X ca) EX relD G) σ H Q := by
  obtain ⟨Z, η, ω, s, g, h⟩ := h
  refine go g h fun d s1 x H1 η1 ω1 p1 g1 st1 r1 h1 => go g1 h1 fun e s2 y H2 η2 ω2 p2 g2 st2 r2 h2 => ?_
  cases q : f d e with
  | none => rw [q] at h2; exact h2.elim
  | some res => rw [q] at h2; exact hv g2.zH (r1.step st2.toStep p2) r2 q fun a H' n ex ob => h2.finO g2 n ex (by rw [zp_eq]; exact ob)
theorem xe_op {op : Operator} {pos : Pos} (hr : OpR X (binaryOp op) r) (hv : OpV ca X.K r f) (ha : XE X ca EX a F) (hb : XE X ca EX b G) : XE X ca EX (.BinOp a op b pos) (eOp f F G) := (pe_op hr ha hb).weak fun σ H Q => op_v hv
theorem xo_op {op : Operator} {pos : Pos} (hr : OpR X (binaryOp op) r) (hv : OpO ca X.K r f) (ha : XE X ca EX a F) (hb : XE X ca EX b G) : XO X ca EX (.BinOp a op b pos) (eOp f F G) := (pe_op hr ha hb).weak fun σ H Q => op_o hv
theorem xe_cmp {op : CmpOp} {pos : Pos} (hr : OpR X (compareOp op) r) (hv : OpV ca X.K r f) (ha : XE X ca EX a F) (hb : XE X ca EX b G) (hm : behindInMarks op b = false) : XE X ca EX (.Compare a [op] [b] pos) (eOp f F G) := (pe_cmpR hr ha hb hm).weak fun σ H Q => op_v hv
theorem xt_cmp {op : CmpOp} {pos : Pos} (hr : OpR X (compareOp op) r) (hv : OpV ca X.K r fun d e => (fb d e).map D.bl) (ha : XE X ca EX a F) (hb : XE X ca EX b G) (hm : behindInMarks op b = false) : XT X ca EX (.Compare a [op] [b] pos) (tCmp2 fb F G) := (pt_cmpR hr ha hb hm).weak fun σ H Q h => by
  obtain ⟨Z, η, ω, s, g, h⟩ := h
  refine go g h fun d s1 x H1 η1 ω1 p1 g1 st1 r1 h1 => go g1 h1 fun e s2 y H2 η2 ω2 p2 g2 st2 r2 h2 => ?_
  cases q : fb d e with
  | none => rw [q] at h2; exact h2.elim
  | some res =>
    rw [q] at h2
    exact hv g2.zH (r1.step st2.toStep p2) r2 (res := .bl res) (show Option.map D.bl (fb d e) = some (.bl res) by rw [q]; rfl) fun v H' ex rv => by
      cases rv
      exact ⟨res, rfl, h2.fin g2 ex rfl⟩
theorem opR_or {f : Value → Value → Sem Value} {r r' : R2} (h : OpR X f r) (h' : OpR X f r') : OpR X f (fun x y H Q => r x y H Q ∨ r' x y H Q) := fun pins s σ H x y v u Q I rx ry q => q.elim (h pins s σ H x y v u Q I rx ry) (h' pins s σ H x y v u Q I rx ry)
end
end
end VL
set_option Elab.async false
set_option linter.all false
set_option maxRecDepth 100000
set_option maxHeartbeats 4000000
namespace VL
open PySem L2

/-! ### tests -/
section
variable {X : Cx} {ca : Str → Addr} {EX : WX} {a b c e : Expr} {F G K' : EF} {T U : TF}
def tVal (F : EF) : TF := fun s => (F s).bind fun d s1 => match d with
  | .bl b => .ok b s1
  | _ => .bad
theorem val_t {σ : St} {H : Hp} {Q : Bool → Hp → Prop} (h : liftG (gm X ca) EX relB (tVal F) σ H Q) : liftG (gm X ca) EX relD F σ H fun x H' => ∃ k, x = .bl k ∧ Q k H' := by
  obtain ⟨Z, η, ω, s, g, h⟩ := h
  refine go g h fun d s1 x H1 η1 ω1 p1 g1 st1 r1 h1 => ?_
  cases r1 <;> first | exact h1.elim | exact ⟨_, rfl, h1.fin g1 (fun _ _ z => z) rfl⟩
theorem xt_val (h : XE X ca EX e F) (he : ∀ (whole : Sem Value), PySem.isTrue e X.env whole = (do let v ← whole; standAt e.pos; holding [v] (truthy v)) := by intro _; rfl) : XT X ca EX e (tVal F) := (pt_val h he).weak fun σ H Q h => val_t h
def tNo (T : TF) : TF := fun s => (T s).bind fun b s1 => .ok (!b) s1
theorem xt_not {pos : Pos} (h : XT X ca EX a T) : XT X ca EX (.UnaryOp .Not a pos) (tNo T) := (pt_not h).weak fun σ H Q ⟨Z, η, ω, s, g, h⟩ =>
  go g h fun d s1 x H1 η1 ω1 p1 g1 st1 r1 h1 => by cases r1; exact h1.fin g1 (fun _ _ z => z) rfl
def tAn (T U : TF) : TF := fun s => (T s).bind fun b s1 => if b then U s1 else .ok false s1
def tOr (T U : TF) : TF := fun s => (T s).bind fun b s1 => if b then .ok true s1 else U s1
def XW (X : Cx) (ca : Str → Addr) (EX : WX) (e : Expr) (F : TF) : Prop := PW X e (liftG (gm X ca) EX relB F)
theorem _root_.L2.PW.weak {X : Cx} {e : Expr} {t t' : TT} (h : PW X e t) (k : ∀ σ H Q, t' σ H Q → t σ H Q) : PW X e t' := ⟨fun wh pins s σ H Q I q => h.run wh pins s σ H Q I (k _ _ _ q)⟩
theorem XW.pt (h : XW X ca EX e T) : XT X ca EX e T := PW.pt h
theorem xw_and1 {pos : Pos} (h : XT X ca EX a T) : XW X ca EX (.BoolOp .And [a] pos) T := pw_and1 h
theorem xw_or1 {pos : Pos} (h : XT X ca EX a T) : XW X ca EX (.BoolOp .Or [a] pos) T := pw_or1 h
theorem xw_and {pos : Pos} {rest : List Expr} (h : XT X ca EX a T) (h' : XW X ca EX (.BoolOp .And (b :: rest) pos) U) : XW X ca EX (.BoolOp .And (a :: b :: rest) pos) (tAn T U) := (pw_and h h').weak fun σ H Q ⟨Z, η, ω, s, g, h⟩ =>
  go g h fun d s1 x H1 η1 ω1 p1 g1 st1 r1 h1 => by
    cases r1
    cases d with
    | true => exact ⟨Z, η1, ω1, s1, g1, h1⟩
    | false => exact h1.fin g1 (fun _ _ z => z) rfl
theorem xw_or {pos : Pos} {rest : List Expr} (h : XT X ca EX a T) (h' : XW X ca EX (.BoolOp .Or (b :: rest) pos) U) : XW X ca EX (.BoolOp .Or (a :: b :: rest) pos) (tOr T U) := (pw_or h h').weak fun σ H Q ⟨Z, η, ω, s, g, h⟩ =>
  go g h fun d s1 x H1 η1 ω1 p1 g1 st1 r1 h1 => by
    cases r1
    cases d with
    | false => exact ⟨Z, η1, ω1, s1, g1, h1⟩
    | true => exact h1.fin g1 (fun _ _ z => z) rfl
/-- and, or, not as values (truth values) -/
def eAn (F G : EF) : EF := fun s => (F s).bind fun d s1 => match d with
  | .bl true => G s1
  | .bl false => .ok (.bl false) s1
  | _ => .bad
def eOr (F G : EF) : EF := fun s => (F s).bind fun d s1 => match d with
  | .bl true => .ok (.bl true) s1
  | .bl false => G s1
  | _ => .bad
def eNo (F : EF) : EF := fun s => (F s).bind fun d s1 => match d with
  | .bl b => .ok (.bl !b) s1
  | _ => .bad
theorem xe_one {pos : Pos} {op : BoolOp} (h : XE X ca EX a F) : XE X ca EX (.BoolOp op [a] pos) F := pe_one h
theorem xe_and {pos : Pos} {rest : List Expr} (h : XE X ca EX a F) (h' : XE X ca EX (.BoolOp .And (b :: rest) pos) G) : XE X ca EX (.BoolOp .And (a :: b :: rest) pos) (eAn F G) := (pe_and h h').weak fun σ H Q ⟨Z, η, ω, s, g, h⟩ =>
  go g h fun d s1 x H1 η1 ω1 p1 g1 st1 r1 h1 => by
    cases r1 <;> try exact h1.elim
    rename_i k
    refine ⟨k, rfl, ?_⟩
    cases k with
    | true => exact ⟨Z, η1, ω1, s1, g1, h1⟩
    | false => exact h1.fin g1 (fun _ _ z => z) (.bl false)
theorem xe_or {pos : Pos} {rest : List Expr} (h : XE X ca EX a F) (h' : XE X ca EX (.BoolOp .Or (b :: rest) pos) G) : XE X ca EX (.BoolOp .Or (a :: b :: rest) pos) (eOr F G) := (pe_or h h').weak fun σ H Q ⟨Z, η, ω, s, g, h⟩ =>
  go g h fun d s1 x H1 η1 ω1 p1 g1 st1 r1 h1 => by
    cases r1 <;> try exact h1.elim
    rename_i k
    refine ⟨k, rfl, ?_⟩
    cases k with
    | false => exact ⟨Z, η1, ω1, s1, g1, h1⟩
    | true => exact h1.fin g1 (fun _ _ z => z) (.bl true)
theorem xe_not {pos : Pos} (h : XE X ca EX a F) : XE X ca EX (.UnaryOp .Not a pos) (eNo F) := (pe_not h).weak fun σ H Q ⟨Z, η, ω, s, g, h⟩ =>
  go g h fun d s1 x H1 η1 ω1 p1 g1 st1 r1 h1 => by
    cases r1 <;> try exact h1.elim
    exact ⟨_, rfl, h1.fin g1 (fun _ _ z => z) (.bl _)⟩
/-- a if t else b -/
def eIf (T : TF) (F G : EF) : EF := fun s => (T s).bind fun b s1 => if b then F s1 else G s1
theorem xe_if {pos : Pos} (ht : XT X ca EX c T) (ha : XE X ca EX a F) (hb : XE X ca EX b G) : XE X ca EX (.IfExp c a b pos) (eIf T F G) := (pe_ifExp ht ha hb).weak fun σ H Q ⟨Z, η, ω, s, g, h⟩ =>
  go g h fun d s1 x H1 η1 ω1 p1 g1 st1 r1 h1 => by
    cases r1
    cases d with
    | true => exact ⟨Z, η1, ω1, s1, g1, h1⟩
    | false => exact ⟨Z, η1, ω1, s1, g1, h1⟩
/-- a < b < c -/
def eChain (f f' : D → D → Option Bool) (F G K : EF) : EF := fun s => (F s).bind fun d s1 => (G s1).bind fun e s2 => match f d e with
  | some true => (K s2).bind fun k s3 => .of ((f' e k).map D.bl) s3
  | some false => .ok (.bl false) s2
  | none => .bad
def tChn (f f' : D → D → Option Bool) (F G K : EF) : TF := tVal (eChain f f' F G K)
theorem chain_v {r r' : R2} {f f' : D → D → Option Bool} {σ : St} {H : Hp} {Q : VK} (hv : OpV ca X.K r fun d e => (f d e).map D.bl) (hv' : OpV ca X.K r' fun d e => (f' d e).map D.bl) (h : liftG (gm X ca) EX relD (eChain f f' F G K') σ H Q) :
    tChain r r' (liftG (gm X ca) EX relD F) (liftG (gm X ca) EX relD G) (liftG (gm X ca) EX relD K') σ H Q := by
  obtain ⟨Z, η, ω, s, g, h⟩ := h
  refine go g h fun d s1 x H1 η1 ω1 p1 g1 st1 r1 h1 => go g1 h1 fun e s2 y H2 η2 ω2 p2 g2 st2 r2 h2 => ?_
  cases q : f d e with
  | none => rw [q] at h2; exact h2.elim
  | some k =>
    rw [q] at h2
    refine hv g2.zH (r1.step st2.toStep p2) r2 (res := .bl k) (show Option.map D.bl (f d e) = some (.bl k) by rw [q]; rfl) fun v H3 ex rv => ?_
    cases rv
    refine ⟨k, rfl, ?_⟩
    have g3 := g2.ex ex
    have st3 : Ste Z (Lv Z η2 ω2) H2 (Lv Z η2 ω2) H3 := Ste.ex ex fun a z => g2.zH a (.inl z)
    cases k with
    | false => exact h2.fin g2 ex (.bl false)
    | true =>
      refine go g3 (h2.later (List.prefix_refl _) st3) fun m s3 w H4 η4 ω4 p4 g4 st4 r4 h4 => ?_
      cases q' : f' e m with
      | none => rw [q'] at h4; exact h4.elim
      | some k' =>
        rw [q'] at h4
        exact hv' g4.zH ((r2.step st3.toStep (List.prefix_refl _)).step st4.toStep p4) r4 (res := .bl k') (show Option.map D.bl (f' e m) = some (.bl k') by rw [q']; rfl) fun v H5 ex5 rv5 => h4.fin g4 ex5 rv5
theorem xe_chain {pos : Pos} {op op' : CmpOp} {r r' : R2} {f f' : D → D → Option Bool} (hr : OpR X (compareOp op) r) (hr' : OpR X (compareOp op') r') (hv : OpV ca X.K r fun d e => (f d e).map D.bl) (hv' : OpV ca X.K r' fun d e => (f' d e).map D.bl)
    (ha : XE X ca EX a F) (hb : XE X ca EX b G) (hc : XE X ca EX c K') (hm : lastMarks [op, op'] [b, c] = false := by with_unfolding_all rfl) : XE X ca EX (.Compare a [op, op'] [b, c] pos) (eChain f f' F G K') := (pe_chain hr hr' ha hb hc hm).weak fun σ H Q h => chain_v hv hv' h
theorem xt_chain {pos : Pos} {op op' : CmpOp} {r r' : R2} {f f' : D → D → Option Bool} (hr : OpR X (compareOp op) r) (hr' : OpR X (compareOp op') r') (hv : OpV ca X.K r fun d e => (f d e).map D.bl) (hv' : OpV ca X.K r' fun d e => (f' d e).map D.bl)
    (ha : XE X ca EX a F) (hb : XE X ca EX b G) (hc : XE X ca EX c K') (hm : lastMarks [op, op'] [b, c] = false := by with_unfolding_all rfl) : XT X ca EX (.Compare a [op, op'] [b, c] pos) (tChn f f' F G K') := (pt_chain hr hr' ha hb hc hm).weak fun σ H Q h => chain_v hv hv' (val_t h)
end

/-! ### argument lists, displays -/
section
variable {X : Cx} {ca : Str → Addr} {EX : WX} {a b c e : Expr} {es : List Expr} {F G : EF} {A : AF}
def aNil : AF := fun s => .ok [] s
def aCons (F : EF) (A : AF) : AF := fun s => (F s).bind fun d s1 => (A s1).bind fun ds s2 => .ok (d :: ds) s2
theorem xa_nil : XA X ca EX [] aNil := pa_nil.weak fun σ H Q ⟨Z, η, ω, s, g, h⟩ => h.fin g (fun _ _ z => z) .nil
theorem xa_cons (h : XE X ca EX e F) (h' : XA X ca EX es A) (hs : starEach (e :: es) X.env = (false, eval e X.env) :: starEach es X.env := by rfl) : XA X ca EX (e :: es) (aCons F A) := (pa_cons h h' hs).weak fun σ H Q ⟨Z, η, ω, s, g, h⟩ =>
  go g h fun d s1 x H1 η1 ω1 p1 g1 st1 r1 h1 => go g1 h1 fun ds s2 xs H2 η2 ω2 p2 g2 st2 r2 h2 => h2.fin g2 (fun _ _ z => z) (.cons (Rp.step st2.toStep p2 r1) r2)
def eTup (A : AF) : EF := fun s => (A s).bind fun ds s1 => if ds.length ≤ sizeLine then .ok (.tup ds) s1 else .bad
def eLst (A : AF) : EF := fun s => (A s).bind fun ds s1 => if ds.length ≤ sizeLine then .ok (.lst ds) s1 else .bad
theorem xe_tup {k : Nat} {pos : Pos} (h : XA X ca EX es A) : XE X ca EX (.Tuple es k pos) (eTup A) := (pe_tup h).weak fun σ H Q ⟨Z, η, ω, s, g, h⟩ =>
  go g h fun ds s1 xs H1 η1 ω1 p1 g1 st1 r1 h1 => by
    split at h1
    · rename_i hl
      refine ⟨by rw [Rps.length r1]; exact hl, fun p hp => h1.fin g1 (ex_new hp) (.tup (.inl upd_same) (Rps.step (Step.ex (ex_new hp)) (List.prefix_refl _) r1))⟩
    · exact h1.elim
theorem xo_lst {pos : Pos} (h : XA X ca EX es A) : XO X ca EX (.List es pos) (eLst A) := (pe_lst h).weak fun σ H Q ⟨Z, η, ω, s, g, h⟩ =>
  go g h fun ds s1 xs H1 η1 ω1 p1 g1 st1 r1 h1 => by
    split at h1
    · rename_i hl
      refine ⟨by rw [Rps.length r1]; exact hl, fun p hp => h1.finO g1 hp (ex_new hp) ⟨xs, upd_same, Rps.step (stepNew hp (ex_new hp)) (List.prefix_refl _) r1⟩⟩
    · exact h1.elim
end
end VL
set_option Elab.async false
set_option linter.all false
set_option maxRecDepth 100000
set_option maxHeartbeats 4000000
namespace VL
open PySem L2

/-! ### statements -/
section
variable (Γ : Gm) (Z : Addr → Prop) (EX : WX)
def PoS (η : List Addr) (ω : List (Option Addr)) (H : Hp) (s' : Fr) (σ' : St) (H' : Hp) : Prop :=
  ∃ η' ω', η <+: η' ∧ Good Γ Z η' ω' σ' H' s' ∧ Ste Z (Lv Z η ω) H (Lv Z η' ω') H'
/-- what a def hands back: data (false), a new thing (true) -/
def PoR (ro : Bool) (η : List Addr) (ω : List (Option Addr)) (H : Hp) (d : D) (st' : List D) (v : V) (H' : Hp) : Prop := match ro with
  | false => ∃ η', η <+: η' ∧ Good Γ Z η' [] [] H' ⟨[], st'⟩ ∧ Ste Z (Lv Z η ω) H (Lv Z η' []) H' ∧ Rp Γ η' (Lv Z η' []) H' v d
  | true => ∃ η' a, v = .ref a ∧ ¬ Z a ∧ η <+: η' ∧ Good Γ (Zp Z a) η' [] [] H' ⟨[], st'⟩ ∧ Ste Z (Lv Z η ω) H (Lv (Zp Z a) η' []) H' ∧ ObOk Γ η' (Lv (Zp Z a) η' []) H' a d
def RunS (ro : Bool) (D : Ends) (η : List Addr) (ω : List (Option Addr)) (H : Hp) (r : SR) : Prop := match r with
  | .nx s' => ∀ σ' H', PoS Γ Z η ω H s' σ' H' → D.nx σ' H'
  | .brk s' => ∀ σ' H', PoS Γ Z η ω H s' σ' H' → D.bk σ' H'
  | .ct s' => ∀ σ' H', PoS Γ Z η ω H s' σ' H' → D.ct σ' H'
  | .ret d st' => ∀ v H', PoR Γ Z ro η ω H d st' v H' → D.rt v H'
  | .exc c p s' => RE Γ Z EX η ω H c p s'
  | .bad => False
end
def liftS (Γ : Gm) (EX : WX) (ro : Bool) (F : SF) : TS := fun D σ H => ∃ Z η ω s, Good Γ Z η ω σ H s ∧ RunS Γ Z EX ro D η ω H (F s)
def XS (X : Cx) (ca : Str → Addr) (EX : WX) (ro : Bool) (st : Stmt) (F : SF) : Prop := PS X st (liftS (gm X ca) EX ro F)
def XB (X : Cx) (ca : Str → Addr) (EX : WX) (ro : Bool) (st : List Stmt) (F : SF) : Prop := PSs X st (liftS (gm X ca) EX ro F)
theorem _root_.L2.PS.weak {X : Cx} {e : Stmt} {t t' : TS} (h : PS X e t) (k : ∀ D σ H, t' D σ H → t D σ H) : PS X e t' := ⟨fun pins s σ H D I q => h.run pins s σ H D I (k _ _ _ q)⟩
theorem _root_.L2.PSs.weak {X : Cx} {e : List Stmt} {t t' : TS} (h : PSs X e t) (k : ∀ D σ H, t' D σ H → t D σ H) : PSs X e t' := ⟨fun pins s σ H D I q => h.run pins s σ H D I (k _ _ _ q)⟩
section
variable {Γ : Gm} {Z : Addr → Prop} {σ : St} {EX : WX} {η η1 : List Addr} {ω ω1 : List (Option Addr)} {H H1 H' : Hp} {s s' : Fr} {β W : Type} {ro : Bool} {En : Ends}
theorem PoS.later {s' : Fr} {σ' : St} {H' : Hp} (p0 : η <+: η1) (s0 : Ste Z (Lv Z η ω) H (Lv Z η1 ω1) H1) (h : PoS Γ Z η1 ω1 H1 s' σ' H') : PoS Γ Z η ω H s' σ' H' := let ⟨η', ω', p, g, st⟩ := h; ⟨η', ω', p0.trans p, g, s0.trans st⟩
theorem PoR.later {d st' v} {H' : Hp} (p0 : η <+: η1) (s0 : Ste Z (Lv Z η ω) H (Lv Z η1 ω1) H1) (h : PoR Γ Z ro η1 ω1 H1 d st' v H') : PoR Γ Z ro η ω H d st' v H' := by
  cases ro with
  | false => exact let ⟨η', p, g, st, r⟩ := h; ⟨η', p0.trans p, g, s0.trans st, r⟩
  | true => exact let ⟨η', a, e, n, p, g, st, r⟩ := h; ⟨η', a, e, n, p0.trans p, g, s0.trans st, r⟩
theorem RE.later {c p s'} (p0 : η <+: η1) (s0 : Ste Z (Lv Z η ω) H (Lv Z η1 ω1) H1) (h : RE Γ Z EX η ω H c p s') : RE Γ Z EX η1 ω1 H1 c p s' :=
  fun dd H' σ' η' ω' vs a b c d e f => h dd H' σ' η' ω' vs (p0.trans a) b (s0.trans c) (s0.none dd d) e f
theorem RunS.later {r : SR} (p0 : η <+: η1) (s0 : Ste Z (Lv Z η ω) H (Lv Z η1 ω1) H1) (h : RunS Γ Z EX ro En η ω H r) : RunS Γ Z EX ro En η1 ω1 H1 r := by
  cases r with
  | nx s => exact fun σ' H' q => h σ' H' (q.later p0 s0)
  | brk s => exact fun σ' H' q => h σ' H' (q.later p0 s0)
  | ct s => exact fun σ' H' q => h σ' H' (q.later p0 s0)
  | ret d st' => exact fun v H' q => h v H' (q.later p0 s0)
  | exc c p s => exact RE.later p0 s0 h
  | bad => exact h
/-- an expression within a statement -/
theorem goS {P1 : RelT β W} {F : Fr → Res β} {G : β → Fr → SR} {Q' : W → Hp → Prop} (g : Good Γ Z η ω σ H s) (h : RunS Γ Z EX ro En η ω H ((F s).sr G))
    (k : ∀ b s1 w H1 η1 ω1, η <+: η1 → Good Γ Z η1 ω1 σ H1 s1 → Ste Z (Lv Z η ω) H (Lv Z η1 ω1) H1 → P1 Γ η1 (Lv Z η1 ω1) H1 b w → RunS Γ Z EX ro En η1 ω1 H1 (G b s1) → Q' w H1) : liftG Γ EX P1 F σ H Q' := by
  refine ⟨Z, η, ω, s, g, ?_⟩
  cases e : F s with
  | ok b s1 =>
    rw [e] at h
    intro w H1 ⟨η1, ω1, p, g1, st, r⟩
    exact k b s1 w H1 η1 ω1 p g1 st r (h.later p st)
  | exc c p s1 => rw [e] at h; exact h
  | bad => rw [e] at h; exact h
theorem goSO {F : EF} {G : D → Fr → SR} {Q' : V → Hp → Prop} (g : Good Γ Z η ω σ H s) (h : RunS Γ Z EX ro En η ω H ((F s).sr G))
    (k : ∀ b s1 a H1 η1 ω1, η <+: η1 → ¬ Z a → Good Γ (Zp Z a) η1 ω1 σ H1 s1 → Ste Z (Lv Z η ω) H (Lv (Zp Z a) η1 ω1) H1 → ObOk Γ η1 (Lv (Zp Z a) η1 ω1) H1 a b → RunS Γ Z EX ro En η ω H (G b s1) → Q' (.ref a) H1) : liftO Γ EX F σ H Q' := by
  refine ⟨Z, η, ω, s, g, ?_⟩
  cases e : F s with
  | ok b s1 =>
    rw [e] at h
    rintro w H1 ⟨η1, ω1, a, rfl, nz, p, g1, st, r⟩
    exact k b s1 a H1 η1 ω1 p nz g1 st r h
  | exc c p s1 => rw [e] at h; exact h
  | bad => rw [e] at h; exact h
theorem RunS.nx (g : Good Γ Z η ω σ H s) (h : RunS Γ Z EX ro En η ω H (.nx s)) : En.nx σ H := h σ H ⟨η, ω, List.prefix_refl _, g, Ste.refl⟩

theorem get_set_or {α : Type} {l : List α} {i j : Nat} {x y : α} (h : (l.set i x)[j]? = some y) : (i = j ∧ y = x ∧ j < l.length) ∨ (i ≠ j ∧ l[j]? = some y) := by
  by_cases e : i = j
  · subst e
    by_cases hl : i < l.length
    · rw [List.getElem?_set_self hl] at h; cases h; exact .inl ⟨rfl, rfl, hl⟩
    · rw [List.getElem?_eq_none (by simpa using hl)] at h; cases h
  · rw [List.getElem?_set_ne e] at h; exact .inr ⟨e, h⟩
/-- a slot gets data -/
theorem Good.setV {i : Nat} {d : D} {v : V} (g : Good Γ Z η ω σ H s) (r : Rp Γ η (Lv Z η ω) H v d) :
    Good Γ Z η (ω.set i none) (σ.set i (some v)) H { s with env := s.env.set i (.val d) } ∧ Step (Lv Z η ω) H (Lv Z η (ω.set i none)) H := by
  have sub : ∀ b, Lv Z η (ω.set i none) b → Lv Z η ω b := fun b q => q.imp id fun q => q.imp id mem_set_none
  have st : Step (Lv Z η ω) H (Lv Z η (ω.set i none)) H := ⟨fun b o q _ => ⟨o, q, rfl⟩, fun _ _ q => q, fun b q => .inl (sub b q), fun _ q => q⟩
  have p := List.prefix_refl η
  refine ⟨⟨g.nd, g.zη, fun b q => g.zω b (mem_set_none q), fun b q => g.zH b (sub b q), by simpa using g.len, by simpa using g.lenω, g.stl, fun j k b q1 q2 => g.inj j k b (get_set_none q1).2 (get_set_none q2).2, fun j e q => ?_, fun j e q => ?_, fun n e q => ?_⟩, st⟩
  · rcases get_set_or q with ⟨rfl, e, hl⟩ | ⟨hj, q⟩
    · cases e
      exact ⟨v, List.getElem?_set_self (by rw [← g.len]; exact hl), r.step st p⟩
    · obtain ⟨v, h1, h2⟩ := g.val j e q
      exact ⟨v, by rw [List.getElem?_set_ne hj]; exact h1, h2.step st p⟩
  · rcases get_set_or q with ⟨rfl, e, hl⟩ | ⟨hj, q⟩
    · cases e
    · obtain ⟨b, h1, h2, h3⟩ := g.own j e q
      exact ⟨b, by rw [List.getElem?_set_ne hj]; exact h1, by rw [List.getElem?_set_ne hj]; exact h2, h3.step st p rfl⟩
  · obtain ⟨b, h1, h2⟩ := g.hs n e q
    exact ⟨b, h1, h2.step st p rfl⟩
/-- a slot gets a thing of its own -/
theorem Good.setO {i : Nat} {d : D} {a : Addr} (g : Good Γ (Zp Z a) η ω σ H s) (nz : ¬ Z a) (r : ObOk Γ η (Lv (Zp Z a) η ω) H a d) :
    Good Γ Z η (ω.set i (some a)) (σ.set i (some (.ref a))) H { s with env := s.env.set i (.own d) } ∧ Step (Lv (Zp Z a) η ω) H (Lv Z η (ω.set i (some a))) H := by
  have sub : ∀ b, Lv Z η (ω.set i (some a)) b → Lv (Zp Z a) η ω b := by
    rintro b (q | q | q)
    · exact .inl (.inl q)
    · exact .inr (.inl q)
    · rcases List.mem_or_eq_of_mem_set q with q | q
      · exact .inr (.inr q)
      · cases q; exact .inl (.inr rfl)
  have st : Step (Lv (Zp Z a) η ω) H (Lv Z η (ω.set i (some a))) H := ⟨fun b o q _ => ⟨o, q, rfl⟩, fun _ _ q => q, fun b q => .inl (sub b q), fun _ q => q⟩
  have p := List.prefix_refl η
  have na : a ∉ η := fun q => g.zη a q (.inr rfl)
  have nω : some a ∉ ω := fun q => (g.zω a q).1 (.inr rfl)
  refine ⟨⟨g.nd, fun b q z => g.zη b q (.inl z), fun b q => ?_, fun b q => g.zH b (sub b q), by simpa using g.len, by simpa using g.lenω, g.stl, fun j k b q1 q2 => ?_, fun j e q => ?_, fun j e q => ?_, fun n e q => ?_⟩, st⟩
  · rcases List.mem_or_eq_of_mem_set q with q | q
    · exact ⟨fun z => (g.zω b q).1 (.inl z), (g.zω b q).2⟩
    · cases q; exact ⟨nz, na⟩
  · rcases get_set_or q1 with ⟨rfl, e1, _⟩ | ⟨hj, q1⟩ <;> rcases get_set_or q2 with ⟨rfl, e2, _⟩ | ⟨hk, q2⟩
    · rfl
    · cases e1; exact (nω (mem_of_get q2)).elim
    · cases e2; exact (nω (mem_of_get q1)).elim
    · exact g.inj j k b q1 q2
  · rcases get_set_or q with ⟨rfl, e, hl⟩ | ⟨hj, q⟩
    · cases e
    · obtain ⟨v, h1, h2⟩ := g.val j e q
      exact ⟨v, by rw [List.getElem?_set_ne hj]; exact h1, h2.step st p⟩
  · rcases get_set_or q with ⟨rfl, e, hl⟩ | ⟨hj, q⟩
    · cases e
      have hl' : i < σ.length := by rw [← g.len]; exact hl
      exact ⟨a, List.getElem?_set_self hl', List.getElem?_set_self (by rw [g.lenω]; exact hl'), r.step st p rfl⟩
    · obtain ⟨b, h1, h2, h3⟩ := g.own j e q
      exact ⟨b, by rw [List.getElem?_set_ne hj]; exact h1, by rw [List.getElem?_set_ne hj]; exact h2, h3.step st p rfl⟩
  · obtain ⟨b, h1, h2⟩ := g.hs n e q
    exact ⟨b, h1, h2.step st p rfl⟩
/-- the frame is left -/
theorem Good.drop (g : Good Γ Z η ω σ H s) : Good Γ Z η [] [] H ⟨[], s.st⟩ ∧ Step (Lv Z η ω) H (Lv Z η []) H := by
  have sub : ∀ b, Lv Z η [] b → Lv Z η ω b := fun b q => q.imp id fun q => q.imp id fun z => nomatch z
  have st : Step (Lv Z η ω) H (Lv Z η []) H := ⟨fun b o q _ => ⟨o, q, rfl⟩, fun _ _ q => q, fun b q => .inl (sub b q), fun _ q => q⟩
  refine ⟨⟨g.nd, g.zη, (fun b q => nomatch q), fun b q => g.zH b (sub b q), rfl, rfl, g.stl, fun j k b q => by simp at q, fun j e q => by simp at q, fun j e q => by simp at q, fun n e q => ?_⟩, st⟩
  obtain ⟨b, h1, h2⟩ := g.hs n e q
  exact ⟨b, h1, h2.step st (List.prefix_refl _) rfl⟩
end
section
variable {X : Cx} {ca : Str → Addr} {EX : WX} {ro : Bool} {e : Expr} {st : Stmt} {sts : List Stmt} {F : EF} {G K' : SF} {T : TF} {pos : Pos}
def sNx : SF := fun s => .nx s
def sSeq (F G : SF) : SF := fun s => match F s with
  | .nx s' => G s'
  | .brk s' => .brk s'
  | .ct s' => .ct s'
  | .ret d st => .ret d st
  | .exc c p s' => .exc c p s'
  | .bad => .bad
theorem xb_nil : XB X ca EX ro [] sNx := pss_nil.weak fun D σ H ⟨Z, η, ω, s, g, h⟩ => h.nx g
theorem seq_s {D : Ends} {σ : St} {H : Hp} {Γ : Gm} {F : SF} (h : liftS Γ EX ro (sSeq F G) D σ H) : tSeq (liftS Γ EX ro F) (liftS Γ EX ro G) D σ H := by
  obtain ⟨Z, η, ω, s, g, h⟩ := h
  refine ⟨Z, η, ω, s, g, ?_⟩
  unfold sSeq at h
  cases q : F s with
  | nx s1 =>
    rw [q] at h
    intro σ1 H1 ⟨η1, ω1, p1, g1, st1⟩
    exact ⟨Z, η1, ω1, s1, g1, h.later p1 st1⟩
  | brk s1 => rw [q] at h; exact h
  | ct s1 => rw [q] at h; exact h
  | ret d st => rw [q] at h; exact h
  | exc c p s1 => rw [q] at h; exact h
  | bad => rw [q] at h; exact h
theorem xb_cons {F : SF} (h : XS X ca EX ro st F) (h' : XB X ca EX ro sts G) : XB X ca EX ro (st :: sts) (sSeq F G) := (pss_cons h h').weak fun D σ H h => seq_s h
theorem xb_one {F : SF} (h : XS X ca EX ro st F) : XB X ca EX ro [st] F := (pss_one h).weak fun D σ H h => h
/-- targets: how a name, a tuple of names is stored; ts: the slots -/
abbrev GF := D → Fr → Option Fr
def liftTg (Γ : Gm) (ts : List Nat) (f : GF) : TG := fun v σ H Q => ∃ Z η ω s d, Good Γ Z η ω σ H s ∧ Rp Γ η (Lv Z η ω) H v d ∧ match f d s with
  | some s' => ∀ σ' , (∃ ω', Good Γ Z η ω' σ' H s' ∧ Step (Lv Z η ω) H (Lv Z η ω') H) → σ'.length = σ.length → (∀ i, i ∉ ts → σ'[i]? = σ[i]?) → Q σ' H
  | none => False
def XG (X : Cx) (ca : Str → Addr) (ts : List Nat) (tg : Expr) (f : GF) : Prop := PG X tg (liftTg (gm X ca) ts f)
def gN (i : Nat) : GF := fun d s => some { s with env := s.env.set i (.val d) }
theorem xg_name {i : Nat} (h : PG X e (gName i)) : XG X ca [i] e (gN i) := ⟨fun pins s σ H v u Q I r ⟨Z, η, ω, f, d, g, rp, q⟩ => h.run pins s σ H v u Q I r (by
  obtain ⟨g2, st⟩ := g.setV (i := i) rp
  exact q _ ⟨_, g2, st⟩ (by simp) fun j hj => List.getElem?_set_ne (by simpa using fun z => hj (by simp [z])))⟩
end
end VL
set_option Elab.async false
set_option linter.all false
set_option maxRecDepth 100000
set_option maxHeartbeats 4000000
namespace VL
open PySem L2

section
variable {X : Cx} {ca : Str → Addr} {EX : WX} {ro : Bool} {e c : Expr} {st : Stmt} {sts a b : List Stmt} {F : EF} {G K' : SF} {T : TF} {pos : Pos} {Γ : Gm} {En : Ends} {σ : St} {H : Hp}
def sAsg (tg : GF) (F : EF) : SF := fun s => (F s).sr fun d s1 => match tg d s1 with
  | some s2 => .nx s2
  | none => .bad
def sAsgO (i : Nat) (F : EF) : SF := fun s => (F s).sr fun d s1 => .nx { s1 with env := s1.env.set i (.own d) }
theorem asg_n {i : Nat} (h : liftS Γ EX ro (sAsg (gN i) F) En σ H) : tAsg (liftG Γ EX relD F) (gName i) En σ H := by
  obtain ⟨Z, η, ω, s, g, h⟩ := h
  refine goS g h fun d s1 v H1 η1 ω1 p1 g1 st1 r1 h1 => ?_
  obtain ⟨g2, st2⟩ := g1.setV (i := i) r1
  exact h1 _ _ ⟨η1, _, List.prefix_refl _, g2, st2, fun _ _ => rfl⟩
theorem asg_o {i : Nat} (h : liftS Γ EX ro (sAsgO i F) En σ H) : tAsg (liftO Γ EX F) (gName i) En σ H := by
  obtain ⟨Z, η, ω, s, g, h⟩ := h
  refine goSO g h fun d s1 a H1 η1 ω1 p1 nz g1 st1 r1 h1 => ?_
  obtain ⟨g2, st2⟩ := g1.setO (i := i) nz r1
  exact h1 _ _ ⟨η1, _, p1, g2, st1.trans ⟨st2, fun _ _ => rfl⟩⟩
theorem asg_g {ts : List Nat} {tg : GF} (h : liftS Γ EX ro (sAsg tg F) En σ H) : tAsg (liftG Γ EX relD F) (liftTg Γ ts tg) En σ H := by
  obtain ⟨Z, η, ω, s, g, h⟩ := h
  refine goS g h fun d s1 v H1 η1 ω1 p1 g1 st1 r1 h1 => ⟨Z, η1, ω1, s1, d, g1, r1, ?_⟩
  cases q : tg d s1 with
  | none => rw [q] at h1; exact h1
  | some s2 =>
    rw [q] at h1
    exact fun σ' ⟨ω', g2, st2⟩ _ _ => h1 _ _ ⟨η1, ω', List.prefix_refl _, g2, st2, fun _ _ => rfl⟩
theorem xs_of {t : TS} (h : PS X st t) (k : ∀ En σ H, liftS (gm X ca) EX ro G En σ H → t En σ H) : XS X ca EX ro st G := h.weak k
def sDrop (F : EF) : SF := fun s => (F s).sr fun _ s1 => .nx s1
theorem drop_s (h : liftS Γ EX ro (sDrop F) En σ H) : tDrop (liftG Γ EX relD F) En σ H := by
  obtain ⟨Z, η, ω, s, g, h⟩ := h
  exact goS g h fun d s1 v H1 η1 ω1 p1 g1 st1 r1 h1 => h1.nx g1
theorem xs_expr (h : XE X ca EX e F) (hs : swapsWith e none pos.line X.env = pure false := by rfl) : XS X ca EX ro (.Expr e pos) (sDrop F) := (ps_expr h hs).weak fun _ _ _ h => drop_s h
def sRet (F : EF) : SF := fun s => (F s).sr fun d s1 => .ret d s1.st
theorem ret_v (h : liftS Γ EX false (sRet F) En σ H) : tRet (liftG Γ EX relD F) En σ H := by
  obtain ⟨Z, η, ω, s, g, h⟩ := h
  refine goS g h fun d s1 v H1 η1 ω1 p1 g1 st1 r1 h1 => ?_
  obtain ⟨g2, st2⟩ := g1.drop
  exact h1 _ _ ⟨η1, List.prefix_refl _, g2, ⟨st2, fun _ _ => rfl⟩, Rp.step st2 (List.prefix_refl _) r1⟩
theorem ret_o (h : liftS Γ EX true (sRet F) En σ H) : tRet (liftO Γ EX F) En σ H := by
  obtain ⟨Z, η, ω, s, g, h⟩ := h
  refine goSO g h fun d s1 a H1 η1 ω1 p1 nz g1 st1 r1 h1 => ?_
  obtain ⟨g2, st2⟩ := g1.drop
  exact h1 _ _ ⟨η1, a, rfl, nz, p1, g2, st1.trans ⟨st2, fun _ _ => rfl⟩, r1.step st2 (List.prefix_refl _) rfl⟩
theorem xs_ret (h : XE X ca EX e F) : XS X ca EX false (.Return (some e) pos) (sRet F) := (ps_ret h).weak fun _ _ _ h => ret_v h
theorem xs_retO (h : XO X ca EX e F) : XS X ca EX true (.Return (some e) pos) (sRet F) := (ps_ret h).weak fun _ _ _ h => ret_o h
def sIf (T : TF) (F G : SF) : SF := fun s => (T s).sr fun b s1 => if b then F s1 else G s1
theorem xs_if {F : SF} (ht : XT X ca EX c T) (h1 : XB X ca EX ro a F) (h2 : XB X ca EX ro b G) : XS X ca EX ro (.If c a b pos) (sIf T F G) := (ps_if ht h1 h2).weak fun D σ H ⟨Z, η, ω, s, g, h⟩ =>
  goS g h fun d s1 x H1 η1 ω1 p1 g1 st1 r1 h1 => by
    cases r1
    cases d with
    | true => exact ⟨Z, η1, ω1, s1, g1, h1⟩
    | false => exact ⟨Z, η1, ω1, s1, g1, h1⟩
def sAug (i : Nat) (f : Int → Int → Int) (F : EF) : SF := fun s => match s.env[i]? with
  | some (.val (.int a)) => (F s).sr fun d s1 => match d with
    | .int b => .nx { s1 with env := s1.env.set i (.val (.int (f a b))) }
    | _ => .bad
  | _ => .bad
theorem aug_s {i : Nat} {f : Int → Int → Int} (h : liftS Γ EX ro (sAug i f F) En σ H) : tAug i (liftG Γ EX relD F) (ipI f) En σ H := by
  obtain ⟨Z, η, ω, s, g, h⟩ := h
  unfold sAug at h
  split at h
  · rename_i k e
    obtain ⟨v, h1, h2⟩ := g.val i _ e
    cases h2
    refine ⟨_, h1, goS g h fun d s1 v H1 η1 ω1 p1 g1 st1 r1 h1 => ?_⟩
    cases r1 <;> try exact h1.elim
    rename_i m
    refine ⟨k, m, rfl, rfl, ?_⟩
    obtain ⟨g2, st2⟩ := g1.setV (i := i) (v := .int (f k m)) (.int (f k m))
    exact h1 _ _ ⟨η1, _, List.prefix_refl _, g2, st2, fun _ _ => rfl⟩
  · exact h.elim
def sBrk : SF := fun s => .brk s
def sCt : SF := fun s => .ct s
theorem xs_brk : XS X ca EX ro (.Break pos) sBrk := ps_break.weak fun D σ H ⟨Z, η, ω, s, g, h⟩ => h σ H ⟨η, ω, List.prefix_refl _, g, Ste.refl⟩
theorem xs_ct : XS X ca EX ro (.Continue pos) sCt := ps_continue.weak fun D σ H ⟨Z, η, ω, s, g, h⟩ => h σ H ⟨η, ω, List.prefix_refl _, g, Ste.refl⟩
theorem xs_pass : XS X ca EX ro (.Pass pos) sNx := ps_pass.weak fun D σ H ⟨Z, η, ω, s, g, h⟩ => h.nx g
def sRetN : SF := fun s => .ret .non s.st
theorem xs_retN : XS X ca EX false (.Return none pos) sRetN := ps_retN.weak fun D σ H ⟨Z, η, ω, s, g, h⟩ => by
  obtain ⟨g2, st2⟩ := g.drop
  exact h _ _ ⟨η, List.prefix_refl _, g2, ⟨st2, fun _ _ => rfl⟩, .non⟩
/-! ### while -/
def whN (T : TF) (F : SF) : Nat → SF
  | 0, _ => .bad
  | n + 1, s => match T s with
    | .ok true s1 => match F s1 with
      | .nx s2 => whN T F n s2
      | .ct s2 => whN T F n s2
      | .brk s2 => .nx s2
      | .ret d st => .ret d st
      | .exc c p s => .exc c p s
      | .bad => .bad
    | .ok false s1 => .nx s1
    | .exc c p s => .exc c p s
    | .bad => .bad
open Classical in
noncomputable def sWh (T : TF) (F : SF) : SF := fun s => if h : ∃ n, whN T F n s ≠ .bad then whN T F (choose h) s else .bad
theorem whN_mono {F : SF} : ∀ {n m : Nat} {s : Fr}, whN T F n s ≠ .bad → n ≤ m → whN T F m s = whN T F n s
  | 0, _, _, h, _ => absurd rfl h
  | n + 1, 0, _, _, h => absurd h (by omega)
  | n + 1, m + 1, s, h, l => by
    unfold whN at h ⊢
    cases q : T s with
    | ok b s1 =>
      rw [q] at h
      cases b with
      | true =>
        simp only at h ⊢
        cases q2 : F s1 <;> rw [q2] at h <;> simp only at h ⊢
        · exact whN_mono h (by omega)
        · exact whN_mono h (by omega)
      | false => rfl
    | exc c p s1 => rfl
    | bad => rfl
theorem sWh_eq {F : SF} {n : Nat} {s : Fr} {r : SR} (h : whN T F n s = r) (nb : r ≠ .bad) : sWh T F s = r := by
  have hx : ∃ n, whN T F n s ≠ .bad := ⟨n, by rw [h]; exact nb⟩
  unfold sWh
  rw [dif_pos hx]
  have h1 := Classical.choose_spec hx
  rcases Nat.le_total n (Classical.choose hx) with l | l
  · rw [whN_mono (by rw [h]; exact nb) l, h]
  · rw [← h]; exact (whN_mono h1 l).symm
theorem wh_s {F : SF} (h : liftS Γ EX ro (sWh T F) En σ H) : tWhile (liftG Γ EX relB T) (liftS Γ EX ro F) En σ H := by
  obtain ⟨Z, η0, ω0, s0, g0, h⟩ := h
  have hx : ∃ n, whN T F n s0 ≠ .bad := by
    refine Classical.byContradiction fun z => ?_
    unfold sWh at h
    rw [dif_neg z] at h
    exact h
  unfold sWh at h
  rw [dif_pos hx] at h
  refine ⟨fun m σ1 H1 => ∃ η ω s, η0 <+: η ∧ Good Γ Z η ω σ1 H1 s ∧ RunS Γ Z EX ro En η ω H1 (whN T F m s), ⟨_, η0, ω0, s0, List.prefix_refl _, g0, h⟩, ?_⟩
  rintro m σ1 H1 ⟨η, ω, s, p, g, h⟩
  cases m with
  | zero => exact h.elim
  | succ m =>
    refine ⟨Z, η, ω, s, g, ?_⟩
    unfold whN at h
    cases q : T s with
    | ok b s1 =>
      rw [q] at h
      rintro w H2 ⟨η2, ω2, p2, g2, st2, rfl⟩
      cases b with
      | false => exact (h.later p2 st2).nx g2
      | true =>
        simp only at h
        refine ⟨fun σ' H' => ∃ m', m' < m + 1 ∧ ∃ η ω s, η0 <+: η ∧ Good Γ Z η ω σ' H' s ∧ RunS Γ Z EX ro En η ω H' (whN T F m' s), fun _ _ z => z, Z, η2, ω2, s1, g2, ?_⟩
        replace h := h.later p2 st2
        cases q2 : F s1 <;> rw [q2] at h
        · rintro σ3 H3 ⟨η3, ω3, p3, g3, st3⟩
          exact ⟨m, by omega, η3, ω3, _, (p.trans p2).trans p3, g3, h.later p3 st3⟩
        · exact h
        · exact h
        · rintro σ3 H3 ⟨η3, ω3, p3, g3, st3⟩
          exact ⟨m, by omega, η3, ω3, _, (p.trans p2).trans p3, g3, h.later p3 st3⟩
        · exact h
        · exact h
    | exc c p s1 => rw [q] at h; exact h
    | bad => rw [q] at h; exact h
theorem xs_while {F : SF} (hp : PassesOwn (model X.prog X.w) X.A X.env X.xe) (ht : XT X ca EX c T) (h : XB X ca EX ro a F) : XS X ca EX ro (.While c a [] pos) (sWh T F) := (ps_while hp ht h).weak fun _ _ _ h => wh_s h
/-! ### for -/
def ItOk (Γ : Gm) (J : It) (ds : List D) (η : List Addr) (L : Addr → Prop) (H : Hp) : Prop := ∀ η2 L2 H2, η <+: η2 → Step L H L2 H2 →
  (∀ (i : Nat) d, ds[i]? = some d → J.go i H2 ∧ ∀ x H3, J.yld i H2 x H3 → Ex H2 H3 ∧ Rp Γ η2 L2 H3 x d) ∧ ∀ i : Nat, ds.length ≤ i → J.stop i H2
def relIt : RelT (List D) It := fun Γ η L H ds J => ItOk Γ J ds η L H
def XI (X : Cx) (ca : Str → Addr) (EX : WX) (tg iter : Expr) (F : AF) : Prop := PI X tg iter (liftG (gm X ca) EX relIt F)
def forGo (tg : GF) (F : SF) : List D → SF
  | [], s => .nx s
  | d :: ds, s => match tg d s with
    | none => .bad
    | some s1 => match F s1 with
      | .nx s2 => forGo tg F ds s2
      | .ct s2 => forGo tg F ds s2
      | .brk s2 => .nx s2
      | .ret d st => .ret d st
      | .exc c p s => .exc c p s
      | .bad => .bad
def sFor (A : AF) (tg : GF) (F : SF) : SF := fun s => (A s).sr fun ds s1 => forGo tg F ds s1
theorem for_s {A : AF} {tg : GF} {ts : List Nat} {F : SF} (h : liftS Γ EX ro (sFor A tg F) En σ H) : tFor (liftG Γ EX relIt A) (liftTg Γ ts tg) (liftS Γ EX ro F) En σ H := by
  obtain ⟨Z, η0, ω0, s0, g0, h⟩ := h
  refine goS g0 h fun ds s1 J H1 η1 ω1 p1 g1 st1 r1 h1 => ?_
  refine ⟨fun i m σ' H' => m = ds.length - i ∧ ∃ η ω s, η1 <+: η ∧ Good Γ Z η ω σ' H' s ∧ Ste Z (Lv Z η1 ω1) H1 (Lv Z η ω) H' ∧ RunS Γ Z EX ro En η ω H' (forGo tg F (ds.drop i) s), ⟨_, rfl, η1, ω1, s1, List.prefix_refl _, g1, Ste.refl, h1⟩, ?_⟩
  rintro i m σ2 H2 ⟨rfl, η, ω, s, p, g, st, h⟩
  obtain ⟨ij, ik⟩ := r1 η _ H2 p st.toStep
  cases q : ds[i]? with
  | none =>
    have hl := List.getElem?_eq_none_iff.mp q
    rw [List.drop_of_length_le hl] at h
    exact .inl ⟨ik i hl, h.nx g⟩
  | some d =>
    obtain ⟨hl, e⟩ := List.getElem?_eq_some_iff.mp q
    have ed : ds.drop i = d :: ds.drop (i + 1) := by rw [List.drop_eq_getElem_cons hl, e]
    rw [ed] at h
    unfold forGo at h
    obtain ⟨j1, j2⟩ := ij i d q
    refine .inr ⟨j1, fun σ' H' => ∃ m', m' < ds.length - i ∧ m' = ds.length - (i + 1) ∧ ∃ η ω s, η1 <+: η ∧ Good Γ Z η ω σ' H' s ∧ Ste Z (Lv Z η1 ω1) H1 (Lv Z η ω) H' ∧ RunS Γ Z EX ro En η ω H' (forGo tg F (ds.drop (i + 1)) s), fun _ _ z => z, fun x H3 hx => ?_⟩
    obtain ⟨ex, rx⟩ := j2 x H3 hx
    have g3 := g.ex ex
    have st3 : Ste Z (Lv Z η ω) H2 (Lv Z η ω) H3 := Ste.ex ex fun a z => g.zH a (.inl z)
    refine ⟨Z, η, ω, s, d, g3, rx, ?_⟩
    cases q1 : tg d s with
    | none => rw [q1] at h; exact h.elim
    | some s4 =>
      rw [q1] at h
      simp only at h
      intro σ4 ⟨ω4, g4, st4⟩ _ _
      have st4' : Ste Z (Lv Z η ω) H2 (Lv Z η ω4) H3 := st3.trans ⟨st4, fun _ _ => rfl⟩
      replace h := h.later (List.prefix_refl _) st4'
      refine ⟨Z, η, ω4, s4, g4, ?_⟩
      cases q2 : F s4 <;> rw [q2] at h
      · rintro σ5 H5 ⟨η5, ω5, p5, g5, st5⟩
        exact ⟨_, by omega, rfl, η5, ω5, _, p.trans p5, g5, (st.trans st4').trans st5, h.later p5 st5⟩
      · exact h
      · exact h
      · rintro σ5 H5 ⟨η5, ω5, p5, g5, st5⟩
        exact ⟨_, by omega, rfl, η5, ω5, _, p.trans p5, g5, (st.trans st4').trans st5, h.later p5 st5⟩
      · exact h
      · exact h
theorem xs_for {tg iter : Expr} {A : AF} {gf : GF} {ts : List Nat} {F : SF} (hp : PassesOwn (model X.prog X.w) X.A X.env X.xe) (hc : X.calm = true) (hi : XI X ca EX tg iter A) (hg : XG X ca ts tg gf) (h : XB X ca EX ro a F)
    (hs : ∀ x, foldedSetIterable iter X.env x = pure x := by intro _; rfl) : XS X ca EX ro (.For tg iter a [] pos) (sFor A gf F) := (ps_for hp hc hi hg h hs).weak fun _ _ _ h => for_s h
end
/-! ### what is walked -/
section
variable {X : Cx} {ca : Str → Addr} {EX : WX} {tg e : Expr} {F : EF} {A : AF}
theorem _root_.L2.PI.or {X : Cx} {tg e : Expr} {t t' : TI} (h : PI X tg e t) (h' : PI X tg e t') : PI X tg e (fun σ H R => t σ H R ∨ t' σ H R) := ⟨fun pins s σ H R I q => q.elim (h.run pins s σ H R I) (h'.run pins s σ H R I)⟩
theorem _root_.L2.PI.weak {X : Cx} {tg e : Expr} {t t' : TI} (h : PI X tg e t) (k : ∀ σ H Q, t' σ H Q → t σ H Q) : PI X tg e t' := ⟨fun pins s σ H R I q => h.run pins s σ H R I (k _ _ _ q)⟩
def seqOf : D → Option (List D)
  | .lst l => some l
  | .tup l => some l
  | .scr l => some l
  | .str x => some (x.cps.toList.map fun c => .str ⟨#[c]⟩)
  | _ => none
def iSeq (F : EF) : AF := fun s => (F s).bind fun d s1 => .of (seqOf d) s1
theorem sql0 {K : PySem.W.Frag} {H : Hp} {a : Addr} {xs : List V} (h : SqL K Hp0 a xs) : SqL K H a xs := by
  rcases h with (h | ⟨o, h⟩) | h
  · cases h
  · cases h
  · exact .inr h
theorem sqt0 {K : PySem.W.Frag} {H : Hp} {a : Addr} {xs : List V} (h : SqT K Hp0 a xs) : SqT K H a xs := by
  rcases h with (h | ⟨o, h⟩) | h
  · cases h
  · cases h
  · exact .inr h
section
variable {Γ : Gm} {η : List Addr} {L : Addr → Prop} {H : Hp} {v : V} {ds : List D}
theorem Rp.seqT (r : Rp Γ η L H v (.tup ds)) : ∃ a xs, v = .ref a ∧ SqT Γ.K H a xs ∧ Rps Γ η L H xs ds := by
  cases r with
  | tup h r => exact ⟨_, _, rfl, h.elim SqT.of sqt0, r⟩
theorem Rp.seqL (r : Rp Γ η L H v (.lst ds)) : ∃ a xs, v = .ref a ∧ H a = some (.lst xs) ∧ ¬ L a ∧ Rps Γ η L H xs ds := by
  cases r with
  | lst h n r => exact ⟨_, _, rfl, h, n, r⟩
theorem Rp.seqF (r : Rp Γ η L H v (.scr ds)) : ∃ a xs, v = .ref a ∧ SqL Γ.K H a xs ∧ Rps Γ η L H xs ds := by
  cases r with
  | scr h r => exact ⟨_, _, rfl, h.elim (fun ⟨o, h, _⟩ => .inl (.inr ⟨o, h⟩)) sql0, r⟩
end
theorem itL {Γ : Gm} {a : Addr} {ds : List D} {η : List Addr} {L : Addr → Prop} {H : Hp} {P : D} (hp : (P = .lst ds ∨ P = .scr ds)) (r : Rp Γ η L H (.ref a) P) : ItOk Γ (Itl Γ.K a) ds η L H := by
  intro η2 L2 H2 p st
  have q : ∃ xs, SqL Γ.K H2 a xs ∧ Rps Γ η2 L2 H2 xs ds := by
    rcases hp with rfl | rfl
    · obtain ⟨b, xs, e, h, n, r⟩ := (r.step st p).seqL; cases e; exact ⟨xs, SqL.of h, r⟩
    · obtain ⟨b, xs, e, h, r⟩ := (r.step st p).seqF; cases e; exact ⟨xs, h, r⟩
  obtain ⟨xs, h, r⟩ := q
  refine ⟨fun i d hd => ?_, fun i hi => ⟨xs, h, by rw [r.length]; exact hi⟩⟩
  obtain ⟨v, h1, h2⟩ := r.get hd
  refine ⟨⟨xs, v, h, h1⟩, ?_⟩
  rintro x H3 ⟨rfl, hx⟩
  have := hx xs h
  rw [h1] at this
  cases this
  exact ⟨fun _ _ z => z, h2⟩
theorem itT {Γ : Gm} {a : Addr} {ds : List D} {η : List Addr} {L : Addr → Prop} {H : Hp} (r : Rp Γ η L H (.ref a) (.tup ds)) : ItOk Γ (Itt Γ.K a) ds η L H := by
  intro η2 L2 H2 p st
  obtain ⟨b, xs, e, h, r⟩ := (r.step st p).seqT
  cases e
  refine ⟨fun i d hd => ?_, fun i hi => ⟨xs, h, by rw [r.length]; exact hi⟩⟩
  obtain ⟨v, h1, h2⟩ := r.get hd
  refine ⟨⟨xs, v, h, h1⟩, ?_⟩
  rintro x H3 ⟨rfl, hx⟩
  have := hx xs h
  rw [h1] at this
  cases this
  exact ⟨fun _ _ z => z, h2⟩
theorem go' {Γ : Gm} {Z : Addr → Prop} {σ : St} {η : List Addr} {ω : List (Option Addr)} {H : Hp} {s : Fr} {β γ W W' : Type} {P1 : RelT β W} {Po : PostT γ W'} [l : Later Z Po] {F : Fr → Res β} {G : β → Fr → Res γ} {Q : W' → Hp → Prop} {Q' : W → Hp → Prop} (g : Good Γ Z η ω σ H s) (h : Run Γ Z EX Po η ω H ((F s).bind G) Q)
    (k : ∀ b s1 w H1 η1 ω1, F s = .ok b s1 → η <+: η1 → Good Γ Z η1 ω1 σ H1 s1 → Ste Z (Lv Z η ω) H (Lv Z η1 ω1) H1 → P1 Γ η1 (Lv Z η1 ω1) H1 b w → Run Γ Z EX Po η1 ω1 H1 (G b s1) Q → Q' w H1) : liftG Γ EX P1 F σ H Q' := by
  refine ⟨Z, η, ω, s, g, ?_⟩
  cases e : F s with
  | ok b s1 =>
    rw [e] at h
    intro w H1 ⟨η1, ω1, p, g1, st, r⟩
    exact k b s1 w H1 η1 ω1 e p g1 st r (h.later p st)
  | exc c p s1 => rw [e] at h; exact h
  | bad => rw [e] at h; exact h
theorem xi_seq (h : XE X ca EX e F) : XI X ca EX tg e (iSeq F) := ((pi_list h).or ((pi_tup h).or (pi_str h))).weak fun σ H R ⟨Z, η, ω, s, g, h⟩ => by
  cases q : F s with
  | bad => unfold iSeq at h; rw [q] at h; exact h.elim
  | exc c p s1 =>
    refine .inl (go' g h fun d s1 v H1 η1 ω1 e => ?_)
    rw [q] at e
    cases e
  | ok d s1 =>
    cases d with
    | str y =>
      refine .inr (.inr (go' g h fun d s1 v H1 η1 ω1 e p1 g1 st1 r1 h1 => ?_))
      rw [q] at e
      cases e
      cases r1
      refine ⟨y, rfl, h1.fin g1 (fun _ _ z => z) fun η2 L2 H2 p st => ⟨fun i d hd => ?_, fun i hi => (by simpa using hi : y.cps.size ≤ i)⟩⟩
      rw [List.getElem?_map] at hd
      cases qc : y.cps.toList[i]? with
      | none => rw [qc] at hd; cases hd
      | some c =>
        rw [qc] at hd
        cases hd
        have qa : y.cps[i]? = some c := by rw [← Array.getElem?_toList]; exact qc
        refine ⟨(Array.getElem?_eq_some_iff.mp qa).1, ?_⟩
        rintro x H3 ⟨rfl, c', hc', rfl⟩
        rw [qa] at hc'
        cases hc'
        exact ⟨fun _ _ z => z, .str _⟩
    | lst l =>
      refine .inl (go' g h fun d s1 v H1 η1 ω1 e p1 g1 st1 r1 h1 => ?_)
      rw [q] at e
      cases e
      obtain ⟨a, xs, rfl, ha, _, _⟩ := Rp.seqL r1
      exact ⟨a, rfl, ⟨xs, SqL.of ha⟩, h1.fin g1 (fun _ _ z => z) (itL (.inl rfl) r1)⟩
    | scr l =>
      refine .inl (go' g h fun d s1 v H1 η1 ω1 e p1 g1 st1 r1 h1 => ?_)
      rw [q] at e
      cases e
      obtain ⟨a, xs, rfl, ha, _⟩ := Rp.seqF r1
      exact ⟨a, rfl, ⟨xs, ha⟩, h1.fin g1 (fun _ _ z => z) (itL (.inr rfl) r1)⟩
    | tup l =>
      refine .inr (.inl (go' g h fun d s1 v H1 η1 ω1 e p1 g1 st1 r1 h1 => ?_))
      rw [q] at e
      cases e
      obtain ⟨a, xs, rfl, ha, _⟩ := Rp.seqT r1
      exact ⟨a, rfl, ⟨xs, ha⟩, h1.fin g1 (fun _ _ z => z) (itT r1)⟩
    | _ => unfold iSeq at h; rw [q] at h; exact h.elim
/-- range(n), range(m, n) -/
@[irreducible] def rng (lo : Int) (n : Nat) : List D := (List.range n).map fun (i : Nat) => .int (lo + i)
def iRange (A : AF) : AF := fun s => (A s).bind fun ds s1 => match ds with
  | [.int n] => if -(2 ^ 62) ≤ n ∧ n < 2 ^ 62 then .ok (rng 0 n.toNat) s1 else .bad
  | [.int m, .int n] => if -(2 ^ 62) ≤ m ∧ m < 2 ^ 62 ∧ -(2 ^ 62) ≤ n ∧ n < 2 ^ 62 then .ok (rng m (n - m).toNat) s1 else .bad
  | _ => .bad
theorem itR {Γ : Gm} {lo : Int} {n : Nat} {η : List Addr} {L : Addr → Prop} {H : Hp} : ItOk Γ (Itr lo n) (rng lo n) η L H := by
  intro η2 L2 H2 p st
  refine ⟨fun i d hd => ?_, fun i hi => (by simpa [rng] using hi : n ≤ i)⟩
  unfold rng at hd
  rw [List.getElem?_map] at hd
  cases q : (List.range n)[i]? with
  | none => rw [q] at hd; cases hd
  | some c =>
    rw [q] at hd
    cases hd
    obtain ⟨h1, h2⟩ := List.getElem?_eq_some_iff.mp q
    simp at h1 h2
    subst h2
    refine ⟨h1, ?_⟩
    rintro x H3 ⟨rfl, rfl⟩
    exact ⟨fun _ _ z => z, .int _⟩
theorem Rps.one {Γ : Gm} {η : List Addr} {L : Addr → Prop} {H : Hp} {xs : List V} {d : D} (r : Rps Γ η L H xs [d]) : ∃ v, xs = [v] ∧ Rp Γ η L H v d := by
  cases r with
  | cons a b => cases b; exact ⟨_, rfl, a⟩
theorem Rps.two {Γ : Gm} {η : List Addr} {L : Addr → Prop} {H : Hp} {xs : List V} {d e : D} (r : Rps Γ η L H xs [d, e]) : ∃ v w, xs = [v, w] ∧ Rp Γ η L H v d ∧ Rp Γ η L H w e := by
  cases r with
  | cons a b => obtain ⟨w, rfl, r⟩ := b.one; exact ⟨_, _, rfl, a, r⟩
theorem Rps.three {Γ : Gm} {η : List Addr} {L : Addr → Prop} {H : Hp} {xs : List V} {d e f : D} (r : Rps Γ η L H xs [d, e, f]) : ∃ v w u, xs = [v, w, u] ∧ Rp Γ η L H v d ∧ Rp Γ η L H w e ∧ Rp Γ η L H u f := by
  cases r with
  | cons a b => obtain ⟨w, u, rfl, r⟩ := b.two; exact ⟨_, _, _, rfl, a, r⟩
theorem aCons_len {F : EF} {A : AF} {s : Fr} {ds : List D} {s' : Fr} (h : aCons F A s = .ok ds s') : ∃ d es s1, ds = d :: es ∧ A s1 = .ok es s' := by
  unfold aCons at h
  cases q : F s with
  | bad => rw [q] at h; cases h
  | exc c p s1 => rw [q] at h; cases h
  | ok d s1 =>
    rw [q] at h
    have h : (A s1).bind (fun es s2 => Res.ok (d :: es) s2) = .ok ds s' := h
    cases q2 : A s1 with
    | bad => rw [q2] at h; cases h
    | exc c p s1 => rw [q2] at h; cases h
    | ok es s2 => rw [q2] at h; cases h; exact ⟨d, es, s1, rfl, q2⟩
theorem xi_range1 {p pos : Pos} {a : Expr} {F : EF} (hg : Gl X "range") (hm : X.mg "range" = none) (h : XE X ca EX a F) (hs : starEach [a] X.env = [(false, eval a X.env)] := by rfl) : XI X ca EX tg (.Call (.Name "range" p) [a] [] pos) (iRange (aCons F aNil)) := (pi_range1 hg hm (xa_cons h xa_nil hs) hs).weak fun σ H R ⟨Z, η, ω, s, g, h⟩ => by
  refine go' g h fun ds s1 xs H1 η1 ω1 e p1 g1 st1 r1 h1 => ?_
  obtain ⟨d, es, s2, rfl, e2⟩ := aCons_len e
  cases e2
  obtain ⟨v, rfl, r⟩ := Rps.one r1
  cases r <;> simp only at h1 <;> try exact h1.elim
  rename_i n
  split at h1
  · rename_i hn
    exact ⟨n, rfl, hn.1, hn.2, h1.fin g1 (fun _ _ z => z) itR⟩
  · exact h1.elim
theorem xi_range2 {p pos : Pos} {a b : Expr} {F G : EF} (hg : Gl X "range") (hm : X.mg "range" = none) (h : XE X ca EX a F) (h' : XE X ca EX b G) (hs : starEach [a, b] X.env = [(false, eval a X.env), (false, eval b X.env)] := by rfl) (hs2 : starEach [b] X.env = [(false, eval b X.env)] := by rfl) :
    XI X ca EX tg (.Call (.Name "range" p) [a, b] [] pos) (iRange (aCons F (aCons G aNil))) := (pi_range2 hg hm (xa_cons h (xa_cons h' xa_nil hs2) (by rw [hs, hs2])) hs hs2).weak fun σ H R ⟨Z, η, ω, s, g, h⟩ => by
  refine go' g h fun ds s1 xs H1 η1 ω1 e p1 g1 st1 r1 h1 => ?_
  obtain ⟨d, es, s2, rfl, e2⟩ := aCons_len e
  obtain ⟨d2, es2, s3, rfl, e3⟩ := aCons_len e2
  cases e3
  obtain ⟨v, w, rfl, r, r'⟩ := Rps.two r1
  cases r <;> cases r' <;> (try simp only at h1) <;> (try exact h1.elim)
  split at h1
  · rename_i hn
    exact ⟨_, _, rfl, hn, h1.fin g1 (fun _ _ z => z) itR⟩
  · exact h1.elim
end
end VL
set_option Elab.async false
set_option linter.all false
set_option maxRecDepth 100000
set_option maxHeartbeats 4000000
namespace VL
open PySem L2
/-! ### room, and no repr under way -/
structure RoomG (k : Nat) (A : Around) : Prop where
  rm : Room k A
  gd : A.guards = some []
namespace RoomG
variable {j k : Nat} {A : Around}
theorem mono (r : RoomG k A) (h : j ≤ k) : RoomG j A := ⟨r.rm.mono h, r.gd⟩
theorem deeper (r : RoomG (k + 1) A) (e : Env) : RoomG k (A.deeper e) := ⟨r.rm.deeper e, r.gd⟩
theorem units (r : RoomG k A) : A.units + 64 < cLine := r.rm.units
theorem un65 (r : RoomG k A) : A.units + 65 < cLine := by have := r.rm.un; omega
end RoomG
theorem huG {k : Nat} {A : Around} (r : RoomG k A) : A.units + 1 < cLine := hu_of r.rm
/-- a def's promise where no repr is under way -/
structure FnG (P : Program) (w : World) (K : PySem.W.Frag) (mg : Str → Option Value) (base : Heap) (CX : CXT) (k : Nat) (f : Addr) (fd : FuncData) (ps : List Str) (sp : Sp) : Prop where
  len : ∀ {vs H Q E}, sp vs H Q E → vs.length = ps.length
  run : ∀ {A outer s H args us vs Q E}, RoomG k A → Env0 P w K mg base A outer s H → BindsTo s fd args (ps.zip us) → Vals vs us → sp vs H Q E →
    codeAny (model P w) A (.call (.ref f) args) (CR CX outer P w H s Q E) s
section
variable {P : Program} {w : World} {K : PySem.W.Frag} {mg : Str → Option Value} {base : Heap} {CX : CXT} {j k : Nat} {f : Addr} {fd : FuncData} {ps N : List Str} {sp : Sp} {x qual : Str} {st : Stmt}
theorem FnG.of (F : FnOk P w K mg base CX k f fd ps sp) : FnG P w K mg base CX k f fd ps sp :=
  ⟨fun h => F.len _ _ _ _ h, fun r e b v h => F.run _ _ _ _ _ _ _ _ _ r.rm e b v h⟩
theorem FnG.mono (F : FnG P w K mg base CX j f fd ps sp) (h : j ≤ k) : FnG P w K mg base CX k f fd ps sp :=
  ⟨F.len, fun r e b v h' => F.run (r.mono h) e b v h'⟩
/-- a def by its body -/
theorem fnG (F : Fun K x qual st f fd) (S : FnScope N ps (defScope st)) (ln : ∀ {vs H Q E}, sp vs H Q E → vs.length = ps.length)
    (bd : ∀ (cd : Value) (A : Around) (outer : List Env) (s : Shared) (H : Hp) (vs : List V) (Q : VK) (E : XK), RoomG k (A.deeper (PyProof.Rows.envOfC qual (defScope st) s.heap.objs.size f cd)) → sp vs H Q E →
      ∃ t, PSs (cxOf CX P w K mg base N qual (defScope st) f cd A outer s H E) (defBody st) t ∧ t ⟨fun _ G => Q .non G, Q, fun _ _ => False, fun _ _ => False⟩ (start N vs) H) :
    FnG P w K mg base CX (k + 1) f fd ps sp := by
  obtain ⟨oc, od, kV, doc, pm, an, cd, ct, osl, e0, lk, cdi⟩ := F.ex
  subst e0
  refine ⟨ln, fun {A outer s H args us vs Q E} r e b v h => ?_⟩
  have len := ln h
  have inK : K.In s.heap := e.mod.kin.keeps fun c o z => (e.bs c o z).1
  have nolim := e.mod.nolimit.keeps fun c o z => (e.bs c o z).1
  have kinds : ∀ y ∈ ps.zip us, (defScope st).names.lookup y.1 = some .local ∨ ((defScope st).names.lookup y.1 = some .cell ∧ ((cellsFrom (s.heap.objs.size + 1) (defScope st).names []).lookup y.1).isSome = true) := by
    rintro ⟨y, u⟩ hy
    exact (S.par y (List.of_mem_zip hy).1).imp id fun q => ⟨q, PySem.W.cellsFrom_some _ _ _ (.inl q)⟩
  refine codeAny_call_function r.rm.depth (inK _ _ lk) rfl S.co S.gen rfl (PySem.W.codeRec_of inK cdi) (b _ _ _ _ ?_)
  refine wpAny_newFunctionEnv_cells S.kind kinds fun env he s1 ic => ?_
  subst he
  refine ⟨nolim.keeps ic.toInCall.keep, codeAny_func ?_⟩
  obtain ⟨t, ht, tq⟩ := bd cd A outer s H vs Q E (r.deeper _) h
  have J := inv_start (E := E) (CX := CX) S r.rm.hd e len v ic
  refine wpAny_mono (ht.run [] s1 (start N vs) H _ J tq) (fun fl s2 z => ?_) fun _ _ z => z
  cases fl with
  | brk | cont => obtain ⟨_, _, _, q⟩ := z; exact q.elim
  | next => obtain ⟨σ2, H2, J2, q⟩ := z; exact ⟨.non, H2, J2.os, J2.bare, J2.base, J2.hok, rfl, q⟩
  | ret u => obtain ⟨y, σ2, H2, J2, rv, q⟩ := z; exact ⟨y, H2, J2.os, J2.bare, J2.base, J2.hok, rv, q⟩
end
section
variable {X : Cx} {CX : CXT} {k : Nat} {f : Addr} {fd : FuncData} {ps : List Str} {sp : Sp} {E : St → XK} {x : Str} {p pos : Pos} {e : Expr} {es : List Expr} {t : TA}
theorem run_fnG {pins : List (Addr × Obj)} {σ : St} {H : Hp} {s : Shared} {Q : VK} {us : List Value} {vs : List V} (F : FnG X.prog X.w X.K X.mg X.base CX k f fd ps sp) (hr : RoomG k X.A) (hb : Binds X.K fd ps []) (hx : PassesAt CX X σ (E σ)) (I : Inv X pins σ H s) (rv : Vals vs us)
    (h : sp vs H Q (E σ)) : wpAny (model X.prog X.w) X.A (call (.ref f) us) (EP X pins σ Q) X.xe s := by
  have b : BindsTo s fd ⟨us, []⟩ (ps.zip us) := by
    have := hb s us I.kIn (by rw [List.append_nil, ← rv.length]; exact F.len h)
    rwa [List.append_nil] at this
  refine wpAny_call (codeAny_mono (F.run hr I.env0 b rv h) ?_)
  rintro (err | fl) s2 z
  · exact hx pins H s err s2 I z
  · cases fl with
    | ret u => exact I.after z
    | next | brk | cont => exact z.elim
theorem pe_callG (F : FnG X.prog X.w X.K X.mg X.base CX k f fd ps sp) (hr : RoomG k X.A) (hg : Gl X x) (hm : X.mg x = some (.ref f)) (hk : PySem.W.keepIn X.K (.ref f) = true) (hb : Binds X.K fd ps []) (hx : ∀ σ, PassesAt CX X σ (E σ)) (ha : PA X (e :: es) t)
    (hdb : (x == ("__debug__" : Str)) = false := by decide) (he : starEach (e :: es) X.env = (false, eval e X.env) :: starEach es X.env := by rfl) (hpl : (backTo pos (starEach es X.env)).any (·.1) = false := by rfl) : PE X (.Call (.Name x p) (e :: es) [] pos) (tCallS sp E t) :=
  ⟨fun pins s σ H Q I h => wpAny_Call_Name_kw (ld_glob I hg hm (PySem.W.callWith_K (h₀ := X.base) I.ok.mod.kin hk (thn (ha.run pos pins s σ H _ I h) fun us s1 ⟨vs, H1, J, rv, q⟩ => ⟨J.kIn, run_fnG F hr hb (hx σ) J rv q⟩) he hpl) hdb)⟩
theorem pe_callG0 (F : FnG X.prog X.w X.K X.mg X.base CX k f fd ps sp) (hr : RoomG k X.A) (hg : Gl X x) (hm : X.mg x = some (.ref f)) (hk : PySem.W.keepIn X.K (.ref f) = true) (hb : Binds X.K fd ps []) (hx : ∀ σ, PassesAt CX X σ (E σ))
    (hdb : (x == ("__debug__" : Str)) = false := by decide) : PE X (.Call (.Name x p) [] [] pos) (tCallS sp E tNil) :=
  ⟨fun _ _ _ _ _ I h => wpAny_Call_Name_kw (ld_glob I hg hm (PySem.W.callWith_K0 I.kIn hk (run_fnG (us := []) F hr hb (hx _) I .nil h)) hdb)⟩
end
end VL
set_option Elab.async false
set_option linter.all false
set_option maxRecDepth 100000
set_option maxHeartbeats 4000000
namespace VL
open PySem L2

/-! ### comprehensions -/
def wipeE (e : List Slot) : List Nat → List Slot
  | [] => e
  | v :: vs => (wipeE e vs).set v .no
def restE (e0 : List Slot) : List Nat → List Slot → List Slot
  | [], e => e
  | v :: vs, e => (restE e0 vs e).set v (e0.getD v .no)
theorem wipeE_len (e : List Slot) : ∀ vs, (wipeE e vs).length = e.length
  | [] => rfl
  | v :: vs => by unfold wipeE; rw [List.length_set, wipeE_len e vs]
theorem restE_len (e0 e : List Slot) : ∀ vs, (restE e0 vs e).length = e.length
  | [] => rfl
  | v :: vs => by unfold restE; rw [List.length_set, restE_len e0 e vs]
theorem wipeE_get {e : List Slot} {i : Nat} {x : Slot} (nx : x ≠ .no) : ∀ {vs : List Nat}, (wipeE e vs)[i]? = some x → e[i]? = some x ∧ i ∉ vs
  | [], h => ⟨h, by simp⟩
  | v :: vs, h => by
    unfold wipeE at h
    rcases get_set_or h with ⟨_, q, _⟩ | ⟨hj, h⟩
    · exact (nx q).elim
    · obtain ⟨h1, h2⟩ := wipeE_get nx h
      exact ⟨h1, by simp only [List.mem_cons, not_or]; exact ⟨fun z => hj z.symm, h2⟩⟩
theorem wipe_get {σ : St} {i : Nat} : ∀ {vs : List Nat}, i ∉ vs → (wipe σ vs)[i]? = σ[i]?
  | [], _ => rfl
  | v :: vs, h => by
    unfold wipe
    rw [List.getElem?_set_ne (by intro z; exact h (by simp [z]))]
    exact wipe_get (vs := vs) fun z => h (by simp [z])
theorem restE_out {e0 e : List Slot} {i : Nat} : ∀ {vs : List Nat}, i ∉ vs → (restE e0 vs e)[i]? = e[i]?
  | [], _ => rfl
  | v :: vs, h => by
    unfold restE
    rw [List.getElem?_set_ne (by intro z; exact h (by simp [z]))]
    exact restE_out (vs := vs) fun z => h (by simp [z])
theorem restE_in {e0 e : List Slot} {i : Nat} (hi : i < e.length) : ∀ {vs : List Nat}, i ∈ vs → (restE e0 vs e)[i]? = some (e0.getD i .no)
  | v :: vs, h => by
    unfold restE
    by_cases q : v = i
    · subst q
      rw [List.getElem?_set_self (by rw [restE_len]; exact hi)]
    · rw [List.getElem?_set_ne q]
      refine restE_in hi ?_
      rcases List.mem_cons.mp h with h | h
      · exact (q h.symm).elim
      · exact h
theorem wipe_eq {σ τ : St} {vs : List Nat} (hl : τ.length = σ.length) (h : ∀ i, i ∉ vs → τ[i]? = σ[i]?) : wipe τ vs = wipe σ vs := by
  refine List.ext_getElem? fun i => ?_
  by_cases hi : i ∈ vs
  · have : ∀ (ρ : St), (wipe ρ vs)[i]? = if i < ρ.length then some none else none := by
      intro ρ
      clear h hl
      induction vs with
      | nil => simp at hi
      | cons v vs ih =>
        unfold wipe
        by_cases q : v = i
        · subst q
          by_cases l : v < ρ.length
          · rw [List.getElem?_set_self (by rw [wipe_length]; exact l), if_pos l]
          · rw [List.getElem?_eq_none (by rw [List.length_set, wipe_length]; omega), if_neg l]
        · rw [List.getElem?_set_ne q]
          exact ih (by rcases List.mem_cons.mp hi with z | z; exact (q z.symm).elim; exact z)
    rw [this, this, hl]
  · rw [wipe_get hi, wipe_get hi, h i hi]
def notOwn (e : List Slot) (j : Nat) : Bool := match e[j]? with
  | some (.own _) => false
  | _ => true
def lcGo (vs : List Nat) (tg : GF) (T : TF) (E : EF) : List D → List D → Fr → Option (List D × Fr)
  | [], acc, s => some (acc, s)
  | d :: ds, acc, s => match tg d s with
    | none => none
    | some s1 => match T s1 with
      | .ok true s2 => match E s2 with
        | .ok r s3 => if acc.length < sizeLine then lcGo vs tg T E ds (acc ++ [r]) { s3 with env := wipeE s3.env vs } else none
        | _ => none
      | .ok false s2 => lcGo vs tg T E ds acc { s2 with env := wipeE s2.env vs }
      | _ => none
def eLc (vs : List Nat) (A : AF) (tg : GF) (T : TF) (E : EF) : EF := fun s => (A s).bind fun ds s1 => match lcGo vs tg T E ds [] { s1 with env := wipeE s1.env vs } with
  | some (acc, s2) => if vs.all (notOwn s1.env) then .ok (.lst acc) { s2 with env := restE s1.env vs s2.env } else .bad
  | none => .bad
def tY : TF := fun s => .ok true s
abbrev E0W : WX := fun _ _ _ _ => False
section
variable {Γ : Gm} {Z Z' : Addr → Prop} {σ : St} {EX : WX} {η η1 : List Addr} {ω ω1 : List (Option Addr)} {H H1 H' : Hp} {s s' s1 : Fr}
theorem Good.wipe {vs : List Nat} (g : Good Γ Z η ω σ H s) : Good Γ Z η ω (L2.wipe σ vs) H { s with env := wipeE s.env vs } := by
  refine ⟨g.nd, g.zη, g.zω, g.zH, ?_, ?_, g.stl, g.inj, fun i d h => ?_, fun i d h => ?_, g.hs⟩
  · rw [wipeE_len, wipe_length]; exact g.len
  · rw [wipe_length]; exact g.lenω
  · obtain ⟨h1, h2⟩ := wipeE_get (by simp) h
    obtain ⟨v, q, r⟩ := g.val i d h1
    exact ⟨v, by rw [wipe_get h2]; exact q, r⟩
  · obtain ⟨h1, h2⟩ := wipeE_get (by simp) h
    obtain ⟨v, q, q2, r⟩ := g.own i d h1
    exact ⟨v, by rw [wipe_get h2]; exact q, q2, r⟩
theorem Good.rest {vs : List Nat} (g0 : Good Γ Z η1 ω1 σ H1 s1) (hv : vs.all (notOwn s1.env) = true) (g : Good Γ Z' η ω (L2.wipe σ vs) H s) (st : Step (Lv Z η1 ω1) H1 (Lv Z' η ω) H) (p : η1 <+: η) : Good Γ Z' η ω σ H { s with env := restE s1.env vs s.env } := by
  refine ⟨g.nd, g.zη, g.zω, g.zH, ?_, ?_, g.stl, g.inj, fun i d h => ?_, fun i d h => ?_, g.hs⟩
  · rw [restE_len, g.len, wipe_length]
  · rw [g.lenω, wipe_length]
  · by_cases hi : i ∈ vs
    · have hl : i < s.env.length := by have := (List.getElem?_eq_some_iff.mp h).1; rw [restE_len] at this; exact this
      rw [restE_in hl hi] at h
      have hl1 : i < s1.env.length := by rw [g0.len, ← wipe_length σ vs, ← g.len]; exact hl
      have h1 : s1.env[i]? = some (.val d) := by
        rw [List.getD_eq_getElem?_getD, List.getElem?_eq_getElem hl1] at h
        rw [List.getElem?_eq_getElem hl1]; exact h
      obtain ⟨v, q, r⟩ := g0.val i d h1
      exact ⟨v, q, r.step st p⟩
    · rw [restE_out hi] at h
      obtain ⟨v, q, r⟩ := g.val i d h
      rw [wipe_get hi] at q
      exact ⟨v, q, r⟩
  · by_cases hi : i ∈ vs
    · have hl : i < s.env.length := by have := (List.getElem?_eq_some_iff.mp h).1; rw [restE_len] at this; exact this
      rw [restE_in hl hi] at h
      have hl1 : i < s1.env.length := by rw [g0.len, ← wipe_length σ vs, ← g.len]; exact hl
      have h1 : s1.env[i]? = some (.own d) := by
        rw [List.getD_eq_getElem?_getD, List.getElem?_eq_getElem hl1] at h
        rw [List.getElem?_eq_getElem hl1]; exact h
      have := List.all_eq_true.mp hv i hi
      unfold notOwn at this
      rw [h1] at this
      cases this
    · rw [restE_out hi] at h
      obtain ⟨v, q, q2, r⟩ := g.own i d h
      rw [wipe_get hi] at q
      exact ⟨v, q, q2, r⟩
theorem stepZ {a : Addr} {o : HO} (hz : Z a) (h : ∃ xs, H a = some (.lst xs)) : Step (Lv Z η ω) H (Lv Z η ω) (upd H a o) := by
  obtain ⟨xs, h⟩ := h
  refine ⟨fun b u q n => ⟨u, ?_, rfl⟩, fun b ys q => ?_, fun b q => .inl q, fun b q => ?_⟩
  · rw [upd_ne fun e => n (by rw [e]; exact .inl hz)]; exact q
  · rw [upd_ne (ne_of q h (by intro e; cases e))]; exact q
  · by_cases e : b = a
    · subst e; rw [upd_same] at q; cases q
    · rw [upd_ne e] at q; exact q
/-- a thing that is no one's here is changed -/
theorem Good.updZ {a : Addr} {o : HO} (g : Good Γ Z η ω σ H s) (hz : Z a) (h : ∃ xs, H a = some (.lst xs)) : Good Γ Z η ω σ (upd H a o) s := by
  have st : Step (Lv Z η ω) H (Lv Z η ω) (upd H a o) := stepZ hz h
  have p := List.prefix_refl η
  refine ⟨g.nd, g.zη, g.zω, fun b q z => g.zH b q (st.none b z), g.len, g.lenω, g.stl, g.inj, fun i d q => ?_, fun i d q => ?_, fun n d q => ?_⟩
  · obtain ⟨v, h1, h2⟩ := g.val i d q; exact ⟨v, h1, h2.step st p⟩
  · obtain ⟨b, h1, h2, h3⟩ := g.own i d q
    exact ⟨b, h1, h2, h3.step st p (upd_ne fun e => (g.zω b (mem_of_get h2)).1 (by rw [e]; exact hz))⟩
  · obtain ⟨b, h1, h2⟩ := g.hs n d q
    exact ⟨b, h1, h2.step st p (upd_ne fun e => g.zη b (mem_of_get h1) (by rw [e]; exact hz))⟩
theorem lc_o {vs ts : List Nat} {A : AF} {tg : GF} {T : TF} {E : EF} {Q : VK} (hts : ∀ i ∈ ts, i ∈ vs) (h : liftO Γ EX (eLc vs A tg T E) σ H Q) :
    tLc (liftG Γ EX relIt A) (liftTg Γ ts tg) (liftG Γ E0W relB T) (liftG Γ E0W relD E) vs σ H Q := by
  obtain ⟨Z, η0, ω0, s0, g0, h⟩ := h
  refine go g0 h fun ds s1 J H1 η1 ω1 p1 g1 st1 r1 h1 => fun Da hD => ?_
  have zD : ¬ Z Da := fun z => g1.zH Da (.inl z) hD
  have exD : Ex H1 (upd H1 Da (.lst [])) := ex_new hD
  have sD : Step (Lv Z η1 ω1) H1 (Lv (Zp Z Da) η1 ω1) (upd H1 Da (.lst [])) := stepNew hD exD
  have sD' : Ste Z (Lv Z η1 ω1) H1 (Lv (Zp Z Da) η1 ω1) (upd H1 Da (.lst [])) := ⟨sD, (Ste.ex (L := Lv Z η1 ω1) exD fun a z => g1.zH a (.inl z)).oth⟩
  have gD : Good Γ (Zp Z Da) η1 ω1 σ (upd H1 Da (.lst [])) s1 := g1.more hD exD (by rw [upd_same]; simp)
  -- what is left to run
  let Fin : Option (List D × Fr) → Prop := fun o => match o with
    | some (acc, s2) => Run Γ Z EX (PoO Γ Z σ) η1 ω1 H1 (if vs.all (notOwn s1.env) then .ok (.lst acc) { s2 with env := restE s1.env vs s2.env } else .bad) Q
    | none => False
  have hf : Fin (lcGo vs tg T E ds [] { s1 with env := wipeE s1.env vs }) := by
    show (match lcGo vs tg T E ds [] { s1 with env := wipeE s1.env vs } with
      | some (acc, s2) => Run Γ Z EX (PoO Γ Z σ) η1 ω1 H1 (if vs.all (notOwn s1.env) then .ok (.lst acc) { s2 with env := restE s1.env vs s2.env } else .bad) Q
      | none => False)
    cases q : lcGo vs tg T E ds [] { s1 with env := wipeE s1.env vs } with
    | none => simp only [q] at h1; exact h1.elim
    | some x => obtain ⟨acc, s2⟩ := x; simp only [q] at h1; exact h1
  refine ⟨fun i m H2 => m = ds.length - i ∧ ∃ η ω s acc xs, η1 <+: η ∧ Good Γ (Zp Z Da) η ω (L2.wipe σ vs) H2 s ∧ Ste Z (Lv Z η1 ω1) H1 (Lv (Zp Z Da) η ω) H2 ∧ H2 Da = some (.lst xs) ∧ Rps Γ η (Lv (Zp Z Da) η ω) H2 xs acc ∧ Fin (lcGo vs tg T E (ds.drop i) acc s),
    ⟨_, rfl, η1, ω1, _, [], [], List.prefix_refl _, gD.wipe, sD', upd_same, .nil, hf⟩, ?_⟩
  rintro i m H2 ⟨rfl, η, ω, s, acc, xs, p, g, st, hx, ra, hfin⟩
  obtain ⟨ij, ik⟩ := r1 η _ H2 p st.toStep
  cases q : ds[i]? with
  | none =>
    have hl := List.getElem?_eq_none_iff.mp q
    rw [List.drop_of_length_le hl] at hfin
    refine .inl ⟨ik i hl, ?_⟩
    have hfin : Run Γ Z EX (PoO Γ Z σ) η1 ω1 H1 (if vs.all (notOwn s1.env) then .ok (.lst acc) { s with env := restE s1.env vs s.env } else .bad) Q := hfin
    split at hfin
    · rename_i hv
      exact hfin (.ref Da) H2 ⟨η, ω, Da, rfl, zD, p, g1.rest hv g st.toStep p, st, xs, hx, ra⟩
    · exact hfin.elim
  | some d =>
    obtain ⟨hl, e⟩ := List.getElem?_eq_some_iff.mp q
    have ed : ds.drop i = d :: ds.drop (i + 1) := by rw [List.drop_eq_getElem_cons hl, e]
    rw [ed] at hfin
    unfold lcGo at hfin
    obtain ⟨j1, j2⟩ := ij i d q
    refine .inr ⟨j1, fun H' => ∃ m', m' < ds.length - i ∧ m' = ds.length - (i + 1) ∧ ∃ η ω s acc xs, η1 <+: η ∧ Good Γ (Zp Z Da) η ω (L2.wipe σ vs) H' s ∧ Ste Z (Lv Z η1 ω1) H1 (Lv (Zp Z Da) η ω) H' ∧ H' Da = some (.lst xs) ∧ Rps Γ η (Lv (Zp Z Da) η ω) H' xs acc ∧ Fin (lcGo vs tg T E (ds.drop (i + 1)) acc s), fun _ z => z, fun x H3 hx3 => ?_⟩
    obtain ⟨ex, rx⟩ := j2 x H3 hx3
    have g3 := g.ex ex
    have st3 : Ste (Zp Z Da) (Lv (Zp Z Da) η ω) H2 (Lv (Zp Z Da) η ω) H3 := Ste.ex ex fun a z => g.zH a (.inl z)
    refine ⟨Zp Z Da, η, ω, s, d, g3, rx, ?_⟩
    cases q1 : tg d s with
    | none => rw [q1] at hfin; exact hfin.elim
    | some s4 =>
      rw [q1] at hfin
      simp only at hfin
      rintro σ4 ⟨ω4, g4, st4⟩ hl4 ho4
      have hw : L2.wipe σ4 vs = L2.wipe σ vs := by
        rw [wipe_eq hl4 fun j hj => ho4 j fun z => hj (hts j z)]
        exact wipe_eq (wipe_length σ vs) fun j hj => wipe_get hj
      refine ⟨hw, Zp Z Da, η, ω4, s4, g4, ?_⟩
      have st4' : Ste (Zp Z Da) (Lv (Zp Z Da) η ω) H2 (Lv (Zp Z Da) η ω4) H3 := st3.trans ⟨st4, fun _ _ => rfl⟩
      cases q2 : T s4 with
      | bad => rw [q2] at hfin; exact hfin.elim
      | exc c p s => rw [q2] at hfin; exact hfin.elim
      | ok b s5 =>
        rw [q2] at hfin
        rintro w H5 ⟨η5, ω5, p5, g5, st5, rfl⟩
        have st5' : Ste (Zp Z Da) (Lv (Zp Z Da) η ω) H2 (Lv (Zp Z Da) η5 ω5) H5 := st4'.trans st5
        cases b with
        | false =>
          refine ⟨_, by omega, rfl, η5, ω5, _, acc, xs, p.trans p5, ?_, st.trans ⟨st5'.toStep, fun a z => st5'.oth a (.inl z)⟩, (st5'.oth Da (.inr rfl)).trans hx, ra.step st5'.toStep p5, hfin⟩
          rw [← hw]
          exact g5.wipe
        | true =>
          simp only at hfin
          rw [if_pos rfl]
          refine ⟨Zp Z Da, η5, ω5, s5, g5, ?_⟩
          cases q3 : E s5 with
          | bad => rw [q3] at hfin; exact hfin.elim
          | exc c p s => rw [q3] at hfin; exact hfin.elim
          | ok r s6 =>
            rw [q3] at hfin
            rintro y H6 ⟨η6, ω6, p6, g6, st6, ry⟩
            have st6' : Ste (Zp Z Da) (Lv (Zp Z Da) η ω) H2 (Lv (Zp Z Da) η6 ω6) H6 := st5'.trans st6
            have hx6 := (st6'.oth Da (.inr rfl)).trans hx
            simp only at hfin
            split at hfin
            · rename_i hlen
              have ra6 := ra.step st6'.toStep (p5.trans p6)
              have sz := stepZ (η := η6) (ω := ω6) (o := .lst (xs ++ [y])) (Z := Zp Z Da) (.inr rfl) ⟨xs, hx6⟩
              have nD : ∀ a, Z a → a ≠ Da := fun a z e => zD (e ▸ z)
              refine ⟨xs, hx6, by rw [ra6.length]; exact hlen, _, by omega, rfl, η6, ω6, _, acc ++ [r], xs ++ [y], (p.trans p5).trans p6, ?_, st.trans ⟨st6'.toStep.trans sz, fun a z => (upd_ne (nD a z)).trans (st6'.oth a (.inl z))⟩, upd_same, (ra6.append (.cons ry .nil)).step sz (List.prefix_refl _), hfin⟩
              rw [← hw]
              exact (g6.updZ (.inr rfl) ⟨xs, hx6⟩).wipe
            · exact hfin.elim
end
section
variable {X : Cx} {ca : Str → Addr} {EX : WX} {ro : Bool}
theorem _root_.L2.PTs.weak {X : Cx} {e : List Expr} {t t' : TT} (h : PTs X e t) (k : ∀ σ H Q, t' σ H Q → t σ H Q) : PTs X e t' := ⟨fun pins s σ H Q I q => h.run pins s σ H Q I (k _ _ _ q)⟩
def XTs (X : Cx) (ca : Str → Addr) (EX : WX) (es : List Expr) (F : TF) : Prop := PTs X es (liftG (gm X ca) EX relB F)
theorem xts_nil : XTs X ca EX [] tY := pts_nil.weak fun σ H Q ⟨Z, η, ω, s, g, h⟩ => h.fin g (fun _ _ z => z) rfl
theorem xts_one {c : Expr} {T : TF} (h : XT X ca EX c T) : XTs X ca EX [c] T := pts_one h
theorem xo_lc {elt tg iter : Expr} {ifs : List Expr} {scope : Scope} {own : List (Str × Nat)} {pos : Pos} {A : AF} {gf : GF} {T : TF} {E : EF} {ts : List Nat} (hc : X.calm = true) (hN : X.N.Nodup) (hi : XI X ca EX tg iter A) (ok : BlkOk X.N X.env.scope scope own) (hts : ∀ i ∈ ts, i ∈ own.map (·.2))
    (hg : ∀ (s : Shared) (H : Hp) (C : Addr) (cl : List (Str × Addr)) (fp : List Addr), XG (X.blk s H scope (compEnvC scope cl C X.env) fp) ca ts tg gf)
    (ht : ∀ (s : Shared) (H : Hp) (C : Addr) (cl : List (Str × Addr)) (fp : List Addr), XTs (X.blk s H scope (compEnvC scope cl C X.env) fp) ca E0W ifs T)
    (he : ∀ (s : Shared) (H : Hp) (C : Addr) (cl : List (Str × Addr)) (fp : List Addr), XE (X.blk s H scope (compEnvC scope cl C X.env) fp) ca E0W elt E)
    (hs : ∀ x, foldedSetIterable iter X.env x = pure x := by intro _; rfl) : XO X ca EX (.ListComp elt [⟨tg, iter, ifs, 0⟩] scope pos) (eLc (own.map (·.2)) A gf T E) :=
  (pe_lc (g := liftTg (gm X ca) ts gf) (tt := liftG (gm X ca) E0W relB T) (te := liftG (gm X ca) E0W relD E) hc hN hi ok hg ht he hs).weak fun σ H Q h => lc_o hts h
/-- y = [..]: b tells whether y's list is y's own thing -/
theorem xs_setLc {i : Nat} {y : Str} {py : Pos} {elt tg iter : Expr} {ifs : List Expr} {scope : Scope} {own : List (Str × Nat)} {pos spos : Pos} {A : AF} {gf : GF} {T : TF} {E : EF} {ts : List Nat} (hc : X.calm = true) (hN : X.N.Nodup) (hy : X.N[i]? = some y) (hyl : X.env.scope.names.lookup y = some .local)
    (hsw : swapsWith (.ListComp elt [⟨tg, iter, ifs, 0⟩] scope pos) (some (.Name y py)) spos.line X.env = pure true) (hi : XI X ca EX tg iter A) (ok : BlkOk X.N X.env.scope scope own) (hts : ∀ i ∈ ts, i ∈ own.map (·.2))
    (hg : ∀ (s : Shared) (H : Hp) (C : Addr) (cl : List (Str × Addr)) (fp : List Addr), XG (X.blk s H scope (compEnvC scope cl C X.env) fp) ca ts tg gf)
    (ht : ∀ (s : Shared) (H : Hp) (C : Addr) (cl : List (Str × Addr)) (fp : List Addr), XTs (X.blk s H scope (compEnvC scope cl C X.env) fp) ca E0W ifs T)
    (he : ∀ (s : Shared) (H : Hp) (C : Addr) (cl : List (Str × Addr)) (fp : List Addr), XE (X.blk s H scope (compEnvC scope cl C X.env) fp) ca E0W elt E)
    (hs : ∀ x, foldedSetIterable iter X.env x = pure x := by intro _; rfl) (b : Bool) : XS X ca EX ro (.Assign [.Name y py] (.ListComp elt [⟨tg, iter, ifs, 0⟩] scope pos) spos) (if b then sAsgO i (eLc (own.map (·.2)) A gf T E) else sAsg (gN i) (eLc (own.map (·.2)) A gf T E)) := by
  have h0 := ps_setLc (i := i) (y := y) (py := py) (spos := spos) (g := liftTg (gm X ca) ts gf) (tt := liftG (gm X ca) E0W relB T) (te := liftG (gm X ca) E0W relD E) hc hN hy hyl hsw hi ok hg ht he hs
  refine h0.weak fun En σ H h => ?_
  have key : tAsg (liftO (gm X ca) EX (eLc (own.map (·.2)) A gf T E)) (gName i) En σ H := by
    cases b with
    | true => exact asg_o h
    | false =>
      have h : liftS (gm X ca) EX ro (sAsg (gN i) (eLc (own.map (·.2)) A gf T E)) En σ H := h
      obtain ⟨Z, η, ω, s, g, h⟩ := h
      have h2 := asg_n (En := En) (σ := σ) (H := H) (ro := ro) ⟨Z, η, ω, s, g, h⟩
      obtain ⟨Z, η, ω, s, g, h2⟩ := h2
      refine ⟨Z, η, ω, s, g, ?_⟩
      cases q : eLc (own.map (·.2)) A gf T E s with
      | ok d s' => rw [q] at h2; exact fun w H' po => h2 w H' po.x
      | exc c p s' => rw [q] at h2; exact h2
      | bad => rw [q] at h2; exact h2
  exact lc_o hts key
end

/-! ### functions -/
abbrev Fn := List D → List D → Res D
def spF (Γ : Gm) (ro : Bool) (G : Fn) : Sp := fun vs H Q E => ∃ Z η ds st, Good Γ Z η [] [] H ⟨[], st⟩ ∧ Rps Γ η (Lv Z η []) H vs ds ∧ match G ds st with
  | .ok d s' => ∀ v H', PoR Γ Z ro η [] H d s'.st v H' → Q v H'
  | .exc c p s' => RE Γ Z (fun cls dd _ H' => E cls dd H') η [] H c p ⟨[], s'.st⟩
  | .bad => False
/-- a def's function: n parameters, N names -/
def mkF (ro : Bool) (n N : Nat) (F : SF) : Fn := fun ds st => if ds.length = n then match F ⟨ds.map .val ++ List.replicate (N - n) .no, st⟩ with
  | .ret d st' => .ok d ⟨[], st'⟩
  | .nx s => if ro then .bad else .ok .non ⟨[], s.st⟩
  | .exc c p s => .exc c p ⟨[], s.st⟩
  | _ => .bad else .bad
section
variable {P : Program} {w : World} {K : PySem.W.Frag} {mg : Str → Option Value} {base : Heap} {ca : Str → Addr} {ro : Bool}
theorem start_good {Γ : Gm} {Z : Addr → Prop} {η : List Addr} {H : Hp} {st ds : List D} {vs : List V} {N : List Str} (g : Good Γ Z η [] [] H ⟨[], st⟩) (r : Rps Γ η (Lv Z η []) H vs ds) :
    Good Γ Z η (List.replicate (L2.start N vs).length none) (L2.start N vs) H ⟨ds.map .val ++ List.replicate (N.length - ds.length) .no, st⟩ ∧ Step (Lv Z η []) H (Lv Z η (List.replicate (L2.start N vs).length none)) H ∧ Step (Lv Z η (List.replicate (L2.start N vs).length none)) H (Lv Z η []) H := by
  have nm : ∀ (n : Nat) (a : Addr), some a ∉ List.replicate n (none : Option Addr) := fun n a h => by cases (List.mem_replicate.mp h).2
  have le : ∀ n : Nat, Lv Z η (List.replicate n none) = Lv Z η [] := fun n => by
    funext a
    apply propext
    exact ⟨fun h => h.imp id fun h => h.imp id fun h => (nm n a h).elim, fun h => h.imp id fun h => h.imp id fun h => nomatch h⟩
  rw [le]
  have hl := r.length
  refine ⟨⟨g.nd, g.zη, fun a h => (nm _ a h).elim, by rw [le]; exact g.zH, ?_, by simp, g.stl, fun i j a h => ?_, fun i d h => ?_, fun i d h => ?_, by rw [le]; exact g.hs⟩, Step.refl, Step.refl⟩
  · show (ds.map Slot.val ++ List.replicate (N.length - ds.length) Slot.no).length = _
    unfold L2.start
    simp [hl]
  · exact (nm _ a (mem_of_get h)).elim
  · have h : (ds.map Slot.val ++ List.replicate (N.length - ds.length) Slot.no)[i]? = some (.val d) := h
    by_cases hi : i < ds.length
    · rw [List.getElem?_append_left (by simpa using hi), List.getElem?_map] at h
      cases q : ds[i]? with
      | none => rw [q] at h; cases h
      | some e =>
        rw [q] at h
        cases h
        obtain ⟨v, h1, h2⟩ := r.get q
        refine ⟨v, ?_, by rw [le]; exact h2⟩
        unfold L2.start
        rw [List.getElem?_append_left (by rw [List.length_map, hl]; exact hi), List.getElem?_map, h1]
        rfl
    · rw [List.getElem?_append_right (by simpa using hi), List.getElem?_replicate] at h
      split at h <;> cases h
  · have h : (ds.map Slot.val ++ List.replicate (N.length - ds.length) Slot.no)[i]? = some (.own d) := h
    by_cases hi : i < ds.length
    · rw [List.getElem?_append_left (by simpa using hi), List.getElem?_map] at h
      cases q : ds[i]? with
      | none => rw [q] at h; cases h
      | some e => rw [q] at h; cases h
    · rw [List.getElem?_append_right (by simpa using hi), List.getElem?_replicate] at h
      split at h <;> cases h
theorem body_run {Γ : Gm} {N ps : List Str} {F : SF} {vs : List V} {H : Hp} {Q : VK} {E : XK} (h : spF Γ ro (mkF ro ps.length N.length F) vs H Q E) : liftS Γ (fun cls dd _ H' => E cls dd H') ro F { nx := fun _ H' => Q .non H', rt := Q } (L2.start N vs) H := by
  obtain ⟨Z, η, ds, st, g, r, h⟩ := h
  unfold mkF at h
  by_cases hl : ds.length = ps.length
  · rw [if_pos hl] at h
    obtain ⟨g2, st1, st2⟩ := start_good (N := N) g r
    refine ⟨Z, η, _, _, g2, ?_⟩
    rw [hl]
    have pr := List.prefix_refl η
    cases q : F ⟨ds.map .val ++ List.replicate (N.length - ps.length) .no, st⟩ with
    | nx s' =>
      rw [q] at h
      rintro σ' H' ⟨η', ω', p', g', st'⟩
      cases ro with
      | true => exact h.elim
      | false =>
        obtain ⟨g3, st3⟩ := g'.drop
        refine h .non H' ⟨η', p', g3, ?_, .non⟩
        exact (show Ste Z (Lv Z η []) H (Lv Z η _) H from ⟨st1, fun _ _ => rfl⟩).trans (st'.trans ⟨st3, fun _ _ => rfl⟩)
    | brk s' => rw [q] at h; exact h.elim
    | ct s' => rw [q] at h; exact h.elim
    | bad => rw [q] at h; exact h.elim
    | ret d st' =>
      rw [q] at h
      intro v H' po
      exact h v H' (po.later pr ⟨st1, fun _ _ => rfl⟩)
    | exc c p s' =>
      rw [q] at h
      intro dd H' σ' η' ω' vs a b c d e f
      obtain ⟨g3, st3⟩ := b.drop
      exact h dd H' [] η' [] vs a g3 ((show Ste Z (Lv Z η []) H (Lv Z η _) H from ⟨st1, fun _ _ => rfl⟩).trans (c.trans ⟨st3, fun _ _ => rfl⟩)) d e (f.step st3 (List.prefix_refl _))
  · rw [if_neg hl] at h
    exact h.elim
theorem spF_len {Γ : Gm} {n N : Nat} {F : SF} {vs : List V} {H : Hp} {Q : VK} {E : XK} (h : spF Γ ro (mkF ro n N F) vs H Q E) : vs.length = n := by
  obtain ⟨Z, η, ds, st, g, r, h⟩ := h
  rw [r.length]
  unfold mkF at h
  split at h
  · rename_i d s' q
    split at q
    · assumption
    · cases q
  · rename_i d s' q q2
    split at q2
    · assumption
    · cases q2
  · exact h.elim
/-- THE RULE for a def that lets no exception out -/
theorem fn_ok {x qual : Str} {st : Stmt} {f : Addr} {fd : FuncData} {N ps : List Str} {k : Nat} {F : SF} (FD : Fun K x qual st f fd) (S : FnScope N ps (defScope st))
    (hb : ∀ (cdv : Value) (A : Around) (outer : List Env) (s : Shared) (H : Hp) (E : XK), RoomG k (A.deeper (PyProof.Rows.envOfC qual (defScope st) s.heap.objs.size f cdv)) → XB (cxOf CX0 P w K mg base N qual (defScope st) f cdv A outer s H E).nox ca (fun cls dd _ H' => E cls dd H') ro (defBody st) F) :
    FnG P w K mg base CX0 (k + 1) f fd ps (spF ⟨K, ca⟩ ro (mkF ro ps.length N.length F)) :=
  fnG FD S (fun h => spF_len h) fun cdv A outer s H vs Q E hr h => ⟨_, (hb cdv A outer s H E hr).nox, body_run h⟩
end
/-! ### calls -/
section
variable {X : Cx} {ca : Str → Addr} {EX : WX} {ro : Bool} {A : AF} {G : Fn}
def eCall (G : Fn) (A : AF) : EF := fun s => (A s).bind fun ds s1 => match G ds s1.st with
  | .ok d s2 => .ok d ⟨s1.env, s2.st⟩
  | .exc c p s2 => .exc c p ⟨s1.env, s2.st⟩
  | .bad => .bad
section
variable {Γ : Gm} {Z Z' : Addr → Prop} {σ : St} {η η1 η' : List Addr} {ω ω1 : List (Option Addr)} {H H1 H' : Hp} {s s' s1 : Fr}
/-- the caller's own things, for the callee -/
def Zc (Z : Addr → Prop) (ω : List (Option Addr)) : Addr → Prop := fun a => Z a ∨ some a ∈ ω
theorem zc_live : Lv (Zc Z ω) η [] = Lv Z η ω := by
  funext a
  apply propext
  constructor
  · rintro ((h | h) | h | h)
    · exact .inl h
    · exact .inr (.inr h)
    · exact .inr (.inl h)
    · cases h
  · rintro (h | h | h)
    · exact .inl (.inl h)
    · exact .inr (.inl h)
    · exact .inl (.inr h)
theorem Good.callee (g : Good Γ Z η ω σ H s) : Good Γ (Zc Z ω) η [] [] H ⟨[], s.st⟩ := by
  refine ⟨g.nd, fun a h z => ?_, (fun a h => nomatch h), by rw [zc_live]; exact g.zH, rfl, rfl, g.stl, fun i j a h => by simp at h, fun i d h => by simp at h, fun i d h => by simp at h, by rw [zc_live]; exact g.hs⟩
  rcases z with z | z
  · exact g.zη a h z
  · exact (g.zω a z).2 h
theorem back_live {Zb : Addr → Prop} : Lv (fun b => Zc Z ω b ∨ Zb b) η [] = Lv (fun b => Z b ∨ Zb b) η ω := by
  funext a
  apply propext
  constructor
  · rintro (((h | h) | h) | h | h)
    · exact .inl (.inl h)
    · exact .inr (.inr h)
    · exact .inl (.inr h)
    · exact .inr (.inl h)
    · cases h
  · rintro ((h | h) | h | h)
    · exact .inl (.inl (.inl h))
    · exact .inl (.inr h)
    · exact .inr (.inl h)
    · exact .inl (.inl (.inr h))
/-- behind a call: the frame again -/
theorem Good.back {st' : List D} {Zb : Addr → Prop} (g : Good Γ Z η ω σ H s) (g' : Good Γ (fun b => Zc Z ω b ∨ Zb b) η' [] [] H' ⟨[], st'⟩) (hb : ∀ a, some a ∈ ω → ¬ Zb a) (p : η <+: η') (st : Ste (Zc Z ω) (Lv Z η ω) H (Lv (fun b => Zc Z ω b ∨ Zb b) η' []) H') :
    Good Γ (fun b => Z b ∨ Zb b) η' ω σ H' ⟨s.env, st'⟩ := by
  have st := st
  rw [back_live] at st
  have L1 := g'.zH
  have L2' := g'.hs
  rw [back_live] at L1 L2'
  refine ⟨g'.nd, fun a h z => g'.zη a h (z.imp .inl id), fun a h => ⟨fun z => z.elim (g.zω a h).1 (hb a h), fun z => g'.zη a z (.inl (.inr h))⟩, L1, g.len, g.lenω, g'.stl, g.inj, fun i d h => ?_, fun i d h => ?_, L2'⟩
  · obtain ⟨v, h1, h2⟩ := g.val i d h
    exact ⟨v, h1, h2.step st.toStep p⟩
  · obtain ⟨a, h1, h2, h3⟩ := g.own i d h
    exact ⟨a, h1, h2, h3.step st.toStep p (st.oth a (.inr (mem_of_get h2)))⟩
end
theorem call_run {σ : St} {H : Hp} {Q : VK} (h : liftG (gm X ca) EX relD (eCall G A) σ H Q) : liftG (gm X ca) EX relA A σ H fun vs H1 => spF (gm X ca) false G vs H1 Q (fun cls dd H' => EX cls dd σ H') := by
  obtain ⟨Z, η, ω, s, g, h⟩ := h
  refine go g h fun ds s1 vs H1 η1 ω1 p1 g1 st1 r1 h1 => ⟨Zc Z ω1, η1, ds, s1.st, g1.callee, by rw [zc_live]; exact r1, ?_⟩
  have e0 : (fun b => Zc Z ω1 b ∨ (fun _ : Addr => False) b) = Zc Z ω1 := by funext b; simp
  have e1 : (fun b => Z b ∨ (fun _ : Addr => False) b) = Z := by funext b; simp
  cases q : G ds s1.st with
  | bad => simp only [q] at h1; exact h1.elim
  | exc c p s2 =>
    simp only [q] at h1
    intro dd H' σ' η' ω' vs a b c d e f
    cases σ' with
    | cons x r => have := b.len; simp at this
    | nil =>
      obtain rfl : ω' = [] := by have := b.lenω; simpa using this
      have c' := c
      rw [zc_live] at c'
      have gb := g1.back (Zb := fun _ => False) (st' := s2.st) (by rw [e0]; exact b) (fun _ _ z => z) a (by rw [e0]; exact c')
      rw [e1] at gb
      have c2 := c'
      rw [zc_live] at c2 f
      exact h1 dd H' σ η' ω1 vs a gb ⟨c2.toStep, fun x z => c2.oth x (.inl z)⟩ d e f
  | ok d s2 =>
    simp only [q] at h1
    rintro v H' ⟨η', p', g', st', rv⟩
    have c' := st'
    rw [zc_live] at c'
    have gb := g1.back (Zb := fun _ => False) (st' := s2.st) (by rw [e0]; exact g') (fun _ _ z => z) p' (by rw [e0]; exact c')
    rw [e1] at gb
    rw [zc_live] at c' rv
    exact h1 v H' ⟨η', ω1, p', gb, ⟨c'.toStep, fun x z => c'.oth x (.inl z)⟩, rv⟩
theorem call_runO {σ : St} {H : Hp} {Q : VK} (h : liftO (gm X ca) EX (eCall G A) σ H Q) : liftG (gm X ca) EX relA A σ H fun vs H1 => spF (gm X ca) true G vs H1 Q (fun cls dd H' => EX cls dd σ H') := by
  obtain ⟨Z, η, ω, s, g, h⟩ := h
  refine go g h fun ds s1 vs H1 η1 ω1 p1 g1 st1 r1 h1 => ⟨Zc Z ω1, η1, ds, s1.st, g1.callee, by rw [zc_live]; exact r1, ?_⟩
  have e0 : (fun b => Zc Z ω1 b ∨ (fun _ : Addr => False) b) = Zc Z ω1 := by funext b; simp
  have e1 : (fun b => Z b ∨ (fun _ : Addr => False) b) = Z := by funext b; simp
  cases q : G ds s1.st with
  | bad => simp only [q] at h1; exact h1.elim
  | exc c p s2 =>
    simp only [q] at h1
    intro dd H' σ' η' ω' vs a b c d e f
    cases σ' with
    | cons x r => have := b.len; simp at this
    | nil =>
      obtain rfl : ω' = [] := by have := b.lenω; simpa using this
      have c' := c
      rw [zc_live] at c'
      have gb := g1.back (Zb := fun _ => False) (st' := s2.st) (by rw [e0]; exact b) (fun _ _ z => z) a (by rw [e0]; exact c')
      rw [e1] at gb
      have c2 := c'
      rw [zc_live] at c2 f
      exact h1 dd H' σ η' ω1 vs a gb ⟨c2.toStep, fun x z => c2.oth x (.inl z)⟩ d e f
  | ok d s2 =>
    simp only [q] at h1
    rintro v H' ⟨η', a, ea, nz, p', g', st', rv⟩
    have c' := st'
    rw [zc_live] at c'
    have gb := g1.back (Zb := fun b => b = a) (st' := s2.st) g' (fun b hb e => nz (.inr (e ▸ hb))) p' c'
    have c2 : Ste (Zc Z ω1) (Lv Z η1 ω1) H1 (Lv (fun b => Zc Z ω1 b ∨ b = a) η' []) H' := c'
    rw [back_live (Zb := fun b => b = a)] at c2
    have rv2 : ObOk (gm X ca) η' (Lv (fun b => Zc Z ω1 b ∨ b = a) η' []) H' a d := rv
    rw [back_live (Zb := fun b => b = a)] at rv2
    exact h1 v H' ⟨η', ω1, a, ea, fun z => nz (.inl z), p', gb, ⟨c2.toStep, fun x z => c2.oth x (.inl z)⟩, rv2⟩
variable {CX : CXT} {k : Nat} {f : Addr} {fd : FuncData} {ps : List Str} {x : Str} {p pos : Pos} {e : Expr} {es : List Expr}
theorem xe_call (F : FnG X.prog X.w X.K X.mg X.base CX k f fd ps (spF (gm X ca) false G)) (hr : RoomG k X.A) (hg : Gl X x) (hm : X.mg x = some (.ref f)) (hk : PySem.W.keepIn X.K (.ref f) = true) (hb : Binds X.K fd ps []) (hx : ∀ σ, PassesAt CX X σ (fun cls dd H' => EX cls dd σ H'))
    (ha : XA X ca EX (e :: es) A) (hdb : (x == ("__debug__" : Str)) = false := by decide) (he : starEach (e :: es) X.env = (false, eval e X.env) :: starEach es X.env := by rfl) (hpl : (backTo pos (starEach es X.env)).any (·.1) = false := by rfl) :
    XE X ca EX (.Call (.Name x p) (e :: es) [] pos) (eCall G A) := (pe_callG (E := fun σ cls dd H' => EX cls dd σ H') F hr hg hm hk hb hx ha hdb he hpl).weak fun σ H Q h => call_run h
theorem xo_call (F : FnG X.prog X.w X.K X.mg X.base CX k f fd ps (spF (gm X ca) true G)) (hr : RoomG k X.A) (hg : Gl X x) (hm : X.mg x = some (.ref f)) (hk : PySem.W.keepIn X.K (.ref f) = true) (hb : Binds X.K fd ps []) (hx : ∀ σ, PassesAt CX X σ (fun cls dd H' => EX cls dd σ H'))
    (ha : XA X ca EX (e :: es) A) (hdb : (x == ("__debug__" : Str)) = false := by decide) (he : starEach (e :: es) X.env = (false, eval e X.env) :: starEach es X.env := by rfl) (hpl : (backTo pos (starEach es X.env)).any (·.1) = false := by rfl) :
    XO X ca EX (.Call (.Name x p) (e :: es) [] pos) (eCall G A) := (pe_callG (E := fun σ cls dd H' => EX cls dd σ H') F hr hg hm hk hb hx ha hdb he hpl).weak fun σ H Q h => call_runO h
theorem passAt0 {σ : St} {E : XK} : PassesAt CX0 X σ E := fun _ _ _ _ _ _ h => h.elim
end
end VL
set_option Elab.async false
set_option linter.all false
set_option maxRecDepth 100000
set_option maxHeartbeats 4000000
namespace VL
open PySem L2

/-! ### plain data -/
mutual
def pd : D → Option PyData
  | .non => some .none
  | .bl b => some (.bool b)
  | .int i => some (.int i)
  | .str x => some (.str x)
  | .tup l => (pds l).map .tuple
  | .lst l => (pds l).map .list
  | .scr l => (pds l).map .list
  | .dK _ => none
  | .dT _ => none
  | .ins _ _ => none
  | .h _ => none
  | .raw _ => none
def pds : List D → Option (List PyData)
  | [] => some []
  | d :: ds => (pd d).bind fun p => (pds ds).map (p :: ·)
end
section
variable {Γ : Gm} {η : List Addr} {L : Addr → Prop} {H : Hp}
mutual
theorem Rp.dp : ∀ {v d p}, Rp Γ η L H v d → pd d = some p → Dp Γ.K H v p
  | _, _, _, .non, e => by simp [pd] at e; subst e; exact .non
  | _, _, _, .bl b, e => by simp [pd] at e; subst e; exact .bl b
  | _, _, _, .int i, e => by simp [pd] at e; subst e; exact .int i
  | _, _, _, .str x, e => by simp [pd] at e; subst e; exact .str x
  | _, _, _, .tup h r, e => by
    unfold pd at e
    obtain ⟨ps, q, rfl⟩ := Option.map_eq_some_iff.mp e
    exact .tup (h.elim SqT.of sqt0) (Rps.dp r q)
  | _, _, _, .lst h n r, e => by
    unfold pd at e
    obtain ⟨ps, q, rfl⟩ := Option.map_eq_some_iff.mp e
    exact .lst (SqL.of h) (Rps.dp r q)
  | _, _, _, .scr h r, e => by
    unfold pd at e
    obtain ⟨ps, q, rfl⟩ := Option.map_eq_some_iff.mp e
    exact .lst (h.elim (fun ⟨o, h, _⟩ => .inl (.inr ⟨o, h⟩)) sql0) (Rps.dp r q)
  | _, _, _, .dK .., e => by simp [pd] at e
  | _, _, _, .dT .., e => by simp [pd] at e
  | _, _, _, .ins .., e => by simp [pd] at e
  | _, _, _, .h _, e => by simp [pd] at e
  | _, _, _, .raw _, e => by simp [pd] at e
theorem Rps.dp : ∀ {v d p}, Rps Γ η L H v d → pds d = some p → DpAll Γ.K H v p
  | _, _, _, .nil, e => by simp [pds] at e; subst e; exact .nil
  | _, _, _, .cons a b, e => by
    unfold pds at e
    obtain ⟨p, q, e⟩ := Option.bind_eq_some_iff.mp e
    obtain ⟨ps, q2, rfl⟩ := Option.map_eq_some_iff.mp e
    exact .cons (Rp.dp a q) (Rps.dp b q2)
end
end
def fEqD (d e : D) : Option Bool := match pd d, pd e with
  | some p, some q => if SeqAt.shaped p && SeqAt.shaped q then some (PyData.eqv p q) else none
  | _, _ => none
/-- == : of texts any, of other data those that can be laid -/
def fEq (d e : D) : Option Bool := match d, e with
  | .str x, .str y => some (decide (x = y))
  | d, e => fEqD d e
def fNe (d e : D) : Option Bool := (fEq d e).map (!·)
def rEqA (K : PySem.W.Frag) : R2 := fun x y H Q => rEqD K x y H Q ∨ rEq x y H Q
def rNeA (K : PySem.W.Frag) : R2 := fun x y H Q => rNeD K x y H Q ∨ rNe x y H Q
def fNeD (d e : D) : Option Bool := (fEqD d e).map (!·)
section
variable {ca : Str → Addr} {K : PySem.W.Frag} {X : Cx} {EX : WX}
theorem fEqD_inv {d e : D} {b : Bool} (h : fEqD d e = some b) : ∃ p q, pd d = some p ∧ pd e = some q ∧ SeqAt.shaped p = true ∧ SeqAt.shaped q = true ∧ b = PyData.eqv p q := by
  unfold fEqD at h
  split at h
  · rename_i p q e1 e2
    split at h
    · rename_i hs
      rw [Bool.and_eq_true] at hs
      cases h
      exact ⟨p, q, e1, e2, hs.1, hs.2, rfl⟩
    · cases h
  · cases h
theorem map_bl {o : Option Bool} {res : D} (h : o.map D.bl = some res) : ∃ b, o = some b ∧ res = .bl b := by
  obtain ⟨b, e, q⟩ := Option.map_eq_some_iff.mp h
  exact ⟨b, e, q.symm⟩
theorem v_eqD : OpV ca K (rEqD K) fun d e => (fEqD d e).map D.bl := by
  intro η L H x y d e res Q hl rx ry h k
  try dsimp only at h
  obtain ⟨b, h2, rfl⟩ := map_bl h
  clear h
  have h := h2
  obtain ⟨p, q, e1, e2, s1, s2, rfl⟩ := fEqD_inv h
  exact ⟨p, q, rx.dp e1, ry.dp e2, s1, s2, k _ _ (fun _ _ z => z) (.bl _)⟩
theorem v_neD : OpV ca K (rNeD K) fun d e => (fNeD d e).map D.bl := by
  intro η L H x y d e res Q hl rx ry h k
  try dsimp only at h
  obtain ⟨b, h2, rfl⟩ := map_bl h
  obtain ⟨b, h3, rfl⟩ := Option.map_eq_some_iff.mp h2
  obtain ⟨p, q, e1, e2, s1, s2, rfl⟩ := fEqD_inv h3
  exact ⟨p, q, rx.dp e1, ry.dp e2, s1, s2, k _ _ (fun _ _ z => z) (.bl _)⟩
/-! ### + - * // % ** -/
def fAdd : D → D → Option D
  | .int i, .int j => some (.int (i + j))
  | .str x, .str y => if x.length + y.length ≤ sizeLine then some (.str (x ++ y)) else none
  | .tup xs, .tup ys => if xs.length + ys.length ≤ sizeLine then some (.tup (xs ++ ys)) else none
  | .lst xs, .lst ys => if xs.length + ys.length ≤ sizeLine then some (.lst (xs ++ ys)) else none
  | _, _ => none
def rAddA (K : PySem.W.Frag) : R2 := fun x y H Q => rI0 (fun i j => .int (i + j)) x y H Q ∨ ((∃ i j : Str, x = .str i ∧ y = .str j ∧ i.length + j.length ≤ sizeLine ∧ Q (.str (i ++ j)) H) ∨ (rCatA K x y H Q ∨ rCat x y H Q))
theorem o_addA : OpR X (binaryOp .Add) (rAddA X.K) := opR_or op_add (opR_or op_add_str (opR_or op_catA op_cat))
theorem rps_nil {Γ : Gm} {η : List Addr} {L : Addr → Prop} {H : Hp} {xs : List V} {ds : List D} (r : Rps Γ η L H xs ds) : xs = [] ↔ ds = [] := by
  cases r <;> simp
theorem o_cat : OpO ca K rCat fun d e => match d, e with
    | .lst xs, .lst ys => if xs.length + ys.length ≤ sizeLine then some (.lst (xs ++ ys)) else none
    | _, _ => none := by
  intro η L H x y d e res Q hl rx ry h k
  try dsimp only at h
  split at h
  · rename_i xs ys
    split at h
    · rename_i hz
      cases h
      obtain ⟨a, us, rfl, h1, n1, r1⟩ := rx.seqL
      obtain ⟨b, ws, rfl, h2, n2, r2⟩ := ry.seqL
      exact ⟨a, b, us, ws, rfl, rfl, h1, h2, by rw [r1.length, r2.length]; exact hz, fun p hp => k p _ hp (ex_new hp) ⟨_, upd_same, (r1.append r2).step (stepL hp (ex_new hp)) (List.prefix_refl _)⟩⟩
    · cases h
  · cases h
theorem v_add : OpV ca K (rAddA K) fAdd := by
  intro η L H x y d e res Q hl rx ry h k
  try dsimp only at h
  unfold fAdd at h
  split at h
  · cases rx; cases ry; cases h
    exact .inl ⟨_, _, rfl, rfl, k _ _ (fun _ _ z => z) (.int _)⟩
  · cases rx; cases ry
    split at h
    · rename_i hz
      cases h
      exact .inr (.inl ⟨_, _, rfl, rfl, hz, k _ _ (fun _ _ z => z) (.str _)⟩)
    · cases h
  · rename_i xs ys
    split at h
    · rename_i hz
      cases h
      obtain ⟨a, us, rfl, h1, r1⟩ := rx.seqT
      obtain ⟨b, ws, rfl, h2, r2⟩ := ry.seqT
      refine .inr (.inr (.inl ⟨a, b, us, ws, rfl, rfl, h1, h2, by rw [r1.length, r2.length]; exact hz, fun z => ?_, fun _ z => ?_, fun _ _ p hp => ?_⟩))
      · have : xs = [] := (rps_nil r1).mp z
        subst this
        exact k _ _ (fun _ _ z => z) ry
      · have : ys = [] := (rps_nil r2).mp z
        subst this
        rw [List.append_nil] at k
        exact k _ _ (fun _ _ z => z) rx
      · exact k _ _ (ex_new hp) (.tup (.inl upd_same) ((r1.append r2).step (Step.ex (ex_new hp)) (List.prefix_refl _)))
    · cases h
  · exact .inr (.inr (.inr (o_cat.v hl rx ry h k)))
  · cases h
def fSub : D → D → Option D
  | .int i, .int j => some (.int (i - j))
  | _, _ => none
theorem v_sub : OpV ca K (rI0 fun i j => .int (i - j)) fSub := by
  intro η L H x y d e res Q hl rx ry h k
  try dsimp only at h
  unfold fSub at h
  split at h
  · cases rx; cases ry; cases h
    exact ⟨_, _, rfl, rfl, k _ _ (fun _ _ z => z) (.int _)⟩
  · cases h
/-- together below a million bits -/
def mulOk (i j : Int) : Bool := decide (i.natAbs.log2 + j.natAbs.log2 < 1000000)
theorem mulOk_ok {i j : Int} (h : mulOk i j = true) : CMulW i j := by
  unfold mulOk at h
  have h := of_decide_eq_true h
  exact h
def fMul : D → D → Option D
  | .int i, .int j => if mulOk i j then some (.int (i * j)) else none
  | .lst xs, .int k => if 0 ≤ k ∧ k < 2 ^ 63 ∧ xs.length * k.toNat ≤ sizeLine then some (.lst (List.replicate k.toNat xs).flatten) else none
  | _, _ => none
def rMulA : R2 := fun x y H Q => rI CMulW (fun i j => .int (i * j)) x y H Q ∨ rRep x y H Q
theorem o_mulA : OpR X (binaryOp .Mult) rMulA := opR_or op_mulW op_rep
theorem Rps.rep {Γ : Gm} {η : List Addr} {L : Addr → Prop} {H : Hp} {xs : List V} {ds : List D} (r : Rps Γ η L H xs ds) : ∀ n, Rps Γ η L H (List.replicate n xs).flatten (List.replicate n ds).flatten
  | 0 => .nil
  | n + 1 => by rw [List.replicate_succ, List.replicate_succ, List.flatten_cons, List.flatten_cons]; exact r.append (Rps.rep r n)
theorem v_mul : OpV ca K rMulA fMul := by
  intro η L H x y d e res Q hl rx ry h k
  try dsimp only at h
  unfold fMul at h
  split at h
  · cases rx; cases ry
    split at h
    · rename_i hz
      cases h
      exact .inl ⟨_, _, rfl, rfl, mulOk_ok hz, k _ _ (fun _ _ z => z) (.int _)⟩
    · cases h
  · split at h
    · rename_i hz
      cases h
      cases ry
      obtain ⟨a, us, rfl, h1, n1, r1⟩ := rx.seqL
      exact .inr ⟨a, _, us, rfl, rfl, h1, by omega, hz.2.1, by rw [r1.length]; exact hz.2.2, fun p hp => k _ _ (ex_new hp) (.lst upd_same (fun z => hl p z hp) ((r1.rep _).step (Step.ex (ex_new hp)) (List.prefix_refl _)))⟩
    · cases h
  · cases h
def divOk (j : Int) : Bool := decide (0 < j) && decide (j.natAbs.log2 < 9000)
def fDiv : D → D → Option D
  | .int i, .int j => if divOk j then some (.int (i / j)) else none
  | _, _ => none
theorem v_div : OpV ca K (rI CDivW fun i j => .int (i / j)) fDiv := by
  intro η L H x y d e res Q hl rx ry h k
  try dsimp only at h
  unfold fDiv at h
  split at h
  · cases rx; cases ry
    split at h
    · rename_i hz
      cases h
      unfold divOk at hz
      rw [Bool.and_eq_true, decide_eq_true_eq, decide_eq_true_eq] at hz
      exact ⟨_, _, rfl, rfl, hz, k _ _ (fun _ _ z => z) (.int _)⟩
    · cases h
  · cases h
def fMod : D → D → Option D
  | .int i, .int j => if 0 < j then some (.int (i % j)) else none
  | _, _ => none
theorem v_mod : OpV ca K (rI (fun _ j => j ≠ 0) fun i j => .int (i.fmod j)) fMod := by
  intro η L H x y d e res Q hl rx ry h k
  try dsimp only at h
  unfold fMod at h
  split at h
  · cases rx; cases ry
    split at h
    · rename_i hz
      cases h
      refine ⟨_, _, rfl, rfl, by omega, ?_⟩
      dsimp only
      rw [Int.fmod_eq_emod_of_nonneg _ (by omega)]
      exact k _ _ (fun _ _ z => z) (.int _)
    · cases h
  · cases h
def fPow : D → D → Option D
  | .int i, .int j => if 0 ≤ j ∧ j ≤ 1000000 ∧ i.natAbs < 2 ^ 64 then some (.int (i ^ j.toNat)) else none
  | _, _ => none
theorem v_pow : OpV ca K (rI CPow fun i j => .int (i ^ j.toNat)) fPow := by
  intro η L H x y d e res Q hl rx ry h k
  try dsimp only at h
  unfold fPow at h
  split at h
  · cases rx; cases ry
    split at h
    · rename_i hz
      cases h
      exact ⟨_, _, rfl, rfl, hz, k _ _ (fun _ _ z => z) (.int _)⟩
    · cases h
  · cases h
/-! ### < <= > >= -/
def fCmpI (f : Int → Int → Bool) : D → D → Option Bool
  | .int i, .int j => some (f i j)
  | _, _ => none
theorem v_cmpI (f : Int → Int → Bool) : OpV ca K (rI0 fun i j => .bl (f i j)) fun d e => (fCmpI f d e).map D.bl := by
  intro η L H x y d e res Q hl rx ry h k
  try dsimp only at h
  unfold fCmpI at h
  split at h
  · cases rx; cases ry; cases h
    exact ⟨_, _, rfl, rfl, k _ _ (fun _ _ z => z) (.bl _)⟩
  · cases h
/-! ### is -/
def fIsN : D → D → Option Bool
  | d, .non => match d with
    | .non => some true
    | .raw _ => none
    | _ => some false
  | _, _ => none
def rIsNv : R2 := fun x y H Q => y = .non ∧ Q (.bl (decide (x = .non))) H
def rNotNv : R2 := fun x y H Q => y = .non ∧ Q (.bl (!decide (x = .non))) H
theorem v_isN : OpV ca K rIsNv fun d e => (fIsN d e).map D.bl := by
  intro η L H x y d e res Q hl rx ry h k
  try dsimp only at h
  unfold fIsN at h
  split at h
  · cases ry
    refine ⟨rfl, ?_⟩
    cases rx <;> simp at h <;> subst h <;> exact k _ _ (fun _ _ z => z) (by simp; exact .bl _)
  · cases h
theorem v_notN : OpV ca K rNotNv fun d e => ((fIsN d e).map (!·)).map D.bl := by
  intro η L H x y d e res Q hl rx ry h k
  try dsimp only at h
  unfold fIsN at h
  split at h
  · cases ry
    refine ⟨rfl, ?_⟩
    cases rx <;> simp at h <;> subst h <;> exact k _ _ (fun _ _ z => z) (by simp; exact .bl _)
  · cases h
/-- x is None; x is True (of truth values) -/
def fIs : D → D → Option Bool
  | .bl a, .bl b => some (decide (a = b))
  | d, .non => fIsN d .non
  | _, _ => none
def fIsNot (d e : D) : Option Bool := (fIs d e).map (!·)
def rIsA : R2 := fun x y H Q => rIsB x y H Q ∨ rIsNv x y H Q
def rNotA : R2 := fun x y H Q => rNotB x y H Q ∨ rNotNv x y H Q
theorem o_is : OpR X (compareOp .Is) rIsA := opR_or op_isBl op_isN
theorem o_isnot : OpR X (compareOp .IsNot) rNotA := opR_or op_notBl op_notN
theorem v_is : OpV ca K rIsA fun d e => (fIs d e).map D.bl := by
  intro η L H x y d e res Q hl rx ry h k
  try dsimp only at h
  unfold fIs at h
  split at h
  · cases rx; cases ry; cases h
    exact .inl ⟨_, _, rfl, rfl, k _ _ (fun _ _ z => z) (.bl _)⟩
  · exact .inr (v_isN hl rx ry h k)
  · cases h
theorem v_isnot : OpV ca K rNotA fun d e => (fIsNot d e).map D.bl := by
  intro η L H x y d e res Q hl rx ry h k
  try dsimp only at h
  unfold fIsNot fIs at h
  split at h
  · cases rx; cases ry; cases h
    exact .inl ⟨_, _, rfl, rfl, k _ _ (fun _ _ z => z) (.bl _)⟩
  · exact .inr (v_notN hl rx ry h k)
  · cases h
end
end VL
set_option Elab.async false
set_option linter.all false
set_option maxRecDepth 100000
set_option maxHeartbeats 4000000
namespace VL
open PySem L2

section
variable {ca : Str → Addr} {K : PySem.W.Frag} {X : Cx} {EX : WX} {a b c e o : Expr} {es : List Expr} {F G : EF} {A : AF} {pos : Pos}
/-! ### in -/
def flatD : D → Bool
  | .non => true
  | .bl _ => true
  | .int _ => true
  | .str _ => true
  | _ => false
def eqF : D → D → Bool
  | .non, .non => true
  | .bl a, .bl b => a == b
  | .bl a, .int b => (if a then 1 else 0) == b
  | .int a, .bl b => a == (if b then 1 else 0)
  | .int a, .int b => a == b
  | .str a, .str b => a == b
  | _, _ => false
def inD (x : D) (xs : List D) : Bool := xs.any fun y => eqF y x
/-- x in a list or tuple of flat things; a text in a text -/
def fIn : D → D → Option Bool
  | x, .lst xs => if flatD x && xs.all flatD then some (inD x xs) else none
  | x, .tup xs => if flatD x && xs.all flatD then some (inD x xs) else none
  | x, .scr xs => if flatD x && xs.all flatD then some (inD x xs) else none
  | .str x, .str y => some (!(Builtin.Str.occurrences y x 0 y.length 1).isEmpty)
  | _, _ => none
def fNotIn (d e : D) : Option Bool := (fIn d e).map (!·)
theorem flat_rp {Γ : Gm} {η : List Addr} {L : Addr → Prop} {H : Hp} {v : V} {d : D} (r : Rp Γ η L H v d) (h : flatD d = true) : flatV v = true := by
  cases r <;> simp [flatD] at h <;> rfl
theorem flat_rps {Γ : Gm} {η : List Addr} {L : Addr → Prop} {H : Hp} : ∀ {vs : List V} {ds : List D}, Rps Γ η L H vs ds → ds.all flatD = true → vs.all flatV = true
  | _, _, .nil, _ => rfl
  | _, _, .cons a b, h => by
    rw [List.all_cons, Bool.and_eq_true] at h ⊢
    exact ⟨flat_rp a h.1, flat_rps b h.2⟩
theorem eqF_rp {Γ : Gm} {η : List Addr} {L : Addr → Prop} {H : Hp} {v w : V} {d e : D} (r : Rp Γ η L H v d) (q : Rp Γ η L H w e) (h : flatD d = true) (h' : flatD e = true) : eqV v w = eqF d e := by
  cases r <;> simp [flatD] at h <;> cases q <;> simp [flatD] at h' <;> rfl
theorem inD_rp {Γ : Gm} {η : List Addr} {L : Addr → Prop} {H : Hp} {v : V} {d : D} (r : Rp Γ η L H v d) (h : flatD d = true) : ∀ {vs : List V} {ds : List D}, Rps Γ η L H vs ds → ds.all flatD = true → inV v vs = inD d ds
  | _, _, .nil, _ => rfl
  | _, _, .cons a b, h2 => by
    rw [List.all_cons, Bool.and_eq_true] at h2
    have := inD_rp r h b h2.2
    unfold inV inD at this ⊢
    rw [List.any_cons, List.any_cons, this, eqF_rp a r h2.1 h]
def rInA (K : PySem.W.Frag) (neg : Bool) : R2 := fun x y H Q => rIn K neg x y H Q ∨ ∃ i j, x = .str i ∧ y = .str j ∧ Q (.bl (if neg then !!(Builtin.Str.occurrences j i 0 j.length 1).isEmpty else !(Builtin.Str.occurrences j i 0 j.length 1).isEmpty)) H
theorem o_in : OpR X (compareOp .In) (rInA X.K false) := opR_or op_in_seq op_in_str
theorem o_notin : OpR X (compareOp .NotIn) (rInA X.K true) := opR_or op_notIn_seq op_notin_str
theorem in_run {neg : Bool} {η : List Addr} {L : Addr → Prop} {H : Hp} {x y : V} {d e : D} {r : Bool} {Q : VK} (rx : Rp ⟨K, ca⟩ η L H x d) (ry : Rp ⟨K, ca⟩ η L H y e) (h : fIn d e = some r) (q : Q (.bl (if neg then !r else r)) H) : rInA K neg x y H Q := by
  unfold fIn at h
  split at h
  · split at h
    · rename_i hf
      rw [Bool.and_eq_true] at hf
      cases h
      obtain ⟨a, xs, rfl, h1, _, r1⟩ := ry.seqL
      refine .inl ⟨a, xs, rfl, .inl (SqL.of h1), flat_rp rx hf.1, flat_rps r1 hf.2, ?_⟩
      rw [inD_rp rx hf.1 r1 hf.2]; exact q
    · cases h
  · split at h
    · rename_i hf
      rw [Bool.and_eq_true] at hf
      cases h
      obtain ⟨a, xs, rfl, h1, r1⟩ := ry.seqT
      refine .inl ⟨a, xs, rfl, .inr h1, flat_rp rx hf.1, flat_rps r1 hf.2, ?_⟩
      rw [inD_rp rx hf.1 r1 hf.2]; exact q
    · cases h
  · split at h
    · rename_i hf
      rw [Bool.and_eq_true] at hf
      cases h
      obtain ⟨a, xs, rfl, h1, r1⟩ := ry.seqF
      refine .inl ⟨a, xs, rfl, .inl h1, flat_rp rx hf.1, flat_rps r1 hf.2, ?_⟩
      rw [inD_rp rx hf.1 r1 hf.2]; exact q
    · cases h
  · cases rx; cases ry
    cases h
    exact .inr ⟨_, _, rfl, rfl, q⟩
  · cases h
theorem v_in : OpV ca K (rInA K false) fun d e => (fIn d e).map D.bl := by
  intro η L H x y d e res Q hl rx ry h k
  obtain ⟨b, h2, rfl⟩ := map_bl h
  exact in_run rx ry h2 (k _ _ (fun _ _ z => z) (.bl _))
theorem v_notin : OpV ca K (rInA K true) fun d e => (fNotIn d e).map D.bl := by
  intro η L H x y d e res Q hl rx ry h k
  obtain ⟨b, h2, rfl⟩ := map_bl h
  obtain ⟨b, h3, rfl⟩ := Option.map_eq_some_iff.mp h2
  exact in_run rx ry h3 (k _ _ (fun _ _ z => z) (.bl _))

/-! ### xs[i], d[k] -/
def keyD : D → Option Key
  | .int i => some (.inl i)
  | .str x => some (.inr x)
  | _ => none
def keysD : List D → Option (List Key)
  | [] => some []
  | d :: ds => (keyD d).bind fun k => (keysD ds).map (k :: ·)
def look {κ : Type} [DecidableEq κ] (kvs : List (κ × D)) (k : κ) : Option D := (kvs.find? fun kv => decide (kv.1 = k)).map (·.2)
/-- d[k] -/
def dget : D → D → Option (Option D)
  | .dK kvs, d => (keyD d).map fun k => look kvs k
  | _, _ => none
def fIx : D → D → Option D
  | .lst xs, .int i => atI xs i
  | .tup xs, .int i => atI xs i
  | .scr xs, .int i => atI xs i
  | .str z, .int i => if z.length ≤ sizeLine then (atI z.cps.toList i).map fun c => .str ⟨#[c]⟩ else none
  | d, k => (dget d k).bind id
theorem atI_rp {Γ : Gm} {η : List Addr} {L : Addr → Prop} {H : Hp} {xs : List V} {ds : List D} {i : Int} {d : D} (r : Rps Γ η L H xs ds) (h : atI ds i = some d) : ∃ v, atI xs i = some v ∧ Rp Γ η L H v d := by
  unfold atI at h ⊢
  rw [r.length]
  cases q : ixN ds.length i with
  | none => rw [q] at h; cases h
  | some j => rw [q] at h; exact r.get h
theorem key_rp {Γ : Gm} {η : List Addr} {L : Addr → Prop} {H : Hp} {v : V} {d : D} {k : Key} (r : Rp Γ η L H v d) (h : keyD d = some k) : v = kV k := by
  cases r <;> simp [keyD] at h <;> subst h <;> rfl
theorem keys_rp {Γ : Gm} {η : List Addr} {L : Addr → Prop} {H : Hp} : ∀ {vs : List V} {ds : List D} {ks : List Key}, Rps Γ η L H vs ds → keysD ds = some ks → vs = ks.map kV
  | _, _, _, .nil, h => by simp [keysD] at h; subst h; rfl
  | _, _, _, .cons a b, h => by
    unfold keysD at h
    obtain ⟨k, q, h⟩ := Option.bind_eq_some_iff.mp h
    obtain ⟨ks, q2, rfl⟩ := Option.map_eq_some_iff.mp h
    rw [keys_rp b q2, key_rp a q]; rfl
theorem look_rp {κ : Type} [DecidableEq κ] {Γ : Gm} {η : List Addr} {L : Addr → Prop} {H : Hp} (k : κ) : ∀ {kvs : List (κ × V)} {kds : List (κ × D)}, kvs.map (·.1) = kds.map (·.1) → Rps Γ η L H (kvs.map (·.2)) (kds.map (·.2)) →
    (valV kvs k = none ∧ look kds k = none) ∨ ∃ v d, valV kvs k = some v ∧ look kds k = some d ∧ Rp Γ η L H v d
  | [], [], _, _ => .inl ⟨rfl, rfl⟩
  | [], _ :: _, h, _ => by simp at h
  | _ :: _, [], h, _ => by simp at h
  | (k1, v) :: kvs, (k2, d) :: kds, h, r => by
    simp only [List.map_cons, List.cons.injEq] at h
    obtain ⟨rfl, h⟩ := h
    cases r with
    | cons a b =>
      unfold valV look
      rw [List.find?_cons, List.find?_cons]
      by_cases e : k1 = k
      · simp only [e, decide_true]
        exact .inr ⟨v, d, rfl, rfl, a⟩
      · simp only [e, decide_false]
        exact look_rp k h b
/-- a key tuple must have been made by the program -/
theorem Rp.tupH {Γ : Gm} {η : List Addr} {L : Addr → Prop} {H : Hp} {v : V} {ds : List D} (r : Rp Γ η L H v (.tup ds)) : ∃ a xs, v = .ref a ∧ (H a = some (.tup xs) ∨ SqT Γ.K Hp0 a xs) ∧ Rps Γ η L H xs ds := by
  cases r with
  | tup h r => exact ⟨_, _, rfl, h, r⟩
theorem Rp.dKey {Γ : Gm} {η : List Addr} {L : Addr → Prop} {H : Hp} {v : V} {kds : List (Key × D)} (r : Rp Γ η L H v (.dK kds)) : ∃ a kvs, v = .ref a ∧ Rd H a (.dK kvs) ∧ ¬ L a ∧ kvs.map (·.1) = kds.map (·.1) ∧ Rps Γ η L H (kvs.map (·.2)) (kds.map (·.2)) := by
  cases r with
  | dK h u n e r =>
    rename_i a o kvs
    refine ⟨a, kvs, rfl, ?_, n, e, r⟩
    unfold unf at u
    split at u
    · cases u; exact .inr ⟨_, h⟩
    · cases u
    · subst u; exact .inl h
end
/-! ### places: data, or a slot's own thing -/
/-- nothing -/
abbrev nil : D := .raw .non
inductive Pl where
  | d (d : D) | sl (i : Nat)
def deref (st : List D) : D → D
  | .h n => st.getD n nil
  | d => d
/-- what is at a place now -/
def at_ (s : Fr) : Pl → D
  | .d d => deref s.st d
  | .sl i => match s.env[i]? with
    | some (.own d) => d
    | some (.val d) => deref s.st d
    | _ => nil
def relPl (σ : St) : RelT Pl V := fun Γ η L H p v => match p with
  | .d d => Rp Γ η L H v d
  | .sl i => σ[i]? = some (some v)
def Rq (Γ : Gm) (η : List Addr) (L : Addr → Prop) (H : Hp) (v : V) (d : D) : Prop := Rp Γ η L H v d ∨ ∃ a, v = .ref a ∧ ObOk Γ η L H a d
section
variable {Γ : Gm} {Z : Addr → Prop} {σ : St} {η η1 : List Addr} {ω ω1 : List (Option Addr)} {L : Addr → Prop} {H H1 : Hp} {s : Fr} {v : V} {d : D} {ds : List D}
theorem Good.deref (g : Good Γ Z η ω σ H s) (r : Rp Γ η (Lv Z η ω) H v d) : Rq Γ η (Lv Z η ω) H v (VL.deref s.st d) := by
  cases r with
  | h e =>
    rename_i a n
    have hn : n < s.st.length := by rw [g.stl]; exact (List.getElem?_eq_some_iff.mp e).1
    obtain ⟨b, h1, h2⟩ := g.hs n s.st[n] (List.getElem?_eq_getElem hn)
    rw [e] at h1
    cases h1
    refine .inr ⟨a, rfl, ?_⟩
    show ObOk Γ η (Lv Z η ω) H a (s.st.getD n nil)
    rw [List.getD_eq_getElem?_getD, List.getElem?_eq_getElem hn]
    exact h2
  | non => exact .inl .non
  | bl b => exact .inl (.bl b)
  | int i => exact .inl (.int i)
  | str x => exact .inl (.str x)
  | tup h r => exact .inl (.tup h r)
  | lst h n r => exact .inl (.lst h n r)
  | scr h r => exact .inl (.scr h r)
  | dK h u n e r => exact .inl (.dK h u n e r)
  | dT h u n e r => exact .inl (.dT h u n e r)
  | ins h n e r => exact .inl (.ins h n e r)
  | raw v => exact .inl (.raw v)
theorem relPl_step {p : Pl} (st : Step (Lv Z η ω) H (Lv Z η1 ω1) H1) (pr : η <+: η1) (r : relPl σ Γ η (Lv Z η ω) H p v) : relPl σ Γ η1 (Lv Z η1 ω1) H1 p v := by
  cases p with
  | d d => exact Rp.step st pr r
  | sl i => exact r
/-- what stands at a place, if something stands there -/
theorem Good.at (g : Good Γ Z η ω σ H s) {p : Pl} (r : relPl σ Γ η (Lv Z η ω) H p v) : Rq Γ η (Lv Z η ω) H v (at_ s p) ∨ at_ s p = nil := by
  cases p with
  | d d => exact .inl (g.deref r)
  | sl i =>
    have r : σ[i]? = some (some v) := r
    show Rq Γ η (Lv Z η ω) H v (match s.env[i]? with | some (.own d) => d | some (.val d) => VL.deref s.st d | _ => nil) ∨ (match s.env[i]? with | some (.own d) => d | some (.val d) => VL.deref s.st d | _ => nil) = nil
    cases q : s.env[i]? with
    | none => exact .inr rfl
    | some sl =>
      cases sl with
      | no => exact .inr rfl
      | val d =>
        obtain ⟨v', h1, h2⟩ := g.val i d q
        rw [r] at h1
        cases h1
        exact .inl (g.deref h2)
      | own d =>
        obtain ⟨a, h1, h2, h3⟩ := g.own i d q
        rw [r] at h1
        cases h1
        exact .inl (.inr ⟨a, rfl, h3⟩)
theorem Rq.seqT (r : Rq Γ η L H v (.tup ds)) : ∃ a xs, v = .ref a ∧ SqT Γ.K H a xs ∧ Rps Γ η L H xs ds := by
  rcases r with r | ⟨a, rfl, h⟩
  · exact r.seqT
  · exact h.elim
theorem Rq.seqL (r : Rq Γ η L H v (.lst ds)) : ∃ a xs, v = .ref a ∧ H a = some (.lst xs) ∧ Rps Γ η L H xs ds := by
  rcases r with r | ⟨a, rfl, xs, h, r⟩
  · obtain ⟨a, xs, e, h, _, r⟩ := r.seqL; exact ⟨a, xs, e, h, r⟩
  · exact ⟨a, xs, rfl, h, r⟩
theorem Rq.seqF (r : Rq Γ η L H v (.scr ds)) : ∃ a xs, v = .ref a ∧ SqL Γ.K H a xs ∧ Rps Γ η L H xs ds := by
  rcases r with r | ⟨a, rfl, h⟩
  · exact r.seqF
  · exact h.elim
theorem Rq.str {x : Str} (r : Rq Γ η L H v (.str x)) : v = .str x := by
  rcases r with r | ⟨a, rfl, h⟩
  · cases r; rfl
  · exact h.elim
theorem Rq.dKey {kds : List (Key × D)} (r : Rq Γ η L H v (.dK kds)) : ∃ a kvs, v = .ref a ∧ Rd H a (.dK kvs) ∧ kvs.map (·.1) = kds.map (·.1) ∧ Rps Γ η L H (kvs.map (·.2)) (kds.map (·.2)) := by
  rcases r with r | ⟨a, rfl, kvs, h, e, r⟩
  · obtain ⟨a, kvs, e, h, _, k, r⟩ := r.dKey; exact ⟨a, kvs, e, h, k, r⟩
  · exact ⟨a, kvs, rfl, .inl h, e, r⟩
end
section
variable {ca : Str → Addr} {K : PySem.W.Frag} {X : Cx} {EX : WX} {a b c e o : Expr} {es : List Expr} {F G : EF} {A : AF} {pos : Pos} {P P' : Fr → Res Pl}
def XPl (X : Cx) (ca : Str → Addr) (EX : WX) (e : Expr) (P : Fr → Res Pl) : Prop := PE X e (fun σ H Q => liftG (gm X ca) EX (relPl σ) P σ H Q)
def pOf (F : EF) : Fr → Res Pl := fun s => (F s).bind fun d s1 => .ok (.d d) s1
def pSl (i : Nat) : Fr → Res Pl := fun s => match s.env[i]? with
  | some (.own _) => .ok (.sl i) s
  | some (.val _) => .ok (.sl i) s
  | _ => .bad
theorem xpl_of (h : XE X ca EX e F) : XPl X ca EX e (pOf F) := PE.weak h fun σ H Q ⟨Z, η, ω, s, g, h⟩ =>
  go g h fun d s1 x H1 η1 ω1 p1 g1 st1 r1 h1 => h1.fin g1 (fun _ _ z => z) r1
theorem xpl_sl {i : Nat} {x : Str} {pos : Pos} (h : PE X (.Name x pos) (tVar i)) : XPl X ca EX (.Name x pos) (pSl i) := h.weak fun σ H Q ⟨Z, η, ω, s, g, r⟩ => by
  unfold pSl at r
  cases q : s.env[i]? with
  | none => rw [q] at r; exact r.elim
  | some sl =>
    rw [q] at r
    cases sl with
    | no => exact r.elim
    | val d =>
      obtain ⟨v, h1, h2⟩ := g.val i d q
      exact ⟨v, h1, r.fin g (fun _ _ z => z) h1⟩
    | own d =>
      obtain ⟨a, h1, h2, h3⟩ := g.own i d q
      exact ⟨_, h1, r.fin g (fun _ _ z => z) h1⟩
/-- a place, then what stands there is read -/
def eRd (f : D → Option D) (P : Fr → Res Pl) : EF := fun s => (P s).bind fun p s1 => .of (f (at_ s1 p)) s1
def eRd2 (f : D → D → Option D) (P : Fr → Res Pl) (G : EF) : EF := fun s => (P s).bind fun p s1 => (G s1).bind fun e s2 => .of (f (at_ s2 p) e) s2
theorem dget_run {Γ : Gm} {η : List Addr} {L : Addr → Prop} {H : Hp} {x y : V} {d e : D} {o : Option D} (rx : Rq Γ η L H x d) (ry : Rp Γ η L H y e) (h : dget d e = some o) : ∃ a r, x = .ref a ∧ DGet H a y r ∧ ((r = none ∧ o = none) ∨ ∃ v d, r = some v ∧ o = some d ∧ Rp Γ η L H v d) := by
  unfold dget at h
  split at h
  · obtain ⟨k, hk, rfl⟩ := Option.map_eq_some_iff.mp h
    obtain ⟨a, kvs, rfl, h1, e1, r1⟩ := rx.dKey
    exact ⟨a, valV kvs k, rfl, .inl ⟨kvs, k, h1, key_rp ry hk, rfl⟩, look_rp k e1 r1⟩
  · cases h
theorem fIx_non {e : D} : fIx nil e = none := by
  unfold fIx
  split <;> first | rfl | contradiction | (rename_i h; cases h)
/-- goes on, the place's thing known to be there -/
theorem xe_ix (hu : X.A.units + 1 < cLine) (ha : XPl X ca EX a P) (hb : XE X ca EX b G) (hi : PlainIx b := by exact fun _ _ => rfl) (hn : NoSl b := by exact fun _ _ => rfl) : XE X ca EX (.Subscript a b pos) (eRd2 fIx P G) := ((pe_ix ix_seq ha hb hi).or (pe_dget hu ha hb hn)).weak fun σ H Q h => by
  obtain ⟨Z, η, ω, s, g, h⟩ := h
  by_cases hd : ∃ p s1 e s2 kvs, P s = .ok p s1 ∧ G s1 = .ok e s2 ∧ at_ s2 p = .dK kvs
  · obtain ⟨p', s1', e', s2', kvs, es, es2, ed⟩ := hd
    refine .inr (go' g h fun d s1 x H1 η1 ω1 eq p1 g1 st1 r1 h1 => go' g1 h1 fun e s2 y H2 η2 ω2 eq2 p2 g2 st2 r2 h2 => ?_)
    rw [es] at eq
    cases eq
    rw [es2] at eq2
    cases eq2
    rw [ed] at h2
    cases q : fIx (.dK kvs) e' with
    | none => rw [q] at h2; exact h2.elim
    | some res =>
      rw [q] at h2
      have q : (dget (.dK kvs) e').bind id = some res := by
        unfold fIx at q
        split at q <;> first | exact q | contradiction
      obtain ⟨o, q1, q2⟩ := Option.bind_eq_some_iff.mp q
      have ra := g2.at (relPl_step st2.toStep p2 r1)
      rw [ed] at ra
      rcases ra with ra | ra
      · obtain ⟨a, r, ea, hg, hr⟩ := dget_run ra r2 q1
        rcases hr with ⟨_, rfl⟩ | ⟨v, d, rfl, rfl, rv⟩
        · cases q2
        · cases q2
          exact ⟨a, v, ea, hg, h2.fin g2 (fun _ _ z => z) rv⟩
      · cases ra
  · refine .inl (go' g h fun d s1 x H1 η1 ω1 eq p1 g1 st1 r1 h1 => go' g1 h1 fun e s2 y H2 η2 ω2 eq2 p2 g2 st2 r2 h2 => ?_)
    have nd : ∀ kvs, at_ s2 d ≠ .dK kvs := fun kvs z => hd ⟨_, _, _, _, kvs, eq, eq2, z⟩
    have ra := g2.at (relPl_step st2.toStep p2 r1)
    generalize at_ s2 d = c at h2 nd ra
    cases q : fIx c e with
    | none => rw [q] at h2; exact h2.elim
    | some res =>
      rw [q] at h2
      rcases ra with r1 | rfl
      · unfold fIx at q
        split at q
        · cases r2
          obtain ⟨a, xs, rfl, ha, r⟩ := Rq.seqL r1
          obtain ⟨v, e1, rv⟩ := atI_rp r q
          exact .inl ⟨a, xs, _, v, rfl, rfl, SqL.of ha, e1, h2.fin g2 (fun _ _ z => z) rv⟩
        · cases r2
          obtain ⟨a, xs, rfl, ha, r⟩ := Rq.seqT r1
          obtain ⟨v, e1, rv⟩ := atI_rp r q
          exact .inr (.inl ⟨a, xs, _, v, rfl, rfl, ha, e1, h2.fin g2 (fun _ _ z => z) rv⟩)
        · cases r2
          obtain ⟨a, xs, rfl, ha, r⟩ := Rq.seqF r1
          obtain ⟨v, e1, rv⟩ := atI_rp r q
          exact .inl ⟨a, xs, _, v, rfl, rfl, ha, e1, h2.fin g2 (fun _ _ z => z) rv⟩
        · cases Rq.str r1; cases r2
          split at q
          · rename_i hz
            obtain ⟨c, e1, rfl⟩ := Option.map_eq_some_iff.mp q
            exact .inr (.inr ⟨_, _, c, rfl, rfl, hz, e1, h2.fin g2 (fun _ _ z => z) (.str _)⟩)
          · cases q
        · obtain ⟨o, q1, q2⟩ := Option.bind_eq_some_iff.mp q
          unfold dget at q1
          split at q1
          · exact (nd _ rfl).elim
          · cases q1
      · rw [fIx_non] at q
        cases q
/-! ### slices -/
abbrev IF := Fr → Res (Option Int)
def XP (X : Cx) (ca : Str → Addr) (EX : WX) (e : Option Expr) (F : IF) : Prop := PO X e (liftG (gm X ca) EX relI F)
theorem _root_.L2.PO.weak {X : Cx} {e : Option Expr} {t t' : TO} (h : PO X e t) (k : ∀ σ H Q, t' σ H Q → t σ H Q) : PO X e t' := ⟨fun pins s σ H Q I q => h.run pins s σ H Q I (k _ _ _ q)⟩
def pNo : IF := fun s => .ok none s
def pSo (F : EF) : IF := fun s => (F s).bind fun d s1 => match d with
  | .int i => .ok (some i) s1
  | _ => .bad
theorem xp_no : XP X ca EX none pNo := po_none.weak fun σ H Q ⟨Z, η, ω, s, g, h⟩ => h.fin g (fun _ _ z => z) rfl
theorem xp_so (h : XE X ca EX e F) : XP X ca EX (some e) (pSo F) := (po_some h).weak fun σ H Q ⟨Z, η, ω, s, g, h⟩ =>
  go g h fun d s1 x H1 η1 ω1 p1 g1 st1 r1 h1 => by
    cases r1 <;> first | exact h1.elim | exact ⟨_, rfl, h1.fin g1 (fun _ _ z => z) rfl⟩
def cut {α : Type} (xs : List α) (lo hi : Option Int) : List α := (xs.drop (HT.sIx xs.length 0 lo)).take (HT.sIx xs.length xs.length hi - HT.sIx xs.length 0 lo)
def fSl : D → Option Int → Option Int → Option D
  | .lst xs, lo, hi => some (.lst (cut xs lo hi))
  | .scr xs, lo, hi => some (.lst (cut xs lo hi))
  | .tup xs, lo, hi => some (.tup (cut xs lo hi))
  | .str z, lo, hi => if z.length ≤ sizeLine then some (.str (cutS z lo hi)) else none
  | _, _, _ => none
def eSl (P : Fr → Res Pl) (A B : IF) : EF := fun s => (P s).bind fun p s1 => (A s1).bind fun lo s2 => (B s2).bind fun hi s3 => .of (fSl (at_ s3 p) lo hi) s3
theorem slR_or {r r' : V → Option Int → Option Int → Hp → VK → Prop} (h : SlR X r) (h' : SlR X r') : SlR X (fun x l u H Q => r x l u H Q ∨ r' x l u H Q) := by
  intro pins s σ H x v vl vu lo hi sl Q I rx hs pl pu q
  exact q.elim (h pins s σ H x v vl vu lo hi sl Q I rx hs pl pu) (h' pins s σ H x v vl vu lo hi sl Q I rx hs pl pu)
theorem Rps.cut {Γ : Gm} {η : List Addr} {L : Addr → Prop} {H : Hp} {xs : List V} {ds : List D} (r : Rps Γ η L H xs ds) (lo hi : Option Int) : Rps Γ η L H (cutV xs lo hi) (VL.cut ds lo hi) := by
  unfold cutV VL.cut
  rw [r.length]
  exact (r.drop _).take _
theorem cut_whole {α : Type} {xs : List α} {lo hi : Option Int} (h : HT.sIx xs.length 0 lo = 0 ∧ HT.sIx xs.length xs.length hi = xs.length) : VL.cut xs lo hi = xs := by
  unfold VL.cut
  rw [h.1, h.2]
  simp
theorem xe_sl {lo hi : Option Expr} {A B : IF} {p2 : Pos} (h : XPl X ca EX e P) (hl : XP X ca EX lo A) (hh : XP X ca EX hi B) : XE X ca EX (.Subscript e (.Slice lo hi none p2) pos) (eSl P A B) :=
  (pe_slice (slR_or sl_list (slR_or sl_tupA sl_str)) h hl hh).weak fun σ H Q ⟨Z, η, ω, s, g, h⟩ =>
  go g h fun d s1 x H1 η1 ω1 p1 g1 st1 r1 h1 => go g1 h1 fun l s2 l' H2 η2 ω2 p2 g2 st2 r2 h2 => go g2 h2 fun u s3 u' H3 η3 ω3 p3 g3 st3 r3 h3 => by
    cases r2
    cases r3
    have ra := g3.at (relPl_step st3.toStep p3 (relPl_step st2.toStep p2 r1))
    generalize at_ s3 d = c at h3 ra
    cases q : fSl c l u with
    | none => rw [q] at h3; exact h3.elim
    | some res =>
      rw [q] at h3
      rcases ra with r1 | rfl
      · unfold fSl at q
        split at q
        · cases q
          obtain ⟨a, xs, rfl, ha, r⟩ := Rq.seqL r1
          exact .inl ⟨a, xs, rfl, SqL.of ha, fun p hp => h3.fin g3 (ex_new hp) (.lst upd_same (fun z => g3.zH p z hp) ((r.cut _ _).step (Step.ex (ex_new hp)) (List.prefix_refl _)))⟩
        · cases q
          obtain ⟨a, xs, rfl, ha, r⟩ := Rq.seqF r1
          exact .inl ⟨a, xs, rfl, ha, fun p hp => h3.fin g3 (ex_new hp) (.lst upd_same (fun z => g3.zH p z hp) ((r.cut _ _).step (Step.ex (ex_new hp)) (List.prefix_refl _)))⟩
        · cases q
          have r1' := r1
          obtain ⟨a, xs, rfl, ha, r⟩ := Rq.seqT r1
          refine .inr (.inl ⟨a, xs, rfl, ha, fun z => ?_, fun _ p hp => h3.fin g3 (ex_new hp) (.tup (.inl upd_same) ((r.cut _ _).step (Step.ex (ex_new hp)) (List.prefix_refl _)))⟩)
          rw [r.length] at z
          rw [cut_whole z] at h3
          rcases r1' with r1' | ⟨_, _, z⟩
          · exact h3.fin g3 (fun _ _ z => z) r1'
          · exact z.elim
        · cases Rq.str r1
          split at q
          · rename_i hz
            cases q
            exact .inr (.inr ⟨_, rfl, hz, h3.fin g3 (fun _ _ z => z) (.str _)⟩)
          · cases q
        · cases q
      · cases q
/-- a list's slice, new -/
def fSlL : D → Option Int → Option Int → Option D
  | .lst xs, lo, hi => some (.lst (cut xs lo hi))
  | .scr xs, lo, hi => some (.lst (cut xs lo hi))
  | _, _, _ => none
def eSlL (P : Fr → Res Pl) (A B : IF) : EF := fun s => (P s).bind fun p s1 => (A s1).bind fun lo s2 => (B s2).bind fun hi s3 => .of (fSlL (at_ s3 p) lo hi) s3
theorem xo_sl {lo hi : Option Expr} {A B : IF} {p2 : Pos} (h : XPl X ca EX e P) (hl : XP X ca EX lo A) (hh : XP X ca EX hi B) : XO X ca EX (.Subscript e (.Slice lo hi none p2) pos) (eSlL P A B) :=
  (pe_slice sl_list h hl hh).weak fun σ H Q ⟨Z, η, ω, s, g, h⟩ =>
  go g h fun d s1 x H1 η1 ω1 p1 g1 st1 r1 h1 => go g1 h1 fun l s2 l' H2 η2 ω2 p2 g2 st2 r2 h2 => go g2 h2 fun u s3 u' H3 η3 ω3 p3 g3 st3 r3 h3 => by
    cases r2
    cases r3
    have ra := g3.at (relPl_step st3.toStep p3 (relPl_step st2.toStep p2 r1))
    generalize at_ s3 d = c at h3 ra
    cases q : fSlL c l u with
    | none => rw [q] at h3; exact h3.elim
    | some res =>
      rw [q] at h3
      rcases ra with r1 | rfl
      · unfold fSlL at q
        split at q
        · cases q
          obtain ⟨a, xs, rfl, ha, r⟩ := Rq.seqL r1
          exact ⟨a, xs, rfl, SqL.of ha, fun p hp => h3.finO g3 hp (ex_new hp) ⟨_, upd_same, (r.cut _ _).step (stepNew hp (ex_new hp)) (List.prefix_refl _)⟩⟩
        · cases q
          obtain ⟨a, xs, rfl, ha, r⟩ := Rq.seqF r1
          exact ⟨a, xs, rfl, ha, fun p hp => h3.finO g3 hp (ex_new hp) ⟨_, upd_same, (r.cut _ _).step (stepNew hp (ex_new hp)) (List.prefix_refl _)⟩⟩
        · cases q
      · cases q
end
end VL
set_option Elab.async false
set_option linter.all false
set_option maxRecDepth 100000
set_option maxHeartbeats 4000000
namespace VL
open PySem L2

section
variable {ca : Str → Addr} {K : PySem.W.Frag} {X : Cx} {EX : WX} {a b c e o : Expr} {es : List Expr} {F G : EF} {A : AF} {p pos : Pos} {P P' : Fr → Res Pl} {x : Str} {bid T : String} {r : List V → Hp → VK → Prop} {f : D → Option D} {f2 : D → D → Option D}
/-! ### built-ins of one argument, at a place -/
def CallP (ca : Str → Addr) (K : PySem.W.Frag) (r : List V → Hp → VK → Prop) (f : D → Option D) : Prop := ∀ {η : List Addr} {L : Addr → Prop} {H : Hp} {x : V} {d res : D} {Q : VK}, (∀ a, L a → H a ≠ none) → Rq ⟨K, ca⟩ η L H x d → f d = some res →
  (∀ v H', Ex H H' → Rp ⟨K, ca⟩ η L H' v res → Q v H') → r [x] H Q
def CallPO (ca : Str → Addr) (K : PySem.W.Frag) (r : List V → Hp → VK → Prop) (f : D → Option D) : Prop := ∀ {η : List Addr} {L : Addr → Prop} {H : Hp} {x : V} {d res : D} {Q : VK}, (∀ a, L a → H a ≠ none) → Rq ⟨K, ca⟩ η L H x d → f d = some res →
  (∀ a H', H a = none → Ex H H' → ObOk ⟨K, ca⟩ η (fun b => L b ∨ b = a) H' a res → Q (.ref a) H') → r [x] H Q
theorem CallPO.v (h : CallPO ca K r f) : CallP ca K r f := fun hl rx e k => h hl rx e fun a H' n ex ob =>
  k _ _ ex ((ob.step stepM (List.prefix_refl _) rfl).froze fun z => hl a z n)
theorem cp_v {σ : St} {H : Hp} {Q : VK} (hn : f nil = none) (hv : CallP ca X.K r f) (h : liftG (gm X ca) EX relD (eRd f P) σ H Q) : tCB r (tCons (fun σ H Q => liftG (gm X ca) EX (relPl σ) P σ H Q) tNil) σ H Q := by
  obtain ⟨Z, η, ω, s, g, h⟩ := h
  refine go g h fun pl s1 v H1 η1 ω1 p1 g1 st1 r1 h1 => ?_
  have ra := g1.at r1
  generalize at_ s1 pl = d at h1 ra
  rcases ra with ra | rfl
  · cases q : f d with
    | none => rw [q] at h1; exact h1.elim
    | some res => rw [q] at h1; exact hv g1.zH ra q fun v H' ex rv => h1.fin g1 ex rv
  · rw [hn] at h1; exact h1.elim
theorem cp_o {σ : St} {H : Hp} {Q : VK} (hn : f nil = none) (hv : CallPO ca X.K r f) (h : liftO (gm X ca) EX (eRd f P) σ H Q) : tCB r (tCons (fun σ H Q => liftG (gm X ca) EX (relPl σ) P σ H Q) tNil) σ H Q := by
  obtain ⟨Z, η, ω, s, g, h⟩ := h
  refine go g h fun pl s1 v H1 η1 ω1 p1 g1 st1 r1 h1 => ?_
  have ra := g1.at r1
  generalize at_ s1 pl = d at h1 ra
  rcases ra with ra | rfl
  · cases q : f d with
    | none => rw [q] at h1; exact h1.elim
    | some res => rw [q] at h1; exact hv g1.zH ra q fun a H' n ex ob => h1.finO g1 n ex (by rw [zp_eq]; exact ob)
  · rw [hn] at h1; exact h1.elim
theorem xe_cb1 (hn : f nil = none) (hv : CallP ca X.K r f) (hc : CallR X (.builtin bid) r) (hg : Gl X x) (hm : X.mg x = none) (hb : bootBuiltins x = some (.builtin bid)) (ha : XPl X ca EX e P) (hnm : x ≠ "__name__" := by decide) (hdb : (x == ("__debug__" : Str)) = false := by decide)
    (he : starEach [e] X.env = (false, eval e X.env) :: starEach [] X.env := by rfl) (hpl : (backTo pos (starEach [] X.env)).any (·.1) = false := by rfl) : XE X ca EX (.Call (.Name x p) [e] [] pos) (eRd f P) := (pe_callB hc hg hm hb (pa_cons ha pa_nil he) hnm hdb he hpl).weak fun σ H Q h => cp_v hn hv h
theorem xe_ct1 (hn : f nil = none) (hv : CallP ca X.K r f) (hc : CallR X (.type T) r) (hg : Gl X x) (hm : X.mg x = none) (hb : bootBuiltins x = some (.type T)) (ha : XPl X ca EX e P) (hnm : x ≠ "__name__" := by decide) (hdb : (x == ("__debug__" : Str)) = false := by decide)
    (he : starEach [e] X.env = (false, eval e X.env) :: starEach [] X.env := by rfl) (hpl : (backTo pos (starEach [] X.env)).any (·.1) = false := by rfl) : XE X ca EX (.Call (.Name x p) [e] [] pos) (eRd f P) := (pe_callTy hc hg hm hb (pa_cons ha pa_nil he) hnm hdb he hpl).weak fun σ H Q h => cp_v hn hv h
theorem xo_cb1 (hn : f nil = none) (hv : CallPO ca X.K r f) (hc : CallR X (.builtin bid) r) (hg : Gl X x) (hm : X.mg x = none) (hb : bootBuiltins x = some (.builtin bid)) (ha : XPl X ca EX e P) (hnm : x ≠ "__name__" := by decide) (hdb : (x == ("__debug__" : Str)) = false := by decide)
    (he : starEach [e] X.env = (false, eval e X.env) :: starEach [] X.env := by rfl) (hpl : (backTo pos (starEach [] X.env)).any (·.1) = false := by rfl) : XO X ca EX (.Call (.Name x p) [e] [] pos) (eRd f P) := (pe_callB hc hg hm hb (pa_cons ha pa_nil he) hnm hdb he hpl).weak fun σ H Q h => cp_o hn hv h
theorem xo_ct1 (hn : f nil = none) (hv : CallPO ca X.K r f) (hc : CallR X (.type T) r) (hg : Gl X x) (hm : X.mg x = none) (hb : bootBuiltins x = some (.type T)) (ha : XPl X ca EX e P) (hnm : x ≠ "__name__" := by decide) (hdb : (x == ("__debug__" : Str)) = false := by decide)
    (he : starEach [e] X.env = (false, eval e X.env) :: starEach [] X.env := by rfl) (hpl : (backTo pos (starEach [] X.env)).any (·.1) = false := by rfl) : XO X ca EX (.Call (.Name x p) [e] [] pos) (eRd f P) := (pe_callTy hc hg hm hb (pa_cons ha pa_nil he) hnm hdb he hpl).weak fun σ H Q h => cp_o hn hv h
/-- len -/
def fLen : D → Option D
  | .lst xs => some (.int xs.length)
  | .tup xs => some (.int xs.length)
  | .scr xs => some (.int xs.length)
  | .str z => if z.length ≤ sizeLine then some (.int z.length) else none
  | _ => none
theorem v_len : CallP ca K (fun xs H Q => ∃ x n, xs = [x] ∧ LenV K x H n ∧ Q (V.int ↑n) H) fLen := by
  intro η L H x d res Q hl rx h k
  unfold fLen at h
  split at h
  · cases h
    obtain ⟨a, xs, rfl, ha, r⟩ := rx.seqL
    exact ⟨_, _, rfl, .inl ⟨xs, SqL.of ha, r.length.symm⟩, k _ _ (fun _ _ z => z) (.int _)⟩
  · cases h
    obtain ⟨a, xs, rfl, ha, r⟩ := rx.seqT
    exact ⟨_, _, rfl, .inr ⟨xs, ha, r.length.symm⟩, k _ _ (fun _ _ z => z) (.int _)⟩
  · cases h
    obtain ⟨a, xs, rfl, ha, r⟩ := rx.seqF
    exact ⟨_, _, rfl, .inl ⟨xs, ha, r.length.symm⟩, k _ _ (fun _ _ z => z) (.int _)⟩
  · cases rx.str
    split at h
    · rename_i hz
      cases h
      exact ⟨_, _, rfl, ⟨hz, rfl⟩, k _ _ (fun _ _ z => z) (.int _)⟩
    · cases h
  · cases h
/-- abs -/
def fAbs : D → Option D
  | .int i => some (.int (if i < 0 then -i else i))
  | _ => none
theorem Rq.int {Γ : Gm} {η : List Addr} {L : Addr → Prop} {H : Hp} {v : V} {i : Int} (r : Rq Γ η L H v (.int i)) : v = .int i := by
  rcases r with r | ⟨a, rfl, h⟩
  · cases r; rfl
  · exact h.elim
theorem v_abs : CallP ca K (fun xs H Q => ∃ i, xs = [V.int i] ∧ Q (.int (if i < 0 then -i else i)) H) fAbs := by
  intro η L H x d res Q hl rx h k
  unfold fAbs at h
  split at h
  · cases h
    cases rx.int
    exact ⟨_, rfl, k _ _ (fun _ _ z => z) (.int _)⟩
  · cases h
/-- list, tuple -/
def fList : D → Option D
  | .lst xs => some (.lst xs)
  | .tup xs => some (.lst xs)
  | .scr xs => some (.lst xs)
  | _ => none
theorem v_list : CallPO ca K (fun xs H Q => ∃ p ys, xs = [V.ref p] ∧ (SqL K H p ys ∨ SqT K H p ys) ∧ ∀ (l : Addr), H l = none → Q (V.ref l) (upd H l (HO.lst ys))) fList := by
  intro η L H x d res Q hl rx h k
  unfold fList at h
  split at h
  · cases h
    obtain ⟨a, xs, rfl, ha, r⟩ := rx.seqL
    exact ⟨_, _, rfl, .inl (SqL.of ha), fun l hn => k l _ hn (ex_new hn) ⟨_, upd_same, r.step (stepL hn (ex_new hn)) (List.prefix_refl _)⟩⟩
  · cases h
    obtain ⟨a, xs, rfl, ha, r⟩ := rx.seqT
    exact ⟨_, _, rfl, .inr ha, fun l hn => k l _ hn (ex_new hn) ⟨_, upd_same, r.step (stepL hn (ex_new hn)) (List.prefix_refl _)⟩⟩
  · cases h
    obtain ⟨a, xs, rfl, ha, r⟩ := rx.seqF
    exact ⟨_, _, rfl, .inl ha, fun l hn => k l _ hn (ex_new hn) ⟨_, upd_same, r.step (stepL hn (ex_new hn)) (List.prefix_refl _)⟩⟩
  · cases h
def fTuple : D → Option D
  | .lst xs => some (.tup xs)
  | .tup xs => some (.tup xs)
  | .scr xs => some (.tup xs)
  | _ => none
theorem v_tuple : CallP ca K (fun xs H Q => ∃ p ys, xs = [V.ref p] ∧ ((SqL K H p ys ∧ ∀ (l : Addr), H l = none → Q (V.ref l) (upd H l (HO.tup ys))) ∨ SqT K H p ys ∧ Q (V.ref p) H)) fTuple := by
  intro η L H x d res Q hl rx h k
  unfold fTuple at h
  split at h
  · cases h
    obtain ⟨a, xs, rfl, ha, r⟩ := rx.seqL
    exact ⟨_, _, rfl, .inl ⟨SqL.of ha, fun l hn => k _ _ (ex_new hn) (.tup (.inl upd_same) (r.step (Step.ex (ex_new hn)) (List.prefix_refl _)))⟩⟩
  · cases h
    rcases rx with rx | ⟨_, _, z⟩
    · obtain ⟨a, xs, rfl, ha, r⟩ := rx.seqT
      exact ⟨_, _, rfl, .inr ⟨ha, k _ _ (fun _ _ z => z) rx⟩⟩
    · exact z.elim
  · cases h
    obtain ⟨a, xs, rfl, ha, r⟩ := rx.seqF
    exact ⟨_, _, rfl, .inl ⟨ha, fun l hn => k _ _ (ex_new hn) (.tup (.inl upd_same) (r.step (Step.ex (ex_new hn)) (List.prefix_refl _)))⟩⟩
  · cases h
/-- all, any -/
def bools : List D → Option (List Bool)
  | [] => some []
  | .bl b :: r => (bools r).map (b :: ·)
  | _ :: _ => none
theorem Rps.bools {Γ : Gm} {η : List Addr} {L : Addr → Prop} {H : Hp} : ∀ {vs : List V} {ds : List D} {bs : List Bool}, Rps Γ η L H vs ds → VL.bools ds = some bs → vs = bs.map V.bl
  | _, _, _, .nil, h => by simp [VL.bools] at h; subst h; rfl
  | _, _, _, .cons a b, h => by
    cases a <;> simp [VL.bools] at h
    obtain ⟨bs, q, rfl⟩ := h
    rw [Rps.bools b q]; rfl
def fAll : D → Option D
  | .lst xs => (bools xs).map fun bs => .bl (bs.all id)
  | _ => none
def fAny : D → Option D
  | .lst xs => (bools xs).map fun bs => .bl (bs.any id)
  | _ => none
theorem v_all : CallP ca K (rAll K) fAll := by
  intro η L H x d res Q hl rx h k
  unfold fAll at h
  split at h
  · obtain ⟨bs, q, rfl⟩ := Option.map_eq_some_iff.mp h
    obtain ⟨a, xs, rfl, ha, r⟩ := rx.seqL
    exact ⟨a, bs, rfl, by rw [← r.bools q]; exact SqL.of ha, k _ _ (fun _ _ z => z) (.bl _)⟩
  · cases h
theorem v_any : CallP ca K (rAny K) fAny := by
  intro η L H x d res Q hl rx h k
  unfold fAny at h
  split at h
  · obtain ⟨bs, q, rfl⟩ := Option.map_eq_some_iff.mp h
    obtain ⟨a, xs, rfl, ha, r⟩ := rx.seqL
    exact ⟨a, bs, rfl, by rw [← r.bools q]; exact SqL.of ha, k _ _ (fun _ _ z => z) (.bl _)⟩
  · cases h
/-! ### built-ins of several arguments -/
def CallA (ca : Str → Addr) (K : PySem.W.Frag) (r : List V → Hp → VK → Prop) (f : List D → Option D) : Prop := ∀ {η : List Addr} {L : Addr → Prop} {H : Hp} {xs : List V} {ds : List D} {res : D} {Q : VK}, (∀ a, L a → H a ≠ none) → Rps ⟨K, ca⟩ η L H xs ds → f ds = some res →
  (∀ v H', Ex H H' → Rp ⟨K, ca⟩ η L H' v res → Q v H') → r xs H Q
def eCb (f : List D → Option D) (A : AF) : EF := fun s => (A s).bind fun ds s1 => .of (f ds) s1
theorem ca_v {fa : List D → Option D} {σ : St} {H : Hp} {Q : VK} (hv : CallA ca X.K r fa) (h : liftG (gm X ca) EX relD (eCb fa A) σ H Q) : tCB r (liftG (gm X ca) EX relA A) σ H Q := by
  obtain ⟨Z, η, ω, s, g, h⟩ := h
  refine go g h fun ds s1 vs H1 η1 ω1 p1 g1 st1 r1 h1 => ?_
  cases q : fa ds with
  | none => rw [q] at h1; exact h1.elim
  | some res => rw [q] at h1; exact hv g1.zH r1 q fun v H' ex rv => h1.fin g1 ex rv
theorem xe_cb {fa : List D → Option D} (hv : CallA ca X.K r fa) (hc : CallR X (.builtin bid) r) (hg : Gl X x) (hm : X.mg x = none) (hb : bootBuiltins x = some (.builtin bid)) (ha : XA X ca EX (e :: es) A) (hnm : x ≠ "__name__" := by decide) (hdb : (x == ("__debug__" : Str)) = false := by decide)
    (he : starEach (e :: es) X.env = (false, eval e X.env) :: starEach es X.env := by rfl) (hpl : (backTo pos (starEach es X.env)).any (·.1) = false := by rfl) : XE X ca EX (.Call (.Name x p) (e :: es) [] pos) (eCb fa A) := (pe_callB hc hg hm hb ha hnm hdb he hpl).weak fun σ H Q h => ca_v hv h
def fMin : List D → Option D
  | [.int i, .int j] => some (.int (if j < i then j else i))
  | _ => none
def fMax : List D → Option D
  | [.int i, .int j] => some (.int (if j > i then j else i))
  | _ => none
theorem v_min : CallA ca K (fun xs H Q => ∃ i j, xs = [V.int i, V.int j] ∧ Q (.int (if j < i then j else i)) H) fMin := by
  intro η L H xs ds res Q hl rx h k
  unfold fMin at h
  split at h
  · cases h
    obtain ⟨v, w, rfl, r1, r2⟩ := rx.two
    cases r1; cases r2
    exact ⟨_, _, rfl, k _ _ (fun _ _ z => z) (.int _)⟩
  · cases h
theorem v_max : CallA ca K (fun xs H Q => ∃ i j, xs = [V.int i, V.int j] ∧ Q (.int (if j > i then j else i)) H) fMax := by
  intro η L H xs ds res Q hl rx h k
  unfold fMax at h
  split at h
  · cases h
    obtain ⟨v, w, rfl, r1, r2⟩ := rx.two
    cases r1; cases r2
    exact ⟨_, _, rfl, k _ _ (fun _ _ z => z) (.int _)⟩
  · cases h
/-! ### places compared, looked into -/
def tRd (f : D → Option Bool) (P : Fr → Res Pl) : TF := fun s => (P s).bind fun p s1 => .of (f (at_ s1 p)) s1
end
section
variable {Γ : Gm} {Z : Addr → Prop} {σ : St} {η η1 : List Addr} {ω ω1 : List (Option Addr)} {H H1 : Hp} {s : Fr} {v : V} {d d' : D} {o : HO} {a : Addr}
theorem stepA {Lx : Addr → Prop} (hl : Lx a) (nt : ∀ xs, H a ≠ some (.tup xs)) : Step Lx H Lx (upd H a o) := by
  refine ⟨fun b u q n => ⟨u, ?_, rfl⟩, fun b ys q => ?_, fun b q => .inl q, fun b q => ?_⟩
  · rw [upd_ne fun e => n (by rw [e]; exact hl)]; exact q
  · rw [upd_ne fun e => nt ys (by rw [← e]; exact q)]; exact q
  · by_cases e : b = a
    · subst e; rw [upd_same] at q; cases q
    · rw [upd_ne e] at q; exact q
/-- a slot's own thing is changed -/
theorem Good.mutO {i : Nat} (g : Good Γ Z η ω σ H s) (h : s.env[i]? = some (.own d)) (hω : ω[i]? = some (some a)) (nt : ∀ xs, H a ≠ some (.tup xs)) (ob : ObOk Γ η (Lv Z η ω) (upd H a o) a d') :
    Good Γ Z η ω σ (upd H a o) { s with env := s.env.set i (.own d') } ∧ Ste Z (Lv Z η ω) H (Lv Z η ω) (upd H a o) := by
  have la : Lv Z η ω a := .inr (.inr (mem_of_get hω))
  have st : Step (Lv Z η ω) H (Lv Z η ω) (upd H a o) := stepA la nt
  have p := List.prefix_refl η
  have na := g.zω a (mem_of_get hω)
  refine ⟨⟨g.nd, g.zη, g.zω, fun b q z => g.zH b q (st.none b z), by simpa using g.len, g.lenω, g.stl, g.inj, fun j e q => ?_, fun j e q => ?_, fun n e q => ?_⟩, st, fun b z => upd_ne fun e => na.1 (e ▸ z)⟩
  · rcases get_set_or q with ⟨rfl, e, hl⟩ | ⟨hj, q⟩
    · cases e
    · obtain ⟨v, h1, h2⟩ := g.val j e q
      exact ⟨v, h1, h2.step st p⟩
  · rcases get_set_or q with ⟨rfl, e, hl⟩ | ⟨hj, q⟩
    · cases e
      obtain ⟨b, h1, h2, h3⟩ := g.own i d h
      rw [hω] at h2
      cases h2
      exact ⟨a, h1, hω, ob⟩
    · obtain ⟨b, h1, h2, h3⟩ := g.own j e q
      exact ⟨b, h1, h2, h3.step st p (upd_ne fun e => hj (g.inj i j a hω (e ▸ h2)))⟩
  · obtain ⟨b, h1, h2⟩ := g.hs n e q
    exact ⟨b, h1, h2.step st p (upd_ne fun e => na.2 (e ▸ mem_of_get h1))⟩
theorem nodup_at {α : Type} {l : List α} (hN : l.Nodup) {i j : Nat} {x : α} (a : l[i]? = some x) (b : l[j]? = some x) : i = j := by
  obtain ⟨h1, e1⟩ := List.getElem?_eq_some_iff.mp a
  obtain ⟨h2, e2⟩ := List.getElem?_eq_some_iff.mp b
  exact (List.getElem_inj hN).mp (e1.trans e2.symm)
/-- a thing of the store is changed -/
theorem Good.mutH {n : Nat} (g : Good Γ Z η ω σ H s) (hη : η[n]? = some a) (nt : ∀ xs, H a ≠ some (.tup xs)) (ob : ObOk Γ η (Lv Z η ω) (upd H a o) a d') :
    Good Γ Z η ω σ (upd H a o) { s with st := s.st.set n d' } ∧ Ste Z (Lv Z η ω) H (Lv Z η ω) (upd H a o) := by
  have ma := mem_of_get hη
  have la : Lv Z η ω a := .inr (.inl ma)
  have st : Step (Lv Z η ω) H (Lv Z η ω) (upd H a o) := stepA la nt
  have p := List.prefix_refl η
  refine ⟨⟨g.nd, g.zη, g.zω, fun b q z => g.zH b q (st.none b z), g.len, g.lenω, by simpa using g.stl, g.inj, fun j e q => ?_, fun j e q => ?_, fun m e q => ?_⟩, st, fun b z => upd_ne fun e => g.zη a ma (e ▸ z)⟩
  · obtain ⟨v, h1, h2⟩ := g.val j e q
    exact ⟨v, h1, h2.step st p⟩
  · obtain ⟨b, h1, h2, h3⟩ := g.own j e q
    exact ⟨b, h1, h2, h3.step st p (upd_ne fun (z : b = a) => (g.zω b (mem_of_get h2)).2 (by rw [z]; exact ma))⟩
  · rcases get_set_or q with ⟨rfl, e, hl⟩ | ⟨hj, q⟩
    · cases e
      exact ⟨a, hη, ob⟩
    · obtain ⟨b, h1, h2⟩ := g.hs m e q
      refine ⟨b, h1, h2.step st p (upd_ne fun e => hj ?_)⟩
      subst e
      exact nodup_at g.nd hη h1
/-- what is changed at a place -/
def put (s : Fr) (p : Pl) (d : D) : Option Fr := match p with
  | .sl i => match s.env[i]? with
    | some (.own _) => some { s with env := s.env.set i (.own d) }
    | some (.val (.h n)) => some { s with st := s.st.set n d }
    | _ => none
  | .d (.h n) => some { s with st := s.st.set n d }
  | _ => none
theorem Good.put {p : Pl} {s' : Fr} (g : Good Γ Z η ω σ H s) (r : relPl σ Γ η (Lv Z η ω) H p (.ref a)) (h : VL.put s p d' = some s') (nt : ∀ xs, H a ≠ some (.tup xs)) (ob : Lv Z η ω a → ObOk Γ η (Lv Z η ω) (upd H a o) a d') :
    Good Γ Z η ω σ (upd H a o) s' ∧ Ste Z (Lv Z η ω) H (Lv Z η ω) (upd H a o) := by
  have hH : ∀ n, Rp Γ η (Lv Z η ω) H (.ref a) (.h n) → η[n]? = some a := fun n r => by cases r with | h e => exact e
  cases p with
  | d d =>
    cases d <;> simp [VL.put] at h
    subst h
    rename_i n
    have e := hH n r
    exact g.mutH e nt (ob (.inr (.inl (mem_of_get e))))
  | sl i =>
    have r : σ[i]? = some (some (.ref a)) := r
    unfold VL.put at h
    dsimp only at h
    split at h
    · rename_i d q
      cases h
      obtain ⟨b, h1, h2, h3⟩ := g.own i d q
      rw [r] at h1
      cases h1
      exact g.mutO q h2 nt (ob (.inr (.inr (mem_of_get h2))))
    · rename_i n q
      cases h
      obtain ⟨v, h1, h2⟩ := g.val i _ q
      rw [r] at h1
      cases h1
      have e := hH n h2
      exact g.mutH e nt (ob (.inr (.inl (mem_of_get e))))
    · cases h
/-- what stands at a place that is changeable -/
theorem put_live {p : Pl} {s' : Fr} (h : VL.put s p d' = some s') (g : Good Γ Z η ω σ H s) (r : relPl σ Γ η (Lv Z η ω) H p v) : ∃ a, v = .ref a ∧ ObOk Γ η (Lv Z η ω) H a (at_ s p) := by
  cases p with
  | d d =>
    cases d <;> simp [VL.put] at h
    rename_i n
    cases r with
    | h e =>
      rename_i a
      have hn : n < s.st.length := by rw [g.stl]; exact (List.getElem?_eq_some_iff.mp e).1
      obtain ⟨b, h1, h2⟩ := g.hs n s.st[n] (List.getElem?_eq_getElem hn)
      rw [e] at h1
      cases h1
      refine ⟨a, rfl, ?_⟩
      show ObOk Γ η (Lv Z η ω) H a (s.st.getD n nil)
      rw [List.getD_eq_getElem?_getD, List.getElem?_eq_getElem hn]
      exact h2
  | sl i =>
    have r : σ[i]? = some (some v) := r
    unfold VL.put at h
    dsimp only at h
    split at h
    · rename_i d q
      obtain ⟨b, h1, h2, h3⟩ := g.own i d q
      rw [r] at h1
      cases h1
      refine ⟨b, rfl, ?_⟩
      show ObOk Γ η (Lv Z η ω) H b (match s.env[i]? with | some (.own d) => d | some (.val d) => VL.deref s.st d | _ => nil)
      rw [q]
      exact h3
    · rename_i n q
      obtain ⟨v', h1, h2⟩ := g.val i _ q
      rw [r] at h1
      cases h1
      obtain ⟨a, e, rfl⟩ : ∃ a, η[n]? = some a ∧ v = .ref a := by cases h2 with | h e => exact ⟨_, e, rfl⟩
      have hn : n < s.st.length := by rw [g.stl]; exact (List.getElem?_eq_some_iff.mp e).1
      obtain ⟨b, h1, h2⟩ := g.hs n s.st[n] (List.getElem?_eq_getElem hn)
      rw [e] at h1
      cases h1
      refine ⟨a, rfl, ?_⟩
      show ObOk Γ η (Lv Z η ω) H a (match s.env[i]? with | some (.own d) => d | some (.val d) => VL.deref s.st d | _ => nil)
      rw [q]
      show ObOk Γ η (Lv Z η ω) H a (s.st.getD n nil)
      rw [List.getD_eq_getElem?_getD, List.getElem?_eq_getElem hn]
      exact h2
    · cases h
end
end VL
set_option Elab.async false
set_option linter.all false
set_option maxRecDepth 100000
set_option maxHeartbeats 4000000
namespace VL
open PySem L2

section
variable {ca : Str → Addr} {K : PySem.W.Frag} {X : Cx} {EX : WX} {ro : Bool} {a b c e o i value : Expr} {es : List Expr} {F G : EF} {A : AF} {p pos pos' apos cpos : Pos} {P P' : Fr → Res Pl} {x : Str} {bid T : String}
/-! ### a list's methods that change it -/
def MtV (ca : Str → Addr) (K : PySem.W.Frag) (r : V → List V → Hp → VK → Prop) (f : D → List D → Option (D × D)) : Prop := ∀ {η : List Addr} {L : Addr → Prop} {H : Hp} {a : Addr} {c res new : D} {xs : List V} {ds : List D} {Q : VK}, (∀ a, L a → H a ≠ none) → L a → ObOk ⟨K, ca⟩ η L H a c → Rps ⟨K, ca⟩ η L H xs ds →
  f c ds = some (res, new) → (∀ v o, (∀ ys, H a ≠ some (.tup ys)) → Rp ⟨K, ca⟩ η L (upd H a o) v res → ObOk ⟨K, ca⟩ η L (upd H a o) a new → Q v (upd H a o)) → r (.ref a) xs H Q
def isLst : D → Bool
  | .lst _ => true
  | _ => false
def eMt (f : D → List D → Option (D × D)) (P : Fr → Res Pl) (A : AF) : EF := fun s => (P s).bind fun p s1 => if isLst (at_ s1 p) then (A s1).bind fun ds s2 => match f (at_ s2 p) ds with
  | some (res, new) => match put s2 p new with
    | some s3 => .ok res s3
    | none => .bad
  | none => .bad else .bad
theorem lst_tyV {Γ : Gm} {η : List Addr} {L : Addr → Prop} {H : Hp} {v : V} {d : D} (r : Rq Γ η L H v d) (h : isLst d = true) : tyV Γ.K "list" v H := by
  cases d <;> simp [isLst] at h
  obtain ⟨a, xs, rfl, ha, _⟩ := r.seqL
  exact .inl ⟨rfl, xs, SqL.of ha⟩
theorem mt_core {r : V → List V → Hp → VK → Prop} {f : D → List D → Option (D × D)} {Γ : Gm} {Z : Addr → Prop} {σ : St} {η : List Addr} {ω : List (Option Addr)} {H : Hp} {s : Fr} {pl : Pl} {v : V} {xs : List V} {ds : List D} {Q : VK} (hv : MtV Γ.ca Γ.K r f) (g : Good Γ Z η ω σ H s) (rp : relPl σ Γ η (Lv Z η ω) H pl v) (ra : Rps Γ η (Lv Z η ω) H xs ds)
    (h : Run Γ Z EX (PoX Γ Z σ relD) η ω H (match f (at_ s pl) ds with
      | some (res, new) => match put s pl new with
        | some s3 => .ok res s3
        | none => .bad
      | none => .bad) Q) : r v xs H Q := by
  cases q : f (at_ s pl) ds with
  | none => rw [q] at h; exact h.elim
  | some z =>
    obtain ⟨res, new⟩ := z
    rw [q] at h
    dsimp only at h
    cases q2 : put s pl new with
    | none => rw [q2] at h; exact h.elim
    | some s3 =>
      rw [q2] at h
      obtain ⟨a, rfl, ob⟩ := put_live q2 g rp
      have la : Lv Z η ω a := by
        refine Classical.byContradiction fun nl => ?_
        cases pl with
        | d d =>
          cases d <;> simp [put] at q2
          cases rp with | h e => exact nl (.inr (.inl (mem_of_get e)))
        | sl j =>
          have rp : σ[j]? = some (some (.ref a)) := rp
          unfold put at q2
          dsimp only at q2
          split at q2
          · rename_i d q3
            obtain ⟨b, h1, h2, h3⟩ := g.own j d q3
            rw [rp] at h1
            cases h1
            exact nl (.inr (.inr (mem_of_get h2)))
          · rename_i n q3
            obtain ⟨v', h1, h2⟩ := g.val j _ q3
            rw [rp] at h1
            cases h1
            cases h2 with | h e => exact nl (.inr (.inl (mem_of_get e)))
          · cases q2
      refine hv g.zH la ob ra q fun v o nt rv ob' => ?_
      obtain ⟨g2, st2⟩ := g.put rp q2 nt (fun _ => ob')
      exact h v _ ⟨η, ω, List.prefix_refl _, g2, st2, rv⟩
theorem xe_mt {r : V → List V → Hp → VK → Prop} {f : D → List D → Option (D × D)} {name : Str} (hv : MtV ca X.K r f) (hpl : PlainAttrs "list") (hs : PySem.Slot "list" name bid) (ht : typeOf (Value.builtin bid) = pure (Value.type "method_descriptor")) (hm : MtR X bid r) (ho : XPl X ca EX o P) (ha : XA X ca EX (e :: es) A)
    (hb : attributeBase o name X.env (eval o X.env) = eval o X.env := by rfl)
    (h30 : (((backTo cpos (starEach (e :: es) X.env)).all fun x => !x.fst) && ((backToKw cpos (keywordEach [] X.env)).all fun x => x.fst.isSome) && decide (((e :: es).length + ([] : List Keyword).length + if ([] : List Keyword).isEmpty = true then 0 else 1) < 30)) = true := by rfl)
    (hl : (apos.endLine == cpos.line) = true := by rfl) (he : starEach (e :: es) X.env = (false, eval e X.env) :: starEach es X.env := by rfl) (hp : (backTo cpos (starEach es X.env)).any (·.1) = false := by rfl) :
    XE X ca EX (.Call (.Attribute o name apos) (e :: es) [] cpos) (eMt f P A) := (pe_bm hpl hs ht hm ho ha hb h30 hl he hp).weak fun σ H Q ⟨Z, η, ω, s, g, h⟩ => by
  refine go g h fun pl s1 v H1 η1 ω1 p1 g1 st1 r1 h1 => ?_
  try dsimp only at h1
  split at h1
  · rename_i hc
    refine ⟨?_, go g1 h1 fun ds s2 xs H2 η2 ω2 p2 g2 st2 r2 h2 => mt_core hv g2 (relPl_step st2.toStep p2 r1) r2 h2⟩
    rcases g1.at r1 with ra | ra
    · exact lst_tyV ra hc
    · rw [ra] at hc; cases hc
  · exact h1.elim
theorem xe_mt0 {r : V → List V → Hp → VK → Prop} {f : D → List D → Option (D × D)} {name : Str} (hv : MtV ca X.K r f) (hpl : PlainAttrs "list") (hs : PySem.Slot "list" name bid) (ht : typeOf (Value.builtin bid) = pure (Value.type "method_descriptor")) (hm : MtR X bid r) (ho : XPl X ca EX o P)
    (hb : attributeBase o name X.env (eval o X.env) = eval o X.env := by rfl) (hl : (apos.endLine == cpos.line) = true := by rfl) :
    XE X ca EX (.Call (.Attribute o name apos) [] [] cpos) (eMt f P aNil) := (pe_bm0 hpl hs ht hm ho hb hl).weak fun σ H Q ⟨Z, η, ω, s, g, h⟩ => by
  refine go g h fun pl s1 v H1 η1 ω1 p1 g1 st1 r1 h1 => ?_
  try dsimp only at h1
  split at h1
  · rename_i hc
    refine ⟨?_, mt_core hv g1 r1 .nil h1⟩
    rcases g1.at r1 with ra | ra
    · exact lst_tyV ra hc
    · rw [ra] at hc; cases hc
  · exact h1.elim
def fApp : D → List D → Option (D × D)
  | .lst l, [d] => if l.length < sizeLine then some (.non, .lst (l ++ [d])) else none
  | _, _ => none
theorem v_append : MtV ca K rAppend fApp := by
  intro η L H a c res new xs ds Q hl la ob ra h k
  unfold fApp at h
  split at h
  · split at h
    · rename_i hz
      cases h
      obtain ⟨ys, h1, r1⟩ := ob
      obtain ⟨v, rfl, rv⟩ := ra.one
      have st := stepA (o := .lst (ys ++ [v])) la (H := H) (a := a) (by rw [h1]; intro _ z; cases z)
      exact ⟨a, ys, v, rfl, rfl, h1, by rw [r1.length]; exact hz, k _ _ (by rw [h1]; intro _ z; cases z) .non ⟨_, upd_same, (r1.append (.cons rv .nil)).step st (List.prefix_refl _)⟩⟩
    · cases h
  · cases h
def fPop : D → List D → Option (D × D)
  | .lst l, [] => (l[l.length - 1]?).map fun d => (d, .lst l.dropLast)
  | .lst l, [.int i] => if -(2 ^ 63) ≤ i ∧ i < 2 ^ 63 then (seqIndex? i l.length).bind fun k => (l[k]?).map fun d => (d, .lst (l.eraseIdx k)) else none
  | _, _ => none
theorem Rps.dropLast {Γ : Gm} {η : List Addr} {L : Addr → Prop} {H : Hp} {vs : List V} {ds : List D} (r : Rps Γ η L H vs ds) : Rps Γ η L H vs.dropLast ds.dropLast := by
  rw [List.dropLast_eq_take, List.dropLast_eq_take, r.length]
  exact r.take _
theorem v_pop : MtV ca K rPop fun c ds => match ds with | [] => fPop c ds | _ => none := by
  intro η L H a c res new xs ds Q hl la ob ra h k
  dsimp only at h
  split at h
  · unfold fPop at h
    split at h
    · obtain ⟨d, q, e⟩ := Option.map_eq_some_iff.mp h
      cases e
      obtain ⟨ys, h1, r1⟩ := ob
      cases ra
      obtain ⟨v, hv, rv⟩ := r1.get q
      have st := stepA (o := .lst ys.dropLast) la (H := H) (a := a) (by rw [h1]; intro _ z; cases z)
      exact ⟨a, ys, v, rfl, rfl, h1, by rw [r1.length]; exact hv, k _ _ (by rw [h1]; intro _ z; cases z) (rv.step st (List.prefix_refl _)) ⟨_, upd_same, r1.dropLast.step st (List.prefix_refl _)⟩⟩
    · rename_i z; cases z
    · cases h
  · cases h
def fPopAt (c : D) (ds : List D) : Option (D × D) := match ds with | [_] => fPop c ds | _ => none
theorem v_popAt : MtV ca K rPopAt fPopAt := by
  intro η L H a c res new xs ds Q hl la ob ra h k
  unfold fPopAt at h
  split at h
  · unfold fPop at h
    split at h
    · rename_i z; cases z
    · rename_i l i z
      cases z
      split at h
      · rename_i hi
        obtain ⟨j, q1, h⟩ := Option.bind_eq_some_iff.mp h
        obtain ⟨d, q, e⟩ := Option.map_eq_some_iff.mp h
        cases e
        obtain ⟨ys, h1, r1⟩ := ob
        obtain ⟨v, rfl, rv⟩ := ra.one
        cases rv
        obtain ⟨v, hv, rv⟩ := r1.get q
        have st := stepA (o := .lst (ys.eraseIdx j)) la (H := H) (a := a) (by rw [h1]; intro _ z; cases z)
        exact ⟨a, ys, i, j, v, rfl, rfl, h1, hi.1, hi.2, by rw [r1.length]; exact q1, hv, k _ _ (by rw [h1]; intro _ z; cases z) (rv.step st (List.prefix_refl _)) ⟨_, upd_same, (r1.erase j).step st (List.prefix_refl _)⟩⟩
      · cases h
    · cases h
  · cases h
/-! ### xs[i] = e, d[k] = e -/
def putD {κ : Type} [DecidableEq κ] (kvs : List (κ × D)) (k : κ) (v : D) : List (κ × D) :=
  if (kvs.any fun kv => decide (kv.1 = k)) = true then kvs.map (fun kv => if kv.1 = k then (kv.1, v) else kv) else kvs ++ [(k, v)]
theorem any_keys {κ : Type} [DecidableEq κ] (k : κ) : ∀ {kvs : List (κ × V)} {kds : List (κ × D)}, kvs.map (·.1) = kds.map (·.1) → (kvs.any fun kv => decide (kv.1 = k)) = kds.any fun kv => decide (kv.1 = k)
  | [], [], _ => rfl
  | [], _ :: _, h => by simp at h
  | _ :: _, [], h => by simp at h
  | (k1, _) :: kvs, (k2, _) :: kds, h => by
    simp only [List.map_cons, List.cons.injEq] at h
    rw [List.any_cons, List.any_cons, any_keys k h.2]
    rw [h.1]
theorem map_rp {κ : Type} [DecidableEq κ] {Γ : Gm} {η : List Addr} {L : Addr → Prop} {H : Hp} (k : κ) {v : V} {d : D} (rv : Rp Γ η L H v d) : ∀ {kvs : List (κ × V)} {kds : List (κ × D)}, kvs.map (·.1) = kds.map (·.1) → Rps Γ η L H (kvs.map (·.2)) (kds.map (·.2)) →
    (kvs.map (fun kv => if kv.1 = k then (kv.1, v) else kv)).map (·.1) = (kds.map (fun kv => if kv.1 = k then (kv.1, d) else kv)).map (·.1) ∧ Rps Γ η L H ((kvs.map (fun kv => if kv.1 = k then (kv.1, v) else kv)).map (·.2)) ((kds.map (fun kv => if kv.1 = k then (kv.1, d) else kv)).map (·.2))
  | [], [], _, _ => ⟨rfl, .nil⟩
  | [], _ :: _, h, _ => by simp at h
  | _ :: _, [], h, _ => by simp at h
  | (k1, v1) :: kvs, (k2, d2) :: kds, h, r => by
    simp only [List.map_cons, List.cons.injEq] at h
    obtain ⟨rfl, h⟩ := h
    cases r with
    | cons r1 r2 =>
      obtain ⟨e1, e2⟩ := map_rp k rv h r2
      rw [List.map_cons, List.map_cons, List.map_cons, List.map_cons, List.map_cons, List.map_cons, e1]
      by_cases q : k1 = k
      · simp only [q, if_true]
        exact ⟨trivial, .cons rv e2⟩
      · simp only [q, if_false]
        exact ⟨trivial, .cons r1 e2⟩
theorem putD_rp {κ : Type} [DecidableEq κ] {Γ : Gm} {η : List Addr} {L : Addr → Prop} {H : Hp} (k : κ) {v : V} {d : D} (rv : Rp Γ η L H v d) {kvs : List (κ × V)} {kds : List (κ × D)} (h : kvs.map (·.1) = kds.map (·.1)) (r : Rps Γ η L H (kvs.map (·.2)) (kds.map (·.2))) :
    (putK kvs k v).map (·.1) = (putD kds k d).map (·.1) ∧ Rps Γ η L H ((putK kvs k v).map (·.2)) ((putD kds k d).map (·.2)) := by
  unfold putK putD
  rw [any_keys k h]
  split
  · exact map_rp k rv h r
  · rw [List.map_append, List.map_append, List.map_append, List.map_append, h]
    exact ⟨rfl, r.append (.cons rv .nil)⟩
/-- what d[k] = v makes of d -/
def fSet : D → D → D → Option D
  | .lst l, .int i, v => (ixN l.length i).map fun j => .lst (l.set j v)
  | .dK kvs, k, v => (keyD k).bind fun k => if kvs.length < sizeLine then some (.dK (putD kvs k v)) else none
  | _, _, _ => none
def sSet (F : EF) (P : Fr → Res Pl) (G : EF) : SF := fun s => (F s).sr fun v s1 => match P s1 with
  | .ok p s2 => match G s2 with
    | .ok k s3 => match fSet (at_ s3 p) k v with
      | some new => match put s3 p new with
        | some s4 => .nx s4
        | none => .bad
      | none => .bad
    | .exc c p s => .exc c p s
    | .bad => .bad
  | .exc c p s => .exc c p s
  | .bad => .bad
theorem sset_l {Γ : Gm} {En : Ends} {σ : St} {H : Hp} {s : Fr} {Z : Addr → Prop} {η : List Addr} {ω : List (Option Addr)} {pl : Pl} {v : V} {x : V} {y : V} {d k : D} (g : Good Γ Z η ω σ H s) (rp : relPl σ Γ η (Lv Z η ω) H pl x) (ry : Rp Γ η (Lv Z η ω) H y k) (rv : Rp Γ η (Lv Z η ω) H v d)
    (h : RunS Γ Z EX ro En η ω H (match fSet (at_ s pl) k d with
      | some new => match put s pl new with
        | some s4 => .nx s4
        | none => .bad
      | none => .bad)) : ((∀ kvs, at_ s pl ≠ .dK kvs) → rSetL x y v H (fun H' => En.nx σ H')) ∧ ((∃ kvs, at_ s pl = .dK kvs) → ∃ a H4, x = .ref a ∧ DPut H a y v H4 ∧ En.nx σ H4) := by
  cases q : fSet (at_ s pl) k d with
  | none => rw [q] at h; exact h.elim
  | some new =>
    rw [q] at h
    dsimp only at h
    cases q2 : put s pl new with
    | none => rw [q2] at h; exact h.elim
    | some s4 =>
      rw [q2] at h
      obtain ⟨a, rfl, ob⟩ := put_live q2 g rp
      generalize hc : at_ s pl = c at q ob
      unfold fSet at q
      split at q
      · refine ⟨fun _ => ?_, fun ⟨kvs, z⟩ => by cases z⟩
        obtain ⟨j, hj, rfl⟩ := Option.map_eq_some_iff.mp q
        obtain ⟨ys, h1, r1⟩ := ob
        cases ry
        refine ⟨a, ys, _, j, rfl, rfl, h1, by rw [r1.length]; exact hj, ?_⟩
        obtain ⟨g2, st2⟩ := g.put (o := .lst (ys.set j v)) rp q2 (by rw [h1]; intro _ z; cases z) fun la => by
          have st := stepA (o := .lst (ys.set j v)) la (H := H) (a := a) (by rw [h1]; intro _ z; cases z)
          exact ⟨_, upd_same, (r1.set j rv).step st (List.prefix_refl _)⟩
        exact h _ _ ⟨η, ω, List.prefix_refl _, g2, st2⟩
      · refine ⟨fun z => (z _ rfl).elim, fun _ => ?_⟩
        obtain ⟨kk, hk, q⟩ := Option.bind_eq_some_iff.mp q
        split at q
        · rename_i hz
          cases q
          obtain ⟨kvs, h1, e1, r1⟩ := ob
          obtain ⟨e2, r2⟩ := putD_rp kk rv e1 r1
          refine ⟨a, upd H a (.dK (putK kvs kk v)), rfl, .inl ⟨kvs, kk, h1, key_rp ry hk, ?_, rfl⟩, ?_⟩
          · have := congrArg List.length e1
            simp at this
            rw [this]; exact hz
          · obtain ⟨g2, st2⟩ := g.put (o := .dK (putK kvs kk v)) rp q2 (by rw [h1]; intro _ z; cases z) fun la => by
              have st := stepA (o := .dK (putK kvs kk v)) la (H := H) (a := a) (by rw [h1]; intro _ z; cases z)
              exact ⟨_, upd_same, e2, r2.step st (List.prefix_refl _)⟩
            exact h _ _ ⟨η, ω, List.prefix_refl _, g2, st2⟩
        · cases q
      · cases q
theorem _root_.L2.PS.or {X : Cx} {e : Stmt} {t t' : TS} (h : PS X e t) (h' : PS X e t') : PS X e (fun D σ H => t D σ H ∨ t' D σ H) := ⟨fun pins s σ H D I q => q.elim (h.run pins s σ H D I) (h'.run pins s σ H D I)⟩
theorem goS' {Γ : Gm} {Z : Addr → Prop} {σ : St} {η : List Addr} {ω : List (Option Addr)} {H : Hp} {s : Fr} {β W : Type} {En : Ends} {P1 : RelT β W} {F : Fr → Res β} {G : β → Fr → SR} {Q' : W → Hp → Prop} (g : Good Γ Z η ω σ H s) (h : RunS Γ Z EX ro En η ω H ((F s).sr G))
    (k : ∀ b s1 w H1 η1 ω1, F s = .ok b s1 → η <+: η1 → Good Γ Z η1 ω1 σ H1 s1 → Ste Z (Lv Z η ω) H (Lv Z η1 ω1) H1 → P1 Γ η1 (Lv Z η1 ω1) H1 b w → RunS Γ Z EX ro En η1 ω1 H1 (G b s1) → Q' w H1) : liftG Γ EX P1 F σ H Q' := by
  refine ⟨Z, η, ω, s, g, ?_⟩
  cases e : F s with
  | ok b s1 =>
    rw [e] at h
    intro w H1 ⟨η1, ω1, p, g1, st, r⟩
    exact k b s1 w H1 η1 ω1 e p g1 st r (h.later p st)
  | exc c p s1 => rw [e] at h; exact h
  | bad => rw [e] at h; exact h
def sSet' (F : EF) (P : Fr → Res Pl) (G : EF) : SF := fun s => (F s).sr fun v s1 => (P s1).sr fun p s2 => (G s2).sr fun k s3 => match fSet (at_ s3 p) k v with
      | some new => match put s3 p new with
        | some s4 => .nx s4
        | none => .bad
      | none => .bad
theorem xs_set (hu : X.A.units + 1 < cLine) (hv : XE X ca EX value F) (ho : XPl X ca EX o P) (hi : XE X ca EX i G) (hsw : swapsWith value (some (o.Subscript i pos')) pos.line X.env = pure false := by rfl)
    (h1 : swapsWithSole [o.Subscript i pos'] value pos.line X.env = pure false := by rfl) (h2 : swappedStores [o.Subscript i pos'] value X.env = pure none := by rfl) (h3 : (assignEach [o.Subscript i pos'] X.env).map (·.2) = [assign (o.Subscript i pos') X.env] := by rfl)
    (h4 : ∀ v, assign (o.Subscript i pos') X.env v = (do
                let ov ← holding [v] (eval o X.env)
                let iv ← holding [v, ov] (eval i X.env)
                standAt pos'
                holding [v, ov, iv] (setItem ov iv v)
                release [v, ov, iv] []) := by intro _; rfl) : XS X ca EX ro (.Assign [o.Subscript i pos'] value pos) (sSet' F P G) := ((ps_asg hv (pg_sub ho hi set_list h4) h1 h2 h3).or (ps_dput hu ho hi hv hsw)).weak fun En σ H ⟨Z, η, ω, s, g, h⟩ => by
  by_cases hd : ∃ v s1 p s2 k s3 kvs, F s = .ok v s1 ∧ P s1 = .ok p s2 ∧ G s2 = .ok k s3 ∧ at_ s3 p = .dK kvs
  · obtain ⟨v', s1', p', s2', k', s3', kvs, e1, e2, e3, e4⟩ := hd
    refine .inr (goS' g h fun d s1 v H1 η1 ω1 q1 p1 g1 st1 r1 h1 => goS' g1 h1 fun pl s2 x H2 η2 ω2 q2 p2 g2 st2 r2 h2 => goS' g2 h2 fun k s3 y H3 η3 ω3 q3 p3 g3 st3 r3 h3 => ?_)
    rw [e1] at q1; cases q1
    rw [e2] at q2; cases q2
    rw [e3] at q3; cases q3
    exact (sset_l g3 (relPl_step st3.toStep p3 r2) r3 (Rp.step st3.toStep p3 (Rp.step st2.toStep p2 r1)) h3).2 ⟨kvs, e4⟩
  · refine .inl (goS' g h fun d s1 v H1 η1 ω1 q1 p1 g1 st1 r1 h1 => goS' g1 h1 fun pl s2 x H2 η2 ω2 q2 p2 g2 st2 r2 h2 => goS' g2 h2 fun k s3 y H3 η3 ω3 q3 p3 g3 st3 r3 h3 => ?_)
    exact (sset_l g3 (relPl_step st3.toStep p3 r2) r3 (Rp.step st3.toStep p3 (Rp.step st2.toStep p2 r1)) h3).1 fun kvs z => hd ⟨_, _, _, _, _, _, kvs, q1, q2, q3, z⟩
/-! ### dict displays -/
def ppGo : List (EF × EF) → Fr → Res (List (D × D))
  | [], s => .ok [] s
  | (F, G) :: r, s => (F s).bind fun k s1 => (G s1).bind fun v s2 => (ppGo r s2).bind fun ps s3 => .ok ((k, v) :: ps) s3
def trsOf (Γ : Gm) (EX : WX) (fs : List (EF × EF)) : List (TE × TE) := fs.map fun q => (liftG Γ EX relD q.1, liftG Γ EX relD q.2)
def XPP (X : Cx) (ca : Str → Addr) (EX : WX) (pos : Pos) (ks : List (Option Expr)) (vs : List Expr) (fs : List (EF × EF)) : Prop := PPs X pos ks vs (trsOf (gm X ca) EX fs)
theorem xpp_nil : XPP X ca EX pos [] [] [] := pps_nil
theorem xpp_cons {k v : Expr} {ks : List (Option Expr)} {vs : List Expr} {fs : List (EF × EF)} (hk : XE X ca EX k F) (hv : XE X ca EX v G) (hr : XPP X ca EX pos ks vs fs) : XPP X ca EX pos (some k :: ks) (v :: vs) ((F, G) :: fs) := pps_cons hk hv hr
def keyPs : List (D × D) → Option (List (Key × D))
  | [] => some []
  | (k, v) :: r => (keyD k).bind fun k => (keyPs r).map ((k, v) :: ·)
def mergeD (ps : List (Key × D)) : List (Key × D) := ps.foldl (fun acc kv => putD acc kv.1 kv.2) []
def eDisp (fs : List (EF × EF)) : EF := fun s => match ppGo fs s with
  | .ok ps s1 => match keyPs ps with
    | some kvs => if kvs.length ≤ 15 then .ok (.dK (mergeD kvs)) s1 else .bad
    | none => .bad
  | _ => .bad
def relPP : RelT (List (D × D)) (List (V × V)) := fun Γ η L H ds vs => Rps Γ η L H (vs.map (·.1)) (ds.map (·.1)) ∧ Rps Γ η L H (vs.map (·.2)) (ds.map (·.2))
theorem pairs_v {Γ : Gm} : ∀ {fs : List (EF × EF)} {σ : St} {H : Hp} {Q : List (V × V) → Hp → Prop}, liftG Γ EX relPP (ppGo fs) σ H Q → tPairs (trsOf Γ EX fs) σ H Q
  | [], σ, H, Q, ⟨Z, η, ω, s, g, h⟩ => h.fin g (fun _ _ z => z) ⟨.nil, .nil⟩
  | (F, G) :: r, σ, H, Q, ⟨Z, η, ω, s, g, h⟩ => go g h fun k s1 x H1 η1 ω1 p1 g1 st1 r1 h1 => go g1 h1 fun v s2 y H2 η2 ω2 p2 g2 st2 r2 h2 => pairs_v (fs := r) (by
      exact go g2 h2 fun ps s3 vs H3 η3 ω3 p3 g3 st3 r3 h3 => h3.fin g3 (fun _ _ z => z) ⟨.cons (Rp.step st3.toStep p3 (Rp.step st2.toStep p2 r1)) r3.1, .cons (Rp.step st3.toStep p3 r2) r3.2⟩)
theorem keyPs_rp {Γ : Gm} {η : List Addr} {L : Addr → Prop} {H : Hp} : ∀ {vs : List (V × V)} {ds : List (D × D)} {kds : List (Key × D)}, Rps Γ η L H (vs.map (·.1)) (ds.map (·.1)) → Rps Γ η L H (vs.map (·.2)) (ds.map (·.2)) → keyPs ds = some kds →
    ∃ kvs : List (Key × V), vs = kvs.map (fun kv => (kV kv.1, kv.2)) ∧ kvs.map (·.1) = kds.map (·.1) ∧ Rps Γ η L H (kvs.map (·.2)) (kds.map (·.2))
  | [], [], _, _, _, h => by simp [keyPs] at h; subst h; exact ⟨[], rfl, rfl, .nil⟩
  | [], _ :: _, _, a, _, _ => by cases a
  | _ :: _, [], _, a, _, _ => by cases a
  | (k, v) :: vs, (dk, dv) :: ds, kds, a, b, h => by
    simp only [List.map_cons] at a b
    cases a with
    | cons a1 a2 =>
      cases b with
      | cons b1 b2 =>
        unfold keyPs at h
        obtain ⟨kk, hk, h⟩ := Option.bind_eq_some_iff.mp h
        obtain ⟨r, hr, rfl⟩ := Option.map_eq_some_iff.mp h
        obtain ⟨kvs, rfl, e1, r1⟩ := keyPs_rp a2 b2 hr
        refine ⟨(kk, v) :: kvs, ?_, by simp [e1], .cons b1 r1⟩
        rw [List.map_cons, key_rp a1 hk]
theorem merge_rp {Γ : Gm} {η : List Addr} {L : Addr → Prop} {H : Hp} : ∀ {kvs : List (Key × V)} {kds : List (Key × D)} {av : List (Key × V)} {ad : List (Key × D)}, kvs.map (·.1) = kds.map (·.1) → Rps Γ η L H (kvs.map (·.2)) (kds.map (·.2)) → av.map (·.1) = ad.map (·.1) → Rps Γ η L H (av.map (·.2)) (ad.map (·.2)) →
    (mergeK av kvs).map (·.1) = (kds.foldl (fun acc kv => putD acc kv.1 kv.2) ad).map (·.1) ∧ Rps Γ η L H ((mergeK av kvs).map (·.2)) ((kds.foldl (fun acc kv => putD acc kv.1 kv.2) ad).map (·.2))
  | [], [], _, _, _, _, a, b => ⟨a, b⟩
  | [], _ :: _, _, _, h, _, _, _ => by simp at h
  | _ :: _, [], _, _, h, _, _, _ => by simp at h
  | (k1, v) :: kvs, (k2, d) :: kds, av, ad, h, r, a, b => by
    simp only [List.map_cons, List.cons.injEq] at h
    obtain ⟨rfl, h⟩ := h
    cases r with
    | cons r1 r2 =>
      obtain ⟨e1, e2⟩ := putD_rp k1 r1 a b
      exact merge_rp (kvs := kvs) (kds := kds) h r2 e1 e2
theorem Good.updN {Γ : Gm} {Z : Addr → Prop} {σ : St} {η : List Addr} {ω : List (Option Addr)} {H : Hp} {s : Fr} {a : Addr} {o : HO} (g : Good Γ Z η ω σ H s) (hz : Z a) (nt : ∀ xs, H a ≠ some (.tup xs)) : Good Γ Z η ω σ (upd H a o) s := by
  have st : Step (Lv Z η ω) H (Lv Z η ω) (upd H a o) := stepA (.inl hz) nt
  have p := List.prefix_refl η
  refine ⟨g.nd, g.zη, g.zω, fun b q z => g.zH b q (st.none b z), g.len, g.lenω, g.stl, g.inj, fun i d q => ?_, fun i d q => ?_, fun n d q => ?_⟩
  · obtain ⟨v, h1, h2⟩ := g.val i d q; exact ⟨v, h1, h2.step st p⟩
  · obtain ⟨b, h1, h2, h3⟩ := g.own i d q
    exact ⟨b, h1, h2, h3.step st p (upd_ne fun e => (g.zω b (mem_of_get h2)).1 (by rw [e]; exact hz))⟩
  · obtain ⟨b, h1, h2⟩ := g.hs n d q
    exact ⟨b, h1, h2.step st p (upd_ne fun e => g.zη b (mem_of_get h1) (by rw [e]; exact hz))⟩
theorem xo_disp {ks : List (Option Expr)} {vs : List Expr} {fs : List (EF × EF)} (h : XPP X ca E0W pos ks vs fs) (hall : ks.all (·.isSome) = true) (hl : ks.length = vs.length) (h0 : ks ≠ []) (h15 : ks.length ≤ 15) : XO X ca EX (.Dict ks vs pos) (eDisp fs) := (pe_disp h hall hl h0 h15).weak fun σ H Q ⟨Z, η, ω, s, g, h⟩ p hp => by
  have zD : ¬ Z p := fun z => g.zH p (.inl z) hp
  have exD : Ex H (upd H p (.dK [])) := ex_new hp
  have sD' : Ste Z (Lv Z η ω) H (Lv (Zp Z p) η ω) (upd H p (.dK [])) := ⟨stepNew hp exD, (Ste.ex (L := Lv Z η ω) exD fun a z => g.zH a (.inl z)).oth⟩
  have gD : Good (gm X ca) (Zp Z p) η ω σ (upd H p (.dK [])) s := g.more hp exD (by rw [upd_same]; simp)
  refine pairs_v ⟨Zp Z p, η, ω, s, gD, ?_⟩
  unfold eDisp at h
  cases q : ppGo fs s with
  | bad => rw [q] at h; exact h.elim
  | exc c p s1 => rw [q] at h; exact h.elim
  | ok ps s1 =>
    rw [q] at h
    rintro vs' H2 ⟨η2, ω2, p2, g2, st2, rk, rv⟩
    have e2 : H2 p = some (.dK []) := (st2.oth p (.inr rfl)).trans upd_same
    refine ⟨e2, ?_⟩
    cases qk : keyPs ps with
    | none => simp only [qk] at h; exact h.elim
    | some kds =>
      simp only [qk] at h
      · by_cases hz : kds.length ≤ 15
        · rw [if_pos hz] at h
          obtain ⟨kvs, rfl, e1, r1⟩ := keyPs_rp rk rv qk
          obtain ⟨e3, r3⟩ := merge_rp (av := []) (ad := []) e1 r1 rfl .nil
          have hlen : kvs.length ≤ 15 := by
            have := congrArg List.length e1
            simp at this
            omega
          refine ⟨kvs, rfl, hlen, ?_⟩
          have sz := stepA (o := .dK (mergeK [] kvs)) (show Lv (Zp Z p) η2 ω2 p from .inl (.inr rfl)) (H := H2) (a := p) (by rw [e2]; intro _ z; cases z)
          have nD : ∀ a, Z a → a ≠ p := fun a z e => zD (e ▸ z)
          refine h (.ref p) _ ⟨η2, ω2, p, rfl, zD, p2, g2.updN (.inr rfl) (by rw [e2]; intro _ z; cases z), ?_, _, upd_same, e3, r3.step sz (List.prefix_refl _)⟩
          exact (sD'.trans ⟨st2.toStep, fun a z => st2.oth a (.inl z)⟩).trans ⟨sz, fun a z => upd_ne (nD a z)⟩
        · rw [if_neg hz] at h
          exact h.elim
theorem xo_dnew : XO X ca EX (.Dict [] [] pos) (eC (.dK [])) := pe_dnewK.weak fun σ H Q ⟨Z, η, ω, s, g, h⟩ p hp => h.finO g hp (ex_new hp) ⟨[], upd_same, rfl, .nil⟩
/-! ### sep.join(xs) -/
def strsOf : List D → Option (List Str)
  | [] => some []
  | .str x :: r => (strsOf r).map (x :: ·)
  | _ :: _ => none
theorem Rps.strsOf {Γ : Gm} {η : List Addr} {L : Addr → Prop} {H : Hp} : ∀ {vs : List V} {ds : List D} {bs : List Str}, Rps Γ η L H vs ds → VL.strsOf ds = some bs → vs = bs.map V.str
  | _, _, _, .nil, h => by simp [VL.strsOf] at h; subst h; rfl
  | _, _, _, .cons a b, h => by
    cases a <;> simp [VL.strsOf] at h
    obtain ⟨bs, q, rfl⟩ := h
    rw [Rps.strsOf b q]; rfl
/-- a text's method of one argument -/
def StrM1 (ca : Str → Addr) (K : PySem.W.Frag) (r : V → List V → Hp → VK → Prop) (f : Str → D → Option D) : Prop := ∀ {η : List Addr} {L : Addr → Prop} {H : Hp} {z : Str} {y : V} {e res : D} {Q : VK}, (∀ a, L a → H a ≠ none) → Rp ⟨K, ca⟩ η L H y e → f z e = some res → (∀ v H', Ex H H' → Rp ⟨K, ca⟩ η L H' v res → Q v H') → r (.str z) [y] H Q
def eM1 (f : Str → D → Option D) (F G : EF) : EF := fun s => (F s).bind fun d s1 => match d with
  | .str z => (G s1).bind fun e s2 => .of (f z e) s2
  | _ => .bad
theorem m1_v {r : V → List V → Hp → VK → Prop} {f : Str → D → Option D} {σ : St} {H : Hp} {Q : VK} (hv : StrM1 ca X.K r f) (h : liftG (gm X ca) EX relD (eM1 f F G) σ H Q) : tM1 r (liftG (gm X ca) EX relD F) (liftG (gm X ca) EX relD G) σ H Q := by
  obtain ⟨Z, η, ω, s, g, h⟩ := h
  refine go g h fun d s1 x H1 η1 ω1 p1 g1 st1 r1 h1 => ?_
  split at h1
  · cases r1
    refine ⟨⟨_, rfl⟩, go g1 h1 fun e s2 y H2 η2 ω2 p2 g2 st2 r2 h2 => ?_⟩
    rename_i z
    cases q : f z e with
    | none => rw [q] at h2; exact h2.elim
    | some res => rw [q] at h2; exact hv g2.zH r2 q fun v H' ex rv => h2.fin g2 ex rv
  · exact h1.elim
def fJoin (a : Str) : D → Option D
  | .lst l => (strsOf l).bind fun ys => if (ys.map (·.length)).sum + ys.length * a.length ≤ 16777216 then some (.str (Txt.join a ys)) else none
  | .tup l => (strsOf l).bind fun ys => if (ys.map (·.length)).sum + ys.length * a.length ≤ 16777216 then some (.str (Txt.join a ys)) else none
  | _ => none
theorem v_join : StrM1 ca K (fun x xs H Q => ∃ a p ys, x = V.str a ∧ xs = [V.ref p] ∧ (SqL K H p (List.map V.str ys) ∨ SqT K H p (List.map V.str ys)) ∧ (List.map (fun x => x.length) ys).sum + ys.length * a.length ≤ 16777216 ∧ Q (V.str (Txt.join a ys)) H) fJoin := by
  intro η L H z y e res Q hl ry h k
  unfold fJoin at h
  split at h
  · obtain ⟨ys, q, h⟩ := Option.bind_eq_some_iff.mp h
    split at h
    · rename_i hz
      cases h
      obtain ⟨a, xs, rfl, ha, _, r⟩ := ry.seqL
      exact ⟨z, a, ys, rfl, rfl, .inl (by rw [← r.strsOf q]; exact SqL.of ha), hz, k _ _ (fun _ _ z => z) (.str _)⟩
    · cases h
  · obtain ⟨ys, q, h⟩ := Option.bind_eq_some_iff.mp h
    split at h
    · rename_i hz
      cases h
      obtain ⟨a, xs, rfl, ha, r⟩ := ry.seqT
      exact ⟨z, a, ys, rfl, rfl, .inr (by rw [← r.strsOf q]; exact ha), hz, k _ _ (fun _ _ z => z) (.str _)⟩
    · cases h
  · cases h
theorem xe_join (h : XE X ca EX o F) (h' : XE X ca EX e G) (hs : starEach [e] X.env = [(false, eval e X.env)] := by rfl) (hb : attributeBase o ("join" : Str) X.env (eval o X.env) = eval o X.env := by rfl) (hl : (apos.endLine == pos.line) = true := by rfl) : XE X ca EX (.Call (.Attribute o "join" apos) [e] [] pos) (eM1 fJoin F G) := (pe_join h h' hs hb hl).weak fun σ H Q h => m1_v v_join h
/-- a slot's own thing is handed on -/
def eMov (i : Nat) : EF := fun s => match s.env[i]? with
  | some (.own d) => .ok d { s with env := s.env.set i .no }
  | _ => .bad
theorem xo_mov {i : Nat} {x : Str} {pos : Pos} (h : PE X (.Name x pos) (tVar i)) : XO X ca EX (.Name x pos) (eMov i) := h.weak fun σ H Q ⟨Z, η, ω, s, g, h⟩ => by
  unfold eMov at h
  split at h
  · rename_i d q
    obtain ⟨a, e1, e2, ob⟩ := g.own i d q
    refine ⟨_, e1, h (.ref a) H ?_⟩
    have m := g.zω a (mem_of_get e2)
    have sub : ∀ b, Lv (Zp Z a) η (ω.set i none) b → Lv Z η ω b := by
      rintro b ((q | rfl) | q | q)
      · exact .inl q
      · exact .inr (.inr (mem_of_get e2))
      · exact .inr (.inl q)
      · exact .inr (.inr (mem_set_none q))
    have st : Step (Lv Z η ω) H (Lv (Zp Z a) η (ω.set i none)) H := ⟨fun b o q _ => ⟨o, q, rfl⟩, fun _ _ q => q, fun b q => .inl (sub b q), fun _ q => q⟩
    have p := List.prefix_refl η
    refine ⟨η, ω.set i none, a, rfl, m.1, p, ⟨g.nd, fun b q z => ?_, fun b q => ⟨fun z => ?_, (g.zω b (mem_set_none q)).2⟩, fun b q => g.zH b (sub b q), by simpa using g.len, by simpa using g.lenω, g.stl, fun j k b q1 q2 => g.inj j k b (get_set_none q1).2 (get_set_none q2).2, fun j e q => ?_, fun j e q => ?_, fun n e q => ?_⟩, ⟨st, fun _ _ => rfl⟩, ob.step st p rfl⟩
    · rcases z with z | rfl
      · exact g.zη b q z
      · exact m.2 q
    · rcases z with z | rfl
      · exact (g.zω b (mem_set_none q)).1 z
      · obtain ⟨j, hj, e⟩ := List.getElem_of_mem q
        obtain ⟨n, q2⟩ := get_set_none (j := j) (i := i) (a := b) (by rw [List.getElem?_eq_some_iff]; exact ⟨hj, e⟩)
        exact n (g.inj j i b q2 e2)
    · rcases get_set_or q with ⟨_, z, _⟩ | ⟨hj, q⟩
      · cases z
      · obtain ⟨v, h1, h2⟩ := g.val j e q; exact ⟨v, h1, h2.step st p⟩
    · rcases get_set_or q with ⟨_, z, _⟩ | ⟨hj, q⟩
      · cases z
      · obtain ⟨b, h1, h2, h3⟩ := g.own j e q
        exact ⟨b, h1, by rw [List.getElem?_set_ne hj]; exact h2, h3.step st p rfl⟩
    · obtain ⟨b, h1, h2⟩ := g.hs n e q
      exact ⟨b, h1, h2.step st p rfl⟩
  · exact h.elim
end
end VL
set_option Elab.async false
set_option linter.all false
set_option maxRecDepth 100000
set_option maxHeartbeats 4000000
namespace VL
open PySem L2

section
variable {Γ : Gm} {Z : Addr → Prop} {σ : St} {η η1 : List Addr} {ω ω1 : List (Option Addr)} {H H1 : Hp} {s : Fr} {v : V} {d : D} {a : Addr} {EX : WX} {ro : Bool} {En : Ends} {F : EF}
/-- a new thing goes into the store -/
theorem Good.toStore (g : Good Γ (Zp Z a) η ω σ H s) (nz : ¬ Z a) (r : ObOk Γ η (Lv (Zp Z a) η ω) H a d) :
    Good Γ Z (η ++ [a]) ω σ H { s with st := s.st ++ [d] } ∧ Step (Lv (Zp Z a) η ω) H (Lv Z (η ++ [a]) ω) H := by
  have sub : ∀ b, Lv Z (η ++ [a]) ω b → Lv (Zp Z a) η ω b := by
    rintro b (q | q | q)
    · exact .inl (.inl q)
    · rcases List.mem_append.mp q with q | q
      · exact .inr (.inl q)
      · cases List.mem_singleton.mp q; exact .inl (.inr rfl)
    · exact .inr (.inr q)
  have st : Step (Lv (Zp Z a) η ω) H (Lv Z (η ++ [a]) ω) H := ⟨fun b o q _ => ⟨o, q, rfl⟩, fun _ _ q => q, fun b q => .inl (sub b q), fun _ q => q⟩
  have p : η <+: η ++ [a] := List.prefix_append _ _
  have na : a ∉ η := fun q => g.zη a q (.inr rfl)
  refine ⟨⟨?_, fun b q z => ?_, fun b q => ⟨fun z => (g.zω b q).1 (.inl z), fun z => ?_⟩, fun b q => g.zH b (sub b q), g.len, g.lenω, by simp [g.stl], g.inj, fun j e q => ?_, fun j e q => ?_, fun n e q => ?_⟩, st⟩
  · rw [List.nodup_append]
    refine ⟨g.nd, by simp, fun x hx y hy e => ?_⟩
    cases List.mem_singleton.mp hy
    exact na (e ▸ hx)
  · rcases List.mem_append.mp q with q | q
    · exact g.zη b q (.inl z)
    · cases List.mem_singleton.mp q; exact nz z
  · rcases List.mem_append.mp z with z | z
    · exact (g.zω b q).2 z
    · cases List.mem_singleton.mp z; exact (g.zω a q).1 (.inr rfl)
  · obtain ⟨v, h1, h2⟩ := g.val j e q; exact ⟨v, h1, h2.step st p⟩
  · obtain ⟨b, h1, h2, h3⟩ := g.own j e q
    exact ⟨b, h1, h2, h3.step st p rfl⟩
  · have q : (s.st ++ [d])[n]? = some e := q
    by_cases hn : n < s.st.length
    · rw [List.getElem?_append_left hn] at q
      obtain ⟨b, h1, h2⟩ := g.hs n e q
      exact ⟨b, by rw [List.getElem?_append_left (by rw [← g.stl]; exact hn)]; exact h1, h2.step st p rfl⟩
    · rw [List.getElem?_append_right (by omega)] at q
      have hz : n - s.st.length = 0 := by
        have := (List.getElem?_eq_some_iff.mp q).1
        simp at this
        omega
      rw [hz] at q
      cases q
      have : n = η.length := by rw [← g.stl]; omega
      subst this
      exact ⟨a, by simp, r.step st p rfl⟩
def sAsgH (i : Nat) (F : EF) : SF := fun s => (F s).sr fun d s1 => .nx ⟨s1.env.set i (.val (.h s1.st.length)), s1.st ++ [d]⟩
theorem asg_h {i : Nat} (h : liftS Γ EX ro (sAsgH i F) En σ H) : tAsg (liftO Γ EX F) (gName i) En σ H := by
  obtain ⟨Z, η, ω, s, g, h⟩ := h
  refine goSO g h fun d s1 a H1 η1 ω1 p1 nz g1 st1 r1 h1 => ?_
  obtain ⟨g2, st2⟩ := g1.toStore nz r1
  obtain ⟨g3, st3⟩ := g2.setV (i := i) (v := .ref a) (d := .h s1.st.length) (.h (by rw [g1.stl]; simp))
  exact h1 _ _ ⟨η1 ++ [a], _, p1.trans (List.prefix_append _ _), g3, st1.trans ⟨st2.trans st3, fun _ _ => rfl⟩⟩
end
/-! ### several new things at once: a, b = e1, e2 -/
def Zs (Z : Addr → Prop) (as : List Addr) : Addr → Prop := fun b => Z b ∨ b ∈ as
section
variable (Γ : Gm) (η : List Addr) (L : Addr → Prop) (H : Hp)
/-- ms tells which are new things -/
inductive Rm : List Bool → List V → List D → List Addr → Prop
  | nil : Rm [] [] [] []
  | v {ms vs ds as v d} : Rp Γ η L H v d → Rm ms vs ds as → Rm (false :: ms) (v :: vs) (d :: ds) as
  | o {ms vs ds as a d} : ObOk Γ η L H a d → Rm ms vs ds as → Rm (true :: ms) (.ref a :: vs) (d :: ds) (a :: as)
end
section
variable {Γ : Gm} {η η' : List Addr} {L L' : Addr → Prop} {H H' : Hp}
theorem Rm.step (s : Step L H L' H') (p : η <+: η') : ∀ {ms vs ds as}, Rm Γ η L H ms vs ds as → (∀ a ∈ as, H' a = H a) → Rm Γ η' L' H' ms vs ds as
  | _, _, _, _, .nil, _ => .nil
  | _, _, _, _, .v r q, h => .v (r.step s p) (Rm.step s p q h)
  | _, _, _, _, .o r q, h => .o (r.step s p (h _ (by simp))) (Rm.step s p q fun a ha => h a (by simp [ha]))
theorem Rm.length : ∀ {ms vs ds as}, Rm Γ η L H ms vs ds as → vs.length = ds.length
  | _, _, _, _, .nil => rfl
  | _, _, _, _, .v _ q => by simp [Rm.length q]
  | _, _, _, _, .o _ q => by simp [Rm.length q]
end
/-- the names get their values -/
def setAll : List Nat → List Bool → List D → List Slot → List Slot
  | i :: is, m :: ms, d :: ds, e => setAll is ms ds (e.set i (if m then .own d else .val d))
  | _, _, _, e => e
def setVs : List Nat → List V → St → St
  | i :: is, v :: vs, σ => setVs is vs (σ.set i (some v))
  | _, _, σ => σ
section
variable {Γ : Gm} {Z : Addr → Prop} {σ : St} {EX : WX} {η : List Addr} {ω : List (Option Addr)} {H : Hp} {s : Fr} {ro : Bool} {En : Ends}
theorem zs_nil : Zs Z [] = Z := by funext b; simp [Zs]
theorem zs_cons {a : Addr} {as : List Addr} : Zs Z (a :: as) = Zp (Zs Z as) a := by
  funext b
  apply propext
  simp only [Zs, Zp, List.mem_cons]
  constructor
  · rintro (h | h | h)
    · exact .inl (.inl h)
    · exact .inr h
    · exact .inl (.inr h)
  · rintro ((h | h) | h)
    · exact .inl h
    · exact .inr (.inr h)
    · exact .inr (.inl h)
theorem Good.setAll : ∀ {ms : List Bool} {vs : List V} {ds : List D} {as : List Addr} {is : List Nat} {ω : List (Option Addr)} {σ : St} {s : Fr}, Good Γ (Zs Z as) η ω σ H s → as.Nodup → (∀ a ∈ as, ¬ Z a) → Rm Γ η (Lv (Zs Z as) η ω) H ms vs ds as → is.length = ms.length →
    ∃ ω', Good Γ Z η ω' (setVs is vs σ) H { s with env := VL.setAll is ms ds s.env } ∧ Step (Lv (Zs Z as) η ω) H (Lv Z η ω') H
  | [], _, _, _, [], ω, σ, s, g, _, _, r, _ => by cases r; rw [zs_nil] at g ⊢; exact ⟨ω, g, Step.refl⟩
  | false :: ms, _, _, as, i :: is, ω, σ, s, g, nd, nz, r, hl => by
    cases r with
    | v rv r =>
      obtain ⟨g2, st2⟩ := g.setV (i := i) rv
      obtain ⟨ω', g3, st3⟩ := Good.setAll (is := is) g2 nd nz (r.step st2 (List.prefix_refl _) fun _ _ => rfl) (by simpa using hl)
      exact ⟨ω', g3, st2.trans st3⟩
  | true :: ms, _, _, _, i :: is, ω, σ, s, g, nd, nz, r, hl => by
    cases r with
    | @o _ vs ds as a d ob r =>
      rw [zs_cons] at g ob
      have r : Rm Γ η (Lv (Zp (Zs Z as) a) η ω) H ms vs ds as := by rw [← zs_cons]; exact r
      have nza : ¬ Zs Z as a := by
        rintro (z | z)
        · exact nz a (by simp) z
        · exact (List.nodup_cons.mp nd).1 z
      obtain ⟨g2, st2⟩ := g.setO (i := i) nza ob
      obtain ⟨ω', g3, st3⟩ := Good.setAll (is := is) g2 (List.nodup_cons.mp nd).2 (fun b hb => nz b (by simp [hb])) (r.step st2 (List.prefix_refl _) fun _ _ => rfl) (by simpa using hl)
      rw [zs_cons]
      exact ⟨ω', g3, st2.trans st3⟩
end
/-- argument lists some of whose values are new things -/
def PoM (Γ : Gm) (Z : Addr → Prop) (σ : St) (ms : List Bool) : PostT (List D) (List V) := fun η ω H ds s vs H' =>
  ∃ η' ω' as, η <+: η' ∧ as.Nodup ∧ (∀ a ∈ as, ¬ Z a) ∧ Good Γ (Zs Z as) η' ω' σ H' s ∧ Ste Z (Lv Z η ω) H (Lv (Zs Z as) η' ω') H' ∧ Rm Γ η' (Lv (Zs Z as) η' ω') H' ms vs ds as
instance {Γ : Gm} {Z : Addr → Prop} {σ : St} {ms : List Bool} : Later Z (PoM Γ Z σ ms) := ⟨fun ⟨η', ω', as, p, n, nz, g, st, r⟩ p0 s0 => ⟨η', ω', as, p0.trans p, n, nz, g, s0.trans st, r⟩⟩
def liftM (Γ : Gm) (EX : WX) (ms : List Bool) (A : AF) : TA := fun σ H Q => ∃ Z η ω s, Good Γ Z η ω σ H s ∧ Run Γ Z EX (PoM Γ Z σ ms) η ω H (A s) Q
section
variable {X : Cx} {ca : Str → Addr} {EX : WX} {ro : Bool} {e a b c : Expr} {es : List Expr} {F : EF} {A : AF} {ms : List Bool}
def XM (X : Cx) (ca : Str → Addr) (EX : WX) (ms : List Bool) (es : List Expr) (A : AF) : Prop := PA X es (liftM (gm X ca) EX ms A)
theorem xm_nil : XM X ca EX [] [] aNil := pa_nil.weak fun σ H Q ⟨Z, η, ω, s, g, h⟩ => h [] H ⟨η, ω, [], List.prefix_refl _, .nil, by simp, by rw [zs_nil]; exact g, by rw [zs_nil]; exact Ste.refl, .nil⟩
/-- a first part within other things that stand still -/
theorem xm_v (h : XE X ca EX e F) (h' : XM X ca EX ms es A) (hs : starEach (e :: es) X.env = (false, eval e X.env) :: starEach es X.env := by rfl) : XM X ca EX (false :: ms) (e :: es) (aCons F A) := (pa_cons h h' hs).weak fun σ H Q ⟨Z, η, ω, s, g, h⟩ =>
  go g h fun d s1 x H1 η1 ω1 p1 g1 st1 r1 h1 => by
    refine ⟨Z, η1, ω1, s1, g1, ?_⟩
    cases q : A s1 with
    | bad => rw [q] at h1; exact h1
    | exc c p s2 => rw [q] at h1; exact h1
    | ok ds s2 =>
      rw [q] at h1
      rintro xs H2 ⟨η2, ω2, as, p2, nd, nz, g2, st2, r2⟩
      exact h1 _ _ ⟨η2, ω2, as, p2, nd, nz, g2, st2, .v (Rp.step st2.toStep p2 r1) r2⟩
def aConsO (F : EF) (A : AF) : AF := fun s => (F s).bind fun d s1 => match A s1 with | .ok ds s2 => .ok (d :: ds) s2 | _ => .bad
/-- a new thing, then others: none of them touches it -/
theorem xm_o (h : XO X ca EX e F) (h' : XM X ca E0W ms es A) (hs : starEach (e :: es) X.env = (false, eval e X.env) :: starEach es X.env := by rfl) : XM X ca EX (true :: ms) (e :: es) (aConsO F A) := (pa_cons h h' hs).weak fun σ H Q ⟨Z, η, ω, s, g, h⟩ => by
  refine ⟨Z, η, ω, s, g, ?_⟩
  unfold aConsO at h
  cases q0 : F s with
  | bad => rw [q0] at h; exact h
  | exc c p s2 => rw [q0] at h; exact h
  | ok d s1 =>
    rw [q0] at h
    rintro w H1 ⟨η1, ω1, a, rfl, nz1, p1, g1, st1, ob⟩
    refine ⟨Zp Z a, η1, ω1, s1, g1, ?_⟩
    cases q : A s1 with
    | bad => simp only [Res.bind, q] at h; exact h.elim
    | exc c p s2 => simp only [Res.bind, q] at h; exact h.elim
    | ok ds s2 =>
      simp only [Res.bind, q] at h
      rintro xs H2 ⟨η2, ω2, as, p2, nd, nz, g2, st2, r2⟩
      have ez : Zs (Zp Z a) as = Zs Z (a :: as) := by
        funext b
        apply propext
        simp only [Zs, Zp, List.mem_cons]
        constructor
        · rintro ((h | h) | h)
          · exact .inl h
          · exact .inr (.inl h)
          · exact .inr (.inr h)
        · rintro (h | h | h)
          · exact .inl (.inl h)
          · exact .inl (.inr h)
          · exact .inr h
      have hob := ob.step st2.toStep p2 (st2.oth a (.inr rfl))
      rw [ez] at g2 r2 hob
      have st2' := st2.toStep
      rw [ez] at st2'
      refine h _ _ ⟨η2, ω2, a :: as, p1.trans p2, ?_, ?_, g2, st1.trans ⟨st2', fun b z => st2.oth b (.inl z)⟩, .o hob r2⟩
      · exact List.nodup_cons.mpr ⟨fun z => nz a z (.inr rfl), nd⟩
      · intro b hb
        rcases List.mem_cons.mp hb with rfl | hb
        · exact nz1
        · exact fun z => nz b hb (.inl z)
def sPar (is : List Nat) (ms : List Bool) (A : AF) : SF := fun s => (A s).sr fun ds s1 => if ds.length = is.length then .nx { s1 with env := setAll is ms ds s1.env } else .bad
theorem par_run {Γ : Gm} {is : List Nat} {ms : List Bool} {σ : St} {H : Hp} {En : Ends} (hl : is.length = ms.length) (h : liftS Γ EX ro (sPar is ms A) En σ H) : liftM Γ EX ms A σ H fun vs H1 => vs.length = is.length ∧ En.nx (setVs is vs σ) H1 := by
  obtain ⟨Z, η, ω, s, g, h⟩ := h
  refine ⟨Z, η, ω, s, g, ?_⟩
  unfold sPar at h
  cases q : A s with
  | bad => rw [q] at h; exact h
  | exc c p s2 => rw [q] at h; exact h
  | ok ds s1 =>
    rw [q] at h
    rintro vs H1 ⟨η1, ω1, as, p1, nd, nz, g1, st1, r1⟩
    simp only [Res.sr] at h
    split at h
    · rename_i hz
      obtain ⟨ω', g2, st2⟩ := g1.setAll (is := is) nd nz r1 hl
      have hvl : vs.length = ds.length := r1.length
      exact ⟨hvl.trans hz, h _ _ ⟨η1, ω', p1, g2, st1.trans ⟨st2, fun _ _ => rfl⟩⟩⟩
    · exact h.elim
theorem xs_par2 {i j : Nat} {x y : Str} {px py pt pos : Pos} {kt k2 pt2} {m1 m2 : Bool} (hc : X.calm = true) (hN : X.N.Nodup) (hi : X.N[i]? = some x) (hj : X.N[j]? = some y) (hij : i ≠ j) (hx : X.env.scope.names.lookup x = some .local) (hy : X.env.scope.names.lookup y = some .local) (h : XM X ca EX [m1, m2] [a, b] A)
    (hsw : swappedStores [.Tuple [.Name x px, .Name y py] kt pt] (.Tuple [a, b] k2 pt2) X.env = pure (some [x, y])) (hss : swapsWithSole [.Tuple [.Name x px, .Name y py] kt pt] (.Tuple [a, b] k2 pt2) pos.line X.env = pure false := by rfl) :
    XS X ca EX ro (.Assign [.Tuple [.Name x px, .Name y py] kt pt] (.Tuple [a, b] k2 pt2) pos) (sPar [i, j] [m1, m2] A) := (ps_par hc hN hi hj hij hx hy h hsw hss).weak fun En σ H h => by
  obtain ⟨Z, η, ω, s, g, r⟩ := par_run (is := [i, j]) rfl h
  refine ⟨Z, η, ω, s, g, ?_⟩
  cases q : A s with
  | bad => rw [q] at r; exact r
  | exc c p s2 => rw [q] at r; exact r
  | ok ds s1 =>
    rw [q] at r
    intro vs H1 po
    obtain ⟨e, n⟩ := r vs H1 po
    match vs, e with
    | [v, w], _ => exact ⟨v, w, rfl, n⟩
theorem xs_par3 {i j l : Nat} {x y z : Str} {px py pz pt pos : Pos} {kt k2 pt2} {m1 m2 m3 : Bool} (hx : PS X (.Assign [.Tuple [.Name x px, .Name y py, .Name z pz] kt pt] (.Tuple [a, b, c] k2 pt2) pos) (tPar3 i j l (liftM (gm X ca) EX [m1, m2, m3] A))) :
    XS X ca EX ro (.Assign [.Tuple [.Name x px, .Name y py, .Name z pz] kt pt] (.Tuple [a, b, c] k2 pt2) pos) (sPar [i, j, l] [m1, m2, m3] A) := hx.weak fun En σ H h => by
  obtain ⟨Z, η, ω, s, g, r⟩ := par_run (is := [i, j, l]) rfl h
  refine ⟨Z, η, ω, s, g, ?_⟩
  cases q : A s with
  | bad => rw [q] at r; exact r
  | exc c p s2 => rw [q] at r; exact r
  | ok ds s1 =>
    rw [q] at r
    intro vs H1 po
    obtain ⟨e, n⟩ := r vs H1 po
    match vs, e with
    | [u, v, w], _ => exact ⟨u, v, w, rfl, n⟩
/-- targets that are tuples of targets -/
def gTs : List GF → List D → Fr → Option Fr
  | [], [], s => some s
  | g :: gs, d :: ds, s => match g d s with
    | some s1 => gTs gs ds s1
    | none => none
  | _, _, _ => none
def gT (gs : List GF) : GF := fun d s => match d with
  | .tup ds => gTs gs ds s
  | _ => none
def liftTgs (Γ : Gm) (ts : List Nat) (gs : List GF) : TGs := fun vs σ H Q => ∃ Z η ω s ds, Good Γ Z η ω σ H s ∧ Rps Γ η (Lv Z η ω) H vs ds ∧ match gTs gs ds s with
  | some s' => ∀ σ' , (∃ ω', Good Γ Z η ω' σ' H s' ∧ Step (Lv Z η ω) H (Lv Z η ω') H) → σ'.length = σ.length → (∀ i, i ∉ ts → σ'[i]? = σ[i]?) → Q σ' H
  | none => False
def XGs (X : Cx) (ca : Str → Addr) (ts : List Nat) (tgs : List Expr) (gs : List GF) : Prop := PGs X tgs (liftTgs (gm X ca) ts gs)
theorem _root_.L2.PG.weak {X : Cx} {e : Expr} {t t' : TG} (h : PG X e t) (k : ∀ v σ H Q, t' v σ H Q → t v σ H Q) : PG X e t' := ⟨fun pins s σ H v u Q I r q => h.run pins s σ H v u Q I r (k _ _ _ _ q)⟩
theorem _root_.L2.PGs.weak {X : Cx} {e : List Expr} {t t' : TGs} (h : PGs X e t) (k : ∀ v σ H Q, t' v σ H Q → t v σ H Q) : PGs X e t' := ⟨fun pins s σ H v u Q I r q => h.run pins s σ H v u Q I r (k _ _ _ _ q)⟩
theorem xgs_nil : XGs X ca [] [] [] := PGs.weak pgs_nil fun vs σ H Q ⟨Z, η, ω, s, ds, g, r, h⟩ => by
  cases r with
  | nil => exact ⟨rfl, h σ ⟨ω, g, Step.refl⟩ rfl fun _ _ => rfl⟩
  | cons _ _ => exact h.elim
theorem xgs_cons {ts us : List Nat} {tg : Expr} {tgs : List Expr} {gf : GF} {gfs : List GF} (h : XG X ca ts tg gf) (h' : XGs X ca us tgs gfs) (hs : (assignEach (tg :: tgs) X.env).map (·.2) = assign tg X.env :: (assignEach tgs X.env).map (·.2) := by rfl) : XGs X ca (ts ++ us) (tg :: tgs) (gf :: gfs) := PGs.weak (pgs_cons h h' hs) fun vs σ H Q ⟨Z, η, ω, s, ds, g, r, h⟩ => by
  cases r with
  | nil => exact h.elim
  | @cons v d vs ds r1 r2 =>
    refine ⟨v, vs, rfl, Z, η, ω, s, d, g, r1, ?_⟩
    unfold gTs at h
    cases q : gf d s with
    | none => simp only [q] at h
    | some s1 =>
      simp only [q] at h
      rintro σ1 ⟨ω1, g1, st1⟩ l1 o1
      refine ⟨Z, η, ω1, s1, ds, g1, Rps.step st1 (List.prefix_refl _) r2, ?_⟩
      cases q2 : gTs gfs ds s1 with
      | none => rw [q2] at h; exact h
      | some s2 =>
        rw [q2] at h
        rintro σ2 ⟨ω2, g2, st2⟩ l2 o2
        exact h σ2 ⟨ω2, g2, st1.trans st2⟩ (l2.trans l1) fun i hi => (o2 i fun z => hi (List.mem_append_right _ z)).trans (o1 i fun z => hi (List.mem_append_left _ z))
theorem xg_tup {ts : List Nat} {tgs : List Expr} {gfs : List GF} {k n : Nat} {pos : Pos} (hc : X.calm = true) (h : XGs X ca ts tgs gfs) (hn : gfs.length = n) (hl : (assignEach tgs X.env).length = n := by rfl) (hf : (assignEach tgs X.env).findIdx? (·.1) = none := by rfl) : XG X ca ts (.Tuple tgs k pos) (gT gfs) := PG.weak (pg_tup hc h hl hf) fun v σ H Q ⟨Z, η, ω, s, d, g, r, h⟩ => by
  cases d with
  | tup ds =>
    obtain ⟨a, xs, rfl, ha, rr⟩ := r.seqT
    refine ⟨a, xs, rfl, ha, ?_, Z, η, ω, s, ds, g, rr, h⟩
    rw [rr.length]
    have key : ∀ (gs : List GF) (ds : List D) (s : Fr), (∃ s', gTs gs ds s = some s') → ds.length = gs.length := by
      intro gs
      induction gs with
      | nil => intro ds s ⟨s', e⟩; cases ds with | nil => rfl | cons _ _ => simp [gTs] at e
      | cons gg gs ih =>
        intro ds s ⟨s', e⟩
        cases ds with
        | nil => simp [gTs] at e
        | cons d ds =>
          unfold gTs at e
          cases q : gg d s with
          | none => rw [q] at e; cases e
          | some s1 => rw [q] at e; simp [ih ds s1 ⟨s', e⟩]
    have h : (match gTs gfs ds s with | some s' => ∀ σ' , (∃ ω', Good (gm X ca) Z η ω' σ' H s' ∧ Step (Lv Z η ω) H (Lv Z η ω') H) → σ'.length = σ.length → (∀ i, i ∉ ts → σ'[i]? = σ[i]?) → Q σ' H | none => False) := h
    cases q : gTs gfs ds s with
    | none => rw [q] at h; exact h.elim
    | some s' => rw [← hn]; exact key gfs ds s ⟨s', q⟩
  | _ => exact h.elim
end
end VL
set_option Elab.async false
set_option linter.all false
set_option maxRecDepth 100000
set_option maxHeartbeats 4000000
namespace VL
open PySem L2

section
variable {X : Cx} {ca : Str → Addr} {EX : WX} {ro : Bool} {e a b c : Expr} {es : List Expr} {F G : EF} {A : AF} {P P' : Fr → Res Pl} {x : Str} {i : Nat} {pos pos' : Pos}
theorem xs_n (hN : X.N.Nodup) (hi : X.N[i]? = some x) (hl : L2.Loc X.env.scope x) (h : XE X ca EX e F) (hs : swapsWith e (some (Expr.Name x pos')) pos.line X.env = pure false := by rfl) (hf : X.fn x = true ∨ List.lookup x X.env.scope.names = some NameKind.local := by first | exact .inl rfl | exact .inr rfl) :
    XS X ca EX ro (.Assign [.Name x pos'] e pos) (sAsg (gN i) F) := (ps_set (i := i) hN hi hl h hs hf).weak fun _ _ _ h => asg_n h
theorem xs_o (hN : X.N.Nodup) (hi : X.N[i]? = some x) (hl : L2.Loc X.env.scope x) (h : XO X ca EX e F) (hs : swapsWith e (some (Expr.Name x pos')) pos.line X.env = pure false := by rfl) (hf : X.fn x = true ∨ List.lookup x X.env.scope.names = some NameKind.local := by first | exact .inl rfl | exact .inr rfl) :
    XS X ca EX ro (.Assign [.Name x pos'] e pos) (sAsgO i F) := (ps_set (i := i) hN hi hl h hs hf).weak fun _ _ _ h => asg_o h
theorem xs_h (hN : X.N.Nodup) (hi : X.N[i]? = some x) (hl : L2.Loc X.env.scope x) (h : XO X ca EX e F) (hs : swapsWith e (some (Expr.Name x pos')) pos.line X.env = pure false := by rfl) (hf : X.fn x = true ∨ List.lookup x X.env.scope.names = some NameKind.local := by first | exact .inl rfl | exact .inr rfl) :
    XS X ca EX ro (.Assign [.Name x pos'] e pos) (sAsgH i F) := (ps_set (i := i) hN hi hl h hs hf).weak fun _ _ _ h => asg_h h
theorem xs_g {ts : List Nat} {tg : Expr} {gf : GF} (h : XE X ca EX e F) (hg : XG X ca ts tg gf) (h1 : swapsWithSole [tg] e pos.line X.env = pure false := by rfl) (h2 : swappedStores [tg] e X.env = pure none := by rfl) (h3 : (assignEach [tg] X.env).map (·.2) = [assign tg X.env] := by rfl) :
    XS X ca EX ro (.Assign [tg] e pos) (sAsg gf F) := (ps_asg h hg h1 h2 h3).weak fun _ _ _ h => asg_g h
theorem xs_aug {op : Operator} {f : Int → Int → Int} (hN : X.N.Nodup) (hi : X.N[i]? = some x) (hl : L2.Loc X.env.scope x) (h : XE X ca EX e F) (hp : PIp X op (ipI f)) (hf : X.fn x = true ∨ List.lookup x X.env.scope.names = some NameKind.local := by first | exact .inl rfl | exact .inr rfl) :
    XS X ca EX ro (.AugAssign (.Name x pos') op e pos) (sAug i f F) := (ps_aug (i := i) hN hi hl h hp hf).weak fun _ _ _ h => aug_s h
theorem xg_n (hN : X.N.Nodup) (hi : X.N[i]? = some x) (hl : L2.Loc X.env.scope x) (hf : X.fn x = true ∨ List.lookup x X.env.scope.names = some NameKind.local := by first | exact .inl rfl | exact .inr rfl) : XG X ca [i] (.Name x pos) (gN i) := xg_name (pg_name hN hi hl hf)
theorem xvar (i : Nat) {x : Str} {pos : Pos} (hN : X.N[i]? = some x := by rfl) (hv : Vis X.env.scope x := by first | exact Or.inl rfl | exact Or.inr (Or.inl rfl) | exact Or.inr (Or.inr rfl)) (hd : (x == ("__debug__" : Str)) = false := by decide)
    (hcd : (x == ("__classdict__" : Str)) = false := by decide) : XE X ca EX (.Name x pos) (eVar i) := xe_var (pv i hN hv hd hcd)
theorem xplv (i : Nat) {x : Str} {pos : Pos} (hN : X.N[i]? = some x := by rfl) (hv : Vis X.env.scope x := by first | exact Or.inl rfl | exact Or.inr (Or.inl rfl) | exact Or.inr (Or.inr rfl)) (hd : (x == ("__debug__" : Str)) = false := by decide)
    (hcd : (x == ("__classdict__" : Str)) = false := by decide) : XPl X ca EX (.Name x pos) (pSl i) := xpl_sl (pv i hN hv hd hcd)
theorem xmov (i : Nat) {x : Str} {pos : Pos} (hN : X.N[i]? = some x := by rfl) (hv : Vis X.env.scope x := by first | exact Or.inl rfl | exact Or.inr (Or.inl rfl) | exact Or.inr (Or.inr rfl)) (hd : (x == ("__debug__" : Str)) = false := by decide)
    (hcd : (x == ("__classdict__" : Str)) = false := by decide) : XO X ca EX (.Name x pos) (eMov i) := xo_mov (pv i hN hv hd hcd)
/-! ### comparisons -/
def bl2 (f : D → D → Option Bool) : D → D → Option D := fun d e => (f d e).map D.bl
def eCmp (f : D → D → Option Bool) (F G : EF) : EF := eOp (bl2 f) F G
theorem Rq.dp {Γ : Gm} {η : List Addr} {L : Addr → Prop} {H : Hp} {v : V} {d : D} {p : PyData} (r : Rq Γ η L H v d) (e : pd d = some p) : Dp Γ.K H v p := by
  rcases r with r | ⟨a, rfl, h⟩
  · exact r.dp e
  · cases d <;> first | exact h.elim | skip
    · obtain ⟨xs, h1, r⟩ := h
      unfold pd at e
      obtain ⟨ps, q, rfl⟩ := Option.map_eq_some_iff.mp e
      exact .lst (SqL.of h1) (r.dp q)
    · cases e
    · cases e
    · cases e
/-- == and != where the left one is a place -/
def tCmpP (f : D → D → Option Bool) (P : Fr → Res Pl) (G : EF) : TF := fun s => (P s).bind fun p s1 => (G s1).bind fun e s2 => .of (f (at_ s2 p) e) s2
def eCmpP (f : D → D → Option Bool) (P : Fr → Res Pl) (G : EF) : EF := fun s => (P s).bind fun p s1 => (G s1).bind fun e s2 => .of ((f (at_ s2 p) e).map D.bl) s2
theorem fEq_cases {d e : D} {b : Bool} (h : fEq d e = some b) : (∃ p q, pd d = some p ∧ pd e = some q ∧ SeqAt.shaped p = true ∧ SeqAt.shaped q = true ∧ b = PyData.eqv p q) ∨ ∃ x y, d = .str x ∧ e = .str y ∧ b = decide (x = y) := by
  unfold fEq at h
  split at h
  · cases h
    exact .inr ⟨_, _, rfl, rfl, rfl⟩
  · exact .inl (fEqD_inv h)
theorem eqP_v {neg : Bool} {σ : St} {H : Hp} {Q : VK} (h : liftG (gm X ca) EX relD (eCmpP (if neg then fNe else fEq) P G) σ H Q) :
    tOp (if neg then rNeA X.K else rEqA X.K) (fun σ H Q => liftG (gm X ca) EX (relPl σ) P σ H Q) (liftG (gm X ca) EX relD G) σ H Q := by
  obtain ⟨Z, η, ω, s, g, h⟩ := h
  refine go g h fun d s1 x H1 η1 ω1 p1 g1 st1 r1 h1 => go g1 h1 fun e s2 y H2 η2 ω2 p2 g2 st2 r2 h2 => ?_
  have ra := g2.at (relPl_step st2.toStep p2 r1)
  generalize at_ s2 d = c at h2 ra
  cases q : fEq c e with
  | none => cases neg <;> simp [fNe, q] at h2 <;> exact h2.elim
  | some b =>
    rcases fEq_cases q with ⟨p, q', e1, e2, k1, k2, rfl⟩ | ⟨a, b', rfl, rfl, rfl⟩
    · rcases ra with ra | rfl
      · cases neg with
        | true => simp [fNe, q] at h2; exact .inl ⟨_, _, ra.dp e1, Rp.dp r2 e2, k1, k2, h2.fin g2 (fun _ _ z => z) (.bl _)⟩
        | false => simp [q] at h2; exact .inl ⟨_, _, ra.dp e1, Rp.dp r2 e2, k1, k2, h2.fin g2 (fun _ _ z => z) (.bl _)⟩
      · cases e1
    · rcases ra with ra | z
      · cases ra.str
        cases r2
        have ed : decide (V.str a = V.str b') = decide (a = b') := by simp
        cases neg with
        | true => simp [fNe, q] at h2; exact .inr ⟨rfl, by rw [ed]; have := h2.fin g2 (fun _ _ z => z) (.bl _); simpa using this⟩
        | false => simp [q] at h2; exact .inr ⟨rfl, by rw [ed]; exact h2.fin g2 (fun _ _ z => z) (.bl _)⟩
      · cases z
theorem o_eqA (hu : X.A.units + 64 < cLine) : OpR X (compareOp .Eq) (if false = true then rNeA X.K else rEqA X.K) := opR_or (op_eqD hu) op_eq
theorem o_neA (hu : X.A.units + 64 < cLine) : OpR X (compareOp .NotEq) (if true = true then rNeA X.K else rEqA X.K) := opR_or (op_neD hu) op_ne
theorem xe_eqP (hu : X.A.units + 64 < cLine) (ha : XPl X ca EX a P) (hb : XE X ca EX b G) : XE X ca EX (.Compare a [.Eq] [b] pos) (eCmpP fEq P G) := (pe_cmpR (o_eqA hu) ha hb (nomark _)).weak fun σ H Q h => eqP_v (neg := false) h
theorem xe_neP (hu : X.A.units + 64 < cLine) (ha : XPl X ca EX a P) (hb : XE X ca EX b G) : XE X ca EX (.Compare a [.NotEq] [b] pos) (eCmpP fNe P G) := (pe_cmpR (o_neA hu) ha hb (nomark _)).weak fun σ H Q h => eqP_v (neg := true) h
theorem tst_v {σ : St} {H : Hp} {Q : Bool → Hp → Prop} {f : D → D → Option Bool} (h : liftG (gm X ca) EX relB (tCmpP f P G) σ H Q) : liftG (gm X ca) EX relD (eCmpP f P G) σ H fun x H' => ∃ k, x = .bl k ∧ Q k H' := by
  obtain ⟨Z, η, ω, s, g, h⟩ := h
  refine ⟨Z, η, ω, s, g, ?_⟩
  unfold tCmpP at h
  unfold eCmpP
  cases q : P s with
  | bad => rw [q] at h; exact h
  | exc c p s => rw [q] at h; exact h
  | ok pl s1 =>
    rw [q] at h
    simp only [Res.bind] at h ⊢
    cases q2 : G s1 with
    | bad => rw [q2] at h; exact h
    | exc c p s => rw [q2] at h; exact h
    | ok e s2 =>
      rw [q2] at h
      simp only at h ⊢
      cases q3 : f (at_ s2 pl) e with
      | none => rw [q3] at h; exact h.elim
      | some b =>
        rw [q3] at h
        rintro v H1 ⟨η1, ω1, p1, g1, st1, r1⟩
        cases r1
        exact ⟨b, rfl, h _ _ ⟨η1, ω1, p1, g1, st1, rfl⟩⟩
theorem xt_eq (hu : X.A.units + 64 < cLine) (ha : XPl X ca EX a P) (hb : XE X ca EX b G) : XT X ca EX (.Compare a [.Eq] [b] pos) (tCmpP fEq P G) := (pt_cmpR (o_eqA hu) ha hb (nomark _)).weak fun σ H Q h => eqP_v (neg := false) (tst_v h)
theorem xt_ne (hu : X.A.units + 64 < cLine) (ha : XPl X ca EX a P) (hb : XE X ca EX b G) : XT X ca EX (.Compare a [.NotEq] [b] pos) (tCmpP fNe P G) := (pt_cmpR (o_neA hu) ha hb (nomark _)).weak fun σ H Q h => eqP_v (neg := true) (tst_v h)
/-- in, not in: the right one a place -/
def tInP (f : D → D → Option Bool) (F : EF) (P : Fr → Res Pl) : TF := fun s => (F s).bind fun d s1 => (P s1).bind fun p s2 => .of (f d (at_ s2 p)) s2
def eInP (f : D → D → Option Bool) (F : EF) (P : Fr → Res Pl) : EF := fun s => (F s).bind fun d s1 => (P s1).bind fun p s2 => .of ((f d (at_ s2 p)).map D.bl) s2
/-- among data of any depth -/
def deepIn (x : D) (l : List D) : Option Bool := match pd x, pds l with
  | some p, some ps => if SeqAt.shaped p && SeqAt.shaped (.list ps) then some (ps.any fun z => PyData.eqv z p) else none
  | _, _ => none
def fMem (x y : D) : Option Bool := match fIn x y with
  | some b => some b
  | none => match y with
    | .lst l => deepIn x l
    | .scr l => deepIn x l
    | y => (dget y x).map Option.isSome
def fNotMem (x y : D) : Option Bool := (fMem x y).map (!·)
def rMemD (K : PySem.W.Frag) (neg : Bool) : R2 := fun x y H Q => (∃ d ds, Dp K H x d ∧ Dp K H y (.list ds) ∧ SeqAt.shaped d = true ∧ SeqAt.shaped (.list ds) = true ∧ Q (.bl (if neg then !ds.any fun z => PyData.eqv z d else ds.any fun z => PyData.eqv z d)) H) ∨
  ∃ a o, y = .ref a ∧ DGet H a x o ∧ Q (.bl (if neg then !o.isSome else o.isSome)) H
def rMemA (K : PySem.W.Frag) (neg : Bool) : R2 := fun x y H Q => rInA K neg x y H Q ∨ rMemD K neg x y H Q
theorem o_memD (hu : X.A.units + 65 < cLine) : OpR X (compareOp .In) (rMemD X.K false) := opR_or (op_inD hu) (by
  intro pins s σ H x y v u Q I rx ry ⟨a, o, e, g, q⟩
  subst e
  cases ry
  exact d_in (by omega) I g rx fun s' J => ⟨.bl o.isSome, H, J, rfl, q⟩)
theorem o_notmemD (hu : X.A.units + 65 < cLine) : OpR X (compareOp .NotIn) (rMemD X.K true) := opR_or (op_notInD hu) (by
  intro pins s σ H x y v u Q I rx ry ⟨a, o, e, g, q⟩
  subst e
  cases ry
  exact d_notIn (by omega) I g rx fun s' J => ⟨.bl !o.isSome, H, J, rfl, q⟩)
theorem o_mem (hu : X.A.units + 65 < cLine) : OpR X (compareOp .In) (rMemA X.K false) := opR_or o_in (o_memD hu)
theorem o_notmem (hu : X.A.units + 65 < cLine) : OpR X (compareOp .NotIn) (rMemA X.K true) := opR_or o_notin (o_notmemD hu)
theorem deep_inv {x : D} {l : List D} {r : Bool} (h : deepIn x l = some r) : ∃ p ps, pd x = some p ∧ pds l = some ps ∧ SeqAt.shaped p = true ∧ SeqAt.shaped (.list ps) = true ∧ r = ps.any fun z => PyData.eqv z p := by
  unfold deepIn at h
  split at h
  · rename_i p ps h1 h2
    split at h
    · rename_i hz
      rw [Bool.and_eq_true] at hz
      exact ⟨p, ps, h1, h2, hz.1, hz.2, (Option.some.inj h).symm⟩
    · cases h
  · cases h
theorem fIn_nil {d : D} : fIn d nil = none := by cases d <;> rfl
theorem in_runQ {neg : Bool} {η : List Addr} {L : Addr → Prop} {H : Hp} {x y : V} {d e : D} {r : Bool} {Q : VK} (rx : Rp (gm X ca) η L H x d) (ry : Rq (gm X ca) η L H y e) (h : fIn d e = some r) (q : Q (.bl (if neg then !r else r)) H) : rInA X.K neg x y H Q := by
  rcases ry with ry | ⟨a, rfl, ob⟩
  · exact in_run rx ry h q
  · unfold fIn at h
    split at h
    · split at h
      · rename_i hf
        rw [Bool.and_eq_true] at hf
        cases h
        obtain ⟨xs, h1, r1⟩ := ob
        refine .inl ⟨a, xs, rfl, .inl (SqL.of h1), flat_rp rx hf.1, flat_rps r1 hf.2, ?_⟩
        rw [inD_rp rx hf.1 r1 hf.2]; exact q
      · cases h
    · exact ob.elim
    · exact ob.elim
    · exact ob.elim
    · cases h
theorem mem_runQ {neg : Bool} {η : List Addr} {L : Addr → Prop} {H : Hp} {x y : V} {d e : D} {r : Bool} {Q : VK} (rx : Rp (gm X ca) η L H x d) (ry : Rq (gm X ca) η L H y e) (h : fMem d e = some r) (q : Q (.bl (if neg then !r else r)) H) : rMemA X.K neg x y H Q := by
  unfold fMem at h
  split at h
  · rename_i b hb
    cases h
    exact .inl (in_runQ rx ry hb q)
  · refine .inr ?_
    split at h
    · obtain ⟨p, ps, h1, h2, h3, h4, rfl⟩ := deep_inv h
      exact .inl ⟨p, ps, rx.dp h1, ry.dp (p := .list ps) (by unfold pd; rw [h2]; rfl), h3, h4, q⟩
    · obtain ⟨p, ps, h1, h2, h3, h4, rfl⟩ := deep_inv h
      exact .inl ⟨p, ps, rx.dp h1, ry.dp (p := .list ps) (by unfold pd; rw [h2]; rfl), h3, h4, q⟩
    · obtain ⟨o, ho, rfl⟩ := Option.map_eq_some_iff.mp h
      obtain ⟨a, w, rfl, g, cs⟩ := dget_run ry rx ho
      refine .inr ⟨a, w, rfl, g, ?_⟩
      rcases cs with ⟨rfl, rfl⟩ | ⟨v, d, rfl, rfl, _⟩ <;> exact q
theorem fMem_nil {d : D} : fMem d nil = none := by
  unfold fMem
  rw [fIn_nil]
  rfl
theorem inP_v {neg : Bool} {σ : St} {H : Hp} {Q : VK} (h : liftG (gm X ca) EX relD (eInP (if neg then fNotMem else fMem) F P) σ H Q) : tOp (rMemA X.K neg) (liftG (gm X ca) EX relD F) (fun σ H Q => liftG (gm X ca) EX (relPl σ) P σ H Q) σ H Q := by
  obtain ⟨Z, η, ω, s, g, h⟩ := h
  refine go g h fun d s1 x H1 η1 ω1 p1 g1 st1 r1 h1 => go g1 h1 fun e s2 y H2 η2 ω2 p2 g2 st2 r2 h2 => ?_
  have ra := g2.at r2
  generalize at_ s2 e = c at h2 ra
  cases q : fMem d c with
  | none => cases neg <;> simp [fNotMem, q] at h2 <;> exact h2.elim
  | some b =>
    rcases ra with ra | rfl
    · refine mem_runQ (Rp.step st2.toStep p2 r1) ra q ?_
      cases neg with
      | true => simp [fNotMem, q] at h2; exact h2.fin g2 (fun _ _ z => z) (.bl _)
      | false => simp [q] at h2; exact h2.fin g2 (fun _ _ z => z) (.bl _)
    · rw [fMem_nil] at q; cases q
theorem tst_in {σ : St} {H : Hp} {Q : Bool → Hp → Prop} {f : D → D → Option Bool} (h : liftG (gm X ca) EX relB (tInP f F P) σ H Q) : liftG (gm X ca) EX relD (eInP f F P) σ H fun x H' => ∃ k, x = .bl k ∧ Q k H' := by
  obtain ⟨Z, η, ω, s, g, h⟩ := h
  refine ⟨Z, η, ω, s, g, ?_⟩
  unfold tInP at h
  unfold eInP
  cases q : F s with
  | bad => rw [q] at h; exact h
  | exc c p s => rw [q] at h; exact h
  | ok pl s1 =>
    rw [q] at h
    simp only [Res.bind] at h ⊢
    cases q2 : P s1 with
    | bad => rw [q2] at h; exact h
    | exc c p s => rw [q2] at h; exact h
    | ok e s2 =>
      rw [q2] at h
      simp only at h ⊢
      cases q3 : f pl (at_ s2 e) with
      | none => rw [q3] at h; exact h.elim
      | some b =>
        rw [q3] at h
        rintro v H1 ⟨η1, ω1, p1, g1, st1, r1⟩
        cases r1
        exact ⟨b, rfl, h _ _ ⟨η1, ω1, p1, g1, st1, rfl⟩⟩
theorem xt_in (hu : X.A.units + 65 < cLine) (ha : XE X ca EX a F) (hb : XPl X ca EX b P) (hm : behindInMarks .In b = false := by rfl) : XT X ca EX (.Compare a [.In] [b] pos) (tInP fMem F P) := (pt_cmpR (o_mem hu) ha hb hm).weak fun σ H Q h => inP_v (neg := false) (tst_in h)
theorem xt_notin (hu : X.A.units + 65 < cLine) (ha : XE X ca EX a F) (hb : XPl X ca EX b P) (hm : behindInMarks .NotIn b = false := by rfl) : XT X ca EX (.Compare a [.NotIn] [b] pos) (tInP fNotMem F P) := (pt_cmpR (o_notmem hu) ha hb hm).weak fun σ H Q h => inP_v (neg := true) (tst_in h)
theorem xe_in (hu : X.A.units + 65 < cLine) (ha : XE X ca EX a F) (hb : XPl X ca EX b P) (hm : behindInMarks .In b = false := by rfl) : XE X ca EX (.Compare a [.In] [b] pos) (eInP fMem F P) := (pe_cmpR (o_mem hu) ha hb hm).weak fun σ H Q h => inP_v (neg := false) h
theorem xe_notin (hu : X.A.units + 65 < cLine) (ha : XE X ca EX a F) (hb : XPl X ca EX b P) (hm : behindInMarks .NotIn b = false := by rfl) : XE X ca EX (.Compare a [.NotIn] [b] pos) (eInP fNotMem F P) := (pe_cmpR (o_notmem hu) ha hb hm).weak fun σ H Q h => inP_v (neg := true) h
/-! ### < and its kin: ints, texts -/
def cpLt (x y : Str) : Bool := decide (x.cps.toList < y.cps.toList)
def fLt : D → D → Option Bool
  | .int i, .int j => some (decide (i < j))
  | .str x, .str y => some (decide (x.cps.toList < y.cps.toList))
  | _, _ => none
def fLe : D → D → Option Bool
  | .int i, .int j => some (decide (i ≤ j))
  | _, _ => none
def fGt : D → D → Option Bool
  | .int i, .int j => some (decide (j < i))
  | _, _ => none
def fGe : D → D → Option Bool
  | .int i, .int j => some (decide (j ≤ i))
  | _, _ => none
def rLtA : R2 := fun x y H Q => rI0 (fun i j => V.bl (decide (i < j))) x y H Q ∨ ∃ i j : Str, x = V.str i ∧ y = V.str j ∧ Q (V.bl (decide (i.cps.toList < j.cps.toList))) H
theorem o_lt : OpR X (compareOp .Lt) rLtA := opR_or op_lt op_lt_str
theorem v_lt {K : PySem.W.Frag} : OpV ca K rLtA (bl2 fLt) := by
  intro η L H x y d e res Q hl rx ry h k
  obtain ⟨b, h2, rfl⟩ := map_bl h
  unfold fLt at h2
  split at h2
  · cases rx; cases ry; cases h2
    exact .inl ⟨_, _, rfl, rfl, k _ _ (fun _ _ z => z) (.bl _)⟩
  · cases rx; cases ry; cases h2
    exact .inr ⟨_, _, rfl, rfl, k _ _ (fun _ _ z => z) (.bl _)⟩
  · cases h2
theorem v_le {K : PySem.W.Frag} : OpV ca K (rI0 fun i j => V.bl (decide (i ≤ j))) (bl2 fLe) := by
  intro η L H x y d e res Q hl rx ry h k
  obtain ⟨b, h2, rfl⟩ := map_bl h
  unfold fLe at h2
  split at h2
  · cases rx; cases ry; cases h2
    exact ⟨_, _, rfl, rfl, k _ _ (fun _ _ z => z) (.bl _)⟩
  · cases h2
theorem v_gt {K : PySem.W.Frag} : OpV ca K (rI0 fun i j => V.bl (decide (j < i))) (bl2 fGt) := by
  intro η L H x y d e res Q hl rx ry h k
  obtain ⟨b, h2, rfl⟩ := map_bl h
  unfold fGt at h2
  split at h2
  · cases rx; cases ry; cases h2
    exact ⟨_, _, rfl, rfl, k _ _ (fun _ _ z => z) (.bl _)⟩
  · cases h2
theorem v_ge {K : PySem.W.Frag} : OpV ca K (rI0 fun i j => V.bl (decide (j ≤ i))) (bl2 fGe) := by
  intro η L H x y d e res Q hl rx ry h k
  obtain ⟨b, h2, rfl⟩ := map_bl h
  unfold fGe at h2
  split at h2
  · cases rx; cases ry; cases h2
    exact ⟨_, _, rfl, rfl, k _ _ (fun _ _ z => z) (.bl _)⟩
  · cases h2
/-! ### -x -/
def fNeg : D → Option D
  | .int i => some (.int (-i))
  | _ => none
def eUn (f : D → Option D) (F : EF) : EF := fun s => (F s).bind fun d s1 => .of (f d) s1
theorem xe_neg (h : XE X ca EX a F) : XE X ca EX (.UnaryOp .USub a pos) (eUn fNeg F) := (pe_un un_neg h).weak fun σ H Q ⟨Z, η, ω, s, g, h⟩ => go g h fun d s1 x H1 η1 ω1 p1 g1 st1 r1 h1 => by
  cases r1 <;> first | exact h1.elim | exact ⟨_, rfl, h1.fin g1 (fun _ _ z => z) (.int _)⟩
end
/-! ### defs by name -/
structure DefAt (K : PySem.W.Frag) (mg : Str → Option Value) (x : Str) (st : Stmt) : Prop where
  ex : ∃ f fd, Fun K x x st f fd ∧ mg x = some (.ref f)
/-- fd stands at f -/
def HasFn (K : PySem.W.Frag) (f : Addr) (fd : FuncData) : Prop := ∃ oc od osl, K.lookup f = some ⟨oc, od, .func fd, osl⟩
theorem HasFn.one {K : PySem.W.Frag} {f : Addr} {a b : FuncData} (x : HasFn K f a) (y : HasFn K f b) : a = b := by
  obtain ⟨_, _, _, p⟩ := x
  obtain ⟨_, _, _, q⟩ := y
  rw [p] at q
  cases q
  rfl
theorem HasFn.of {K : PySem.W.Frag} {x qual : Str} {st : Stmt} {f : Addr} {fd : FuncData} (F : Fun K x qual st f fd) : HasFn K f fd := by
  obtain ⟨oc, od, _, _, _, _, _, _, osl, _, l, _⟩ := F.ex
  exact ⟨oc, od, osl, l⟩
structure Cal (P : Program) (w : World) (K : PySem.W.Frag) (mg : Str → Option Value) (base : Heap) (ca : Str → Addr) (CX : CXT) (k : Nat) (x : Str) (ps : List Str) (ro : Bool) (G : Fn) : Prop where
  ex : ∃ f fd, FnG P w K mg base CX k f fd ps (spF ⟨K, ca⟩ ro G) ∧ mg x = some (.ref f) ∧ PySem.W.keepIn K (.ref f) = true ∧ Binds K fd ps [] ∧ HasFn K f fd
theorem DefAt.cal {P : Program} {w : World} {K : PySem.W.Frag} {mg : Str → Option Value} {base : Heap} {ca : Str → Addr} {x : Str} {st : Stmt} {N ps : List Str} {k : Nat} {ro : Bool} {F : SF} (D : DefAt K mg x st) (S : FnScope N ps (defScope st))
    (hbn : ∀ (kV doc pm : Value) (an : Option Addr) (cdv ct : Value) (us : List Value), us.length = ps.length → bindArgs (PySem.W.fnOf x x (defArgs st) (defBody st) (defScope st) .none kV doc pm an cdv ct) ⟨us, []⟩ = pure (ps.zip us))
    (hb : ∀ {f : Addr} (cdv : Value) (A : Around) (outer : List Env) (s : Shared) (H : Hp) (E : XK), RoomG k (A.deeper (PyProof.Rows.envOfC x (defScope st) s.heap.objs.size f cdv)) → XB (cxOf CX0 P w K mg base N x (defScope st) f cdv A outer s H E).nox ca (fun cls dd _ H' => E cls dd H') ro (defBody st) F) :
    Cal P w K mg base ca CX0 (k + 1) x ps ro (mkF ro ps.length N.length F) := by
  obtain ⟨f, fd, FD, hm⟩ := D.ex
  exact ⟨f, fd, fn_ok FD S fun cdv A outer s H E hr => hb cdv A outer s H E hr, hm, FD.kp, FD.binds hbn, .of FD⟩
section
variable {X : Cx} {ca : Str → Addr} {EX : WX} {A : AF} {G : Fn} {k : Nat} {x : Str} {p pos : Pos} {e : Expr} {es : List Expr} {ps : List Str}
theorem xe_cal (C : Cal X.prog X.w X.K X.mg X.base ca CX0 k x ps false G) (hr : RoomG k X.A) (ha : XA X ca EX (e :: es) A) (hg : Gl X x := by rfl) (hdb : (x == ("__debug__" : Str)) = false := by decide) (he : starEach (e :: es) X.env = (false, eval e X.env) :: starEach es X.env := by rfl) (hpl : (backTo pos (starEach es X.env)).any (·.1) = false := by rfl) :
    XE X ca EX (.Call (.Name x p) (e :: es) [] pos) (eCall G A) := by
  obtain ⟨f, fd, F, hm, hk, hb, _⟩ := C.ex
  exact xe_call F hr hg hm hk hb (fun _ => passAt0) ha hdb he hpl
theorem xo_cal (C : Cal X.prog X.w X.K X.mg X.base ca CX0 k x ps true G) (hr : RoomG k X.A) (ha : XA X ca EX (e :: es) A) (hg : Gl X x := by rfl) (hdb : (x == ("__debug__" : Str)) = false := by decide) (he : starEach (e :: es) X.env = (false, eval e X.env) :: starEach es X.env := by rfl) (hpl : (backTo pos (starEach es X.env)).any (·.1) = false := by rfl) :
    XO X ca EX (.Call (.Name x p) (e :: es) [] pos) (eCall G A) := by
  obtain ⟨f, fd, F, hm, hk, hb, _⟩ := C.ex
  exact xo_call F hr hg hm hk hb (fun _ => passAt0) ha hdb he hpl
end
namespace B
theorem abs : bootBuiltins "abs" = some (.builtin "abs") := by decide +kernel
theorem len : bootBuiltins "len" = some (.builtin "len") := by decide +kernel
theorem list : bootBuiltins "list" = some (.type "list") := by decide +kernel
theorem tuple : bootBuiltins "tuple" = some (.type "tuple") := by decide +kernel
theorem sorted : bootBuiltins "sorted" = some (.builtin "sorted") := by decide +kernel
theorem all : bootBuiltins "all" = some (.builtin "all") := by decide +kernel
theorem any : bootBuiltins "any" = some (.builtin "any") := by decide +kernel
theorem min : bootBuiltins "min" = some (.builtin "min") := by decide +kernel
theorem max : bootBuiltins "max" = some (.builtin "max") := by decide +kernel
theorem repr : bootBuiltins "repr" = some (.builtin "repr") := by decide +kernel
theorem set : bootBuiltins "set" = some (.type "set") := by decide +kernel
end B
end VL
set_option Elab.async false
set_option linter.all false
set_option maxRecDepth 100000
set_option maxHeartbeats 4000000
/-! sorted of data: tuples too, empty ones among them; the iterable a list or a tuple -/
namespace PySem.W
open PySem PySem.Calls PyProof.Rows PySem.SeqAt
section
variable {prog : Program} {w : World} {A : Around} {E : Value → Shared → Prop} {s : Shared}
theorem call_tuple_lt {Q : Value → Shared → Prop} {l b : Addr} {items items2 : Array Value} {e r : Nat → Bool} (hl : s.heap.IsTuple l items) (hb : s.heap.IsTuple b items2)
    (he : ∀ j (h1 : j < items.size) (h2 : j < items2.size), EqAt A.in1 s items[j] items2[j] (e j)) (hr : ∀ j (h1 : j < items.size) (h2 : j < items2.size), e j = false → RcLt A.in1 s items[j] items2[j] (r j))
    (h : Q (.bool (firstLt e r (decide (items.size < items2.size)) (List.range (min items.size items2.size)))) s) : wpAny (model prog w) A (call (.builtin "tuple.__lt__") [.ref l, .ref b]) Q E s := by
  obtain ⟨⟨cls, dd, data, sl⟩, ho, hc, n, hd⟩ := id hl
  obtain ⟨⟨cls2, dd2, data2, sl2⟩, ho2, hc2, n2, hd2⟩ := id hb
  simp only at hc hd hc2 hd2
  subst hc hd hc2 hd2
  exact call_meets F.slot_tuple_lt ⟨_, ho, rfl⟩ F.entry_tuple_lt (F.args_tuple_lt_2 _ _) (tuple_ltAt l b items items2 n n2 dd dd2 sl sl2 e r) ⟨ho, ho2, he, hr, h⟩
theorem oneLt_tups {f : Bool} {xs ys : List PyData} {a b : Value} {as bs : List Addr} {Q : Bool → Shared → Prop} (ra : Reads s.heap a (.tuple xs) as) (rb : Reads s.heap b (.tuple ys) bs) (h : alikeAll xs ys = true)
    (hu : A.units + min (PyData.tuple xs).depth (PyData.tuple ys).depth < cLine) (hq : Q (dataLt (.tuple xs) (.tuple ys)) s) : wpAny (model prog w) A (oneLt' f a b) Q E s := by
  cases f with
  | false => exact oneLt_alike (fun z => by cases z) ra rb (by simpa [alike] using h) (fun z => by cases z) hu hq
  | true =>
    cases ra with
    | @tuple l o vs n _ as₁ h1 h2 h3 h4 =>
      cases rb with
      | @tuple l' o' vs' n' _ bs₁ k1 k2 k3 k4 =>
        have n1 : vs.size = xs.length := by simpa using ReadsAll.length _ _ _ h4
        have n2 : vs'.size = ys.length := by simpa using ReadsAll.length _ _ _ k4
        rw [dataLt_tuple, ← firstLt_toks xs ys h, ← n1, ← n2] at hq
        rw [oneLt'_eq]
        simp only [if_true]
        refine wpAny_bind (wpAny_cRoomFor (room_here hu) ?_)
        refine wpAny_bind (wpAny_callSpecialIfBound?_slot (T := "tuple") ⟨_, h1, h2⟩ F.slot_tuple_lt (call_tuple_lt (e := pairEq xs ys) (r := fun j => dataLt (xs.getD j .none) (ys.getD j .none)) ⟨_, h1, h2, _, h3⟩ ⟨_, k1, k2, _, k3⟩ (fun j j1 j2 => ?_) (fun j j1 j2 hj => ?_) ?_))
        · have := eqAt_alikeAll xs ys A.in1 s vs.toList vs'.toList _ _ h4 k4 h (room_in hu) j (by simpa using j1) (by simpa using j2)
          simpa using this
        · have := rcLt_alikeAll xs ys A.in1 s vs.toList vs'.toList _ _ h4 k4 h (room_in hu) j (by simpa using j1) (by simpa using j2) hj
          simpa using this
        · exact wpAny_truthy_bool hq
/-- the first items of tuples, where there are some -/
theorem firsts_any {M : Model} : ∀ {vs : List Value} {ds : List PyData} {Q : List (Option Value) → Shared → Prop}, EachIs (fun v d => ∃ as, Reads s.heap v d as) vs ds → (∀ d ∈ ds, ∃ xs, d = .tuple xs) →
    (∀ fo : List (Option Value), fo.length = ds.length → (∀ i (h : i < fo.length) (h' : i < ds.length), (fo[i]).isSome = true ↔ ∃ x r, ds[i] = .tuple (x :: r)) → Q fo s) → wpAny M A (vs.mapM firstOfTuple') Q E s
  | _, _, _, .nil, _, h => by rw [List.mapM_nil]; exact wpAny_pure (h [] rfl fun i h => absurd h (by simp))
  | _, _, Q, .cons (b := d) (a := v) (as := vs) (bs := ds) ⟨as, r⟩ t, ht, h => by
    obtain ⟨xs, rfl⟩ := ht d (List.mem_cons_self ..)
    cases r with
    | @tuple a o ys n _ _ ho hc hd hr =>
      rw [List.mapM_cons]
      refine wpAny_bind ?_
      rw [kas_first_eq]
      refine wpAny_bind (Looks.here (show Looks M s.heap (typeOf (.ref a)) o.cls from (Looks.ld ho).andThen .now) ?_)
      rw [hc, if_neg (by first | decide | simp)]
      refine wpAny_bind (listItems_at ho hd (wpAny_pure ?_))
      refine wpAny_bind (firsts_any (Q := fun bs s' => wpAny M A (pure (ys[0]? :: bs)) Q E s') t (fun d hd => ht d (List.mem_cons_of_mem _ hd)) fun fo hl hf => wpAny_pure (h _ (by simp [hl]) fun i h1 h2 => ?_))
      cases i with
      | zero =>
        simp only [List.getElem_cons_zero]
        have hz : ys.toList.length = xs.length := ReadsAll.length _ _ _ hr
        rw [Array.length_toList] at hz
        cases xs with
        | nil =>
          have : ys[0]? = none := by rw [Array.getElem?_eq_none_iff]; exact Nat.le_of_eq hz
          rw [this]
          simp
        | cons x r =>
          have : (ys[0]?).isSome = true := by simp at hz ⊢; omega
          rw [this]
          simp
      | succ i =>
        simp only [List.getElem_cons_succ]
        exact hf i _ _
theorem SortsAt.tups {vs : List Value} {ds : List PyData} (e : EachIs (fun v d => ∃ as, Reads s.heap v d as) vs ds) (hal : AllAlike ds) (ht : ∀ d ∈ ds, ∃ xs, d = .tuple xs) (hu : ∀ d, d ∈ ds → A.units + d.depth < cLine) : SortsAt prog w A s (dataKind s.heap ds) vs := by
  by_cases hne : ∀ d ∈ ds, ∃ x r, d = .tuple (x :: r)
  · exact SortsAt.data e hal (.inl hne) hu
  have room : ∀ {d d' : PyData}, d ∈ ds → A.units + min d.depth d'.depth < cLine := fun {d d'} hd => Nat.lt_of_le_of_lt (Nat.add_le_add_left (Nat.min_le_left _ _) _) (hu d hd)
  have lt : ∀ f : Bool, H.LtAt prog w A s (dataKind s.heap ds) (if f then oneType' else general') := by
    intro f E x y a b Q ha hb hq
    obtain ⟨d, as, hd, ra, rfl⟩ := dataKind_inv ha
    obtain ⟨d', as', hd', rb, rfl⟩ := dataKind_inv hb
    have hdd := hal d hd d' hd'
    obtain ⟨xs, rfl⟩ := ht d hd
    obtain ⟨ys, rfl⟩ := ht d' hd'
    have hr := room (d' := .tuple ys) hd
    cases f with
    | true =>
      show wpAny (model prog w) A (keyLt' oneType' x y) Q E s
      rw [keyLt'_oneType]
      exact oneLt_tups ra rb (by simpa [alike] using hdd) hr hq
    | false =>
      show wpAny (model prog w) A (keyLt' general' x y) Q E s
      have eg : keyLt' general' x y = oneLt' false x y := rfl
      rw [eg]
      exact oneLt_tups ra rb (by simpa [alike] using hdd) hr hq
  have keys : ∀ v, v ∈ vs → ∃ a, (dataKind s.heap ds).keyOf v = some a := fun v hv => by
    obtain ⟨d, hd, as, r⟩ := e.left v hv
    exact ⟨_, dataKind_some hal hd r⟩
  have el := e.length
  cases ds with
  | nil => exact absurd (fun d hd => by cases hd) hne
  | cons d₀ ds₀ =>
    have nall : ∀ fo : List (Option Value), fo.length = (d₀ :: ds₀).length → (∀ i (h : i < fo.length) (h' : i < (d₀ :: ds₀).length), (fo[i]).isSome = true ↔ ∃ x r, (d₀ :: ds₀)[i] = .tuple (x :: r)) → (fo.toArray.all fun x => x.isSome) = false := by
      intro fo hl hf
      refine Bool.eq_false_iff.mpr fun z => hne fun d hd => ?_
      obtain ⟨i, hi, rfl⟩ := List.getElem_of_mem hd
      refine (hf i (by omega) hi).mp ?_
      rw [List.all_toArray, List.all_eq_true] at z
      exact z _ (List.getElem_mem _)
    by_cases h0 : ∃ x r, d₀ = .tuple (x :: r)
    · refine ⟨keys, general', lt false, fun h2 E Q hq => ?_⟩
      rw [keyKind'_eq, List.mapM_toArray, map_eq_pure_bind]
      refine wpAny_bind (wpAny_bind (firsts_any e ht fun fo hl hf => wpAny_pure ?_))
      rw [if_neg (by rw [nall fo hl hf]; simp)]
      have : ((fo.toArray[0]?).bind id).isSome = true := by
        have hz : 0 < fo.length := by rw [hl]; simp
        have := (hf 0 hz (by simp)).mpr h0
        simp [hz]
        exact this
      rw [if_pos this]
      exact wpAny_pure hq
    · refine ⟨keys, oneType', lt true, fun h2 E Q hq => ?_⟩
      rw [keyKind'_eq, List.mapM_toArray, map_eq_pure_bind]
      refine wpAny_bind (wpAny_bind (firsts_any e ht fun fo hl hf => wpAny_pure ?_))
      rw [if_neg (by rw [nall fo hl hf]; simp)]
      have : ¬ ((fo.toArray[0]?).bind id).isSome = true := by
        have hz : 0 < fo.length := by rw [hl]; simp
        have hn : ¬ (fo[0]).isSome = true := fun z => h0 ((hf 0 hz (by simp)).mp z)
        simp [hz]
        simpa using hn
      rw [if_neg this]
      rw [oneTypeOnly'_eq, List.mapM_toArray, map_eq_pure_bind]
      refine wpAny_bind (wpAny_bind (wpAny_bind (kas_mapM (r := Value.type "tuple") _ (fun v hv Q' hq => ?_) (wpAny_pure ?_))))
      · obtain ⟨d, hd, as, r⟩ := e.left v hv
        obtain ⟨xs, rfl⟩ := ht d hd
        exact (looks_reads r).here hq
      · have hall : ((List.map (fun _ => Value.type "tuple") vs).toArray.all fun x => x == Value.type "tuple") = true := by
          simp only [List.all_toArray, List.all_map, List.all_eq_true]
          intro _ _
          rfl
        have hv : 0 < vs.length := by omega
        have h0 : (List.map (fun _ => Value.type "tuple") vs).toArray[0]? = some (Value.type "tuple") := by
          simp
          obtain ⟨v, r, rfl⟩ : ∃ v r, vs = v :: r := by cases vs with | nil => simp at hv | cons v r => exact ⟨v, r, rfl⟩
          exact ⟨v, rfl⟩
        rw [h0]
        simp only [hall, if_true]
        exact wpAny_pure (by simpa using wpAny_pure hq)
/-- collecting a tuple -/
theorem collect_tup {l : Addr} {vs : List Value} {Q : List Value → Shared → Prop} (hl : s.heap.IsTuple l vs.toArray)
    (h : Q vs { s with heap := (s.heap.push (seqObj "list" #[] 0)).update s.heap.objs.size (Obj.mapSeq (· ++ vs.toArray)) }) (hsz : vs.length ≤ sizeLine) :
    wpAny (model prog w) A (collect (.ref l)) Q E s := by
  obtain ⟨o, ho, hc, n, hd⟩ := id hl
  unfold collect
  refine wpAny_bind (wpAny_runValue (codeAny_builtin entry_proto_collect' ?_))
  show wpAny _ _ (do again (.builtin "list.__iadd__" ⟨[← newList [], .ref l], []⟩)) _ _ s
  refine wpAny_bind (wpAny_newList (wpAny_pure ⟨Code.quiet_builtin _ (by decide +kernel), codeAny_builtin entry_list_iadd' ?_⟩))
  show wpAny _ _ (Builtin.List.listExtendWith (.ref s.heap.objs.size) (.ref l) (.ref s.heap.objs.size)) _ _ { s with heap := s.heap.push (seqObj "list" #[] 0) }
  unfold Builtin.List.listExtendWith
  have ho' : (s.heap.push (seqObj "list" #[] 0)).get? l = some o := Heap.get?_push_of_some _ ho
  refine wpAny_bind (wpAny_typeOf (T := "tuple") ⟨o, ho', hc⟩ ?_)
  have ht : (Value.type "tuple" == Value.type "tuple") = true := by rfl
  rw [if_pos (by rw [ht]; simp)]
  refine wpAny_bind (listItems_at ho' hd ?_)
  refine wpAny_bind (listItems_at (xs := #[]) (n := 0) (Heap.get?_push_size _ rfl) rfl ?_)
  rw [if_neg (by simp)]
  refine wpAny_bind (listUpdate_at (xs := #[]) (n := 0) (Heap.get?_push_size _ rfl) rfl ?_ (Nat.zero_le _) (by show (#[] ++ vs.toArray).size ≤ sizeLine + 1; simp only [Array.size_append, List.size_toArray, List.length_nil]; omega))
  refine wpAny_pure ?_
  show wpAny (model prog w) A (do
      let o ← load s.heap.objs.size
      match o.data with
      | .seq xs _ => pure xs.toList
      | _ => unsupported "internal:collect") Q E { s with heap := (s.heap.push (seqObj "list" #[] 0)).update s.heap.objs.size (Obj.mapSeq (· ++ vs.toArray)) }
  refine wpAny_bind (wpAny_load (get?_update_seq (Heap.get?_push_size _ rfl) _) ?_)
  show wpAny _ _ (pure ((#[] : Array Value) ++ vs.toArray).toList) Q E _
  rw [show ((#[] : Array Value) ++ vs.toArray).toList = vs by simp]
  exact wpAny_pure h
theorem sorted_any {l : Addr} {vs : List Value} {κ : PyProof.Rows.KeyKind} {Q : Value → Shared → Prop} (hl : s.heap.IsList l vs.toArray ∨ s.heap.IsTuple l vs.toArray) (S : SortsAt prog w A.in1.in1 { s with heap := sortingHeap (copyHeap s.heap vs) (s.heap.objs.size + 1) vs } κ vs) (hL : vs.length ≤ sizeLine)
    (h : Q (.ref (s.heap.objs.size + 1)) { s with heap := sortedAll s.heap vs (sortVals κ false vs vs).toArray }) : wpAny (model prog w) A (call (.builtin "sorted") [.ref l]) Q E s := by
  have key : ∀ {A' : Around} {E' : Value → Shared → Prop} {Q' : List Value → Shared → Prop}, Q' vs { s with heap := (s.heap.push (seqObj "list" #[] 0)).update s.heap.objs.size (Obj.mapSeq (· ++ vs.toArray)) } → wpAny (model prog w) A' (collect (.ref l)) Q' E' s := fun {A' E' Q'} h => by
    rcases hl with hl | hl
    · exact collect_list hl h hL
    · exact collect_tup hl h hL
  refine call_function_entry_kw kind_sorted plain_sorted entry_sorted (args_sorted1 _) ?_
  unfold Builtin.«sorted»
  refine wpAny_bind (m := checkCount "sorted" 1 1 _) (wpAny_pure ?_)
  refine wpAny_bind (key ?_)
  refine wpAny_bind (wpAny_newList ?_ hL)
  have hsz : ((s.heap.push (seqObj "list" #[] 0)).update s.heap.objs.size (Obj.mapSeq (· ++ vs.toArray))).objs.size = s.heap.objs.size + 1 := by
    rw [Heap.size_update, size_push']
  show wpAny _ _ _ _ _ { s with heap := copyHeap s.heap vs }
  rw [hsz]
  refine wpAny_bind (wpAny_holding (wpAny_call_entry_kw slot_list_sort ⟨_, copyHeap_at s.heap vs, rfl⟩ entry_list_sort ?body (args_list_sort _)))
  case body =>
    show wpAny (model prog w) A.in1.in1 (Builtin.«list.sort» ⟨[.ref (s.heap.objs.size + 1)], []⟩) _ _ _
    refine wpAny_mono (list_sort_vals (P := fun f s' => f = .done (.ret .none) ∧ Q (.ref (s.heap.objs.size + 1)) s') (s := { s with heap := copyHeap s.heap vs }) (copyHeap_at s.heap vs) S hL ⟨rfl, h⟩) (fun f s' hf => ?_) fun _ _ e => e
    obtain ⟨rfl, hq⟩ := hf
    exact ⟨_, rfl, wpAny_pure ⟨_, rfl, hq⟩⟩
/-- the items of a list that reads as data, sorted -/
theorem SortsAt.every {vs : List Value} {ds : List PyData} (e : EachIs (fun v d => ∃ as, Reads s.heap v d as) vs ds) (hal : AllAlike ds) (hk : Sortable ds ∨ ∀ d ∈ ds, ∃ xs, d = .tuple xs) (hu : ∀ d, d ∈ ds → A.units + d.depth < cLine) : SortsAt prog w A s (dataKind s.heap ds) vs := by
  rcases hk with hk | hk
  · exact SortsAt.data e hal hk hu
  · exact SortsAt.tups e hal hk hu
end
end PySem.W
set_option Elab.async false
set_option linter.all false
set_option maxRecDepth 100000
set_option maxHeartbeats 4000000
namespace VL
open PySem L2
section
variable {X : Cx} {ca : Str → Addr} {EX : WX} {K : PySem.W.Frag} {k : Nat} {e : Expr} {P : Fr → Res Pl}
/-! ### sorted -/
def isTupP : PyData → Bool
  | .tuple _ => true
  | _ => false
def plainP : PyData → Bool
  | .tuple _ => false
  | .none => false
  | _ => true
def sortOk (ps : List PyData) : Bool := (ps.all fun p => ps.all fun q => PySem.W.alike p q) && (ps.all fun p => decide (p.depth ≤ 64)) && (ps.all isTupP || ps.all plainP)
noncomputable def sortBy (xs : List V) (ps : List PyData) : List V := ((xs.zip ps).mergeSort (PySem.W.dataLe false (β := V × PyData) (·.2))).map (·.1)
def rSortedA (K : PySem.W.Frag) : List V → Hp → VK → Prop := fun vs H Q => ∃ (a : Addr) (xs : List V) (ps : List PyData), vs = [.ref a] ∧ (SqL K H a xs ∨ SqT K H a xs) ∧ DpAll K H xs ps ∧ sortOk ps = true ∧ xs.length ≤ sizeLine ∧ ∀ p, H p = none → Q (.ref p) (upd H p (.lst (sortBy xs ps)))
theorem dpAll_len {K : PySem.W.Frag} {H : Hp} : ∀ {xs : List V} {ps : List PyData}, DpAll K H xs ps → xs.length = ps.length
  | _, _, .nil => rfl
  | _, _, .cons _ b => by simp [dpAll_len b]
theorem each_zip {h : Heap} : ∀ {us : List Value} {xs : List V} {ps : List PyData} {as : List Addr}, Vals xs us → ReadsAll h us ps as → PySem.W.EachIs (fun v (b : V × PyData) => RelV b.1 v) us (xs.zip ps) ∧ PySem.W.EachIs (fun v (b : V × PyData) => ∃ as, Reads h v b.2 as) us (xs.zip ps)
  | _, _, _, _, .nil, r => by cases r; exact ⟨.nil, .nil⟩
  | _, _, _, _, .cons a b, r => by
    cases r with
    | cons r1 r2 =>
      obtain ⟨h1, h2⟩ := each_zip b r2
      exact ⟨.cons a h1, .cons ⟨_, r1⟩ h2⟩
theorem each_vals : ∀ {out : List Value} {bs : List (V × PyData)}, PySem.W.EachIs (fun v (b : V × PyData) => RelV b.1 v) out bs → Vals (bs.map (·.1)) out
  | _, _, .nil => .nil
  | _, _, .cons a b => .cons a (each_vals b)
theorem zip_snd {α β : Type} : ∀ {xs : List α} {ys : List β}, xs.length = ys.length → (xs.zip ys).map (·.2) = ys
  | [], [], _ => rfl
  | _ :: xs, _ :: ys, h => by simp [zip_snd (by simpa using h)]
theorem zip_fst {α β : Type} : ∀ {xs : List α} {ys : List β}, xs.length = ys.length → (xs.zip ys).map (·.1) = xs
  | [], [], _ => rfl
  | _ :: xs, _ :: ys, h => by simp [zip_fst (by simpa using h)]
theorem o_sorted (hr : RoomG k X.A) : CallR X (.builtin "sorted") (rSortedA X.K) := by
  intro pins s σ H vs us Q I r h
  obtain ⟨a, xs, ps, rfl, hs, hd, hok, hz, q⟩ := h
  rw [Vals.ref1 r]
  unfold sortOk at hok
  rw [Bool.and_eq_true, Bool.and_eq_true] at hok
  obtain ⟨⟨h1, h2⟩, h3⟩ := hok
  obtain ⟨its, rv, hl, hlen⟩ : ∃ its : List Value, Vals xs its ∧ (s.heap.IsList a its.toArray ∨ s.heap.IsTuple a its.toArray) ∧ xs.length ≤ sizeLine := by
    rcases hs with hs | hs
    · obtain ⟨its, rv, hl, hz⟩ := I.list hs; exact ⟨its, rv, .inl hl.isList, hz⟩
    · obtain ⟨its, rv, hl, hz⟩ := I.tuple hs; exact ⟨its, rv, .inr hl, hz⟩
  obtain ⟨as, ra⟩ := Dp.readsAll I ps xs its hd rv
  have hpl := dpAll_len hd
  have hil := rv.length
  let h' := PySem.W.sortingHeap (PySem.W.copyHeap s.heap its) (s.heap.objs.size + 1) its
  obtain ⟨e1, e2⟩ := each_zip rv ra
  have e2' : PySem.W.EachIs (fun v (b : V × PyData) => ∃ as, Reads h' v b.2 as) its (xs.zip ps) := e2.mono fun _ _ ⟨as, r⟩ => ⟨as, PyProof.Rows.Reads.keeps (fun _ _ => PySem.W.sorting_copy_old) r⟩
  have hmap : (xs.zip ps).map (·.2) = ps := zip_snd hpl
  have hal : PySem.W.AllAlike ((xs.zip ps).map (·.2)) := by
    rw [hmap]
    intro d hd d' hd'
    exact List.all_eq_true.mp (List.all_eq_true.mp h1 d hd) d' hd'
  have hk : PySem.W.Sortable ((xs.zip ps).map (·.2)) ∨ ∀ d ∈ (xs.zip ps).map (·.2), ∃ ys, d = .tuple ys := by
    rw [hmap]
    rw [Bool.or_eq_true] at h3
    rcases h3 with h3 | h3
    · refine .inr fun d hd => ?_
      have := List.all_eq_true.mp h3 d hd
      cases d <;> simp [isTupP] at this
      exact ⟨_, rfl⟩
    · refine .inl (.inr fun d hd => ?_)
      have := List.all_eq_true.mp h3 d hd
      cases d <;> simp [plainP] at this <;> exact ⟨(fun z => by cases z), fun _ z => by cases z⟩
  have hu : ∀ d, d ∈ (xs.zip ps).map (·.2) → X.A.in1.in1.units + d.depth < cLine := by
    rw [hmap]
    intro d hd
    have := of_decide_eq_true (List.all_eq_true.mp h2 d hd)
    have hun := hr.rm.un
    show X.A.units + 1 + 1 + d.depth < cLine
    omega
  refine PySem.W.sorted_any hl (PySem.W.SortsAt.every (s := { s with heap := h' }) (PySem.W.each_map (R := fun v d => ∃ as, Reads h' v d as) (fun b : V × PyData => b.2) e2') hal hk hu) (by rw [← hil]; exact hlen) ?_
  have eo := PySem.W.sortVals_data (h' := h') false e1 e2' hal
  obtain ⟨ep, he'⟩ := PyProof.Rows.sortedAll_at s.heap its (PySem.W.sortVals (PySem.W.dataKind h' ((xs.zip ps).map (·.2))) false its its).toArray
  have hvl : (sortBy xs ps).length = xs.length := by
    unfold sortBy
    rw [List.length_map, (List.mergeSort_perm _ _).length_eq, List.length_zip]
    omega
  exact ⟨.ref _, upd H (s.heap.objs.size + 1) (.lst (sortBy xs ps)), I.laid (t' := s.toks) (fun _ _ => PyProof.Rows.sortedAll_old) (Nat.le_succ _) ⟨by rw [hvl]; exact hlen, _, ep, each_vals eo, by simpa using he'⟩, rfl, q _ (I.hok.fresh (Nat.le_succ _))⟩
def pk (d : D) : PyData := (pd d).getD .none
noncomputable def leD : D → D → Bool := PySem.W.dataLe false pk
noncomputable def sortD (l : List D) : Option (List D) := match pds l with
  | some ps => if sortOk ps = true ∧ l.length ≤ sizeLine then some (l.mergeSort leD) else none
  | none => none
noncomputable def fSorted : D → Option D
  | .lst l => (sortD l).map .lst
  | .tup l => (sortD l).map .lst
  | .scr l => (sortD l).map .lst
  | _ => none
theorem pds_map : ∀ {l : List D} {ps : List PyData}, pds l = some ps → ps = l.map pk
  | [], _, h => by simp [pds] at h; subst h; rfl
  | d :: l, _, h => by
    unfold pds at h
    obtain ⟨p, h1, h⟩ := Option.bind_eq_some_iff.mp h
    obtain ⟨ps, h2, rfl⟩ := Option.map_eq_some_iff.mp h
    rw [pds_map h2]
    simp [pk, h1]
theorem rps_zip {Γ : Gm} {η : List Addr} {L : Addr → Prop} {H : Hp} : ∀ {xs : List V} {l : List D}, Rps Γ η L H xs l → ∀ q ∈ xs.zip l, Rp Γ η L H q.1 q.2
  | _, _, .nil, _, h => by simp at h
  | _, _, .cons a b, q, h => by
    rw [List.zip_cons_cons] at h
    rcases List.mem_cons.mp h with rfl | h
    · exact a
    · exact rps_zip b q h
theorem rps_of {Γ : Gm} {η : List Addr} {L : Addr → Prop} {H : Hp} : ∀ {zs : List (V × D)}, (∀ q ∈ zs, Rp Γ η L H q.1 q.2) → Rps Γ η L H (zs.map (·.1)) (zs.map (·.2))
  | [], _ => .nil
  | q :: zs, h => .cons (h q (by simp)) (rps_of fun q' hq => h q' (by simp [hq]))
theorem sort_rp {Γ : Gm} {η : List Addr} {L : Addr → Prop} {H : Hp} {xs : List V} {l : List D} {ps : List PyData} (r : Rps Γ η L H xs l) (hp : pds l = some ps) : Rps Γ η L H (sortBy xs ps) (l.mergeSort leD) := by
  have hl := r.length
  have hps := pds_map hp
  subst hps
  let le : V × D → V × D → Bool := fun a b => leD a.2 b.2
  have e1 : sortBy xs (l.map pk) = ((xs.zip l).mergeSort le).map (·.1) := by
    unfold sortBy
    have : xs.zip (l.map pk) = (xs.zip l).map fun q => (q.1, pk q.2) := by
      rw [List.zip_map_right]; rfl
    rw [this, ← List.map_mergeSort (r := le) (f := fun q : V × D => (q.1, pk q.2)) (fun a _ b _ => rfl), List.map_map]
    rfl
  have e2 : l.mergeSort leD = ((xs.zip l).mergeSort le).map (·.2) := by
    rw [List.map_mergeSort (r := le) (s := leD) (f := fun q : V × D => q.2) (fun a _ b _ => rfl), zip_snd hl]
  rw [e1, e2]
  exact rps_of fun q hq => rps_zip r q ((List.mergeSort_perm _ _).mem_iff.mp hq)
theorem v_sorted : CallPO ca K (rSortedA K) fSorted := by
  intro η L H x d res Q hl rx h k
  have key : ∀ {l : List D} {xs : List V} {a : Addr}, x = .ref a → (SqL K H a xs ∨ SqT K H a xs) → Rps ⟨K, ca⟩ η L H xs l → (sortD l).map D.lst = some res → rSortedA K [x] H Q := by
    intro l xs a e hs r h
    subst e
    unfold sortD at h
    split at h
    · rename_i ps hp
      split at h
      · rename_i hc
        cases h
        refine ⟨a, xs, ps, rfl, hs, r.dp hp, hc.1, by rw [r.length]; exact hc.2, fun p hn => k p _ hn (ex_new hn) ⟨_, upd_same, (sort_rp r hp).step (stepL hn (ex_new hn)) (List.prefix_refl _)⟩⟩
      · cases h
    · cases h
  unfold fSorted at h
  split at h
  · obtain ⟨a, xs, e, ha, r⟩ := rx.seqL; exact key e (.inl (SqL.of ha)) r h
  · obtain ⟨a, xs, e, ha, r⟩ := rx.seqT; exact key e (.inr ha) r h
  · obtain ⟨a, xs, e, ha, r⟩ := rx.seqF; exact key e (.inl ha) r h
  · cases h
end
end VL
set_option Elab.async false
set_option linter.all false
set_option maxRecDepth 100000
set_option maxHeartbeats 4000000
/-! sets of texts: made from a row, then sorted -/
namespace VLT
open PySem PySem.Spec PyProof.Rows L2
/-- a set's row for a text -/
def txt : Int × Value → Str
  | (_, .str x _) => x
  | _ => ""
def IsTx (w : World) (e : Int × Value) : Prop := ∃ x t, e = (hashStr w x, Value.str x t)
structure TxSet (w : World) (h : Heap) (a : Addr) (ks : List Str) : Prop where
  ex : ∃ o es ep t, h.get? a = some o ∧ o.ExactSet ∧ o.data = Data.set es ep t ∧ (∀ e ∈ es.toList, IsTx w e) ∧ (es.toList.map txt).Perm ks ∧ es.size < scanBound ∧ t.fits es.size = true ∧ Ris t.place.toList ∧ (w.params.followText "set-order" = true ∨ t.led = true)
  nd : ks.Nodup
def met (ks : List Str) (x : Str) : List Str := if x ∈ ks then ks else ks ++ [x]
theorem met_nodup {ks : List Str} {x : Str} (h : ks.Nodup) : (met ks x).Nodup := by
  unfold met
  split
  · exact h
  · rename_i n
    rw [List.nodup_append]
    exact ⟨h, by simp, fun a ha b hb e => n (by rw [List.mem_singleton] at hb; rw [← hb, ← e]; exact ha)⟩
theorem met_len {ks : List Str} {x : Str} : (met ks x).length ≤ ks.length + 1 := by
  unfold met
  split
  · omega
  · simp
section
variable {P : Program} {w : World} {A : Around} {E : Value → Shared → Prop} {s : Shared} {a : Addr} {ks : List Str}
theorem TxSet.at {h h' : Heap} (R : TxSet w h a ks) (k : ∀ o, h.get? a = some o → h'.get? a = some o) : TxSet w h' a ks :=
  ⟨let ⟨o, es, ep, t, ho, r⟩ := R.ex; ⟨o, es, ep, t, k o ho, r⟩, R.nd⟩
theorem isTx_elems {l : List (Int × Value)} (g : ∀ e ∈ l, IsTx w e) : ElemsOf (strKind P w) l := fun e he => by
  obtain ⟨x, t, rfl⟩ := g e he
  exact ⟨⟨x, strKind_is _ _ _ _, rfl⟩, rfl⟩
theorem isTx_is {e : Int × Value} (g : IsTx w e) (x : Str) : (strKind P w).is x e.2 = true ↔ txt e = x := by
  obtain ⟨y, t, rfl⟩ := g
  show Value.isStrOf x (.str y t) = true ↔ y = x
  constructor
  · intro h
    obtain ⟨u, e⟩ := Value.isStrOf_shape h
    injection e
  · rintro rfl
    exact strKind_is P w y t
theorem isTx_mem {l : List (Int × Value)} (g : ∀ e ∈ l, IsTx w e) (x : Str) : x ∈ l.map txt ↔ ∃ e ∈ l, (strKind P w).is x e.2 = true := by
  simp only [List.mem_map]
  exact ⟨fun ⟨e, he, q⟩ => ⟨e, he, (isTx_is (g e he) x).mpr q⟩, fun ⟨e, he, q⟩ => ⟨e, he, (isTx_is (g e he) x).mp q⟩⟩
/-- behind the row's place: the write, the table made larger where it is full -/
theorem add_end {gv : Bool → Sem Unit} (hg : ∀ (b : Bool) (s₁ : Shared) (Q' : Unit → Shared → Prop), Q' () s₁ → wpAny (model P w) A (gv b) Q' E s₁) {o : Obj} {es : Array (Int × Value)} {ep : Nat} {t : SetTable}
    (ho : s.heap.get? a = some o) (hex : o.ExactSet) (hd : o.data = .set es ep t) {f1 : Array (Int × Value)} {t2 : SetTable} {ns : List Str} (g1 : ∀ e ∈ f1.toList, IsTx w e) (p1 : (f1.toList.map txt).Perm ns) (nd : ns.Nodup) (b1 : f1.size < scanBound)
    (z2 : t2.fits f1.size = true) (r2 : Ris t2.place.toList) (l2 : w.params.followText "set-order" = true ∨ t2.led = true) {wasDummy : Bool} {R : Option Bool → Shared → Prop} (hR : ∀ h', Heap.SameBut a s.heap h' → TxSet w h' a ns → R (some true) { s with heap := h' }) :
    wpAny (model P w) A (do
        storeSet a f1 t2
        if (!wasDummy && t2.tooFull) = true then do
            gv (relayAll t2 f1 (SetTable.grown f1.size)).2.2
            storeSet a (relayAll t2 f1 (SetTable.grown f1.size)).1 (relayAll t2 f1 (SetTable.grown f1.size)).2.1
            pure (some true)
          else pure (some true)) R E s := by
  have first := store_at (es' := f1) (t' := t2) ho hd
  have same := Heap.SameBut.update s.heap a (Obj.putSet f1 t2)
  refine wpAny_bind (wpAny_storeSet_of ho hd ?_ (fits_of_scanBound b1))
  split
  case isFalse => exact wpAny_pure (hR _ same ⟨⟨_, f1, _, t2, first, hex, rfl, g1, p1, b1, z2, r2, l2⟩, nd⟩)
  case isTrue =>
    have pm := relayAll_perm t2 f1 (SetTable.grown f1.size)
    have z3 := relayAll_fits t2 f1 (SetTable.grown f1.size)
    have r3 := relayAll_ris t2 f1 (SetTable.grown f1.size)
    have l3 := relayAll_led t2 f1 (SetTable.grown f1.size)
    generalize relayAll t2 f1 (SetTable.grown f1.size) = Y at pm z3 r3 l3 ⊢
    obtain ⟨f2, t3, gave⟩ := Y
    dsimp only at pm z3 r3 l3 ⊢
    have sz : f2.size = f1.size := by simpa using pm.length_eq
    refine wpAny_bind (hg _ _ _ (wpAny_bind (wpAny_storeSet_of first rfl (wpAny_pure (hR _ (same.trans (Heap.SameBut.update _ a _)) ?_)) (fits_of_scanBound (by rw [sz]; exact b1)))))
    exact ⟨⟨_, f2, _, t3, store_at (es' := f2) (t' := t3) first rfl, hex, rfl, fun e he => g1 e (pm.mem_iff.mp he), (pm.map txt).trans p1, by rw [sz]; exact b1, z3, r3, l2.imp id fun z => by rw [l3]; exact z⟩, nd⟩
/-- one more text -/
theorem add_tx {x : Str} {tk : Tok} {Q : Bool → Shared → Prop} (R : TxSet w s.heap a ks) (room : ks.length + 1 < scanBound) (hQ : ∀ b h', Heap.SameBut a s.heap h' → TxSet w h' a (met ks x) → Q b { s with heap := h' }) :
    wpAny (model P w) A (setAddHashed a (.str x tk) (hashStr w x)) Q E s := by
  obtain ⟨⟨o, es, ep, t, ho, hex, hd, g, pm0, hb, hf, hr, hl⟩, nd⟩ := R
  have key : (strKind P w).is x (.str x tk) = true := strKind_is P w x tk
  have scn : (Value.str x tk).scannable = true := rfl
  have el : ElemsOf (strKind P w) es.toList := isTx_elems g
  have hl0 : es.size = ks.length := by simpa using pm0.length_eq
  unfold setAddHashed setAddHashedIn
  refine wpAny_holding (wpAny_bind (wpAny_setState_of ho hd hf ?_))
  dsimp only
  rw [byScan_of scn hb el]
  simp only [↓reduceIte]
  unfold setAddByScan
  refine wpAny_bind (wpAny_bind (wpAny_rule (wpAny_bind (wpAny_setScan_of (knd := strKind P w) key ho hd hf el ?_))))
  cases fi : List.findIdx? (fun e => (strKind P w).is x e.2) es.toList with
  | some j =>
    dsimp only
    obtain ⟨hj, pj, _⟩ := List.findIdx?_eq_some_iff_getElem.mp fi
    have hin : x ∈ ks := pm0.mem_iff.mp ((isTx_mem (P := P) g x).mpr ⟨_, List.getElem_mem hj, pj⟩)
    refine wpAny_pure (wpAny_pure (hQ _ s.heap (Heap.SameBut.refl a s.heap) ?_))
    have : met ks x = ks := by unfold met; rw [if_pos hin]
    rw [this]
    exact ⟨⟨o, es, ep, t, ho, hex, hd, g, pm0, hb, hf, hr, hl⟩, nd⟩
  | none =>
    dsimp only
    have nin : x ∉ ks := fun z => by
      obtain ⟨e, he, q⟩ := (isTx_mem (P := P) g x).mp (pm0.mem_iff.mpr z)
      have := List.findIdx?_eq_none_iff.mp fi e he
      rw [q] at this
      exact Bool.noConfusion this
    have em : met ks x = ks ++ [x] := by unfold met; rw [if_neg nin]
    have gave0 : ∀ (b : Bool) {s₁ : Shared} {Q' : Unit → Shared → Prop}, Q' () s₁ → wpAny (model P w) A (match b with | true => rule "set.scan.the-table-gave-way" | false => pure ()) Q' E s₁ := by
      rintro (_ | _) s₁ Q' q
      · exact wpAny_pure q
      · exact wpAny_rule q
    have pm := layNew_perm t es (hashStr w x) (.str x tk)
    have z1 := layNew_fits t es (hashStr w x) (.str x tk)
    have r1 := layNew_ris t es (hashStr w x) (.str x tk) hr
    have l1 := layNew_led t es (hashStr w x) (.str x tk)
    have eh : (strKind P w).hash x = hashStr w x := rfl
    try rw [eh]
    generalize layNew t es (hashStr w x) (.str x tk) = Y at pm z1 r1 l1 ⊢
    obtain ⟨f1, t1, wasDummy, gave⟩ := Y
    dsimp only at pm z1 r1 l1 ⊢
    rw [Array.toList_push] at pm
    have g1 : ∀ e ∈ f1.toList, IsTx w e := fun e he => by
      rcases List.mem_append.mp (pm.mem_iff.mp he) with z | z
      · exact g e z
      · rw [List.mem_singleton.mp z]; exact ⟨x, tk, rfl⟩
    have p1 : (f1.toList.map txt).Perm (met ks x) := by
      rw [em]
      refine (pm.map txt).trans ?_
      rw [List.map_append]
      exact pm0.append_right _
    have sz : f1.size = ks.length + 1 := by
      have := pm.length_eq
      simp at this
      omega
    have b1 : f1.size < scanBound := by rw [sz]; exact room
    have led1 : w.params.followText "set-order" = true ∨ t1.led = true := hl.imp id fun z => by rw [l1]; exact z
    have nd1 := met_nodup (x := x) nd
    refine wpAny_bind (gave0 _ ?_)
    split
    · refine wpAny_bind ?_
      rw [hashByValue_scannable 8 scn]
      refine wpAny_pure ?_
      refine add_end ?_ ho hex hd g1 p1 nd1 b1 ?_ ?_ ?_ ?_
      · rintro (_ | _) s₁ Q' q <;> first | exact wpAny_pure q | exact wpAny_rule q
      · first | (split <;> first | exact z1 | exact SetTable.fits_plain_off z1) | exact z1
      · first | (split <;> exact r1) | exact r1
      · first | (split <;> exact led1) | exact led1
      · intro h' sb r
        dsimp only
        exact wpAny_pure (hQ true h' sb r)
    · refine wpAny_bind (wpAny_pure ?_)
      simp only [↓reduceIte]
      refine add_end ?_ ho hex hd g1 p1 nd1 b1 z1 r1 led1 ?_
      · rintro (_ | _) s₁ Q' q <;> first | exact wpAny_pure q | exact wpAny_rule q
      · intro h' sb r
        dsimp only
        exact wpAny_pure (hQ true h' sb r)
/-! ### set(row) -/
abbrev newSet (w : World) : Obj := { cls := .type "set", dict := none, data := .set #[] 0 (.fresh 0 0 (!w.params.followText "set-order")) }
theorem txSet_new {h : Heap} {a : Addr} (ho : h.get? a = some (newSet w)) : TxSet w h a [] := by
  refine ⟨⟨_, #[], 0, _, ho, ⟨rfl, rfl, rfl⟩, rfl, by simp, by simp, by decide, rfl, List.Pairwise.nil, ?_⟩, List.nodup_nil⟩
  show _ ∨ (!w.params.followText "set-order") = true
  cases w.params.followText "set-order" <;> simp
theorem met_fold_len (xs : List Str) : ∀ ks : List Str, (xs.foldl met ks).length ≤ ks.length + xs.length := by
  induction xs with
  | nil => intro ks; simp
  | cons x xs ih =>
    intro ks
    have h1 := ih (met ks x)
    have h2 := met_len (ks := ks) (x := x)
    simp only [List.foldl_cons, List.length_cons]
    omega
theorem fill_tx {I : Addr} {fp wr : List Addr} {G : Array GenState → Array GenState → Prop} {Pv : Nat → Value → Prop} {St : Nat → Shared → Prop} {R : Result → Shared → Prop} {xs : List Str} (W : WalksS P w A.in1 I fp wr G xs.length Pv St) {S : Addr} (out : S ∉ fp)
    (val : ∀ i v, Pv i v → ∃ x t, xs[i]? = some x ∧ v = .str x t) (few : xs.length + 1 < scanBound) :
    ∀ (k i : Nat) (s : Shared), xs.length - i = k → i ≤ xs.length → St i s → TxSet w s.heap S ((xs.take i).foldl met []) →
      (∀ s', Moved (S :: wr) G s s' → TxSet w s'.heap S (xs.foldl met []) → R (.ok (.ret .none)) s') →
      codeAny (model P w) A (.builtin "set.update.loop" ⟨[.ref S, .ref I], []⟩) R s := by
  have nw : S ∉ wr := fun h => out (W.sub _ h)
  have sub : ∀ b ∈ wr, b ∈ S :: wr := fun b hb => List.mem_cons_of_mem _ hb
  intro k
  induction k with
  | zero =>
    intro i s hk hi st R0 fin
    obtain rfl : i = xs.length := by omega
    refine codeAny_builtin F.entry_set_update_loop ?_
    rw [Around.under_plainId F.plain_set_update_loop _]
    show wpAny _ A.in1 (pyNext (.ref I) >>= _) _ _ s
    refine wpAny_bind (W.done s _ _ st fun s2 hm => ?_)
    show wpAny _ A.in1 (ret Value.none) _ _ s2
    refine wpAny_pure (fin s2 (hm.mono sub) ?_)
    rw [List.take_length] at R0
    exact R0.at fun o e => hm.heap S o nw e
  | succ k ih =>
    intro i s hk hi st R0 fin
    have lt : i < xs.length := by omega
    refine codeAny_builtin F.entry_set_update_loop ?_
    rw [Around.under_plainId F.plain_set_update_loop _]
    show wpAny _ A.in1 (pyNext (.ref I) >>= _) _ _ s
    refine wpAny_bind (W.item i s _ _ lt st fun v s2 pv st2 hm => ?_)
    obtain ⟨x, t, hx, rfl⟩ := val i v pv
    have R2 := R0.at (h' := s2.heap) fun o e => hm.heap S o nw e
    show wpAny _ A.in1 (holding [Value.str x t] (setAdd S (.str x t)) >>= _) _ _ s2
    refine wpAny_bind (wpAny_holding ?_)
    unfold setAdd
    refine wpAny_holding (wpAny_bind ((strKind P w).pyHash (k := x) (strKind_is _ _ _ _) ?_))
    have hlen := met_fold_len (xs.take i) []
    rw [List.length_take] at hlen
    refine add_tx (s := { s2 with toks := s2.toks + 1 }) R2 (by simp at hlen; omega) fun b h3 sb R3 => ?_
    have e : met ((xs.take i).foldl met []) x = (xs.take (i + 1)).foldl met [] := by
      rw [take_next hx, List.foldl_append]
      rfl
    rw [e] at R3
    refine wpAny_pure ⟨plainId_quiet F.plain_set_update_loop _, ih (i + 1) _ (by omega) lt (W.frame _ s2 _ _ st2 (Nat.le_succ _) fun b hb o e => ?_) R3 fun s4 hm4 R4 => fin s4 (Moved.trans W.gtrans ((hm.mono sub).then_heap (Nat.le_succ _) fun b o hb e => ?_) hm4) R4⟩
    · rw [sb.2 b (fun z : b = S => out (z ▸ hb))]; exact e
    · rw [sb.2 b (fun z : b = S => hb (z ▸ List.mem_cons_self))]; exact e

theorem tx_at : ∀ {vs : List Value} {xs : List Str}, StrsAre vs xs → ∀ (i : Nat) (v : Value), vs[i]? = some v → ∃ x t, xs[i]? = some x ∧ v = .str x t
  | _, _, .nil, i, v, h => by simp at h
  | _, _, .cons x t r, 0, v, h => by simp at h; exact ⟨x, t, rfl, h.symm⟩
  | _, _, .cons x t r, i + 1, v, h => by
    simp only [List.getElem?_cons_succ] at h ⊢
    exact tx_at r i v h
/-- set(row of texts), the row a tuple or a list -/
theorem set_call {l : Addr} {items : Array Value} {xs : List Str} {Q : Value → Shared → Prop} (hh : A.handled = none) (hl : s.heap.IsTuple l items) (hi : StrsAre items.toList xs) (few : xs.length + 1 < scanBound)
    (h : ∀ (h' : Heap) (tk : Nat), TxSet w h' s.heap.objs.size (xs.foldl met []) → (∀ b o, s.heap.get? b = some o → h'.get? b = some o) → Q (.ref s.heap.objs.size) { s with heap := h', toks := tk }) :
    wpAny (model P w) A (call (.type "set") [.ref l]) Q E s := by
  have nlen : items.size = xs.length := by rw [← Array.length_toList]; exact hi.length
  obtain ⟨c, tl, hmro⟩ := F.called_set.mro
  have hmade := F.called_set.made
  have hsub := F.called_set.sub
  refine wpAny_call (codeAny_of_tree ?_)
  show wpAny _ _ (callAny (.type "set") _) _ _ _
  refine wpAny_pure ⟨Code.quiet_builtin _ (by decide +kernel), codeAny_builtin F.entry_type_call ?_⟩
  rw [Around.under_plain (weight_type_call_type "set" [.ref l] []) rfl]
  have h1 := F.called_set.notType
  have h2 := F.called_set.canCreate
  have hct := F.typeCall_set_1 (.ref l)
  repeat (any_goals (first | assumption | wp_step))
  refine codeAny_mono (code_set_led1 (.ref l) (E := E) (Q₁ := fun x s1 => x = .ref s.heap.objs.size ∧ s1 = { s with heap := s.heap.push (newSet w) }) ⟨rfl, rfl⟩) fun r s1 hr => ?_
  rcases r with err | (_ | _ | _ | obj)
  · exact hr
  case ok.next | ok.brk | ok.cont => exact hr.elim
  obtain ⟨rfl, rfl⟩ := hr
  have hS : (s.heap.push (newSet w)).get? s.heap.objs.size = some (newSet w) := Heap.get?_push_size _ rfl
  have hT : Shared.TypeIs { s with heap := s.heap.push (newSet w) } (.ref s.heap.objs.size) "set" := ⟨_, hS, rfl⟩
  have hli := F.called_set.init.lookup
  have hbi := F.called_set.init.bind (.ref s.heap.objs.size)
  repeat (any_goals (first | assumption | wp_step))
  refine codeAny_mono (codeAny_call_builtin (R := wants (fun r s2 => r = .none ∧ ∃ h' tk, s2 = { s with heap := h', toks := tk } ∧ TxSet w h' s.heap.objs.size (xs.foldl met []) ∧
      (∀ b o, s.heap.get? b = some o → h'.get? b = some o)) E) F.called_set.init.plain F.entry_set_init (check_set_init_1 hT ?_)) fun r2 s2 hr2 => ?_
  · obtain ⟨⟨ocls, odict, odata, oslots⟩, hol, hcl, nl, hdl⟩ := hl
    simp only at hcl hdl
    subst hcl
    subst hdl
    have hol' : (s.heap.push (newSet w)).get? l = some { cls := .type "tuple", dict := odict, data := .seq items nl, slots := oslots } := Heap.get?_push_of_some _ hol
    have hsls := F.sub_tuple_set
    have hslf := F.sub_tuple_frozenset
    have hne : (Value.type "tuple" == Value.type "dict") = false := by decide
    have hl1 : (s.heap.push (newSet w)).IsTuple l items := ⟨_, hol', rfl, nl, rfl⟩
    unfold Builtin.«set.__init__» noKeywords Builtin.Frozenset.updateFrom
    generalize hPI : pyIter = PI
    wp_walk
    subst hPI
    refine wpAny_pyIter_tuple hl1 ?_
    refine wpAny_bind (wpAny_runValue ?_)
    have below : l < s.heap.objs.size := Heap.lt_size hol
    have sz1 : (s.heap.push (newSet w)).objs.size = s.heap.objs.size + 1 := Heap.size_push ..
    have neI : l ≠ (s.heap.push (newSet w)).objs.size := by rw [sz1]; exact Nat.ne_of_lt (Nat.lt_succ_of_lt below)
    have outs : s.heap.objs.size ∉ [(s.heap.push (newSet w)).objs.size, l] := by
      rw [sz1]
      simp only [List.mem_cons, List.not_mem_nil, or_false, not_or]
      exact ⟨Nat.ne_of_lt (Nat.lt_succ_self _), Nat.ne_of_gt below⟩
    have hW := (Walks.tuple (prog := P) (w := w) (A := A.in1.in1.in1) (by simp [hh]) _ l neI items).toS
    rw [nlen] at hW
    refine fill_tx hW outs (fun i v hv => ?_) few xs.length 0 _ (by omega) (Nat.zero_le _) ⟨⟨_, Heap.get?_push_size _ rfl, rfl, rfl⟩, hl1.push _⟩ (txSet_new (Heap.get?_push_of_some _ hS)) fun s3 hm R3 => ?_
    · have hv' : items.toList[i]? = some v := by rw [Array.getElem?_toList]; exact hv
      exact tx_at hi i v hv'
    · obtain ⟨h3, g3, d3, tk3, os3⟩ := s3
      obtain rfl : g3 = s.gens := hm.gens
      obtain rfl : d3 = s.drawn := hm.drawn
      obtain rfl : os3 = s.os := hm.os
      show wpAny _ _ _ _ _ _
      refine wpAny_pure ?_
      show wpAny _ _ (ret Value.none) _ _ _
      refine wpAny_pure ⟨rfl, h3, tk3, rfl, R3, fun b o e => ?_⟩
      have hb := Heap.lt_size e
      exact hm.heap b o (by rw [sz1]; simp only [List.mem_cons, List.not_mem_nil, or_false, not_or]; exact ⟨Nat.ne_of_lt hb, Nat.ne_of_lt (Nat.lt_succ_of_lt hb)⟩) (Heap.get?_push_of_some _ (Heap.get?_push_of_some _ e))
  · rcases r2 with err | (_ | _ | _ | r)
    · exact hr2
    case ok.next | ok.brk | ok.cont => exact hr2.elim
    obtain ⟨rfl, h', tk, rfl, R', k'⟩ := hr2
    repeat (any_goals (first | assumption | wp_step))
    exact h _ _ R' k'
end
end VLT
set_option Elab.async false
set_option linter.all false
set_option maxRecDepth 100000
set_option maxHeartbeats 4000000
namespace VLT
open PySem PySem.Spec PyProof.Rows L2
section
variable {P : Program} {w : World} {A : Around} {E : Value → Shared → Prop} {s : Shared} {a : Addr} {ks : List Str}
/-! ### sorted(set) -/
def txLe (x y : Str) : Bool := decide (x.cps.toList ≤ y.cps.toList)
theorem tx_perm : ∀ {xs ys : List Str}, xs.Perm ys → xs.mergeSort txLe = ys.mergeSort txLe := by
  intro xs ys h
  have tr : ∀ a b c : Str, txLe a b = true → txLe b c = true → txLe a c = true := fun a b c h1 h2 => by
    unfold txLe at *
    exact decide_eq_true (List.le_trans (of_decide_eq_true h1) (of_decide_eq_true h2))
  have tot : ∀ a b : Str, (txLe a b || txLe b a) = true := fun a b => by
    unfold txLe
    rw [Bool.or_eq_true, decide_eq_true_eq, decide_eq_true_eq]
    exact List.le_total _ _
  have an : ∀ a b : Str, txLe a b = true → txLe b a = true → a = b := fun a b h1 h2 => by
    unfold txLe at *
    have := List.le_antisymm (of_decide_eq_true h1) (of_decide_eq_true h2)
    cases a with | mk a => cases b with | mk b => simp at this; rw [this]
  exact List.Perm.eq_of_pairwise (fun a b _ _ => an a b) (List.pairwise_mergeSort tr tot xs) (List.pairwise_mergeSort tr tot ys) ((List.mergeSort_perm _ _).trans (h.trans (List.mergeSort_perm _ _).symm))
theorem tx_each {es : List (Int × Value)} (g : ∀ e ∈ es, IsTx w e) : ∀ {vs : List Value}, vs.Perm (es.map (·.2)) → ∃ ns : List Str, StrsAre vs ns ∧ ns.Perm (es.map txt) := by
  intro vs pm
  let f : Value → Str := fun v => txt (0, v)
  refine ⟨vs.map f, ?_, ?_⟩
  · have all : ∀ v ∈ vs, ∃ x t, v = Value.str x t := fun v hv => by
      obtain ⟨e, he, rfl⟩ := List.mem_map.mp (pm.mem_iff.mp hv)
      obtain ⟨x, t, rfl⟩ := g e he
      exact ⟨x, t, rfl⟩
    clear pm
    induction vs with
    | nil => exact .nil
    | cons v vs ih =>
      obtain ⟨x, t, rfl⟩ := all v (List.mem_cons_self ..)
      exact .cons x t (ih fun u hu => all u (List.mem_cons_of_mem _ hu))
  · have := pm.map f
    rw [List.map_map] at this
    have e : es.map (f ∘ fun x => x.2) = es.map txt := List.map_congr_left fun e he => by
      obtain ⟨x, t, rfl⟩ := g e he
      rfl
    rwa [e] at this
theorem each_tx {h : Heap} : ∀ {vs : List Value} {ns : List Str}, StrsAre vs ns → PySem.W.EachIs (fun v x => ∃ t, v = Value.str x t) vs ns ∧ PySem.W.EachIs (fun v x => ∃ as, Reads h v (PyData.str x) as) vs ns
  | _, _, .nil => ⟨.nil, .nil⟩
  | _, _, .cons x t r => ⟨.cons ⟨t, rfl⟩ (each_tx (h := h) r).1, .cons ⟨_, .str x t⟩ (each_tx (h := h) r).2⟩
theorem tx_each_back : ∀ {vs : List Value} {ns : List Str}, PySem.W.EachIs (fun v x => ∃ t, v = Value.str x t) vs ns → Vals (ns.map V.str) vs
  | _, _, .nil => .nil
  | _, _, .cons ⟨t, e⟩ r => .cons ⟨t, e⟩ (tx_each_back r)
theorem sorted_call {Q : Value → Shared → Prop} (R : TxSet w s.heap a ks) (hh : A.handled = none) (hu : A.units + 64 < cLine) (few : ks.length ≤ sizeLine)
    (h : ∀ s' p (out : List Value) (c : Nat), (∀ b o, s.heap.get? b = some o → s'.heap.get? b = some o) → s'.gens = s.gens → s'.os = s.os → s.heap.objs.size ≤ p → s'.heap.get? p = some (seqObj "list" out.toArray c) → Vals ((ks.mergeSort txLe).map V.str) out → Q (.ref p) s') :
    wpAny (model P w) A (call (.builtin "sorted") [.ref a]) Q E s := by
  obtain ⟨⟨o, es, ep, t, ho, hex, hd, g, pm, hb, hf, hr, hl⟩, nd⟩ := R
  refine Calls.call_function_entry kind_sorted plain_sorted entry_sorted (args_sorted1 _) ?_
  unfold Builtin.«sorted»
  refine wpAny_bind (m := checkCount "sorted" 1 1 _) (wpAny_pure ?_)
  refine wpAny_bind (collect_set (A := A.in1) hh ⟨o, ho, hex.1, hd⟩ hf hb hr hl fun s1 vs k1 grow g1 o1 pv => ?_)
  obtain ⟨ns, hs, pn⟩ := tx_each g pv
  have same := tx_perm (pn.trans pm)
  have vl : vs.length ≤ sizeLine := by
    rw [hs.length, (pn.trans pm).length_eq]
    exact few
  refine wpAny_bind (wpAny_newList ?_ vl)
  have at1 : (s1.heap.push (seqObj "list" vs.toArray 0)).get? s1.heap.objs.size = some (seqObj "list" vs.toArray 0) := Heap.get?_push_size _ rfl
  let h2 := PySem.W.sortingHeap (s1.heap.push (seqObj "list" vs.toArray 0)) s1.heap.objs.size vs
  have al : PySem.W.AllAlike (ns.map PyData.str) := by
    intro d hd d' hd'
    obtain ⟨x, _, rfl⟩ := List.mem_map.mp hd
    obtain ⟨y, _, rfl⟩ := List.mem_map.mp hd'
    rfl
  obtain ⟨e1, e2⟩ := each_tx (h := h2) hs
  have S : PySem.W.SortsAt P w A.in1.in1 { s1 with heap := h2 } (PySem.W.dataKind h2 (ns.map PyData.str)) vs :=
    PySem.W.SortsAt.data (s := { s1 with heap := h2 }) (PySem.W.each_map (R := fun v d => ∃ as, Reads h2 v d as) (fun x : Str => PyData.str x) e2) al (.inr fun d hd => by
      obtain ⟨x, _, rfl⟩ := List.mem_map.mp hd
      exact ⟨(fun z => by cases z), fun _ z => by cases z⟩) fun d hd => by
      obtain ⟨x, _, rfl⟩ := List.mem_map.mp hd
      show A.units + 1 + 1 + (PyData.str x).depth < cLine
      simp only [PyData.depth]
      omega
  have eo := PySem.W.sortVals_data (h' := h2) (enc := fun x : Str => PyData.str x) false e1 e2 al
  have le : PySem.W.dataLe false (fun x : Str => PyData.str x) = txLe := PySem.W.dataLe_str (fun x : Str => x)
  rw [le, same] at eo
  refine wpAny_bind (wpAny_holding (wpAny_call_entry slot_list_sort ⟨_, at1, rfl⟩ entry_list_sort ?body (args_list_sort _)))
  case body =>
    refine wpAny_mono (PySem.W.list_sort_vals (P := fun f s' => f = .done (.ret .none) ∧ Q (.ref s1.heap.objs.size) s') (s := { s1 with heap := s1.heap.push (seqObj "list" vs.toArray 0) }) at1 S vl ⟨rfl, ?_⟩) (fun f s' hf => ?_) fun _ _ e => e
    · obtain ⟨c, hc⟩ := sortedHeap_at (vs := vs) (out := (PySem.W.sortVals (PySem.W.dataKind h2 (ns.map PyData.str)) false vs vs).toArray) at1
      refine h _ s1.heap.objs.size _ c (fun b u e => ?_) g1 o1 grow hc (tx_each_back eo)
      have q := k1 b u e
      have lt := Heap.lt_size q
      refine (sortedHeap_old (Nat.ne_of_lt lt) (by rw [size_push']; exact Nat.lt_succ_of_lt lt)).trans ?_
      exact Heap.get?_push_of_some _ q
    · obtain ⟨rfl, hq⟩ := hf
      exact ⟨_, rfl, wpAny_pure ⟨_, rfl, hq⟩⟩
end
end VLT
set_option Elab.async false
set_option linter.all false
set_option maxRecDepth 100000
set_option maxHeartbeats 4000000
namespace VL
open PySem L2
section
variable {X : Cx} {ca : Str → Addr} {EX : WX} {K : PySem.W.Frag} {k : Nat} {e : Expr} {P : Fr → Res Pl} {p p2 pos pos2 : Pos}
/-! ### repr -/
def shownOk (d : PyData) : Bool := d.showable && !d.hasDict && decide (d.depth ≤ 60) && decide (d.shown.length ≤ sizeLine)
def rReprA (K : PySem.W.Frag) : List V → Hp → VK → Prop := fun vs H Q => ∃ (x : V) (d : PyData), vs = [x] ∧ Dp K H x d ∧ shownOk d = true ∧ Q (.str d.shown) H
def fRepr (d : D) : Option D := match pd d with
  | some q => if shownOk q = true then some (.str q.shown) else none
  | none => none
theorem v_repr : CallP ca K (rReprA K) fRepr := by
  intro η L H x d res Q hl rx h k
  unfold fRepr at h
  split at h
  · rename_i q hq
    split at h
    · rename_i hz
      cases h
      rcases rx with rx | ⟨a, rfl, ob⟩
      · exact ⟨x, q, rfl, rx.dp hq, hz, k _ _ (fun _ _ z => z) (.str _)⟩
      · cases d <;> first | exact ob.elim | (simp [pd] at hq; done) | skip
        obtain ⟨xs, ha, r⟩ := ob
        unfold pd at hq
        obtain ⟨ps, h2, rfl⟩ := Option.map_eq_some_iff.mp hq
        exact ⟨_, _, rfl, .lst (SqL.of ha) (r.dp h2), hz, k _ _ (fun _ _ z => z) (.str _)⟩
    · cases h
  · cases h
theorem o_repr (hr : RoomG k X.A) : CallR X (.builtin "repr") (rReprA X.K) := by
  intro pins s σ H vs us Q I r h
  obtain ⟨x, d, rfl, hd, ok, q⟩ := h
  unfold shownOk at ok
  simp only [Bool.and_eq_true, Bool.not_eq_true', decide_eq_true_eq] at ok
  obtain ⟨⟨⟨h1, h2⟩, h3⟩, h4⟩ := ok
  cases r with
  | cons rv rest =>
    cases rest
    have un := hr.rm.un
    obtain ⟨as, rd⟩ := Dp.reads I d x _ hd rv
    have fin : ∀ {s' : Shared} {u : Tok}, Inv X pins σ H s' → EP X pins σ Q (.str d.shown u) s' := fun J => ⟨.str d.shown, H, J, ⟨_, rfl⟩, q⟩
    have ns : d.hasDict = true → sysModules ∉ as := PyData.noDict_hsm h2
    cases rd with
    | none => simp only [PyData.shown] at fin; exact PySem.P.repr_of_none (fin (I.tok _))
    | bool b => simp only [PyData.shown] at fin; exact PySem.P.repr_of_bool (fin (I.tok _))
    | int i t => simp only [PyData.shown] at fin; exact PySem.P.repr_of_int (by simpa [PyData.showable] using h1) (fin (I.tok _))
    | str y t => simp only [PyData.shown] at fin h4; exact PySem.P.repr_of_str (fin (I.tok _)) h4
    | list z1 z2 z3 z4 => exact repr_of_reads' (.list z1 z2 z3 z4) h1 ns hr.gd (by omega) (fun _ _ z => z) (fun h' u tk kk => fin (I.kept kk)) h4
    | tuple z1 z2 z3 z4 => exact repr_of_reads' (.tuple z1 z2 z3 z4) h1 ns hr.gd (by omega) (fun _ _ z => z) (fun h' u tk kk => fin (I.kept kk)) h4
    | dict z1 z2 z3 z4 z5 => simp [PyData.hasDict] at h2
/-! ### sorted(set(texts)) -/
def strsD : List D → Option (List Str)
  | [] => some []
  | .str x :: l => (strsD l).map (x :: ·)
  | _ => none
noncomputable def uniq (xs : List Str) : List Str := (xs.foldl VLT.met []).mergeSort VLT.txLe
noncomputable def fSortedSet : D → Option D
  | .tup l => match strsD l with
    | some xs => if xs.length ≤ 1000 then some (.lst ((uniq xs).map .str)) else none
    | none => none
  | _ => none
def TxO (w : World) (a : Addr) (ks : List Str) : HO := .ext fun h => VLT.TxSet w h a ks
def rSetTx (K : PySem.W.Frag) (w : World) : List V → Hp → VK → Prop := fun vs H Q => ∃ (l : Addr) (xs : List Str), vs = [.ref l] ∧ SqT K H l (xs.map V.str) ∧ xs.length ≤ 1000 ∧ ∀ a, H a = none → Q (.ref a) (upd H a (TxO w a (xs.foldl VLT.met [])))
def rSortTx (w : World) : List V → Hp → VK → Prop := fun vs H Q => ∃ (a : Addr) (ks : List Str), vs = [.ref a] ∧ H a = some (TxO w a ks) ∧ ks.length ≤ 1000 ∧ ∀ p, H p = none → Q (.ref p) (upd H p (.lst ((ks.mergeSort VLT.txLe).map V.str)))
theorem strs_vals : ∀ {xs : List Str} {us : List Value}, Vals (xs.map V.str) us → PyProof.Rows.StrsAre us xs
  | [], _, .nil => .nil
  | x :: xs, _, .cons ⟨t, e⟩ r => by subst e; exact .cons x t (strs_vals r)
theorem o_settx (hr : RoomG k X.A) : CallR X (.type "set") (rSetTx X.K X.w) := by
  intro pins s σ H vs us Q I r h
  obtain ⟨l, xs, rfl, hl, few, q⟩ := h
  rw [Vals.ref1 r]
  obtain ⟨its, rv, tl, hz⟩ := I.tuple hl
  have n := I.hok.fresh (Nat.le_refl s.heap.objs.size)
  refine VLT.set_call (P := X.prog) (w := X.w) hr.rm.hd tl (by simpa using strs_vals rv) (Nat.lt_of_le_of_lt (Nat.add_le_add_right few 1) (by decide)) fun h' tk R kk => ?_
  exact ⟨.ref _, upd H s.heap.objs.size (TxO X.w s.heap.objs.size (xs.foldl VLT.met [])), I.laid (t' := tk) kk (Nat.le_refl _) ⟨R, (let ⟨o, _, _, _, ho, _⟩ := R.ex; ⟨o, ho⟩), fun h1 h2 R1 k1 => R1.at k1⟩, rfl, q _ n⟩
theorem o_sorttx (hr : RoomG k X.A) : CallR X (.builtin "sorted") (rSortTx X.w) := by
  intro pins s σ H vs us Q I r h
  obtain ⟨a, ks, rfl, ha, few, q⟩ := h
  rw [Vals.ref1 r]
  have R : VLT.TxSet X.w s.heap a ks := (I.hok a _ ha).1
  have big : (1000 : Nat) ≤ sizeLine := by rw [sizeLine_eq]; omega
  refine VLT.sorted_call (P := X.prog) R hr.rm.hd hr.units (Nat.le_trans few big) fun s' p out c kk g o grow hp rv => ?_
  have n := I.hok.fresh grow
  have J : Inv X pins σ (upd H p (.lst ((ks.mergeSort VLT.txLe).map V.str))) { s with heap := s'.heap, gens := s'.gens, drawn := s'.drawn, toks := s'.toks } :=
    I.call (ch := []) (Un.laid kk grow n) (I.hok.laid kk grow ⟨by rw [List.length_map, (List.mergeSort_perm _ _).length_eq]; exact Nat.le_trans few big, out, c, rv, hp⟩) (by rw [g]; exact I.bare) fun _ z => nomatch z
  have e : s' = { s with heap := s'.heap, gens := s'.gens, drawn := s'.drawn, toks := s'.toks } := by
    obtain ⟨h1, g1, d1, t1, o1⟩ := s'
    obtain ⟨h0, g0, d0, t0, o0⟩ := s
    cases o
    rfl
  rw [e]
  exact ⟨.ref p, _, J, rfl, q p n⟩
theorem strsD_rps {Γ : Gm} {η : List Addr} {L : Addr → Prop} {H : Hp} : ∀ {vs : List V} {l : List D} {xs : List Str}, Rps Γ η L H vs l → strsD l = some xs → vs = xs.map V.str ∧ l = xs.map D.str
  | _, _, _, .nil, h => by cases h; exact ⟨rfl, rfl⟩
  | _, _, _, .cons (d := d) a r, h => by
    cases a
    all_goals first | (simp only [strsD] at h; cases h; done) | skip
    unfold strsD at h
    obtain ⟨ys, h2, rfl⟩ := Option.map_eq_some_iff.mp h
    obtain ⟨e1, e2⟩ := strsD_rps r h2
    exact ⟨by rw [e1]; rfl, by rw [e2]; rfl⟩
theorem rps_strs {Γ : Gm} {η : List Addr} {L : Addr → Prop} {H : Hp} : ∀ xs : List Str, Rps Γ η L H (xs.map V.str) (xs.map D.str)
  | [] => .nil
  | x :: xs => .cons (.str x) (rps_strs xs)
theorem met_fold_le (xs : List Str) : (xs.foldl VLT.met []).length ≤ xs.length := by simpa using VLT.met_fold_len xs []
theorem xo_sortedset (hr : RoomG k X.A) (z1 : X.mg "sorted" = none) (z2 : X.mg "set" = none) (ha : XPl X ca EX e P) (g1 : Gl X "sorted" := by rfl) (g2 : Gl X "set" := by rfl)
    (he : starEach [e] X.env = (false, eval e X.env) :: starEach [] X.env := by rfl) (hpl : (backTo pos2 (starEach [] X.env)).any (·.1) = false := by rfl)
    (he' : starEach [.Call (.Name "set" p2) [e] [] pos2] X.env = (false, eval (.Call (.Name "set" p2) [e] [] pos2) X.env) :: starEach [] X.env := by rfl) (hpl' : (backTo pos (starEach [] X.env)).any (·.1) = false := by rfl) :
    XO X ca EX (.Call (.Name "sorted" p) [.Call (.Name "set" p2) [e] [] pos2] [] pos) (eRd fSortedSet P) := by
  have A := pe_callTy (p := p2) (pos := pos2) (o_settx hr) g2 z2 B.set (pa_cons ha pa_nil he) (by decide) (by decide) he hpl
  refine (pe_callB (p := p) (o_sorttx hr) g1 z1 B.sorted (pa_cons A pa_nil he') (by decide) (by decide) he' hpl').weak fun σ H Q h => ?_
  obtain ⟨Z, η, ω, s, g, h⟩ := h
  refine go g h fun pl s1 v H1 η1 ω1 p1 gd st1 r1 h1 => ?_
  have ra := gd.at r1
  generalize at_ s1 pl = d at h1 ra
  rcases ra with ra | rfl
  · cases q : fSortedSet d with
    | none => rw [q] at h1; exact h1.elim
    | some res =>
      rw [q] at h1
      unfold fSortedSet at q
      split at q
      · split at q
        · rename_i xs hx
          split at q
          · rename_i few
            cases q
            obtain ⟨a, vs, rfl, ha, r⟩ := ra.seqT
            obtain ⟨e1, e2⟩ := strsD_rps r hx
            subst e1
            have lens : (xs.foldl VLT.met []).length ≤ 1000 := Nat.le_trans (met_fold_le xs) few
            refine ⟨a, xs, rfl, ha, few, fun b hb => ⟨b, _, rfl, upd_same, lens, fun c hc => ?_⟩⟩
            have ne : c ≠ b := fun z => by rw [z, upd_same] at hc; cases hc
            have hc1 : H1 c = none := by rwa [upd_ne ne] at hc
            have ex : Ex H1 (upd (upd H1 b (TxO X.w b (xs.foldl VLT.met []))) c (.lst ((uniq xs).map V.str))) := fun x o z => ex_new hc x o (ex_new hb x o z)
            exact h1.finO gd hc1 ex ⟨_, upd_same, rps_strs _⟩
          · cases q
        · cases q
      · cases q
  · exact h1.elim
end
end VL
set_option Elab.async false
set_option linter.all false
set_option maxRecDepth 100000
set_option maxHeartbeats 4000000
namespace VL
open PySem L2
section
variable {X : Cx} {ca : Str → Addr} {EX : WX} {ro : Bool} {e a b c : Expr} {es : List Expr} {F : EF} {A : AF} {ms : List Bool}
/-! ### x, y = a, b where the pair is made: some of the names are cells -/
theorem PoM.ex {Γ : Gm} {Z : Addr → Prop} {σ : St} {η : List Addr} {ω : List (Option Addr)} {H H1 H2 : Hp} {ds : List D} {s : Fr} {vs : List V} (h : PoM Γ Z σ ms η ω H ds s vs H1) (e : Ex H1 H2) : PoM Γ Z σ ms η ω H ds s vs H2 := by
  obtain ⟨η', ω', as, p, nd, nz, g, st, r⟩ := h
  have keep : ∀ b, H1 b ≠ none → H2 b = H1 b := fun b z => by
    cases q : H1 b with
    | none => exact (z q).elim
    | some o => exact e b o q
  refine ⟨η', ω', as, p, nd, nz, g.ex e, ⟨st.toStep.trans (Step.ex e), fun b z => ?_⟩, r.step (Step.ex e) (List.prefix_refl _) fun b hb => keep b (g.zH b (.inl (.inr hb)))⟩
  exact (keep b (g.zH b (.inl (.inl z)))).trans (st.oth b z)
def gNs : List Nat → TGs
  | [] => gNil
  | i :: is => gCons (gName i) (gNs is)
theorem gNs_run {is : List Nat} : ∀ {vs : List V} {σ : St} {H : Hp} {Q : St → Hp → Prop}, vs.length = is.length → Q (setVs is vs σ) H → gNs is vs σ H Q := by
  induction is with
  | nil =>
    intro vs σ H Q hl q
    cases vs with
    | nil => exact ⟨rfl, q⟩
    | cons _ _ => cases hl
  | cons i is ih =>
    intro vs σ H Q hl q
    cases vs with
    | nil => cases hl
    | cons v vs => exact ⟨v, vs, rfl, ih (by simpa using hl) q⟩
theorem gns_nil : PGs X [] (gNs []) := pgs_nil
theorem gns_cons {i : Nat} {is : List Nat} {x : Str} {tgs : List Expr} {pos : Pos} (hN : X.N.Nodup) (hi : X.N[i]? = some x) (hx : L2.Loc X.env.scope x) (h : PGs X tgs (gNs is)) (hf : X.fn x = true ∨ X.env.scope.names.lookup x = some .local := by first | exact .inl rfl | exact .inr rfl)
    (hs : (assignEach (.Name x pos :: tgs) X.env).map (·.2) = assign (.Name x pos) X.env :: (assignEach tgs X.env).map (·.2) := by rfl) : PGs X (.Name x pos :: tgs) (gNs (i :: is)) := pgs_cons (pg_name hN hi hx hf) h hs
theorem xs_parT {is : List Nat} {tgs : List Expr} {kt k2 : Nat} {pt pt2 pos : Pos} (hc : X.calm = true) (hl : is.length = ms.length) (hg : PGs X tgs (gNs is)) (h : XM X ca EX ms es A) (hz : is.length ≤ 100 := by decide) (hn : (assignEach tgs X.env).length = is.length := by rfl) (hst : (assignEach tgs X.env).findIdx? (·.1) = none := by rfl)
    (hs : swapsWithSole [.Tuple tgs kt pt] (.Tuple es k2 pt2) pos.line X.env = pure false := by rfl) (hw : swappedStores [.Tuple tgs kt pt] (.Tuple es k2 pt2) X.env = pure none := by rfl)
    (h1 : (assignEach [.Tuple tgs kt pt] X.env).map (·.2) = [assign (.Tuple tgs kt pt) X.env] := by rfl) : XS X ca EX ro (.Assign [.Tuple tgs kt pt] (.Tuple es k2 pt2) pos) (sPar is ms A) :=
  (ps_asg (pe_tup h) (pg_tup hc hg hn hst) hs hw h1).weak fun En σ H h => by
    obtain ⟨Z, η, ω, s, g, r⟩ := par_run (is := is) hl h
    refine ⟨Z, η, ω, s, g, ?_⟩
    cases q : A s with
    | bad => rw [q] at r; exact r
    | exc c p s2 => rw [q] at r; exact r
    | ok ds s1 =>
      rw [q] at r
      intro vs H1 po
      have e := (r vs H1 po).1
      refine ⟨by rw [e, sizeLine_eq]; omega, fun p hp => ⟨p, vs, rfl, .inl (.inl upd_same), e, gNs_run e (r vs _ (po.ex (ex_new hp))).2⟩⟩
end
end VL
set_option Elab.async false
set_option linter.all false
set_option maxRecDepth 100000
set_option maxHeartbeats 4000000
namespace K81
open PySem L2 VL
def top (i : Nat) : Stmt := PySem.Challenge.pw_affinewalk_k81_lists_that_decide.main.body.getD i (.Pass ⟨0, 0, 0, 0⟩)
/-- what the top leaves of the built-ins' names -/
structure Txt (mg : Str → Option Value) : Prop where
  z_abs : mg "abs" = none
  z_all : mg "all" = none
  z_any : mg "any" = none
  z_len : mg "len" = none
  z_list : mg "list" = none
  z_min : mg "min" = none
  z_range : mg "range" = none
  z_repr : mg "repr" = none
  z_set : mg "set" = none
  z_sorted : mg "sorted" = none
  z_tuple : mg "tuple" = none
abbrev s_subsets : Stmt := top 1
abbrev N_subsets : List Str := ["names", "found", "name", "some"]
abbrev P_subsets : List Str := ["names"]
theorem sc_subsets : FnScope N_subsets P_subsets (defScope s_subsets) := ⟨rfl, rfl, rfl, by decide +kernel, rfl, by decide +kernel, by decide +kernel⟩
noncomputable def F_subsets : SF := sSeq (sAsg (gN 1) (eLst (aCons (eTup (aNil)) (aNil)))) (sSeq (sFor (iSeq (eRd fSorted (pOf (eVar 0)))) (gN 2) (sAsg (gN 1) (eOp fAdd (eVar 1) (eLc [3] (iSeq (eVar 1)) (gN 3) (tY) (eOp fAdd (eVar 3) (eTup (aCons (eVar 2) (aNil)))))))) (sRet (eRd fSorted (pOf (eVar 1)))))
noncomputable def G_subsets : Fn := mkF false 1 4 F_subsets
theorem cal_subsets {P : Program} {w : World} {K : PySem.W.Frag} {mg : Str → Option Value} {base : Heap} {ca : Str → Addr} (D : DefAt K mg "subsets" s_subsets) (T : Txt mg)  : Cal P w K mg base ca CX0 1 "subsets" P_subsets false G_subsets :=
  D.cal sc_subsets (fun _ _ _ _ _ _ us hl => match us, hl with | [_], _ => rfl) fun cdv A outer s H E hr => by
    have nd := sc_subsets.nd
    exact xb_cons (xs_n nd rfl (.inl rfl) (XO.x (xo_lst (xa_cons (xe_tup (xa_nil)) (xa_nil))))) (xb_cons (xs_for PassesOwn.never rfl (xi_seq (XO.x (xo_cb1 rfl v_sorted (o_sorted hr) (by rfl) T.z_sorted B.sorted (xpl_of (xvar 0))))) (xg_n nd rfl (.inr rfl)) (xb_one (xs_n nd rfl (.inl rfl) (xe_op o_addA v_add (xvar 1) (XO.x (xo_lc (own := [("some", 3)]) rfl nd (xi_seq (xvar 1)) (blkOk_by (by kernel_rfl)) (by decide) (fun _ _ _ _ _ => xg_n nd rfl (.inl rfl)) (fun _ _ _ _ _ => xts_nil) (fun _ _ _ _ _ => xe_op o_addA v_add (xvar 3) (xe_tup (xa_cons (xvar 2) (xa_nil)))))))))) (xb_one (xs_ret (XO.x (xo_cb1 rfl v_sorted (o_sorted hr) (by rfl) T.z_sorted B.sorted (xpl_of (xvar 1)))))))
abbrev s_is_within : Stmt := top 2
abbrev N_is_within : List Str := ["some", "other", "name"]
abbrev P_is_within : List Str := ["some", "other"]
theorem sc_is_within : FnScope N_is_within P_is_within (defScope s_is_within) := ⟨rfl, rfl, rfl, by decide +kernel, rfl, by decide +kernel, by decide +kernel⟩
noncomputable def F_is_within : SF := sRet (eRd fAll (pOf (eLc [2] (iSeq (eVar 0)) (gN 2) (tY) (eInP fMem (eVar 2) (pOf (eVar 1))))))
noncomputable def G_is_within : Fn := mkF false 2 3 F_is_within
theorem cal_is_within {P : Program} {w : World} {K : PySem.W.Frag} {mg : Str → Option Value} {base : Heap} {ca : Str → Addr} (D : DefAt K mg "is_within" s_is_within) (T : Txt mg)  : Cal P w K mg base ca CX0 1 "is_within" P_is_within false G_is_within :=
  D.cal sc_is_within (fun _ _ _ _ _ _ us hl => match us, hl with | [_, _], _ => rfl) fun cdv A outer s H E hr => by
    have nd := sc_is_within.nd
    exact xb_one (xs_ret (xe_cb1 rfl v_all (cr_all rfl) (by rfl) T.z_all B.all (xpl_of (XO.x (xo_lc (own := [("name", 2)]) rfl nd (xi_seq (xvar 0)) (blkOk_by (by kernel_rfl)) (by decide) (fun _ _ _ _ _ => xg_n nd rfl (.inl rfl)) (fun _ _ _ _ _ => xts_nil) (fun _ _ _ _ _ => xe_in hr.un65 (xvar 2) (xpl_of (xvar 1))))))))
abbrev s_decides : Stmt := top 3
abbrev N_decides : List Str := ["candidates", "blocking", "open_sets", "some", "is_blocked", "other"]
abbrev P_decides : List Str := ["candidates", "blocking", "open_sets"]
theorem sc_decides : FnScope N_decides P_decides (defScope s_decides) := ⟨rfl, rfl, rfl, by decide +kernel, rfl, by decide +kernel, by decide +kernel⟩
noncomputable def F_decides : SF := sSeq (sFor (iSeq (eCall G_subsets (aCons (eVar 0) (aNil)))) (gN 3) (sSeq (sAsg (gN 4) (eRd fAny (pOf (eLc [5] (iSeq (eVar 1)) (gN 5) (tY) (eCall G_is_within (aCons (eVar 5) (aCons (eVar 3) (aNil)))))))) (sIf (tCmpP fEq (pOf (eVar 4)) (eRd fAny (pOf (eLc [5] (iSeq (eVar 2)) (gN 5) (tY) (eCall G_is_within (aCons (eVar 3) (aCons (eVar 5) (aNil)))))))) (sRet (eC (.bl false))) (sNx)))) (sRet (eC (.bl true)))
noncomputable def G_decides : Fn := mkF false 3 6 F_decides
theorem cal_decides {P : Program} {w : World} {K : PySem.W.Frag} {mg : Str → Option Value} {base : Heap} {ca : Str → Addr} (D : DefAt K mg "decides" s_decides) (T : Txt mg) (C_subsets : Cal P w K mg base ca CX0 1 "subsets" P_subsets false G_subsets) (C_is_within : Cal P w K mg base ca CX0 1 "is_within" P_is_within false G_is_within) : Cal P w K mg base ca CX0 2 "decides" P_decides false G_decides :=
  D.cal sc_decides (fun _ _ _ _ _ _ us hl => match us, hl with | [_, _, _], _ => rfl) fun cdv A outer s H E hr => by
    have nd := sc_decides.nd
    exact xb_cons (xs_for PassesOwn.never rfl (xi_seq (xe_cal C_subsets (hr.mono (by decide)) (xa_cons (xvar 0) (xa_nil)))) (xg_n nd rfl (.inr rfl)) (xb_cons (xs_n nd rfl (.inl rfl) (xe_cb1 rfl v_any (cr_any rfl) (by rfl) T.z_any B.any (xpl_of (XO.x (xo_lc (own := [("other", 5)]) rfl nd (xi_seq (xvar 1)) (blkOk_by (by kernel_rfl)) (by decide) (fun _ _ _ _ _ => xg_n nd rfl (.inl rfl)) (fun _ _ _ _ _ => xts_nil) (fun _ _ _ _ _ => xe_cal C_is_within (hr.mono (by decide)) (xa_cons (xvar 5) (xa_cons (xvar 3) (xa_nil))))))))) (xb_one (xs_if (xt_eq hr.units (xpl_of (xvar 4)) (xe_cb1 rfl v_any (cr_any rfl) (by rfl) T.z_any B.any (xpl_of (XO.x (xo_lc (own := [("other", 5)]) rfl nd (xi_seq (xvar 2)) (blkOk_by (by kernel_rfl)) (by decide) (fun _ _ _ _ _ => xg_n nd rfl (.inl rfl)) (fun _ _ _ _ _ => xts_nil) (fun _ _ _ _ _ => xe_cal C_is_within (hr.mono (by decide)) (xa_cons (xvar 3) (xa_cons (xvar 5) (xa_nil))))))))) (xb_one (xs_ret (xe_bl))) (xb_nil))))) (xb_one (xs_ret (xe_bl)))
abbrev s_law_pen : Stmt := top 5
abbrev N_law_pen : List Str := ["script"]
abbrev P_law_pen : List Str := ["script"]
theorem sc_law_pen : FnScope N_law_pen P_law_pen (defScope s_law_pen) := ⟨rfl, rfl, rfl, by decide +kernel, rfl, by decide +kernel, by decide +kernel⟩
noncomputable def F_law_pen : SF := sRet (eDisp [(eC (.str "cells"), eRd fList (pOf (eSl (pOf (eVar 0)) (pNo) (pSo (eC (.int 63)))))), (eC (.str "turn"), eC (.int 0)), (eC (.str "rest"), eC (.int 0))])
noncomputable def G_law_pen : Fn := mkF true 1 1 F_law_pen
theorem cal_law_pen {P : Program} {w : World} {K : PySem.W.Frag} {mg : Str → Option Value} {base : Heap} {ca : Str → Addr} (D : DefAt K mg "_law_pen" s_law_pen) (T : Txt mg)  : Cal P w K mg base ca CX0 1 "_law_pen" P_law_pen true G_law_pen :=
  D.cal sc_law_pen (fun _ _ _ _ _ _ us hl => match us, hl with | [_], _ => rfl) fun cdv A outer s H E hr => by
    have nd := sc_law_pen.nd
    exact xb_one (xs_retO (xo_disp (xpp_cons (xe_str) (XO.x (xo_ct1 rfl v_list call_list_of (by rfl) T.z_list B.list (xpl_of (xe_sl (xpl_of (xvar 0)) (xp_no) (xp_so (xe_int)))))) (xpp_cons (xe_str) (xe_int) (xpp_cons (xe_str) (xe_int) (xpp_nil)))) (by rfl) (by rfl) (fun z => by cases z) (by decide)))
abbrev s_law_draw : Stmt := top 6
abbrev N_law_draw : List Str := ["pen", "many", "digit", "turn", "cell", "primes", "prime", "drawn"]
abbrev P_law_draw : List Str := ["pen", "many"]
theorem sc_law_draw : FnScope N_law_draw P_law_draw (defScope s_law_draw) := ⟨rfl, rfl, rfl, by decide +kernel, rfl, by decide +kernel, by decide +kernel⟩
noncomputable def F_law_draw : SF := sSeq (sIf (tCmp2 fGt (eRd2 fIx (pOf (eVar 0)) (eC (.str "rest"))) (eC (.int 0))) (sSeq (sAsg (gN 2) (eOp fMod (eRd2 fIx (pOf (eVar 0)) (eC (.str "rest"))) (eVar 1))) (sSeq (sSet' (eOp fDiv (eRd2 fIx (pOf (eVar 0)) (eC (.str "rest"))) (eVar 1)) (pOf (eVar 0)) (eC (.str "rest"))) (sRet (eVar 2)))) (sNx)) (sSeq (sAsg (gN 3) (eRd2 fIx (pOf (eVar 0)) (eC (.str "turn")))) (sSeq (sSet' (eOp fAdd (eVar 3) (eC (.int 1))) (pOf (eVar 0)) (eC (.str "turn"))) (sSeq (sAsg (gN 4) (eOp fAdd (eOp fMul (eC (.int 37)) (eVar 3)) (eC (.int 11)))) (sSeq (sIf (tCmpP fNe (pOf (eRd2 fIx (pOf (eVar 0)) (eC (.str "cells")))) (eLst (aNil))) (sAsg (gN 4) (eRd2 fIx (pOf (eRd2 fIx (pOf (eVar 0)) (eC (.str "cells")))) (eOp fMod (eVar 3) (eRd fLen (pOf (eRd2 fIx (pOf (eVar 0)) (eC (.str "cells")))))))) (sNx)) (sSeq (sIf (tAn (tCmp2 fLt (eVar 3) (eRd fLen (pOf (eRd2 fIx (pOf (eVar 0)) (eC (.str "cells")))))) (tCmp2 fGe (eRd fAbs (pOf (eVar 4))) (eOp fPow (eC (.int 10)) (eC (.int 18))))) (sSeq (sSet' (eOp fDiv (eOp fSub (eRd fAbs (pOf (eVar 4))) (eOp fPow (eC (.int 10)) (eC (.int 18)))) (eVar 1)) (pOf (eVar 0)) (eC (.str "rest"))) (sRet (eOp fMod (eOp fSub (eRd fAbs (pOf (eVar 4))) (eOp fPow (eC (.int 10)) (eC (.int 18)))) (eVar 1)))) (sNx)) (sSeq (sAsg (gN 5) (eLst (aCons (eC (.int 2147483647)) (aCons (eC (.int 2147483629)) (aCons (eC (.int 2147483587)) (aCons (eC (.int 2147483579)) (aCons (eC (.int 2147483563)) (aNil)))))))) (sSeq (sAsg (gN 6) (eRd2 fIx (pOf (eVar 5)) (eOp fMod (eVar 3) (eC (.int 5))))) (sSeq (sAsg (gN 7) (eOp fMod (eOp fAdd (eOp fAdd (eOp fMul (eOp fMod (eVar 4) (eVar 6)) (eC (.int 69621))) (eOp fMul (eOp fMul (eC (.int 40692)) (eVar 3)) (eVar 3))) (eC (.int 17))) (eVar 6))) (sSeq (sAsg (gN 7) (eOp fMod (eOp fMul (eVar 7) (eOp fAdd (eVar 7) (eC (.int 48271)))) (eRd2 fIx (pOf (eVar 5)) (eOp fMod (eOp fAdd (eVar 3) (eC (.int 3))) (eC (.int 5)))))) (sRet (eOp fMod (eOp fDiv (eOp fMod (eOp fMul (eVar 7) (eVar 7)) (eC (.int 2147483549))) (eC (.int 64))) (eVar 1))))))))))))
noncomputable def G_law_draw : Fn := mkF false 2 8 F_law_draw
theorem cal_law_draw {P : Program} {w : World} {K : PySem.W.Frag} {mg : Str → Option Value} {base : Heap} {ca : Str → Addr} (D : DefAt K mg "_law_draw" s_law_draw) (T : Txt mg)  : Cal P w K mg base ca CX0 1 "_law_draw" P_law_draw false G_law_draw :=
  D.cal sc_law_draw (fun _ _ _ _ _ _ us hl => match us, hl with | [_, _], _ => rfl) fun cdv A outer s H E hr => by
    have nd := sc_law_draw.nd
    exact xb_cons (xs_if (xt_cmp op_gt v_gt (xe_ix (huG hr) (xpl_of (xvar 0)) (xe_str)) (xe_int) (nomark _)) (xb_cons (xs_n nd rfl (.inl rfl) (xe_op op_modN v_mod (xe_ix (huG hr) (xpl_of (xvar 0)) (xe_str)) (xvar 1))) (xb_cons (xs_set (huG hr) (xe_op op_fdivW v_div (xe_ix (huG hr) (xpl_of (xvar 0)) (xe_str)) (xvar 1)) (xpl_of (xvar 0)) (xe_str)) (xb_one (xs_ret (xvar 2))))) (xb_nil)) (xb_cons (xs_n nd rfl (.inl rfl) (xe_ix (huG hr) (xpl_of (xvar 0)) (xe_str))) (xb_cons (xs_set (huG hr) (xe_op o_addA v_add (xvar 3) (xe_int)) (xpl_of (xvar 0)) (xe_str)) (xb_cons (xs_n nd rfl (.inl rfl) (xe_op o_addA v_add (xe_op o_mulA v_mul (xe_int) (xvar 3)) (xe_int))) (xb_cons (xs_if (xt_ne hr.units (xpl_of (xe_ix (huG hr) (xpl_of (xvar 0)) (xe_str))) (XO.x (xo_lst (xa_nil)))) (xb_one (xs_n nd rfl (.inl rfl) (xe_ix (huG hr) (xpl_of (xe_ix (huG hr) (xpl_of (xvar 0)) (xe_str))) (xe_op op_modN v_mod (xvar 3) (xe_cb1 rfl v_len call_len (by rfl) T.z_len B.len (xpl_of (xe_ix (huG hr) (xpl_of (xvar 0)) (xe_str)))))))) (xb_nil)) (xb_cons (xs_if (XW.pt (xw_and (xt_cmp o_lt v_lt (xvar 3) (xe_cb1 rfl v_len call_len (by rfl) T.z_len B.len (xpl_of (xe_ix (huG hr) (xpl_of (xvar 0)) (xe_str)))) (nomark _)) (xw_and1 (xt_cmp op_ge v_ge (xe_cb1 rfl v_abs call_abs (by rfl) T.z_abs B.abs (xpl_of (xvar 4))) (xe_op op_pow v_pow (xe_int) (xe_int)) (nomark _))))) (xb_cons (xs_set (huG hr) (xe_op op_fdivW v_div (xe_op op_sub v_sub (xe_cb1 rfl v_abs call_abs (by rfl) T.z_abs B.abs (xpl_of (xvar 4))) (xe_op op_pow v_pow (xe_int) (xe_int))) (xvar 1)) (xpl_of (xvar 0)) (xe_str)) (xb_one (xs_ret (xe_op op_modN v_mod (xe_op op_sub v_sub (xe_cb1 rfl v_abs call_abs (by rfl) T.z_abs B.abs (xpl_of (xvar 4))) (xe_op op_pow v_pow (xe_int) (xe_int))) (xvar 1))))) (xb_nil)) (xb_cons (xs_n nd rfl (.inl rfl) (XO.x (xo_lst (xa_cons (xe_int) (xa_cons (xe_int) (xa_cons (xe_int) (xa_cons (xe_int) (xa_cons (xe_int) (xa_nil))))))))) (xb_cons (xs_n nd rfl (.inl rfl) (xe_ix (huG hr) (xpl_of (xvar 5)) (xe_op op_modN v_mod (xvar 3) (xe_int)))) (xb_cons (xs_n nd rfl (.inl rfl) (xe_op op_modN v_mod (xe_op o_addA v_add (xe_op o_addA v_add (xe_op o_mulA v_mul (xe_op op_modN v_mod (xvar 4) (xvar 6)) (xe_int)) (xe_op o_mulA v_mul (xe_op o_mulA v_mul (xe_int) (xvar 3)) (xvar 3))) (xe_int)) (xvar 6))) (xb_cons (xs_n nd rfl (.inl rfl) (xe_op op_modN v_mod (xe_op o_mulA v_mul (xvar 7) (xe_op o_addA v_add (xvar 7) (xe_int))) (xe_ix (huG hr) (xpl_of (xvar 5)) (xe_op op_modN v_mod (xe_op o_addA v_add (xvar 3) (xe_int)) (xe_int))))) (xb_one (xs_ret (xe_op op_modN v_mod (xe_op op_fdivW v_div (xe_op op_modN v_mod (xe_op o_mulA v_mul (xvar 7) (xvar 7)) (xe_int)) (xe_int)) (xvar 1)))))))))))))
abbrev s_law_pick : Stmt := top 7
abbrev N_law_pick : List Str := ["pen", "some"]
abbrev P_law_pick : List Str := ["pen", "some"]
theorem sc_law_pick : FnScope N_law_pick P_law_pick (defScope s_law_pick) := ⟨rfl, rfl, rfl, by decide +kernel, rfl, by decide +kernel, by decide +kernel⟩
noncomputable def F_law_pick : SF := sRet (eRd2 fIx (pOf (eVar 1)) (eCall G_law_draw (aCons (eVar 0) (aCons (eRd fLen (pOf (eVar 1))) (aNil)))))
noncomputable def G_law_pick : Fn := mkF false 2 2 F_law_pick
theorem cal_law_pick {P : Program} {w : World} {K : PySem.W.Frag} {mg : Str → Option Value} {base : Heap} {ca : Str → Addr} (D : DefAt K mg "_law_pick" s_law_pick) (T : Txt mg) (C_law_draw : Cal P w K mg base ca CX0 1 "_law_draw" P_law_draw false G_law_draw) : Cal P w K mg base ca CX0 2 "_law_pick" P_law_pick false G_law_pick :=
  D.cal sc_law_pick (fun _ _ _ _ _ _ us hl => match us, hl with | [_, _], _ => rfl) fun cdv A outer s H E hr => by
    have nd := sc_law_pick.nd
    exact xb_one (xs_ret (xe_ix (huG hr) (xpl_of (xvar 1)) (xe_cal C_law_draw (hr.mono (by decide)) (xa_cons (xvar 0) (xa_cons (xe_cb1 rfl v_len call_len (by rfl) T.z_len B.len (xpl_of (xvar 1))) (xa_nil))))))
abbrev s_law_shuffled : Stmt := top 8
abbrev N_law_shuffled : List Str := ["pen", "some", "left", "found"]
abbrev P_law_shuffled : List Str := ["pen", "some"]
theorem sc_law_shuffled : FnScope N_law_shuffled P_law_shuffled (defScope s_law_shuffled) := ⟨rfl, rfl, rfl, by decide +kernel, rfl, by decide +kernel, by decide +kernel⟩
noncomputable def F_law_shuffled : SF := sSeq (sPar [2, 3] [true, true] (aConsO (eRd fList (pOf (eVar 1))) (aConsO (eLst (aNil)) (aNil)))) (sSeq (sWh (tCmpP fNe (pSl 2) (eLst (aNil))) (sDrop (eMt fApp (pSl 3) (aCons (eMt fPopAt (pSl 2) (aCons (eCall G_law_draw (aCons (eVar 0) (aCons (eRd fLen (pSl 2)) (aNil)))) (aNil))) (aNil))))) (sRet (eVar 3)))
noncomputable def G_law_shuffled : Fn := mkF false 2 4 F_law_shuffled
theorem cal_law_shuffled {P : Program} {w : World} {K : PySem.W.Frag} {mg : Str → Option Value} {base : Heap} {ca : Str → Addr} (D : DefAt K mg "_law_shuffled" s_law_shuffled) (T : Txt mg) (C_law_draw : Cal P w K mg base ca CX0 1 "_law_draw" P_law_draw false G_law_draw) : Cal P w K mg base ca CX0 2 "_law_shuffled" P_law_shuffled false G_law_shuffled :=
  D.cal sc_law_shuffled (fun _ _ _ _ _ _ us hl => match us, hl with | [_, _], _ => rfl) fun cdv A outer s H E hr => by
    have nd := sc_law_shuffled.nd
    exact xb_cons (xs_par2 rfl nd rfl rfl (by decide) rfl rfl (xm_o (xo_ct1 rfl v_list call_list_of (by rfl) T.z_list B.list (xpl_of (xvar 1))) (xm_o (xo_lst (xa_nil)) (xm_nil))) (by rfl)) (xb_cons (xs_while PassesOwn.never (xt_ne hr.units (xplv 2) (XO.x (xo_lst (xa_nil)))) (xb_one (xs_expr (xe_mt v_append PySem.F.plainAttrs_list PySem.F.slot_list_append PySem.F.type_list_append mt_append (xplv 3) (xa_cons (xe_mt v_popAt PySem.F.plainAttrs_list PySem.F.slot_list_pop PySem.F.type_list_pop mt_popAt (xplv 2) (xa_cons (xe_cal C_law_draw (hr.mono (by decide)) (xa_cons (xvar 0) (xa_cons (xe_cb1 rfl v_len call_len (by rfl) T.z_len B.len (xplv 2)) (xa_nil)))) (xa_nil))) (xa_nil)))))) (xb_one (xs_ret (xvar 3))))
abbrev s_law_names : Stmt := top 9
abbrev N_law_names : List Str := ["pen", "many", "words", "turn", "letters", "base", "at", "first", "cut", "stride", "found", "k", "tail"]
abbrev P_law_names : List Str := ["pen", "many"]
theorem sc_law_names : FnScope N_law_names P_law_names (defScope s_law_names) := ⟨rfl, rfl, rfl, by decide +kernel, rfl, by decide +kernel, by decide +kernel⟩
noncomputable def F_law_names : SF := sSeq (sIf (tCmpP fEq (pOf (eCall G_law_draw (aCons (eVar 0) (aCons (eC (.int 7)) (aNil))))) (eC (.int 0))) (sSeq (sAsg (gN 2) (eLst (aCons (eC (.str "node")) (aCons (eC (.str "edge")) (aCons (eC (.str "watch")) (aCons (eC (.str "modulus")) (aCons (eC (.str "when")) (aCons (eC (.str "forward")) (aCons (eC (.str "backward")) (aCons (eC (.str "at")) (aCons (eC (.str "step")) (aCons (eC (.str "jump")) (aNil))))))))))))) (sSeq (sAsg (gN 3) (eCall G_law_draw (aCons (eVar 0) (aCons (eC (.int 18)) (aNil))))) (sRet (eSl (pOf (eSl (pOf (eOp fMul (eOp fAdd (eVar 2) (eLst (aCons (eC (.str "remove")) (aCons (eC (.str "row")) (aCons (eC (.str "open")) (aCons (eC (.str "blocks")) (aCons (eC (.str "form")) (aCons (eC (.str "residue")) (aCons (eC (.str "a")) (aCons (eC (.str "b")) (aNil))))))))))) (eC (.int 2)))) (pSo (eVar 3)) (pNo))) (pNo) (pSo (eVar 1)))))) (sNx)) (sSeq (sAsg (gN 4) (eC (.str "abcdefghijklmnopqrstuvwxyz"))) (sSeq (sAsg (gN 5) (eM1 fJoin (eC (.str "")) (eLc [11] (iRange (aCons (eOp fAdd (eC (.int 1)) (eCall G_law_draw (aCons (eVar 0) (aCons (eC (.int 8)) (aNil))))) (aNil))) (gN 11) (tY) (eCall G_law_pick (aCons (eVar 0) (aCons (eVar 4) (aNil))))))) (sSeq (sPar [6, 7, 8] [false, false, false] (aCons (eCall G_law_draw (aCons (eVar 0) (aCons (eRd fLen (pOf (eVar 5))) (aNil)))) (aCons (eCall G_law_draw (aCons (eVar 0) (aCons (eC (.int 26)) (aNil)))) (aCons (eCall G_law_draw (aCons (eVar 0) (aCons (eC (.int 2)) (aNil)))) (aNil))))) (sSeq (sPar [9, 10] [false, true] (aCons (eCall G_law_pick (aCons (eVar 0) (aCons (eLst (aCons (eC (.int 1)) (aCons (eC (.int 3)) (aCons (eC (.int 5)) (aCons (eC (.int 7)) (aCons (eC (.int 9)) (aCons (eC (.int 11)) (aCons (eC (.int 15)) (aCons (eC (.int 17)) (aCons (eC (.int 19)) (aCons (eC (.int 21)) (aCons (eC (.int 23)) (aCons (eC (.int 25)) (aNil)))))))))))))) (aNil)))) (aConsO (eLst (aNil)) (aNil)))) (sSeq (sFor (iRange (aCons (eVar 1) (aNil))) (gN 11) (sSeq (sAsg (gN 12) (eSl (pOf (eSl (pOf (eVar 5)) (pSo (eOp fAdd (eVar 6) (eC (.int 1)))) (pNo))) (pNo) (pSo (eRd2 fIx (pOf (eLst (aCons (eC (.int 8)) (aCons (eOp fMod (eVar 11) (eC (.int 3))) (aNil))))) (eVar 8))))) (sDrop (eMt fApp (pSl 10) (aCons (eOp fAdd (eOp fAdd (eSl (pOf (eVar 5)) (pNo) (pSo (eVar 6))) (eRd2 fIx (pOf (eVar 4)) (eOp fMod (eOp fAdd (eVar 7) (eOp fMul (eVar 9) (eVar 11))) (eC (.int 26))))) (eVar 12)) (aNil)))))) (sSeq (sIf (tAn (tCmp2 fGt (eVar 6) (eC (.int 0))) (tCmpP fEq (pOf (eCall G_law_draw (aCons (eVar 0) (aCons (eC (.int 3)) (aNil))))) (eC (.int 0)))) (sSet' (eSl (pOf (eVar 5)) (pNo) (pSo (eVar 6))) (pSl 10) (eCall G_law_draw (aCons (eVar 0) (aCons (eVar 1) (aNil))))) (sNx)) (sRet (eVar 10))))))))
noncomputable def G_law_names : Fn := mkF false 2 13 F_law_names
theorem cal_law_names {P : Program} {w : World} {K : PySem.W.Frag} {mg : Str → Option Value} {base : Heap} {ca : Str → Addr} (D : DefAt K mg "_law_names" s_law_names) (T : Txt mg) (C_law_draw : Cal P w K mg base ca CX0 1 "_law_draw" P_law_draw false G_law_draw) (C_law_pick : Cal P w K mg base ca CX0 2 "_law_pick" P_law_pick false G_law_pick) : Cal P w K mg base ca CX0 3 "_law_names" P_law_names false G_law_names :=
  D.cal sc_law_names (fun _ _ _ _ _ _ us hl => match us, hl with | [_, _], _ => rfl) fun cdv A outer s H E hr => by
    have nd := sc_law_names.nd
    exact xb_cons (xs_if (xt_eq hr.units (xpl_of (xe_cal C_law_draw (hr.mono (by decide)) (xa_cons (xvar 0) (xa_cons (xe_int) (xa_nil))))) (xe_int)) (xb_cons (xs_n nd rfl (.inl rfl) (XO.x (xo_lst (xa_cons (xe_str) (xa_cons (xe_str) (xa_cons (xe_str) (xa_cons (xe_str) (xa_cons (xe_str) (xa_cons (xe_str) (xa_cons (xe_str) (xa_cons (xe_str) (xa_cons (xe_str) (xa_cons (xe_str) (xa_nil)))))))))))))) (xb_cons (xs_n nd rfl (.inl rfl) (xe_cal C_law_draw (hr.mono (by decide)) (xa_cons (xvar 0) (xa_cons (xe_int) (xa_nil))))) (xb_one (xs_ret (xe_sl (xpl_of (xe_sl (xpl_of (xe_op o_mulA v_mul (xe_op o_addA v_add (xvar 2) (XO.x (xo_lst (xa_cons (xe_str) (xa_cons (xe_str) (xa_cons (xe_str) (xa_cons (xe_str) (xa_cons (xe_str) (xa_cons (xe_str) (xa_cons (xe_str) (xa_cons (xe_str) (xa_nil)))))))))))) (xe_int))) (xp_so (xvar 3)) (xp_no))) (xp_no) (xp_so (xvar 1))))))) (xb_nil)) (xb_cons (xs_n nd rfl (.inr rfl) (xe_str)) (xb_cons (xs_n nd rfl (.inl rfl) (xe_join (xe_str) (XO.x (xo_lc (own := [("k", 11)]) rfl nd (xi_range1 (by rfl) T.z_range (xe_op o_addA v_add (xe_int) (xe_cal C_law_draw (hr.mono (by decide)) (xa_cons (xvar 0) (xa_cons (xe_int) (xa_nil)))))) (blkOk_by (by kernel_rfl)) (by decide) (fun _ _ _ _ _ => xg_n nd rfl (.inl rfl)) (fun _ _ _ _ _ => xts_nil) (fun _ _ _ _ _ => xe_cal C_law_pick (hr.mono (by decide)) (xa_cons (xvar 0) (xa_cons (xvar 4) (xa_nil)))))))) (xb_cons (xs_par3 (ps_par3 rfl nd rfl rfl rfl (by decide) (by decide) (by decide) rfl rfl rfl (xm_v (xe_cal C_law_draw (hr.mono (by decide)) (xa_cons (xvar 0) (xa_cons (xe_cb1 rfl v_len call_len (by rfl) T.z_len B.len (xpl_of (xvar 5))) (xa_nil)))) (xm_v (xe_cal C_law_draw (hr.mono (by decide)) (xa_cons (xvar 0) (xa_cons (xe_int) (xa_nil)))) (xm_v (xe_cal C_law_draw (hr.mono (by decide)) (xa_cons (xvar 0) (xa_cons (xe_int) (xa_nil)))) (xm_nil)))) (by rfl))) (xb_cons (xs_par2 rfl nd rfl rfl (by decide) rfl rfl (xm_v (xe_cal C_law_pick (hr.mono (by decide)) (xa_cons (xvar 0) (xa_cons (XO.x (xo_lst (xa_cons (xe_int) (xa_cons (xe_int) (xa_cons (xe_int) (xa_cons (xe_int) (xa_cons (xe_int) (xa_cons (xe_int) (xa_cons (xe_int) (xa_cons (xe_int) (xa_cons (xe_int) (xa_cons (xe_int) (xa_cons (xe_int) (xa_cons (xe_int) (xa_nil))))))))))))))) (xa_nil)))) (xm_o (xo_lst (xa_nil)) (xm_nil))) (by rfl)) (xb_cons (xs_for PassesOwn.never rfl (xi_range1 (by rfl) T.z_range (xvar 1)) (xg_n nd rfl (.inl rfl)) (xb_cons (xs_n nd rfl (.inl rfl) (xe_sl (xpl_of (xe_sl (xpl_of (xvar 5)) (xp_so (xe_op o_addA v_add (xvar 6) (xe_int))) (xp_no))) (xp_no) (xp_so (xe_ix (huG hr) (xpl_of (XO.x (xo_lst (xa_cons (xe_int) (xa_cons (xe_op op_modN v_mod (xvar 11) (xe_int)) (xa_nil)))))) (xvar 8))))) (xb_one (xs_expr (xe_mt v_append PySem.F.plainAttrs_list PySem.F.slot_list_append PySem.F.type_list_append mt_append (xplv 10) (xa_cons (xe_op o_addA v_add (xe_op o_addA v_add (xe_sl (xpl_of (xvar 5)) (xp_no) (xp_so (xvar 6))) (xe_ix (huG hr) (xpl_of (xvar 4)) (xe_op op_modN v_mod (xe_op o_addA v_add (xvar 7) (xe_op o_mulA v_mul (xvar 9) (xvar 11))) (xe_int)))) (xvar 12)) (xa_nil))))))) (xb_cons (xs_if (XW.pt (xw_and (xt_cmp op_gt v_gt (xvar 6) (xe_int) (nomark _)) (xw_and1 (xt_eq hr.units (xpl_of (xe_cal C_law_draw (hr.mono (by decide)) (xa_cons (xvar 0) (xa_cons (xe_int) (xa_nil))))) (xe_int))))) (xb_one (xs_set (huG hr) (xe_sl (xpl_of (xvar 5)) (xp_no) (xp_so (xvar 6))) (xplv 10) (xe_cal C_law_draw (hr.mono (by decide)) (xa_cons (xvar 0) (xa_cons (xvar 1) (xa_nil)))))) (xb_nil)) (xb_one (xs_ret (xvar 10)))))))))
abbrev s_law_fresh : Stmt := top 10
abbrev N_law_fresh : List Str := ["pen", "used", "many", "letters", "found", "name", "k"]
abbrev P_law_fresh : List Str := ["pen", "used", "many"]
theorem sc_law_fresh : FnScope N_law_fresh P_law_fresh (defScope s_law_fresh) := ⟨rfl, rfl, rfl, by decide +kernel, rfl, by decide +kernel, by decide +kernel⟩
noncomputable def F_law_fresh : SF := sSeq (sPar [3, 4] [false, true] (aCons (eC (.str "abcdefghijklmnopqrstuvwxyz")) (aConsO (eLst (aNil)) (aNil)))) (sSeq (sFor (iSeq (eOp fAdd (eCall G_law_names (aCons (eVar 0) (aCons (eC (.int 18)) (aNil)))) (eLc [6] (iRange (aCons (eC (.int 99)) (aNil))) (gN 6) (tY) (eOp fAdd (eRd2 fIx (pOf (eVar 3)) (eOp fDiv (eVar 6) (eC (.int 26)))) (eRd2 fIx (pOf (eVar 3)) (eOp fMod (eVar 6) (eC (.int 26)))))))) (gN 5) (sIf (tAn (tInP fNotMem (eVar 5) (pOf (eVar 1))) (tAn (tInP fNotMem (eVar 5) (pSl 4)) (tCmp2 fLt (eRd fLen (pSl 4)) (eVar 2)))) (sDrop (eMt fApp (pSl 4) (aCons (eVar 5) (aNil)))) (sNx))) (sRet (eVar 4)))
noncomputable def G_law_fresh : Fn := mkF false 3 7 F_law_fresh
theorem cal_law_fresh {P : Program} {w : World} {K : PySem.W.Frag} {mg : Str → Option Value} {base : Heap} {ca : Str → Addr} (D : DefAt K mg "_law_fresh" s_law_fresh) (T : Txt mg) (C_law_names : Cal P w K mg base ca CX0 3 "_law_names" P_law_names false G_law_names) : Cal P w K mg base ca CX0 4 "_law_fresh" P_law_fresh false G_law_fresh :=
  D.cal sc_law_fresh (fun _ _ _ _ _ _ us hl => match us, hl with | [_, _, _], _ => rfl) fun cdv A outer s H E hr => by
    have nd := sc_law_fresh.nd
    exact xb_cons (xs_parT rfl rfl (gns_cons nd rfl (.inr rfl) (gns_cons nd rfl (.inl rfl) (gns_nil))) (xm_v (xe_str) (xm_o (xo_lst (xa_nil)) (xm_nil)))) (xb_cons (xs_for PassesOwn.never rfl (xi_seq (xe_op o_addA v_add (xe_cal C_law_names (hr.mono (by decide)) (xa_cons (xvar 0) (xa_cons (xe_int) (xa_nil)))) (XO.x (xo_lc (own := [("k", 6)]) rfl nd (xi_range1 (by rfl) T.z_range (xe_int)) (blkOk_by (by kernel_rfl)) (by decide) (fun _ _ _ _ _ => xg_n nd rfl (.inl rfl)) (fun _ _ _ _ _ => xts_nil) (fun _ _ _ _ _ => xe_op o_addA v_add (xe_ix (huG hr) (xpl_of (xvar 3)) (xe_op op_fdivW v_div (xvar 6) (xe_int))) (xe_ix (huG hr) (xpl_of (xvar 3)) (xe_op op_modN v_mod (xvar 6) (xe_int)))))))) (xg_n nd rfl (.inl rfl)) (xb_one (xs_if (XW.pt (xw_and (xt_notin hr.un65 (xvar 5) (xpl_of (xvar 1))) (xw_and (xt_notin hr.un65 (xvar 5) (xplv 4)) (xw_and1 (xt_cmp o_lt v_lt (xe_cb1 rfl v_len call_len (by rfl) T.z_len B.len (xplv 4)) (xvar 2) (nomark _)))))) (xb_one (xs_expr (xe_mt v_append PySem.F.plainAttrs_list PySem.F.slot_list_append PySem.F.type_list_append mt_append (xplv 4) (xa_cons (xvar 5) (xa_nil))))) (xb_nil)))) (xb_one (xs_ret (xvar 4))))
abbrev s_law_sets : Stmt := top 11
abbrev N_law_sets : List Str := ["names", "found", "name", "some"]
abbrev P_law_sets : List Str := ["names"]
theorem sc_law_sets : FnScope N_law_sets P_law_sets (defScope s_law_sets) := ⟨rfl, rfl, rfl, by decide +kernel, rfl, by decide +kernel, by decide +kernel⟩
noncomputable def F_law_sets : SF := sSeq (sAsg (gN 1) (eLst (aCons (eTup (aNil)) (aNil)))) (sSeq (sFor (iSeq (eRd fSorted (pOf (eVar 0)))) (gN 2) (sAsg (gN 1) (eOp fAdd (eVar 1) (eLc [3] (iSeq (eVar 1)) (gN 3) (tY) (eOp fAdd (eVar 3) (eTup (aCons (eVar 2) (aNil)))))))) (sRet (eRd fSorted (pOf (eVar 1)))))
noncomputable def G_law_sets : Fn := mkF false 1 4 F_law_sets
theorem cal_law_sets {P : Program} {w : World} {K : PySem.W.Frag} {mg : Str → Option Value} {base : Heap} {ca : Str → Addr} (D : DefAt K mg "_law_sets" s_law_sets) (T : Txt mg)  : Cal P w K mg base ca CX0 1 "_law_sets" P_law_sets false G_law_sets :=
  D.cal sc_law_sets (fun _ _ _ _ _ _ us hl => match us, hl with | [_], _ => rfl) fun cdv A outer s H E hr => by
    have nd := sc_law_sets.nd
    exact xb_cons (xs_n nd rfl (.inl rfl) (XO.x (xo_lst (xa_cons (xe_tup (xa_nil)) (xa_nil))))) (xb_cons (xs_for PassesOwn.never rfl (xi_seq (XO.x (xo_cb1 rfl v_sorted (o_sorted hr) (by rfl) T.z_sorted B.sorted (xpl_of (xvar 0))))) (xg_n nd rfl (.inr rfl)) (xb_one (xs_n nd rfl (.inl rfl) (xe_op o_addA v_add (xvar 1) (XO.x (xo_lc (own := [("some", 3)]) rfl nd (xi_seq (xvar 1)) (blkOk_by (by kernel_rfl)) (by decide) (fun _ _ _ _ _ => xg_n nd rfl (.inl rfl)) (fun _ _ _ _ _ => xts_nil) (fun _ _ _ _ _ => xe_op o_addA v_add (xvar 3) (xe_tup (xa_cons (xvar 2) (xa_nil)))))))))) (xb_one (xs_ret (XO.x (xo_cb1 rfl v_sorted (o_sorted hr) (by rfl) T.z_sorted B.sorted (xpl_of (xvar 1)))))))
abbrev s_law_lies_in : Stmt := top 12
abbrev N_law_lies_in : List Str := ["some", "other", "name"]
abbrev P_law_lies_in : List Str := ["some", "other"]
theorem sc_law_lies_in : FnScope N_law_lies_in P_law_lies_in (defScope s_law_lies_in) := ⟨rfl, rfl, rfl, by decide +kernel, rfl, by decide +kernel, by decide +kernel⟩
noncomputable def F_law_lies_in : SF := sRet (eCmpP fEq (pOf (eLc [2] (iSeq (eVar 0)) (gN 2) (tInP fNotMem (eVar 2) (pOf (eVar 1))) (eVar 2))) (eLst (aNil)))
noncomputable def G_law_lies_in : Fn := mkF false 2 3 F_law_lies_in
theorem cal_law_lies_in {P : Program} {w : World} {K : PySem.W.Frag} {mg : Str → Option Value} {base : Heap} {ca : Str → Addr} (D : DefAt K mg "_law_lies_in" s_law_lies_in) (T : Txt mg)  : Cal P w K mg base ca CX0 1 "_law_lies_in" P_law_lies_in false G_law_lies_in :=
  D.cal sc_law_lies_in (fun _ _ _ _ _ _ us hl => match us, hl with | [_, _], _ => rfl) fun cdv A outer s H E hr => by
    have nd := sc_law_lies_in.nd
    exact xb_one (xs_ret (xe_eqP hr.units (xpl_of (XO.x (xo_lc (own := [("name", 2)]) rfl nd (xi_seq (xvar 0)) (blkOk_by (by kernel_rfl)) (by decide) (fun _ _ _ _ _ => xg_n nd rfl (.inl rfl)) (fun _ _ _ _ _ => xts_one (xt_notin hr.un65 (xvar 2) (xpl_of (xvar 1)))) (fun _ _ _ _ _ => xvar 2)))) (XO.x (xo_lst (xa_nil)))))
abbrev s_law_has_less : Stmt := top 13
abbrev N_law_has_less : List Str := ["sets", "some", "one"]
abbrev P_law_has_less : List Str := ["sets", "some"]
theorem sc_law_has_less : FnScope N_law_has_less P_law_has_less (defScope s_law_has_less) := ⟨rfl, rfl, rfl, by decide +kernel, rfl, by decide +kernel, by decide +kernel⟩
noncomputable def F_law_has_less : SF := sRet (eCmpP fNe (pOf (eLc [2] (iSeq (eVar 0)) (gN 2) (tAn (tCmpP fNe (pOf (eVar 2)) (eVar 1)) (tVal (eCall G_law_lies_in (aCons (eVar 2) (aCons (eVar 1) (aNil)))))) (eVar 2))) (eLst (aNil)))
noncomputable def G_law_has_less : Fn := mkF false 2 3 F_law_has_less
theorem cal_law_has_less {P : Program} {w : World} {K : PySem.W.Frag} {mg : Str → Option Value} {base : Heap} {ca : Str → Addr} (D : DefAt K mg "_law_has_less" s_law_has_less) (T : Txt mg) (C_law_lies_in : Cal P w K mg base ca CX0 1 "_law_lies_in" P_law_lies_in false G_law_lies_in) : Cal P w K mg base ca CX0 2 "_law_has_less" P_law_has_less false G_law_has_less :=
  D.cal sc_law_has_less (fun _ _ _ _ _ _ us hl => match us, hl with | [_, _], _ => rfl) fun cdv A outer s H E hr => by
    have nd := sc_law_has_less.nd
    exact xb_one (xs_ret (xe_neP hr.units (xpl_of (XO.x (xo_lc (own := [("one", 2)]) rfl nd (xi_seq (xvar 0)) (blkOk_by (by kernel_rfl)) (by decide) (fun _ _ _ _ _ => xg_n nd rfl (.inl rfl)) (fun _ _ _ _ _ => xts_one (XW.pt (xw_and (xt_ne hr.units (xpl_of (xvar 2)) (xvar 1)) (xw_and1 (xt_val (xe_cal C_law_lies_in (hr.mono (by decide)) (xa_cons (xvar 2) (xa_cons (xvar 1) (xa_nil))))))))) (fun _ _ _ _ _ => xvar 2)))) (XO.x (xo_lst (xa_nil)))))
abbrev s_law_has_more : Stmt := top 14
abbrev N_law_has_more : List Str := ["sets", "some", "one"]
abbrev P_law_has_more : List Str := ["sets", "some"]
theorem sc_law_has_more : FnScope N_law_has_more P_law_has_more (defScope s_law_has_more) := ⟨rfl, rfl, rfl, by decide +kernel, rfl, by decide +kernel, by decide +kernel⟩
noncomputable def F_law_has_more : SF := sRet (eCmpP fNe (pOf (eLc [2] (iSeq (eVar 0)) (gN 2) (tAn (tCmpP fNe (pOf (eVar 2)) (eVar 1)) (tVal (eCall G_law_lies_in (aCons (eVar 1) (aCons (eVar 2) (aNil)))))) (eVar 2))) (eLst (aNil)))
noncomputable def G_law_has_more : Fn := mkF false 2 3 F_law_has_more
theorem cal_law_has_more {P : Program} {w : World} {K : PySem.W.Frag} {mg : Str → Option Value} {base : Heap} {ca : Str → Addr} (D : DefAt K mg "_law_has_more" s_law_has_more) (T : Txt mg) (C_law_lies_in : Cal P w K mg base ca CX0 1 "_law_lies_in" P_law_lies_in false G_law_lies_in) : Cal P w K mg base ca CX0 2 "_law_has_more" P_law_has_more false G_law_has_more :=
  D.cal sc_law_has_more (fun _ _ _ _ _ _ us hl => match us, hl with | [_, _], _ => rfl) fun cdv A outer s H E hr => by
    have nd := sc_law_has_more.nd
    exact xb_one (xs_ret (xe_neP hr.units (xpl_of (XO.x (xo_lc (own := [("one", 2)]) rfl nd (xi_seq (xvar 0)) (blkOk_by (by kernel_rfl)) (by decide) (fun _ _ _ _ _ => xg_n nd rfl (.inl rfl)) (fun _ _ _ _ _ => xts_one (XW.pt (xw_and (xt_ne hr.units (xpl_of (xvar 2)) (xvar 1)) (xw_and1 (xt_val (xe_cal C_law_lies_in (hr.mono (by decide)) (xa_cons (xvar 1) (xa_cons (xvar 2) (xa_nil))))))))) (fun _ _ _ _ _ => xvar 2)))) (XO.x (xo_lst (xa_nil)))))
abbrev s_law_is_decided : Stmt := top 15
abbrev N_law_is_decided : List Str := ["names", "blocking", "open_sets", "some", "above", "one"]
abbrev P_law_is_decided : List Str := ["names", "blocking", "open_sets"]
theorem sc_law_is_decided : FnScope N_law_is_decided P_law_is_decided (defScope s_law_is_decided) := ⟨rfl, rfl, rfl, by decide +kernel, rfl, by decide +kernel, by decide +kernel⟩
noncomputable def F_law_is_decided : SF := sSeq (sFor (iSeq (eCall G_law_sets (aCons (eVar 0) (aNil)))) (gN 3) (sSeq (sAsg (gN 4) (eCmpP fNe (pOf (eLc [5] (iSeq (eVar 1)) (gN 5) (tVal (eCall G_law_lies_in (aCons (eVar 5) (aCons (eVar 3) (aNil))))) (eVar 5))) (eLst (aNil)))) (sIf (tCmpP fEq (pOf (eVar 4)) (eCmpP fNe (pOf (eLc [5] (iSeq (eVar 2)) (gN 5) (tVal (eCall G_law_lies_in (aCons (eVar 3) (aCons (eVar 5) (aNil))))) (eVar 5))) (eLst (aNil)))) (sRet (eC (.bl false))) (sNx)))) (sRet (eC (.bl true)))
noncomputable def G_law_is_decided : Fn := mkF false 3 6 F_law_is_decided
theorem cal_law_is_decided {P : Program} {w : World} {K : PySem.W.Frag} {mg : Str → Option Value} {base : Heap} {ca : Str → Addr} (D : DefAt K mg "_law_is_decided" s_law_is_decided) (T : Txt mg) (C_law_sets : Cal P w K mg base ca CX0 1 "_law_sets" P_law_sets false G_law_sets) (C_law_lies_in : Cal P w K mg base ca CX0 1 "_law_lies_in" P_law_lies_in false G_law_lies_in) : Cal P w K mg base ca CX0 2 "_law_is_decided" P_law_is_decided false G_law_is_decided :=
  D.cal sc_law_is_decided (fun _ _ _ _ _ _ us hl => match us, hl with | [_, _, _], _ => rfl) fun cdv A outer s H E hr => by
    have nd := sc_law_is_decided.nd
    exact xb_cons (xs_for PassesOwn.never rfl (xi_seq (xe_cal C_law_sets (hr.mono (by decide)) (xa_cons (xvar 0) (xa_nil)))) (xg_n nd rfl (.inr rfl)) (xb_cons (xs_n nd rfl (.inl rfl) (xe_neP hr.units (xpl_of (XO.x (xo_lc (own := [("one", 5)]) rfl nd (xi_seq (xvar 1)) (blkOk_by (by kernel_rfl)) (by decide) (fun _ _ _ _ _ => xg_n nd rfl (.inl rfl)) (fun _ _ _ _ _ => xts_one (xt_val (xe_cal C_law_lies_in (hr.mono (by decide)) (xa_cons (xvar 5) (xa_cons (xvar 3) (xa_nil)))))) (fun _ _ _ _ _ => xvar 5)))) (XO.x (xo_lst (xa_nil))))) (xb_one (xs_if (xt_eq hr.units (xpl_of (xvar 4)) (xe_neP hr.units (xpl_of (XO.x (xo_lc (own := [("one", 5)]) rfl nd (xi_seq (xvar 2)) (blkOk_by (by kernel_rfl)) (by decide) (fun _ _ _ _ _ => xg_n nd rfl (.inl rfl)) (fun _ _ _ _ _ => xts_one (xt_val (xe_cal C_law_lies_in (hr.mono (by decide)) (xa_cons (xvar 3) (xa_cons (xvar 5) (xa_nil)))))) (fun _ _ _ _ _ => xvar 5)))) (XO.x (xo_lst (xa_nil))))) (xb_one (xs_ret (xe_bl))) (xb_nil))))) (xb_one (xs_ret (xe_bl)))
abbrev s_law_family : Stmt := top 16
abbrev N_law_family : List Str := ["pen", "names", "sets", "roots", "inside", "outside", "least", "some", "one"]
abbrev P_law_family : List Str := ["pen", "names"]
theorem sc_law_family : FnScope N_law_family P_law_family (defScope s_law_family) := ⟨rfl, rfl, rfl, by decide +kernel, rfl, by decide +kernel, by decide +kernel⟩
noncomputable def F_law_family : SF := sSeq (sAsg (gN 2) (eCall G_law_sets (aCons (eVar 1) (aNil)))) (sSeq (sAsg (gN 3) (eLc [7] (iSeq (eVar 2)) (gN 7) (tCmpP fEq (pOf (eCall G_law_draw (aCons (eVar 0) (aCons (eCall G_law_pick (aCons (eVar 0) (aCons (eLst (aCons (eC (.int 3)) (aCons (eC (.int 9)) (aCons (eC (.int 30)) (aNil))))) (aNil)))) (aNil))))) (eC (.int 0))) (eVar 7))) (sSeq (sAsg (gN 4) (eLc [7] (iSeq (eVar 2)) (gN 7) (tCmpP fNe (pOf (eLc [8] (iSeq (eVar 3)) (gN 8) (tVal (eCall G_law_lies_in (aCons (eVar 8) (aCons (eVar 7) (aNil))))) (eVar 8))) (eLst (aNil))) (eVar 7))) (sSeq (sAsg (gN 5) (eLc [7] (iSeq (eVar 2)) (gN 7) (tInP fNotMem (eVar 7) (pOf (eVar 4))) (eVar 7))) (sSeq (sAsg (gN 6) (eLc [7] (iSeq (eVar 4)) (gN 7) (tNo (tVal (eCall G_law_has_less (aCons (eVar 4) (aCons (eVar 7) (aNil)))))) (eVar 7))) (sRet (eTup (aCons (eVar 6) (aCons (eLc [7] (iSeq (eVar 5)) (gN 7) (tNo (tVal (eCall G_law_has_more (aCons (eVar 5) (aCons (eVar 7) (aNil)))))) (eVar 7)) (aNil)))))))))
noncomputable def G_law_family : Fn := mkF false 2 9 F_law_family
theorem cal_law_family {P : Program} {w : World} {K : PySem.W.Frag} {mg : Str → Option Value} {base : Heap} {ca : Str → Addr} (D : DefAt K mg "_law_family" s_law_family) (T : Txt mg) (C_law_draw : Cal P w K mg base ca CX0 1 "_law_draw" P_law_draw false G_law_draw) (C_law_pick : Cal P w K mg base ca CX0 2 "_law_pick" P_law_pick false G_law_pick) (C_law_sets : Cal P w K mg base ca CX0 1 "_law_sets" P_law_sets false G_law_sets) (C_law_lies_in : Cal P w K mg base ca CX0 1 "_law_lies_in" P_law_lies_in false G_law_lies_in) (C_law_has_less : Cal P w K mg base ca CX0 2 "_law_has_less" P_law_has_less false G_law_has_less) (C_law_has_more : Cal P w K mg base ca CX0 2 "_law_has_more" P_law_has_more false G_law_has_more) : Cal P w K mg base ca CX0 3 "_law_family" P_law_family false G_law_family :=
  D.cal sc_law_family (fun _ _ _ _ _ _ us hl => match us, hl with | [_, _], _ => rfl) fun cdv A outer s H E hr => by
    have nd := sc_law_family.nd
    exact xb_cons (xs_n nd rfl (.inl rfl) (xe_cal C_law_sets (hr.mono (by decide)) (xa_cons (xvar 1) (xa_nil)))) (xb_cons (xs_n nd rfl (.inr rfl) (XO.x (xo_lc (own := [("some", 7)]) rfl nd (xi_seq (xvar 2)) (blkOk_by (by kernel_rfl)) (by decide) (fun _ _ _ _ _ => xg_n nd rfl (.inl rfl)) (fun _ _ _ _ _ => xts_one (xt_eq hr.units (xpl_of (xe_cal C_law_draw (hr.mono (by decide)) (xa_cons (xvar 0) (xa_cons (xe_cal C_law_pick (hr.mono (by decide)) (xa_cons (xvar 0) (xa_cons (XO.x (xo_lst (xa_cons (xe_int) (xa_cons (xe_int) (xa_cons (xe_int) (xa_nil)))))) (xa_nil)))) (xa_nil))))) (xe_int))) (fun _ _ _ _ _ => xvar 7)))) (xb_cons (xs_n nd rfl (.inr rfl) (XO.x (xo_lc (own := [("some", 7)]) rfl nd (xi_seq (xvar 2)) (blkOk_by (by kernel_rfl)) (by decide) (fun _ _ _ _ _ => xg_n nd rfl (.inr rfl)) (fun _ _ _ _ _ => xts_one (xt_ne hr.units (xpl_of (XO.x (xo_lc (own := [("one", 8)]) rfl nd (xi_seq (xvar 3)) (blkOk_by (by kernel_rfl)) (by decide) (fun _ _ _ _ _ => xg_n nd rfl (.inl rfl)) (fun _ _ _ _ _ => xts_one (xt_val (xe_cal C_law_lies_in (hr.mono (by decide)) (xa_cons (xvar 8) (xa_cons (xvar 7) (xa_nil)))))) (fun _ _ _ _ _ => xvar 8)))) (XO.x (xo_lst (xa_nil))))) (fun _ _ _ _ _ => xvar 7)))) (xb_cons (xs_n nd rfl (.inr rfl) (XO.x (xo_lc (own := [("some", 7)]) rfl nd (xi_seq (xvar 2)) (blkOk_by (by kernel_rfl)) (by decide) (fun _ _ _ _ _ => xg_n nd rfl (.inl rfl)) (fun _ _ _ _ _ => xts_one (xt_notin hr.un65 (xvar 7) (xpl_of (xvar 4)))) (fun _ _ _ _ _ => xvar 7)))) (xb_cons (xs_setLc (own := [("some", 7)]) (b := false) rfl nd rfl rfl (sw_true rfl rfl rfl (by decide +kernel)) (xi_seq (xvar 4)) (blkOk_by (by kernel_rfl)) (by decide) (fun _ _ _ _ _ => xg_n nd rfl (.inl rfl)) (fun _ _ _ _ _ => xts_one (xt_not (xt_val (xe_cal C_law_has_less (hr.mono (by decide)) (xa_cons (xvar 4) (xa_cons (xvar 7) (xa_nil))))))) (fun _ _ _ _ _ => xvar 7)) (xb_one (xs_ret (xe_tup (xa_cons (xvar 6) (xa_cons (XO.x (xo_lc (own := [("some", 7)]) rfl nd (xi_seq (xvar 5)) (blkOk_by (by kernel_rfl)) (by decide) (fun _ _ _ _ _ => xg_n nd rfl (.inl rfl)) (fun _ _ _ _ _ => xts_one (xt_not (xt_val (xe_cal C_law_has_more (hr.mono (by decide)) (xa_cons (xvar 5) (xa_cons (xvar 7) (xa_nil))))))) (fun _ _ _ _ _ => xvar 7))) (xa_nil))))))))))
abbrev s_law_changed : Stmt := top 17
abbrev N_law_changed : List Str := ["pen", "names", "some", "at", "sets", "one", "way", "less", "part_here", "name"]
abbrev P_law_changed : List Str := ["pen", "names", "some"]
theorem sc_law_changed : FnScope N_law_changed P_law_changed (defScope s_law_changed) := ⟨rfl, rfl, rfl, by decide +kernel, rfl, by decide +kernel, by decide +kernel⟩
noncomputable def F_law_changed : SF := sSeq (sPar [3, 4] [false, false] (aCons (eCall G_law_draw (aCons (eVar 0) (aCons (eOp fAdd (eRd fLen (pOf (eVar 2))) (eC (.int 1))) (aNil)))) (aCons (eCall G_law_sets (aCons (eVar 1) (aNil))) (aNil)))) (sSeq (sAsg (gT [gN 5, gN 6]) (eTup (aCons (eCall G_law_pick (aCons (eVar 0) (aCons (eVar 4) (aNil)))) (aCons (eCall G_law_draw (aCons (eVar 0) (aCons (eC (.int 4)) (aNil)))) (aNil))))) (sSeq (sIf (tCmpP fEq (pOf (eVar 6)) (eC (.int 0))) (sRet (eOp fAdd (eSl (pOf (eVar 2)) (pNo) (pSo (eVar 3))) (eSl (pOf (eVar 2)) (pSo (eOp fAdd (eVar 3) (eC (.int 1)))) (pNo)))) (sNx)) (sSeq (sIf (tCmpP fEq (pOf (eVar 6)) (eC (.int 1))) (sRet (eOp fAdd (eOp fAdd (eSl (pOf (eVar 2)) (pNo) (pSo (eVar 3))) (eLst (aCons (eVar 5) (aNil)))) (eSl (pOf (eVar 2)) (pSo (eVar 3)) (pNo)))) (sNx)) (sSeq (sIf (tCmpP fEq (pOf (eVar 6)) (eC (.int 2))) (sRet (eOp fAdd (eOp fAdd (eSl (pOf (eVar 2)) (pNo) (pSo (eVar 3))) (eLc [8] (iSeq (eSl (pOf (eVar 2)) (pSo (eVar 3)) (pSo (eOp fAdd (eVar 3) (eC (.int 1)))))) (gN 8) (tY) (eRd fTuple (pOf (eRd fSortedSet (pOf (eOp fAdd (eVar 8) (eVar 5)))))))) (eSl (pOf (eVar 2)) (pSo (eOp fAdd (eVar 3) (eC (.int 1)))) (pNo)))) (sNx)) (sSeq (sAsg (gN 7) (eLc [8] (iSeq (eSl (pOf (eVar 2)) (pSo (eVar 3)) (pSo (eOp fAdd (eVar 3) (eC (.int 1)))))) (gN 8) (tY) (eRd fTuple (pOf (eLc [9] (iSeq (eVar 1)) (gN 9) (tAn (tInP fMem (eVar 9) (pOf (eVar 8))) (tInP fNotMem (eVar 9) (pOf (eVar 5)))) (eVar 9)))))) (sRet (eOp fAdd (eOp fAdd (eSl (pOf (eVar 2)) (pNo) (pSo (eVar 3))) (eVar 7)) (eSl (pOf (eVar 2)) (pSo (eOp fAdd (eVar 3) (eC (.int 1)))) (pNo)))))))))
noncomputable def G_law_changed : Fn := mkF false 3 10 F_law_changed
theorem cal_law_changed {P : Program} {w : World} {K : PySem.W.Frag} {mg : Str → Option Value} {base : Heap} {ca : Str → Addr} (D : DefAt K mg "_law_changed" s_law_changed) (T : Txt mg) (C_law_draw : Cal P w K mg base ca CX0 1 "_law_draw" P_law_draw false G_law_draw) (C_law_pick : Cal P w K mg base ca CX0 2 "_law_pick" P_law_pick false G_law_pick) (C_law_sets : Cal P w K mg base ca CX0 1 "_law_sets" P_law_sets false G_law_sets) : Cal P w K mg base ca CX0 3 "_law_changed" P_law_changed false G_law_changed :=
  D.cal sc_law_changed (fun _ _ _ _ _ _ us hl => match us, hl with | [_, _, _], _ => rfl) fun cdv A outer s H E hr => by
    have nd := sc_law_changed.nd
    exact xb_cons (xs_par2 rfl nd rfl rfl (by decide) rfl rfl (xm_v (xe_cal C_law_draw (hr.mono (by decide)) (xa_cons (xvar 0) (xa_cons (xe_op o_addA v_add (xe_cb1 rfl v_len call_len (by rfl) T.z_len B.len (xpl_of (xvar 2))) (xe_int)) (xa_nil)))) (xm_v (xe_cal C_law_sets (hr.mono (by decide)) (xa_cons (xvar 1) (xa_nil))) (xm_nil))) (by rfl)) (xb_cons (xs_g (xe_tup (xa_cons (xe_cal C_law_pick (hr.mono (by decide)) (xa_cons (xvar 0) (xa_cons (xvar 4) (xa_nil)))) (xa_cons (xe_cal C_law_draw (hr.mono (by decide)) (xa_cons (xvar 0) (xa_cons (xe_int) (xa_nil)))) (xa_nil)))) (xg_tup rfl (xgs_cons (xg_n nd rfl (.inr rfl)) (xgs_cons (xg_n nd rfl (.inl rfl)) (xgs_nil))) rfl)) (xb_cons (xs_if (xt_eq hr.units (xpl_of (xvar 6)) (xe_int)) (xb_one (xs_ret (xe_op o_addA v_add (xe_sl (xpl_of (xvar 2)) (xp_no) (xp_so (xvar 3))) (xe_sl (xpl_of (xvar 2)) (xp_so (xe_op o_addA v_add (xvar 3) (xe_int))) (xp_no))))) (xb_nil)) (xb_cons (xs_if (xt_eq hr.units (xpl_of (xvar 6)) (xe_int)) (xb_one (xs_ret (xe_op o_addA v_add (xe_op o_addA v_add (xe_sl (xpl_of (xvar 2)) (xp_no) (xp_so (xvar 3))) (XO.x (xo_lst (xa_cons (xvar 5) (xa_nil))))) (xe_sl (xpl_of (xvar 2)) (xp_so (xvar 3)) (xp_no))))) (xb_nil)) (xb_cons (xs_if (xt_eq hr.units (xpl_of (xvar 6)) (xe_int)) (xb_one (xs_ret (xe_op o_addA v_add (xe_op o_addA v_add (xe_sl (xpl_of (xvar 2)) (xp_no) (xp_so (xvar 3))) (XO.x (xo_lc (own := [("part_here", 8)]) rfl nd (xi_seq (xe_sl (xpl_of (xvar 2)) (xp_so (xvar 3)) (xp_so (xe_op o_addA v_add (xvar 3) (xe_int))))) (blkOk_by (by kernel_rfl)) (by decide) (fun _ _ _ _ _ => xg_n nd rfl (.inl rfl)) (fun _ _ _ _ _ => xts_nil) (fun _ _ _ _ _ => xe_ct1 rfl v_tuple call_tuple_of (by rfl) T.z_tuple B.tuple (xpl_of (XO.x (xo_sortedset hr T.z_sorted T.z_set (xpl_of (xe_op o_addA v_add (xvar 8) (xvar 5)))))))))) (xe_sl (xpl_of (xvar 2)) (xp_so (xe_op o_addA v_add (xvar 3) (xe_int))) (xp_no))))) (xb_nil)) (xb_cons (xs_setLc (own := [("part_here", 8)]) (b := false) rfl nd rfl rfl (sw_true rfl rfl rfl (by decide +kernel)) (xi_seq (xe_sl (xpl_of (xvar 2)) (xp_so (xvar 3)) (xp_so (xe_op o_addA v_add (xvar 3) (xe_int))))) (blkOk_by (by kernel_rfl)) (by decide) (fun _ _ _ _ _ => xg_n nd rfl (.inr rfl)) (fun _ _ _ _ _ => xts_nil) (fun _ _ _ _ _ => xe_ct1 rfl v_tuple call_tuple_of (by rfl) T.z_tuple B.tuple (xpl_of (XO.x (xo_lc (own := [("name", 9)]) rfl nd (xi_seq (xvar 1)) (blkOk_by (by kernel_rfl)) (by decide) (fun _ _ _ _ _ => xg_n nd rfl (.inl rfl)) (fun _ _ _ _ _ => xts_one (XW.pt (xw_and (xt_in hr.un65 (xvar 9) (xpl_of (xvar 8))) (xw_and1 (xt_notin hr.un65 (xvar 9) (xpl_of (xvar 5))))))) (fun _ _ _ _ _ => xvar 9)))))) (xb_one (xs_ret (xe_op o_addA v_add (xe_op o_addA v_add (xe_sl (xpl_of (xvar 2)) (xp_no) (xp_so (xvar 3))) (xvar 7)) (xe_sl (xpl_of (xvar 2)) (xp_so (xe_op o_addA v_add (xvar 3) (xe_int))) (xp_no))))))))))
abbrev s_law : Stmt := top 18
abbrev N_law : List Str := ["script", "pen", "bout", "names", "pair", "again", "one", "other", "kept", "passed"]
abbrev P_law : List Str := ["script"]
theorem sc_law : FnScope N_law P_law (defScope s_law) := ⟨rfl, rfl, rfl, by decide +kernel, rfl, by decide +kernel, by decide +kernel⟩
noncomputable def F_law : SF := sSeq (sAsgH 1 (eCall G_law_pen (aCons (eVar 0) (aNil)))) (sSeq (sFor (iRange (aCons (eOp fAdd (eC (.int 3)) (eCb fMin (aCons (eC (.int 5)) (aCons (eRd fLen (pOf (eVar 0))) (aNil))))) (aNil))) (gN 2) (sSeq (sAsg (gN 3) (eRd fSorted (pOf (eCall G_law_fresh (aCons (eVar 1) (aCons (eLst (aNil)) (aCons (eCall G_law_draw (aCons (eVar 1) (aCons (eC (.int 7)) (aNil)))) (aNil)))))))) (sSeq (sAsg (gN 4) (eCall G_law_family (aCons (eVar 1) (aCons (eVar 3) (aNil))))) (sSeq (sIf (tCmp2 fIsNot (eCall G_decides (aCons (eCall G_law_shuffled (aCons (eVar 1) (aCons (eVar 3) (aNil)))) (aCons (eRd fList (pOf (eRd2 fIx (pOf (eVar 4)) (eC (.int 0))))) (aCons (eRd fList (pOf (eRd2 fIx (pOf (eVar 4)) (eC (.int 1))))) (aNil))))) (eC (.bl true))) (sRet (eC (.bl false))) (sNx)) (sFor (iRange (aCons (eC (.int 6)) (aNil))) (gN 5) (sSeq (sAsg (gT [gN 6, gN 7]) (eVar 4)) (sSeq (sIf (tCmpP fEq (pOf (eCall G_law_draw (aCons (eVar 1) (aCons (eC (.int 2)) (aNil))))) (eC (.int 0))) (sAsg (gN 6) (eCall G_law_changed (aCons (eVar 1) (aCons (eVar 3) (aCons (eVar 6) (aNil)))))) (sAsg (gN 7) (eCall G_law_changed (aCons (eVar 1) (aCons (eVar 3) (aCons (eVar 7) (aNil))))))) (sSeq (sPar [8, 9] [false, false] (aCons (eRd fRepr (pOf (eLst (aCons (eVar 6) (aCons (eVar 7) (aNil)))))) (aCons (eRd2 fIx (pOf (eLst (aCons (eVar 3) (aCons (eRd fTuple (pOf (eVar 3))) (aNil))))) (eOp fMod (eVar 5) (eC (.int 2)))) (aNil)))) (sSeq (sIf (tCmpP fNe (pOf (eRd fRepr (pOf (eCall G_decides (aCons (eVar 9) (aCons (eVar 6) (aCons (eVar 7) (aNil)))))))) (eRd fRepr (pOf (eCall G_law_is_decided (aCons (eVar 3) (aCons (eVar 6) (aCons (eVar 7) (aNil)))))))) (sRet (eC (.bl false))) (sNx)) (sIf (tCmpP fNe (pOf (eRd fRepr (pOf (eLst (aCons (eVar 6) (aCons (eVar 7) (aNil))))))) (eVar 8)) (sRet (eC (.bl false))) (sNx))))))))))) (sRet (eC (.bl true))))
noncomputable def G_law : Fn := mkF false 1 10 F_law
theorem cal_law {P : Program} {w : World} {K : PySem.W.Frag} {mg : Str → Option Value} {base : Heap} {ca : Str → Addr} (D : DefAt K mg "law" s_law) (T : Txt mg) (C_decides : Cal P w K mg base ca CX0 2 "decides" P_decides false G_decides) (C_law_pen : Cal P w K mg base ca CX0 1 "_law_pen" P_law_pen true G_law_pen) (C_law_draw : Cal P w K mg base ca CX0 1 "_law_draw" P_law_draw false G_law_draw) (C_law_shuffled : Cal P w K mg base ca CX0 2 "_law_shuffled" P_law_shuffled false G_law_shuffled) (C_law_fresh : Cal P w K mg base ca CX0 4 "_law_fresh" P_law_fresh false G_law_fresh) (C_law_is_decided : Cal P w K mg base ca CX0 2 "_law_is_decided" P_law_is_decided false G_law_is_decided) (C_law_family : Cal P w K mg base ca CX0 3 "_law_family" P_law_family false G_law_family) (C_law_changed : Cal P w K mg base ca CX0 3 "_law_changed" P_law_changed false G_law_changed) : Cal P w K mg base ca CX0 5 "law" P_law false G_law :=
  D.cal sc_law (fun _ _ _ _ _ _ us hl => match us, hl with | [_], _ => rfl) fun cdv A outer s H E hr => by
    have nd := sc_law.nd
    exact xb_cons (xs_h nd rfl (.inl rfl) (xo_cal C_law_pen (hr.mono (by decide)) (xa_cons (xvar 0) (xa_nil)))) (xb_cons (xs_for PassesOwn.never rfl (xi_range1 (by rfl) T.z_range (xe_op o_addA v_add (xe_int) (xe_cb v_min (call_min2 rfl) (by rfl) T.z_min B.min (xa_cons (xe_int) (xa_cons (xe_cb1 rfl v_len call_len (by rfl) T.z_len B.len (xpl_of (xvar 0))) (xa_nil)))))) (xg_n nd rfl (.inl rfl)) (xb_cons (xs_n nd rfl (.inl rfl) (XO.x (xo_cb1 rfl v_sorted (o_sorted hr) (by rfl) T.z_sorted B.sorted (xpl_of (xe_cal C_law_fresh (hr.mono (by decide)) (xa_cons (xvar 1) (xa_cons (XO.x (xo_lst (xa_nil))) (xa_cons (xe_cal C_law_draw (hr.mono (by decide)) (xa_cons (xvar 1) (xa_cons (xe_int) (xa_nil)))) (xa_nil))))))))) (xb_cons (xs_n nd rfl (.inl rfl) (xe_cal C_law_family (hr.mono (by decide)) (xa_cons (xvar 1) (xa_cons (xvar 3) (xa_nil))))) (xb_cons (xs_if (xt_cmp o_isnot v_isnot (xe_cal C_decides (hr.mono (by decide)) (xa_cons (xe_cal C_law_shuffled (hr.mono (by decide)) (xa_cons (xvar 1) (xa_cons (xvar 3) (xa_nil)))) (xa_cons (XO.x (xo_ct1 rfl v_list call_list_of (by rfl) T.z_list B.list (xpl_of (xe_ix (huG hr) (xpl_of (xvar 4)) (xe_int))))) (xa_cons (XO.x (xo_ct1 rfl v_list call_list_of (by rfl) T.z_list B.list (xpl_of (xe_ix (huG hr) (xpl_of (xvar 4)) (xe_int))))) (xa_nil))))) (xe_bl) (nomark _)) (xb_one (xs_ret (xe_bl))) (xb_nil)) (xb_one (xs_for PassesOwn.never rfl (xi_range1 (by rfl) T.z_range (xe_int)) (xg_n nd rfl (.inl rfl)) (xb_cons (xs_g (xvar 4) (xg_tup rfl (xgs_cons (xg_n nd rfl (.inl rfl)) (xgs_cons (xg_n nd rfl (.inl rfl)) (xgs_nil))) rfl)) (xb_cons (xs_if (xt_eq hr.units (xpl_of (xe_cal C_law_draw (hr.mono (by decide)) (xa_cons (xvar 1) (xa_cons (xe_int) (xa_nil))))) (xe_int)) (xb_one (xs_n nd rfl (.inl rfl) (xe_cal C_law_changed (hr.mono (by decide)) (xa_cons (xvar 1) (xa_cons (xvar 3) (xa_cons (xvar 6) (xa_nil))))))) (xb_one (xs_n nd rfl (.inl rfl) (xe_cal C_law_changed (hr.mono (by decide)) (xa_cons (xvar 1) (xa_cons (xvar 3) (xa_cons (xvar 7) (xa_nil)))))))) (xb_cons (xs_par2 rfl nd rfl rfl (by decide) rfl rfl (xm_v (xe_cb1 rfl v_repr (o_repr hr) (by rfl) T.z_repr B.repr (xpl_of (XO.x (xo_lst (xa_cons (xvar 6) (xa_cons (xvar 7) (xa_nil))))))) (xm_v (xe_ix (huG hr) (xpl_of (XO.x (xo_lst (xa_cons (xvar 3) (xa_cons (xe_ct1 rfl v_tuple call_tuple_of (by rfl) T.z_tuple B.tuple (xpl_of (xvar 3))) (xa_nil)))))) (xe_op op_modN v_mod (xvar 5) (xe_int))) (xm_nil))) (by rfl)) (xb_cons (xs_if (xt_ne hr.units (xpl_of (xe_cb1 rfl v_repr (o_repr hr) (by rfl) T.z_repr B.repr (xpl_of (xe_cal C_decides (hr.mono (by decide)) (xa_cons (xvar 9) (xa_cons (xvar 6) (xa_cons (xvar 7) (xa_nil)))))))) (xe_cb1 rfl v_repr (o_repr hr) (by rfl) T.z_repr B.repr (xpl_of (xe_cal C_law_is_decided (hr.mono (by decide)) (xa_cons (xvar 3) (xa_cons (xvar 6) (xa_cons (xvar 7) (xa_nil)))))))) (xb_one (xs_ret (xe_bl))) (xb_nil)) (xb_one (xs_if (xt_ne hr.units (xpl_of (xe_cb1 rfl v_repr (o_repr hr) (by rfl) T.z_repr B.repr (xpl_of (XO.x (xo_lst (xa_cons (xvar 6) (xa_cons (xvar 7) (xa_nil)))))))) (xvar 8)) (xb_one (xs_ret (xe_bl))) (xb_nil))))))))))))) (xb_one (xs_ret (xe_bl))))
end K81
set_option Elab.async false
set_option linter.all false
set_option maxRecDepth 100000
set_option maxHeartbeats 4000000
/-! What a def's function does, by wishes: no program in sight. -/
namespace VL
open PySem L2
universe u
/-- simp is not to look into a wish: what depends on a letter stays -/
class Kp {α : Sort u} (a : α) : Type where
instance {α : Sort u} (a : α) : Kp a := ⟨⟩
def Ok {α : Type} (r : Res α) (Q : α → Fr → Prop) [Kp Q] : Prop := match r with
  | .ok a s => Q a s
  | _ => False
def OkO {α : Type} (o : Option α) (Q : α → Prop) [Kp Q] : Prop := match o with
  | some a => Q a
  | none => False
def OkG (r : Res D) (Q : D → List D → Prop) [Kp Q] : Prop := match r with
  | .ok d s => Q d s.st
  | _ => False
structure Po where
  nx : Fr → Prop
  rt : D → List D → Prop
  bk : Fr → Prop
  ct : Fr → Prop
def Sat (r : SR) (P : Po) [Kp P] : Prop := match r with
  | .nx s => P.nx s
  | .ret d st => P.rt d st
  | .brk s => P.bk s
  | .ct s => P.ct s
  | _ => False
section
variable {α β : Type} {s : Fr} {a : α} {Q : α → Fr → Prop} {QD : D → Fr → Prop} {QB : Bool → Fr → Prop} {QL : List D → Fr → Prop} {QP : Pl → Fr → Prop} {QI : Option Int → Fr → Prop} {P : Po} {F G K : EF} {T U : TF} {A : AF} {B C : SF} {R R' : Fr → Res Pl} {tg : GF}
/-- an equation that simp is not to take by its own -/
theorem nr {α : Sort u} {a b : α} (h : a = b) : a = b := h
theorem Ok.mono {r : Res α} {Q Q' : α → Fr → Prop} (h : Ok r Q) (m : ∀ a s, Q a s → Q' a s) : Ok r Q' := by
  cases r <;> first | exact h.elim | exact m _ _ h
theorem OkO.mono {r : Option α} {Q Q' : α → Prop} (h : OkO r Q) (m : ∀ a, Q a → Q' a) : OkO r Q' := by
  cases r <;> first | exact h.elim | exact m _ h
theorem OkG.mono {r : Res D} {Q Q' : D → List D → Prop} (h : OkG r Q) (m : ∀ a s, Q a s → Q' a s) : OkG r Q' := by
  cases r <;> first | exact h.elim | exact m _ _ h
theorem Sat.mono {r : SR} {P P' : Po} (h : Sat r P) (n : ∀ s, P.nx s → P'.nx s) (t : ∀ d st, P.rt d st → P'.rt d st) (b : ∀ s, P.bk s → P'.bk s) (c : ∀ s, P.ct s → P'.ct s) : Sat r P' := by
  cases r <;> first | exact h.elim | exact n _ h | exact t _ _ h | exact b _ h | exact c _ h
theorem OkG.get {r : Res D} {Q : D → List D → Prop} (h : OkG r Q) : ∃ d s, r = .ok d s ∧ Q d s.st := by
  cases r <;> first | exact h.elim | exact ⟨_, _, rfl, h⟩
theorem w_ok : Ok (.ok a s) Q = Q a s := nr rfl
theorem w_bind {r : Res β} {f : β → Fr → Res α} : Ok (r.bind f) Q = Ok r fun b s => Ok (f b s) Q := by cases r <;> rfl
theorem w_of {o : Option α} : Ok (.of o s) Q = OkO o fun a => Q a s := by cases o <;> rfl
theorem ok_ext {r : Res α} {Q Q' : α → Fr → Prop} (h : ∀ a s, Q a s = Q' a s) : Ok r Q = Ok r Q' := by cases r <;> first | rfl | exact h _ _
theorem okO_ext {o : Option α} {Q Q' : α → Prop} (h : ∀ a, Q a = Q' a) : OkO o Q = OkO o Q' := by cases o <;> first | rfl | exact h _
theorem w_some {Q : α → Prop} : OkO (some a) Q = Q a := nr rfl
theorem w_sr0 {r : Res α} {f : α → Fr → SR} : Sat (r.sr f) P = Ok r fun a s => Sat (f a s) P := by cases r <;> rfl
theorem po_nx {a b c d} : (Po.mk a b c d).nx = a := nr rfl
theorem po_rt {a b c d} : (Po.mk a b c d).rt = b := nr rfl
theorem po_bk {a b c d} : (Po.mk a b c d).bk = c := nr rfl
theorem po_ct {a b c d} : (Po.mk a b c d).ct = d := nr rfl
theorem fr_env {a : List Slot} {b : List D} : (Fr.mk a b).env = a := nr rfl
theorem fr_st {a : List Slot} {b : List D} : (Fr.mk a b).st = b := nr rfl
theorem w_snx0 : Sat (.nx s) P = P.nx s := nr rfl
theorem w_sret0 {d : D} {st : List D} : Sat (.ret d st) P = P.rt d st := nr rfl
theorem w_sbrk0 : Sat (.brk s) P = P.bk s := nr rfl
theorem w_sct0 : Sat (.ct s) P = P.ct s := nr rfl
/-! only what comes first is simplified -/
/-! ### expressions -/
def slotP (o : Option Slot) (s : Fr) (i : Nat) (Q : D → Fr → Prop) [Kp Q] : Prop := match o with
  | some (.val d) => Q d s
  | some (.own d) => Q d { s with env := s.env.set i (.val d) }
  | _ => False
def slotL (o : Option Slot) (Q : Prop) [Kp Q] : Prop := match o with
  | some (.val _) => Q
  | some (.own _) => Q
  | _ => False
theorem w_var {i : Nat} : Ok (eVar i s) QD = slotP s.env[i]? s i QD := by
  unfold eVar
  cases s.env[i]? with
  | none => rfl
  | some x => cases x <;> rfl
theorem w_slv {d : D} {i : Nat} : slotP (some (.val d)) s i QD = QD d s := nr rfl
theorem w_slo {d : D} {i : Nat} : slotP (some (.own d)) s i QD = QD d { s with env := s.env.set i (.val d) } := nr rfl
theorem w_c {d : D} : Ok (eC d s) QD = QD d s := nr rfl
theorem w_op {f : D → D → Option D} : Ok (eOp f F G s) QD = Ok (F s) fun d s1 => Ok (G s1) fun e s2 => OkO (f d e) fun r => QD r s2 := by
  unfold eOp
  repeat first | rfl | rw [w_of] | rw [w_ok] | (rw [w_bind]; refine ok_ext fun _ _ => ?_)
theorem w_un {f : D → Option D} : Ok (eUn f F s) QD = Ok (F s) fun d s1 => OkO (f d) fun r => QD r s1 := by
  unfold eUn
  repeat first | rfl | rw [w_of] | rw [w_ok] | (rw [w_bind]; refine ok_ext fun _ _ => ?_)
theorem w_cmp2 {f : D → D → Option Bool} : Ok (tCmp2 f F G s) QB = Ok (F s) fun d s1 => Ok (G s1) fun e s2 => OkO (f d e) fun r => QB r s2 := by
  unfold tCmp2
  repeat first | rfl | rw [w_of] | rw [w_ok] | (rw [w_bind]; refine ok_ext fun _ _ => ?_)
theorem w_cmpP {f : D → D → Option Bool} : Ok (tCmpP f R G s) QB = Ok (R s) fun p s1 => Ok (G s1) fun e s2 => OkO (f (at_ s2 p) e) fun r => QB r s2 := by
  unfold tCmpP
  repeat first | rfl | rw [w_of] | rw [w_ok] | (rw [w_bind]; refine ok_ext fun _ _ => ?_)
theorem w_ecmpP {f : D → D → Option Bool} : Ok (eCmpP f R G s) QD = Ok (R s) fun p s1 => Ok (G s1) fun e s2 => OkO (f (at_ s2 p) e) fun r => QD (.bl r) s2 := by
  unfold eCmpP
  rw [w_bind]
  refine ok_ext fun p s1 => ?_
  rw [w_bind]
  refine ok_ext fun e s2 => ?_
  rw [w_of]
  cases f (at_ s2 p) e <;> rfl
theorem w_inP {f : D → D → Option Bool} : Ok (tInP f F R s) QB = Ok (F s) fun d s1 => Ok (R s1) fun p s2 => OkO (f d (at_ s2 p)) fun r => QB r s2 := by
  unfold tInP
  repeat first | rfl | rw [w_of] | rw [w_ok] | (rw [w_bind]; refine ok_ext fun _ _ => ?_)
theorem w_einP {f : D → D → Option Bool} : Ok (eInP f F R s) QD = Ok (F s) fun d s1 => Ok (R s1) fun p s2 => OkO (f d (at_ s2 p)) fun r => QD (.bl r) s2 := by
  unfold eInP
  rw [w_bind]
  refine ok_ext fun d s1 => ?_
  rw [w_bind]
  refine ok_ext fun p s2 => ?_
  rw [w_of]
  cases f d (at_ s2 p) <;> rfl
theorem w_ecmp {f : D → D → Option Bool} : Ok (eCmp f F G s) QD = Ok (F s) fun d s1 => Ok (G s1) fun e s2 => OkO (f d e) fun r => QD (.bl r) s2 := by
  unfold eCmp
  rw [w_op]
  refine ok_ext fun d s1 => ?_
  refine ok_ext fun e s2 => ?_
  unfold bl2
  cases f d e <;> rfl
def asB (d : D) (Q : Bool → Prop) [Kp Q] : Prop := match d with
  | .bl b => Q b
  | _ => False
theorem w_asB {b : Bool} {Q : Bool → Prop} : asB (.bl b) Q = Q b := nr rfl
theorem w_val : Ok (tVal F s) QB = Ok (F s) fun d s1 => asB d fun b => QB b s1 := by
  unfold tVal
  rw [w_bind]
  refine ok_ext fun d s1 => ?_
  cases d <;> rfl
theorem w_no : Ok (tNo T s) QB = Ok (T s) fun b s1 => QB (!b) s1 := by
  unfold tNo
  rw [w_bind]
  rfl
theorem w_an : Ok (tAn T U s) QB = Ok (T s) fun b s1 => if b then Ok (U s1) QB else QB false s1 := by
  unfold tAn
  rw [w_bind]
  refine ok_ext fun b s1 => ?_
  cases b <;> rfl
theorem w_or : Ok (tOr T U s) QB = Ok (T s) fun b s1 => if b then QB true s1 else Ok (U s1) QB := by
  unfold tOr
  rw [w_bind]
  refine ok_ext fun b s1 => ?_
  cases b <;> rfl
theorem w_tY : Ok (tY s) QB = QB true s := nr rfl
theorem w_ean : Ok (eAn F G s) QD = Ok (F s) fun d s1 => asB d fun b => if b then Ok (G s1) QD else QD (.bl false) s1 := by
  unfold eAn
  rw [w_bind]
  refine ok_ext fun d s1 => ?_
  cases d <;> try rfl
  rename_i b
  cases b <;> rfl
theorem w_eor : Ok (eOr F G s) QD = Ok (F s) fun d s1 => asB d fun b => if b then QD (.bl true) s1 else Ok (G s1) QD := by
  unfold eOr
  rw [w_bind]
  refine ok_ext fun d s1 => ?_
  cases d <;> try rfl
  rename_i b
  cases b <;> rfl
theorem w_eno : Ok (eNo F s) QD = Ok (F s) fun d s1 => asB d fun b => QD (.bl !b) s1 := by
  unfold eNo
  rw [w_bind]
  refine ok_ext fun d s1 => ?_
  cases d <;> rfl
theorem w_eif : Ok (eIf T F G s) QD = Ok (T s) fun b s1 => if b then Ok (F s1) QD else Ok (G s1) QD := by
  unfold eIf
  rw [w_bind]
  refine ok_ext fun b s1 => ?_
  cases b <;> rfl
theorem w_nil : Ok (aNil s) QL = QL [] s := nr rfl
theorem w_cons : Ok (aCons F A s) QL = Ok (F s) fun d s1 => Ok (A s1) fun ds s2 => QL (d :: ds) s2 := by
  unfold aCons
  repeat first | rfl | rw [w_of] | rw [w_ok] | (rw [w_bind]; refine ok_ext fun _ _ => ?_)
theorem w_consO : Ok (aConsO F A s) QL = Ok (F s) fun d s1 => Ok (A s1) fun ds s2 => QL (d :: ds) s2 := by
  unfold aConsO
  rw [w_bind]
  refine ok_ext fun d s1 => ?_
  cases A s1 <;> rfl
theorem w_tup : Ok (eTup A s) QD = Ok (A s) fun ds s1 => ds.length ≤ sizeLine ∧ QD (.tup ds) s1 := by
  unfold eTup
  rw [w_bind]
  refine ok_ext fun ds s1 => ?_
  split
  · rename_i h
    rw [w_ok]
    exact propext ⟨fun q => ⟨h, q⟩, fun q => q.2⟩
  · rename_i h
    exact propext ⟨fun q => q.elim, fun q => h q.1⟩
theorem w_lst : Ok (eLst A s) QD = Ok (A s) fun ds s1 => ds.length ≤ sizeLine ∧ QD (.lst ds) s1 := by
  unfold eLst
  rw [w_bind]
  refine ok_ext fun ds s1 => ?_
  split
  · rename_i h
    rw [w_ok]
    exact propext ⟨fun q => ⟨h, q⟩, fun q => q.2⟩
  · rename_i h
    exact propext ⟨fun q => q.elim, fun q => h q.1⟩
/-! ### places -/
theorem w_pOf : Ok (pOf F s) QP = Ok (F s) fun d s1 => QP (.d d) s1 := by
  unfold pOf
  repeat first | rfl | rw [w_of] | rw [w_ok] | (rw [w_bind]; refine ok_ext fun _ _ => ?_)
theorem w_pSl {i : Nat} : Ok (pSl i s) QP = slotL s.env[i]? (QP (.sl i) s) := by
  unfold pSl
  cases s.env[i]? with
  | none => rfl
  | some x => cases x <;> rfl
theorem w_slLv {d : D} {Q : Prop} : slotL (some (.val d)) Q = Q := nr rfl
theorem w_slLo {d : D} {Q : Prop} : slotL (some (.own d)) Q = Q := nr rfl
theorem w_rd {f : D → Option D} : Ok (eRd f R s) QD = Ok (R s) fun p s1 => OkO (f (at_ s1 p)) fun r => QD r s1 := by
  unfold eRd
  repeat first | rfl | rw [w_of] | rw [w_ok] | (rw [w_bind]; refine ok_ext fun _ _ => ?_)
theorem w_rd2 {f : D → D → Option D} : Ok (eRd2 f R G s) QD = Ok (R s) fun p s1 => Ok (G s1) fun e s2 => OkO (f (at_ s2 p) e) fun r => QD r s2 := by
  unfold eRd2
  repeat first | rfl | rw [w_of] | rw [w_ok] | (rw [w_bind]; refine ok_ext fun _ _ => ?_)
theorem w_trd {f : D → Option Bool} : Ok (tRd f R s) QB = Ok (R s) fun p s1 => OkO (f (at_ s1 p)) fun r => QB r s1 := by
  unfold tRd
  repeat first | rfl | rw [w_of] | rw [w_ok] | (rw [w_bind]; refine ok_ext fun _ _ => ?_)
theorem w_atd {d : D} : at_ s (.d d) = deref s.st d := nr rfl
def atS (o : Option Slot) (st : List D) : D := match o with
  | some (.own d) => d
  | some (.val d) => deref st d
  | _ => nil
theorem w_atl {i : Nat} : at_ s (.sl i) = atS s.env[i]? s.st := nr rfl
theorem w_atv {d : D} {st : List D} : atS (some (.val d)) st = deref st d := nr rfl
theorem w_ato {d : D} {st : List D} : atS (some (.own d)) st = d := nr rfl
theorem w_pNo {QI : Option Int → Fr → Prop} : Ok (pNo s) QI = QI none s := nr rfl
def asI (d : D) (Q : Int → Prop) [Kp Q] : Prop := match d with
  | .int i => Q i
  | _ => False
theorem w_asI {i : Int} {Q : Int → Prop} : asI (.int i) Q = Q i := nr rfl
theorem w_pSo : Ok (pSo F s) QI = Ok (F s) fun d s1 => asI d fun i => QI (some i) s1 := by
  unfold pSo
  rw [w_bind]
  refine ok_ext fun d s1 => ?_
  cases d <;> rfl
theorem w_sl {I J : IF} : Ok (eSl R I J s) QD = Ok (R s) fun p s1 => Ok (I s1) fun lo s2 => Ok (J s2) fun hi s3 => OkO (fSl (at_ s3 p) lo hi) fun r => QD r s3 := by
  unfold eSl
  repeat first | rfl | rw [w_of] | rw [w_ok] | (rw [w_bind]; refine ok_ext fun _ _ => ?_)
theorem w_slL {I J : IF} : Ok (eSlL R I J s) QD = Ok (R s) fun p s1 => Ok (I s1) fun lo s2 => Ok (J s2) fun hi s3 => OkO (fSlL (at_ s3 p) lo hi) fun r => QD r s3 := by
  unfold eSlL
  repeat first | rfl | rw [w_of] | rw [w_ok] | (rw [w_bind]; refine ok_ext fun _ _ => ?_)
theorem w_cb {f : List D → Option D} : Ok (eCb f A s) QD = Ok (A s) fun ds s1 => OkO (f ds) fun r => QD r s1 := by
  unfold eCb
  repeat first | rfl | rw [w_of] | rw [w_ok] | (rw [w_bind]; refine ok_ext fun _ _ => ?_)
def putP (o : Option Fr) (Q : Fr → Prop) [Kp Q] : Prop := match o with
  | some s => Q s
  | none => False
theorem w_put {Q : Fr → Prop} : putP (some s) Q = Q s := nr rfl
theorem w_mt {f : D → List D → Option (D × D)} : Ok (eMt f R A s) QD = Ok (R s) fun p s1 => isLst (at_ s1 p) = true ∧ Ok (A s1) fun ds s2 => OkO (f (at_ s2 p) ds) fun q => putP (put s2 p q.2) fun s3 => QD q.1 s3 := by
  unfold eMt
  rw [w_bind]
  refine ok_ext fun p s1 => ?_
  split
  · rename_i h
    rw [w_bind]
    refine propext ⟨fun q => ⟨h, q.mono fun ds s2 z => ?_⟩, fun q => q.2.mono fun ds s2 z => ?_⟩
    · cases e : f (at_ s2 p) ds with
      | none => rw [e] at z; exact z.elim
      | some q =>
        rw [e] at z
        obtain ⟨r, nw⟩ := q
        show putP (put s2 p nw) _
        cases e2 : put s2 p nw with
        | none => simp only [e2] at z; exact z.elim
        | some s3 => simp only [e2] at z; exact z
    · cases e : f (at_ s2 p) ds with
      | none => rw [e] at z; exact z.elim
      | some q =>
        rw [e] at z
        obtain ⟨r, nw⟩ := q
        have z : putP (put s2 p nw) _ := z
        cases e2 : put s2 p nw with
        | none => rw [e2] at z; exact z.elim
        | some s3 => rw [e2] at z; simp only [e2]; exact z
  · rename_i h
    exact propext ⟨fun q => q.elim, fun q => h q.1⟩
def asS (d : D) (Q : Str → Prop) [Kp Q] : Prop := match d with
  | .str z => Q z
  | _ => False
theorem w_asS {z : Str} {Q : Str → Prop} : asS (.str z) Q = Q z := nr rfl
theorem w_m1 {f : Str → D → Option D} : Ok (eM1 f F G s) QD = Ok (F s) fun d s1 => asS d fun z => Ok (G s1) fun e s2 => OkO (f z e) fun r => QD r s2 := by
  unfold eM1
  rw [w_bind]
  refine ok_ext fun d s1 => ?_
  cases d <;> try rfl
  rw [w_asS, w_bind]
  refine ok_ext fun e s2 => ?_
  rw [w_of]
theorem w_mov {i : Nat} {d : D} (h : s.env[i]? = some (.own d)) : Ok (eMov i s) QD = QD d { s with env := s.env.set i .no } := by
  unfold eMov
  rw [h]
  rfl
theorem w_seqI : Ok (iSeq F s) QL = Ok (F s) fun d s1 => OkO (seqOf d) fun l => QL l s1 := by
  unfold iSeq
  repeat first | rfl | rw [w_of] | rw [w_ok] | (rw [w_bind]; refine ok_ext fun _ _ => ?_)
def rngP (ds : List D) (s : Fr) (Q : List D → Fr → Prop) [Kp Q] : Prop := match ds with
  | [.int n] => -(2 ^ 62) ≤ n ∧ n < 2 ^ 62 ∧ Q (rng 0 n.toNat) s
  | [.int m, .int n] => -(2 ^ 62) ≤ m ∧ m < 2 ^ 62 ∧ -(2 ^ 62) ≤ n ∧ n < 2 ^ 62 ∧ Q (rng m (n - m).toNat) s
  | _ => False
theorem w_rng1 {n : Int} : rngP [.int n] s QL = (-(2 ^ 62) ≤ n ∧ n < 2 ^ 62 ∧ QL (rng 0 n.toNat) s) := nr rfl
theorem w_rng2 {m n : Int} : rngP [.int m, .int n] s QL = (-(2 ^ 62) ≤ m ∧ m < 2 ^ 62 ∧ -(2 ^ 62) ≤ n ∧ n < 2 ^ 62 ∧ QL (rng m (n - m).toNat) s) := nr rfl
theorem w_range : Ok (iRange A s) QL = Ok (A s) fun ds s1 => rngP ds s1 QL := by
  unfold iRange
  rw [w_bind]
  refine ok_ext fun ds s1 => ?_
  rcases ds with _ | ⟨x, _ | ⟨y, _ | ⟨z, r⟩⟩⟩
  · rfl
  · cases x <;> try rfl
    simp only
    rw [w_rng1]
    split
    · rename_i h; rw [w_ok]; exact propext ⟨fun q => ⟨h.1, h.2, q⟩, fun q => q.2.2⟩
    · rename_i h; exact propext ⟨fun q => q.elim, fun q => h ⟨q.1, q.2.1⟩⟩
  · cases x <;> try rfl
    cases y <;> try rfl
    simp only
    rw [w_rng2]
    split
    · rename_i h; rw [w_ok]; exact propext ⟨fun q => ⟨h.1, h.2.1, h.2.2.1, h.2.2.2, q⟩, fun q => q.2.2.2.2⟩
    · rename_i h; exact propext ⟨fun q => q.elim, fun q => h ⟨q.1, q.2.1, q.2.2.1, q.2.2.2.1⟩⟩
  · cases x <;> try rfl
    cases y <;> rfl
/-! ### calls -/
theorem w_call {f : Fn} : Ok (eCall f A s) QD = Ok (A s) fun ds s1 => OkG (f ds s1.st) fun d st => QD d ⟨s1.env, st⟩ := by
  unfold eCall
  rw [w_bind]
  refine ok_ext fun ds s1 => ?_
  cases f ds s1.st <;> rfl
theorem g_mk {n N : Nat} {F : SF} {ds st : List D} {Q : D → List D → Prop} (h : ds.length = n) (k : Sat (F ⟨ds.map .val ++ List.replicate (N - n) .no, st⟩) ⟨fun s => Q .non s.st, Q, fun _ => False, fun _ => False⟩) : OkG (mkF false n N F ds st) Q := by
  unfold mkF
  rw [if_pos h]
  cases q : F ⟨ds.map .val ++ List.replicate (N - n) .no, st⟩ <;> rw [q] at k <;> first | exact k.elim | exact k
theorem g_mkO {n N : Nat} {F : SF} {ds st : List D} {Q : D → List D → Prop} (h : ds.length = n) (k : Sat (F ⟨ds.map .val ++ List.replicate (N - n) .no, st⟩) ⟨fun s => False, Q, fun _ => False, fun _ => False⟩) : OkG (mkF true n N F ds st) Q := by
  unfold mkF
  rw [if_pos h]
  cases q : F ⟨ds.map .val ++ List.replicate (N - n) .no, st⟩ <;> rw [q] at k <;> first | exact k.elim | exact k
/-! ### statements -/
theorem w_nx0 : Sat (sNx s) P = P.nx s := nr rfl
theorem w_seq0 : Sat (sSeq B C s) P = Sat (B s) ⟨fun s' => Sat (C s') P, P.rt, P.bk, P.ct⟩ := by
  unfold sSeq
  cases B s <;> rfl
theorem w_asg0 : Sat (sAsg tg F s) P = Ok (F s) fun d s1 => putP (tg d s1) P.nx := by
  unfold sAsg
  rw [w_sr0]
  refine ok_ext fun d s1 => ?_
  cases tg d s1 <;> rfl
theorem w_gN {i : Nat} {d : D} : gN i d s = some { s with env := s.env.set i (.val d) } := nr rfl
theorem w_asgO0 {i : Nat} : Sat (sAsgO i F s) P = Ok (F s) fun d s1 => P.nx { s1 with env := s1.env.set i (.own d) } := by
  unfold sAsgO
  rw [w_sr0]
  rfl
theorem w_asgH0 {i : Nat} : Sat (sAsgH i F s) P = Ok (F s) fun d s1 => P.nx ⟨s1.env.set i (.val (.h s1.st.length)), s1.st ++ [d]⟩ := by
  unfold sAsgH
  rw [w_sr0]
  rfl
theorem w_par0 {is : List Nat} {ms : List Bool} : Sat (sPar is ms A s) P = Ok (A s) fun ds s1 => ds.length = is.length ∧ P.nx { s1 with env := setAll is ms ds s1.env } := by
  unfold sPar
  rw [w_sr0]
  refine ok_ext fun ds s1 => ?_
  split
  · rename_i h; exact propext ⟨fun q => ⟨h, q⟩, fun q => q.2⟩
  · rename_i h; exact propext ⟨fun q => q.elim, fun q => h q.1⟩
theorem w_drop0 : Sat (sDrop F s) P = Ok (F s) fun _ s1 => P.nx s1 := by
  unfold sDrop
  rw [w_sr0]
  rfl
theorem w_ret0 : Sat (sRet F s) P = Ok (F s) fun d s1 => P.rt d s1.st := by
  unfold sRet
  rw [w_sr0]
  rfl
theorem w_retN0 : Sat (sRetN s) P = P.rt .non s.st := nr rfl
theorem w_if0 : Sat (sIf T B C s) P = Ok (T s) fun b s1 => if b then Sat (B s1) P else Sat (C s1) P := by
  unfold sIf
  rw [w_sr0]
  refine ok_ext fun b s1 => ?_
  cases b <;> rfl
theorem w_brk0 : Sat (sBrk s) P = P.bk s := nr rfl
theorem w_ct0 : Sat (sCt s) P = P.ct s := nr rfl
theorem w_set0 : Sat (sSet' F R G s) P = Ok (F s) fun v s1 => Ok (R s1) fun p s2 => Ok (G s2) fun k s3 => OkO (fSet (at_ s3 p) k v) fun nw => putP (put s3 p nw) P.nx := by
  unfold sSet'
  rw [w_sr0]
  refine ok_ext fun v s1 => ?_
  rw [w_sr0]
  refine ok_ext fun p s2 => ?_
  rw [w_sr0]
  refine ok_ext fun k s3 => ?_
  cases fSet (at_ s3 p) k v with
  | none => rfl
  | some nw =>
    show Sat (match put s3 p nw with | some s4 => .nx s4 | none => .bad) P = putP (put s3 p nw) P.nx
    cases put s3 p nw <;> rfl
theorem w_for0 : Sat (sFor A tg B s) P = Ok (A s) fun ds s1 => Sat (forGo tg B ds s1) P := by
  unfold sFor
  rw [w_sr0]
/-- a for loop by what holds at each turn -/
theorem for_inv {ds : List D} (I : Nat → Fr → Prop) (h0 : I 0 s) (step : ∀ i d s, ds[i]? = some d → I i s → putP (tg d s) fun s1 => Sat (B s1) ⟨I (i + 1), P.rt, P.nx, I (i + 1)⟩) (fin : ∀ s, I ds.length s → P.nx s) : Sat (forGo tg B ds s) P := by
  suffices h : ∀ (k i : Nat) (s : Fr), ds.length - i = k → i ≤ ds.length → I i s → Sat (forGo tg B (ds.drop i) s) P from h _ 0 s rfl (Nat.zero_le _) h0
  intro k
  induction k with
  | zero =>
    intro i s hk hi hs
    obtain rfl : i = ds.length := by omega
    rw [List.drop_length]
    exact fin s hs
  | succ k ih =>
    intro i s hk hi hs
    have lt : i < ds.length := by omega
    rw [List.drop_eq_getElem_cons lt]
    have h := step i ds[i] s (List.getElem?_eq_getElem lt) hs
    unfold forGo
    cases e : tg ds[i] s with
    | none => rw [e] at h; exact h.elim
    | some s1 =>
      rw [e] at h
      have h : Sat (B s1) _ := h
      cases e2 : B s1 <;> rw [e2] at h <;> simp only [e2]
      · exact ih (i + 1) _ (by omega) lt h
      · exact h
      · exact h
      · exact ih (i + 1) _ (by omega) lt h
      · exact h.elim
      · exact h.elim
/-- a while loop by a measure -/
theorem wh_inv (I : Fr → Prop) (m : Fr → Nat) (h0 : I s) (step : ∀ s, I s → Ok (T s) fun b s1 => if b then Sat (B s1) ⟨fun s2 => I s2 ∧ m s2 < m s, P.rt, P.nx, fun s2 => I s2 ∧ m s2 < m s⟩ else P.nx s1) : Sat (sWh T B s) P := by
  have key : ∀ (k : Nat) (s : Fr), m s < k → I s → Sat (whN T B k s) P := by
    intro k
    induction k with
    | zero => intro s h; omega
    | succ k ih =>
      intro s hk hs
      have h := step s hs
      unfold whN
      cases e : T s with
      | bad => rw [e] at h; exact h.elim
      | exc c p s => rw [e] at h; exact h.elim
      | ok b s1 =>
        rw [e] at h
        cases b with
        | false => exact h
        | true =>
          have h : Sat (B s1) _ := h
          show Sat (match B s1 with | .nx s2 => whN T B k s2 | .ct s2 => whN T B k s2 | .brk s2 => .nx s2 | .ret d st => .ret d st | .exc c p s => .exc c p s | .bad => .bad) P
          cases e2 : B s1 <;> rw [e2] at h <;> simp only
          · exact ih _ (by have := h.2; omega) h.1
          · exact h
          · exact h
          · exact ih _ (by have := h.2; omega) h.1
          · exact h.elim
          · exact h.elim
  have h := key (m s + 1) s (by omega) h0
  have ne : whN T B (m s + 1) s ≠ .bad := fun z => by rw [z] at h; exact h
  rw [sWh_eq rfl ne]
  exact h
/-! ### comprehensions -/
/-- by what holds at each turn, behind the list so far -/
theorem lc_inv {vs : List Nat} {E : EF} (J : List D → Fr → Nat → List D → Fr → Prop) (h : Ok (A s) fun ds s1 => J ds s1 0 [] { s1 with env := wipeE s1.env vs } ∧
      (∀ i d acc s, ds[i]? = some d → J ds s1 i acc s → putP (tg d s) fun s2 => Ok (T s2) fun b s3 => if b then Ok (E s3) fun r s4 => acc.length < sizeLine ∧ J ds s1 (i + 1) (acc ++ [r]) { s4 with env := wipeE s4.env vs } else J ds s1 (i + 1) acc { s3 with env := wipeE s3.env vs }) ∧
      ∀ acc s, J ds s1 ds.length acc s → vs.all (notOwn s1.env) = true ∧ QD (.lst acc) { s with env := restE s1.env vs s.env }) : Ok (eLc vs A tg T E s) QD := by
  unfold eLc
  rw [w_bind]
  refine h.mono fun ds s1 ⟨h0, step, fin⟩ => ?_
  suffices h : ∀ (k i : Nat) (acc : List D) (s : Fr), ds.length - i = k → i ≤ ds.length → J ds s1 i acc s → ∃ acc' s', lcGo vs tg T E (ds.drop i) acc s = some (acc', s') ∧ J ds s1 ds.length acc' s' by
    obtain ⟨acc', s', e, j⟩ := h _ 0 [] _ rfl (Nat.zero_le _) h0
    rw [List.drop_zero] at e
    rw [e]
    obtain ⟨o, q⟩ := fin acc' s' j
    simp only [o, if_true]
    exact q
  intro k
  induction k with
  | zero =>
    intro i acc s hk hi hs
    obtain rfl : i = ds.length := by omega
    rw [List.drop_length]
    exact ⟨acc, s, rfl, hs⟩
  | succ k ih =>
    intro i acc s hk hi hs
    have lt : i < ds.length := by omega
    rw [List.drop_eq_getElem_cons lt]
    have h := step i ds[i] acc s (List.getElem?_eq_getElem lt) hs
    unfold lcGo
    cases e : tg ds[i] s with
    | none => rw [e] at h; exact h.elim
    | some s2 =>
      rw [e] at h
      have h : Ok (T s2) _ := h
      cases e2 : T s2 with
      | bad => rw [e2] at h; exact h.elim
      | exc c p s => rw [e2] at h; exact h.elim
      | ok b s3 =>
        rw [e2] at h
        cases b with
        | false =>
          have h : J ds s1 (i + 1) acc { s3 with env := wipeE s3.env vs } := by
            simpa [Ok] using h
          simp only [e2]
          exact ih (i + 1) acc _ (by omega) lt h
        | true =>
          have h : Ok (E s3) fun r s4 => acc.length < sizeLine ∧ J ds s1 (i + 1) (acc ++ [r]) { s4 with env := wipeE s4.env vs } := by
            rw [w_ok, if_pos rfl] at h
            exact h
          simp only [e2]
          cases e3 : E s3 with
          | bad => rw [e3] at h; exact h.elim
          | exc c p s => rw [e3] at h; exact h.elim
          | ok r s4 =>
            rw [e3] at h
            obtain ⟨z, h⟩ := h
            simp only [z, if_true]
            exact ih (i + 1) _ _ (by omega) lt h
theorem rest_wipe (e : List Slot) : ∀ vs : List Nat, restE e vs (wipeE e vs) = e
  | [] => rfl
  | v :: vs => by
    refine List.ext_getElem? fun i => ?_
    by_cases hm : i ∈ v :: vs
    · by_cases hl : i < e.length
      · rw [restE_in (by rw [wipeE_len]; exact hl) hm, List.getD_eq_getElem?_getD, List.getElem?_eq_getElem hl]
        rfl
      · rw [List.getElem?_eq_none (by rw [restE_len, wipeE_len]; omega), List.getElem?_eq_none (by omega)]
    · rw [restE_out hm]
      have : ∀ vs : List Nat, i ∉ vs → (wipeE e vs)[i]? = e[i]? := by
        intro vs
        induction vs with
        | nil => intro _; rfl
        | cons w ws ih =>
          intro h
          unfold wipeE
          rw [List.getElem?_set_ne (fun z => h (by simp [z])), ih fun z => h (by simp [z])]
      exact this _ hm
/-- a comprehension that leaves the frame, over items g x: p chooses, f makes -/
theorem lc_pure {γ : Type} {vs : List Nat} {E : EF} (xs : List γ) (g : γ → D) (p : γ → Bool) (f : γ → D) (h : Ok (A s) fun ds s1 => ds = xs.map g ∧ xs.length ≤ sizeLine ∧ vs.all (notOwn s1.env) = true ∧
      (∀ x ∈ xs, putP (tg (g x) { s1 with env := wipeE s1.env vs }) fun s2 => Ok (T s2) fun b s3 => b = p x ∧ if p x = true then Ok (E s3) fun r s4 => r = f x ∧ wipeE s4.env vs = wipeE s1.env vs ∧ s4.st = s1.st else wipeE s3.env vs = wipeE s1.env vs ∧ s3.st = s1.st) ∧
      QD (.lst ((xs.filter p).map f)) s1) : Ok (eLc vs A tg T E s) QD := by
  refine lc_inv (fun ds s1 i acc s => acc = ((xs.take i).filter p).map f ∧ s = { s1 with env := wipeE s1.env vs }) (h.mono fun ds s1 ⟨eds, len, own, step, q⟩ => ⟨⟨rfl, rfl⟩, ?_, ?_⟩)
  · rintro i d acc s hd ⟨rfl, rfl⟩
    rw [eds, List.getElem?_map] at hd
    obtain ⟨x, hx, rfl⟩ := Option.map_eq_some_iff.mp hd
    have hm := step x (List.mem_of_getElem? hx)
    have ht : xs.take (i + 1) = xs.take i ++ [x] := by rw [List.take_add_one, hx]; rfl
    cases e : tg (g x) { s1 with env := wipeE s1.env vs } with
    | none => rw [e] at hm; exact hm.elim
    | some s2 =>
      rw [e] at hm
      refine Ok.mono (show Ok (T s2) _ from hm) ?_
      rintro b s3 ⟨rfl, k⟩
      cases hp : p x with
      | true =>
        rw [hp, if_pos rfl] at k
        rw [if_pos rfl]
        refine k.mono ?_
        rintro r s4 ⟨rfl, e1, e2⟩
        refine ⟨?_, ?_, ?_⟩
        · rw [List.length_map]
          refine Nat.lt_of_le_of_lt (List.length_filter_le _ _) ?_
          have := (List.getElem?_eq_some_iff.mp hx).1
          rw [List.length_take]
          omega
        · rw [ht, List.filter_append, List.map_append]
          simp [hp]
        · cases s4
          simp only at e1 e2
          subst e2
          rw [e1]
      | false =>
        rw [hp, if_neg (by simp)] at k
        rw [if_neg (by simp)]
        refine ⟨?_, ?_⟩
        · rw [ht, List.filter_append]
          simp [hp]
        · cases s3
          simp only at k
          obtain ⟨e1, e2⟩ := k
          subst e2
          rw [e1]
  · rintro acc s ⟨rfl, rfl⟩
    refine ⟨own, ?_⟩
    rw [eds, List.length_map, List.take_length, rest_wipe]
    exact q
section
variable {pn : Fr → Prop} {pt : D → List D → Prop} {pb : Fr → Prop} {pc : Fr → Prop}
theorem w_snx : Sat (.nx s) ⟨pn, pt, pb, pc⟩ = pn s := w_snx0
theorem w_sret {d : D} {st : List D} : Sat (.ret d st) ⟨pn, pt, pb, pc⟩ = pt d st := w_sret0
theorem w_sbrk : Sat (.brk s) ⟨pn, pt, pb, pc⟩ = pb s := w_sbrk0
theorem w_sct : Sat (.ct s) ⟨pn, pt, pb, pc⟩ = pc s := w_sct0
theorem w_nx : Sat (sNx s) ⟨pn, pt, pb, pc⟩ = pn s := w_nx0
theorem w_seq : Sat (sSeq B C s) ⟨pn, pt, pb, pc⟩ = Sat (B s) ⟨fun s' => Sat (C s') ⟨pn, pt, pb, pc⟩, pt, pb, pc⟩ := w_seq0
theorem w_asg : Sat (sAsg tg F s) ⟨pn, pt, pb, pc⟩ = Ok (F s) fun d s1 => putP (tg d s1) pn := w_asg0
theorem w_asgO {i : Nat} : Sat (sAsgO i F s) ⟨pn, pt, pb, pc⟩ = Ok (F s) fun d s1 => pn ⟨s1.env.set i (.own d), s1.st⟩ := w_asgO0
theorem w_asgH {i : Nat} : Sat (sAsgH i F s) ⟨pn, pt, pb, pc⟩ = Ok (F s) fun d s1 => pn ⟨s1.env.set i (.val (.h s1.st.length)), s1.st ++ [d]⟩ := w_asgH0
theorem w_par {is : List Nat} {ms : List Bool} : Sat (sPar is ms A s) ⟨pn, pt, pb, pc⟩ = Ok (A s) fun ds s1 => ds.length = is.length ∧ pn ⟨setAll is ms ds s1.env, s1.st⟩ := w_par0
theorem w_drop : Sat (sDrop F s) ⟨pn, pt, pb, pc⟩ = Ok (F s) fun _ s1 => pn s1 := w_drop0
theorem w_ret : Sat (sRet F s) ⟨pn, pt, pb, pc⟩ = Ok (F s) fun d s1 => pt d s1.st := w_ret0
theorem w_retN : Sat (sRetN s) ⟨pn, pt, pb, pc⟩ = pt .non s.st := w_retN0
theorem w_if : Sat (sIf T B C s) ⟨pn, pt, pb, pc⟩ = Ok (T s) fun b s1 => if b then Sat (B s1) ⟨pn, pt, pb, pc⟩ else Sat (C s1) ⟨pn, pt, pb, pc⟩ := w_if0
theorem w_brk : Sat (sBrk s) ⟨pn, pt, pb, pc⟩ = pb s := w_brk0
theorem w_ct : Sat (sCt s) ⟨pn, pt, pb, pc⟩ = pc s := w_ct0
theorem w_set : Sat (sSet' F R G s) ⟨pn, pt, pb, pc⟩ = Ok (F s) fun v s1 => Ok (R s1) fun p s2 => Ok (G s2) fun k s3 => OkO (fSet (at_ s3 p) k v) fun nw => putP (put s3 p nw) pn := w_set0
theorem w_for : Sat (sFor A tg B s) ⟨pn, pt, pb, pc⟩ = Ok (A s) fun ds s1 => Sat (forGo tg B ds s1) ⟨pn, pt, pb, pc⟩ := w_for0
theorem w_sr {r : Res α} {f : α → Fr → SR} : Sat (r.sr f) ⟨pn, pt, pb, pc⟩ = Ok r fun a s => Sat (f a s) ⟨pn, pt, pb, pc⟩ := w_sr0
end
end
end VL
set_option Elab.async false
set_option linter.all false
set_option maxRecDepth 100000
set_option maxHeartbeats 4000000
namespace VL
open PySem L2
section
variable {st xs ys : List D} {Q : D → Prop} {QB : Bool → Prop} {i j : Int} {x y z : Str} {d e : D} {s : Fr} {a b : Bool} {n : Nat}
theorem dr_int : deref st (.int i) = .int i := nr rfl
theorem dr_str : deref st (.str x) = .str x := nr rfl
theorem dr_bl : deref st (.bl a) = .bl a := nr rfl
theorem dr_non : deref st .non = .non := nr rfl
theorem dr_tup : deref st (.tup xs) = .tup xs := nr rfl
theorem dr_lst : deref st (.lst xs) = .lst xs := nr rfl
theorem dr_scr : deref st (.scr xs) = .scr xs := nr rfl
theorem dr_dK {l : List (Key × D)} : deref st (.dK l) = .dK l := nr rfl
theorem dr_h0 : deref (d :: st) (.h 0) = d := nr rfl
def putI (o : Option Slot) (s : Fr) (i : Nat) (d : D) : Option Fr := match o with
  | some (.own _) => some { s with env := s.env.set i (.own d) }
  | some (.val (.h n)) => some { s with st := s.st.set n d }
  | _ => none
theorem put_sl : put s (.sl n) d = putI s.env[n]? s n d := nr rfl
theorem put_h : put s (.d (.h n)) d = some { s with st := s.st.set n d } := nr rfl
theorem put_own : putI (some (.own e)) s n d = some { s with env := s.env.set n (.own d) } := nr rfl
theorem put_vh {m : Nat} : putI (some (.val (.h m))) s n d = some { s with st := s.st.set m d } := nr rfl
theorem k_add : OkO (fAdd (.int i) (.int j)) Q = Q (.int (i + j)) := nr rfl
theorem k_sub : OkO (fSub (.int i) (.int j)) Q = Q (.int (i - j)) := nr rfl
theorem of_if {c : Prop} [Decidable c] : OkO (if c then some d else none) Q = (c ∧ Q d) := by
  split
  · rename_i h; exact propext ⟨fun q => ⟨h, q⟩, fun q => q.2⟩
  · rename_i h; exact propext ⟨fun q => q.elim, fun q => h q.1⟩
theorem k_mul : OkO (fMul (.int i) (.int j)) Q = (mulOk i j = true ∧ Q (.int (i * j))) := of_if
theorem k_div : OkO (fDiv (.int i) (.int j)) Q = (divOk j = true ∧ Q (.int (i / j))) := of_if
theorem k_mod : OkO (fMod (.int i) (.int j)) Q = (0 < j ∧ Q (.int (i % j))) := of_if
theorem k_pow : OkO (fPow (.int i) (.int j)) Q = ((0 ≤ j ∧ j ≤ 1000000 ∧ i.natAbs < 2 ^ 64) ∧ Q (.int (i ^ j.toNat))) := of_if
theorem k_abs : OkO (fAbs (.int i)) Q = Q (.int (if i < 0 then -i else i)) := nr rfl
theorem k_neg : OkO (fNeg (.int i)) Q = Q (.int (-i)) := nr rfl
theorem k_lt : OkO (fLt (.int i) (.int j)) QB = QB (decide (i < j)) := nr rfl
theorem k_le : OkO (fLe (.int i) (.int j)) QB = QB (decide (i ≤ j)) := nr rfl
theorem k_gt : OkO (fGt (.int i) (.int j)) QB = QB (decide (j < i)) := nr rfl
theorem k_ge : OkO (fGe (.int i) (.int j)) QB = QB (decide (j ≤ i)) := nr rfl
theorem k_cat : OkO (fAdd (.str x) (.str y)) Q = (x.length + y.length ≤ sizeLine ∧ Q (.str (x ++ y))) := of_if
theorem k_catT : OkO (fAdd (.tup xs) (.tup ys)) Q = (xs.length + ys.length ≤ sizeLine ∧ Q (.tup (xs ++ ys))) := of_if
theorem k_catL : OkO (fAdd (.lst xs) (.lst ys)) Q = (xs.length + ys.length ≤ sizeLine ∧ Q (.lst (xs ++ ys))) := of_if
theorem k_lenL : OkO (fLen (.lst xs)) Q = Q (.int xs.length) := nr rfl
theorem k_lenT : OkO (fLen (.tup xs)) Q = Q (.int xs.length) := nr rfl
theorem k_lenF : OkO (fLen (.scr xs)) Q = Q (.int xs.length) := nr rfl
theorem k_lenS : OkO (fLen (.str x)) Q = (x.length ≤ sizeLine ∧ Q (.int x.length)) := of_if
theorem k_listL : OkO (fList (.lst xs)) Q = Q (.lst xs) := nr rfl
theorem k_listT : OkO (fList (.tup xs)) Q = Q (.lst xs) := nr rfl
theorem k_listF : OkO (fList (.scr xs)) Q = Q (.lst xs) := nr rfl
theorem k_tupL : OkO (fTuple (.lst xs)) Q = Q (.tup xs) := nr rfl
theorem k_tupT : OkO (fTuple (.tup xs)) Q = Q (.tup xs) := nr rfl
theorem k_slL {lo hi : Option Int} : OkO (fSl (.lst xs) lo hi) Q = Q (.lst (cut xs lo hi)) := nr rfl
theorem k_slT {lo hi : Option Int} : OkO (fSl (.tup xs) lo hi) Q = Q (.tup (cut xs lo hi)) := nr rfl
theorem k_slF {lo hi : Option Int} : OkO (fSl (.scr xs) lo hi) Q = Q (.lst (cut xs lo hi)) := nr rfl
theorem k_slS {lo hi : Option Int} : OkO (fSl (.str x) lo hi) Q = (x.length ≤ sizeLine ∧ Q (.str (cutS x lo hi))) := of_if
theorem sq_l {Q : List D → Prop} : OkO (seqOf (.lst xs)) Q = Q xs := nr rfl
theorem sq_t {Q : List D → Prop} : OkO (seqOf (.tup xs)) Q = Q xs := nr rfl
theorem sq_f {Q : List D → Prop} : OkO (seqOf (.scr xs)) Q = Q xs := nr rfl
theorem k_min {Q : D → Prop} : OkO (fMin [.int i, .int j]) Q = Q (.int (if j < i then j else i)) := nr rfl
theorem k_max {Q : D → Prop} : OkO (fMax [.int i, .int j]) Q = Q (.int (if j > i then j else i)) := nr rfl
theorem ok_app {Q : D × D → Prop} : OkO (fApp (.lst xs) [d]) Q = (xs.length < sizeLine ∧ Q (.non, .lst (xs ++ [d]))) := by
  show OkO (if xs.length < sizeLine then some _ else none) Q = _
  split
  · rename_i h; exact propext ⟨fun q => ⟨h, q⟩, fun q => q.2⟩
  · rename_i h; exact propext ⟨fun q => q.elim, fun q => h q.1⟩
theorem isL_l : isLst (.lst xs) = true := nr rfl
theorem k_isB : OkO (fIs (.bl a) (.bl b)) QB = QB (decide (a = b)) := nr rfl
theorem k_isnB : OkO (fIsNot (.bl a) (.bl b)) QB = QB (!decide (a = b)) := nr rfl
/-- equality of flat things -/
theorem k_eqI : OkO (fEq (.int i) (.int j)) QB = QB (decide (i = j)) := by
  have : fEq (.int i) (.int j) = some (decide (i = j)) := by
    show fEqD (.int i) (.int j) = _
    unfold fEqD pd
    have h : ∀ k : Int, SeqAt.shaped (.int k) = true := fun k => rfl
    simp only [h, Bool.and_self, if_true, PyData.eqv]
    exact congrArg some (by rw [Bool.eq_iff_iff]; simp)
  rw [this]
  rfl
theorem k_neI : OkO (fNe (.int i) (.int j)) QB = QB (!decide (i = j)) := by
  have h := k_eqI (i := i) (j := j) (QB := fun b => QB (!b))
  unfold fNe
  cases e : fEq (.int i) (.int j) with
  | none => rw [e] at h; exact h
  | some b => rw [e] at h; exact h
theorem k_eqB : OkO (fEq (.bl a) (.bl b)) QB = QB (decide (a = b)) := by cases a <;> cases b <;> rfl
theorem k_neB : OkO (fNe (.bl a) (.bl b)) QB = QB (!decide (a = b)) := by cases a <;> cases b <;> rfl
theorem k_eqS : OkO (fEq (.str x) (.str y)) QB = QB (decide (x = y)) := nr rfl
theorem k_neS : OkO (fNe (.str x) (.str y)) QB = QB (!decide (x = y)) := by
  have h := k_eqS (x := x) (y := y) (QB := fun b => QB (!b))
  unfold fNe
  cases e : fEq (.str x) (.str y) with
  | none => rw [e] at h; exact h
  | some b => rw [e] at h; exact h
/-! ### places in rows -/
theorem ixL {i : Int} (h : 0 ≤ i) (h2 : i < xs.length) : fIx (.lst xs) (.int i) = xs[i.toNat]? := by
  show atI xs i = _
  unfold atI ixN
  rw [if_pos h, if_pos h2]
  rfl
theorem ixT {i : Int} (h : 0 ≤ i) (h2 : i < xs.length) : fIx (.tup xs) (.int i) = xs[i.toNat]? := ixL (xs := xs) h h2
theorem ixF {i : Int} (h : 0 ≤ i) (h2 : i < xs.length) : fIx (.scr xs) (.int i) = xs[i.toNat]? := ixL (xs := xs) h h2
/-- an item by its place -/
theorem k_ixL {Q : D → Prop} (h : 0 ≤ i) (h2 : i < xs.length) (k : ∀ d, xs[i.toNat]? = some d → Q d) : OkO (fIx (.lst xs) (.int i)) Q := by
  rw [ixL h h2]
  have hl : i.toNat < xs.length := by omega
  rw [List.getElem?_eq_getElem hl]
  exact k _ (List.getElem?_eq_getElem hl)
theorem k_ixT {Q : D → Prop} (h : 0 ≤ i) (h2 : i < xs.length) (k : ∀ d, xs[i.toNat]? = some d → Q d) : OkO (fIx (.tup xs) (.int i)) Q := k_ixL h h2 k
theorem k_ixS {Q : D → Prop} (hz : x.length ≤ sizeLine) (h : 0 ≤ i) (h2 : i < x.length) (k : ∀ c, x.cps.toList[i.toNat]? = some c → Q (.str ⟨#[c]⟩)) : OkO (fIx (.str x) (.int i)) Q := by
  have el : x.cps.toList.length = x.length := by simp [Str.length]
  have hl : i.toNat < x.cps.toList.length := by rw [el]; omega
  have e : fIx (.str x) (.int i) = some (.str ⟨#[x.cps.toList[i.toNat]]⟩) := by
    show (if x.length ≤ sizeLine then (atI x.cps.toList i).map fun c => D.str ⟨#[c]⟩ else none) = _
    rw [if_pos hz]
    unfold atI ixN
    rw [if_pos h, if_pos (by rw [el]; exact h2)]
    show Option.map _ (x.cps.toList[i.toNat]?) = _
    rw [List.getElem?_eq_getElem hl]
    rfl
  rw [e]
  exact k _ (List.getElem?_eq_getElem hl)
end
/-! ### keyed rows -/
def tS (l : List Str) : D := .tup (l.map .str)
def lS (l : List Str) : D := .lst (l.map .str)
end VL
set_option Elab.async false
set_option linter.all false
set_option maxRecDepth 100000
set_option maxHeartbeats 4000000
namespace VL
open PySem L2
theorem sq_tS {Q : List D → Prop} {a : List Str} : OkO (seqOf (tS a)) Q = Q (a.map .str) := nr rfl
theorem sq_lS {Q : List D → Prop} {a : List Str} : OkO (seqOf (lS a)) Q = Q (a.map .str) := nr rfl
theorem dr_tS {st : List D} {a : List Str} : deref st (tS a) = tS a := nr rfl
theorem dr_lS {st : List D} {a : List Str} : deref st (lS a) = lS a := nr rfl
theorem wi_nil {e : List Slot} : wipeE e [] = e := nr rfl
theorem wi_cons {e : List Slot} {v : Nat} {vs : List Nat} : wipeE e (v :: vs) = (wipeE e vs).set v .no := nr rfl
def notO (o : Option Slot) : Bool := match o with
  | some (.own _) => false
  | _ => true
theorem no_eq {e : List Slot} {j : Nat} : notOwn e j = notO e[j]? := nr rfl
theorem no_1 : notO (some .no) = true := nr rfl
theorem no_2 {d : D} : notO (some (.val d)) = true := nr rfl
theorem k_lenT' {Q : D → Prop} {a : List Str} : OkO (fLen (tS a)) Q = Q (.int a.length) := by
  show Q (.int (a.map D.str).length) = _
  rw [List.length_map]
theorem k_lenL' {Q : D → Prop} {a : List Str} : OkO (fLen (lS a)) Q = Q (.int a.length) := by
  show Q (.int (a.map D.str).length) = _
  rw [List.length_map]
/-! ### data that can be laid -/
def lay : Nat → D → Bool
  | _, .non => true
  | _, .bl _ => true
  | _, .int _ => true
  | _, .str x => PyData.strOk x
  | n + 1, .tup l => l.all (lay n)
  | n + 1, .lst l => l.all (lay n)
  | n + 1, .scr l => l.all (lay n)
  | _, _ => false
theorem lay_pd : ∀ (n : Nat) (d : D), lay n d = true → ∃ p, pd d = some p ∧ p.canLay0 = true ∧ p.depth ≤ n := by
  intro n
  induction n with
  | zero =>
    intro d h
    cases d <;> first | exact ⟨_, rfl, rfl, Nat.zero_le _⟩ | exact ⟨_, rfl, h, Nat.zero_le _⟩ | (simp [lay] at h)
  | succ n ih =>
    have all : ∀ l : List D, l.all (lay n) = true → ∃ ps, pds l = some ps ∧ PyData.canLayAll0 ps = true ∧ PyData.depthAll ps ≤ n := by
      intro l
      induction l with
      | nil => intro _; exact ⟨[], rfl, rfl, Nat.zero_le _⟩
      | cons d l il =>
        intro h
        rw [List.all_cons, Bool.and_eq_true] at h
        obtain ⟨p, e1, c1, d1⟩ := ih d h.1
        obtain ⟨ps, e2, c2, d2⟩ := il h.2
        refine ⟨p :: ps, by unfold pds; rw [e1, e2]; rfl, by unfold PyData.canLayAll0; rw [c1, c2]; rfl, ?_⟩
        unfold PyData.depthAll
        exact Nat.max_le.mpr ⟨d1, d2⟩
    intro d h
    cases d with
    | non => exact ⟨_, rfl, rfl, Nat.zero_le _⟩
    | bl b => exact ⟨_, rfl, rfl, Nat.zero_le _⟩
    | int i => exact ⟨_, rfl, rfl, Nat.zero_le _⟩
    | str x => exact ⟨_, rfl, h, Nat.zero_le _⟩
    | tup l =>
      obtain ⟨ps, e, c, k⟩ := all l h
      exact ⟨.tuple ps, by unfold pd; rw [e]; rfl, by simpa [PyData.canLay0] using c, by simp only [PyData.depth]; omega⟩
    | lst l =>
      obtain ⟨ps, e, c, k⟩ := all l h
      exact ⟨.list ps, by unfold pd; rw [e]; rfl, by simpa [PyData.canLay0] using c, by simp only [PyData.depth]; omega⟩
    | scr l =>
      obtain ⟨ps, e, c, k⟩ := all l h
      exact ⟨.list ps, by unfold pd; rw [e]; rfl, by simpa [PyData.canLay0] using c, by simp only [PyData.depth]; omega⟩
    | dK l => simp [lay] at h
    | dT l => simp [lay] at h
    | ins c l => simp [lay] at h
    | h n => simp [lay] at h
    | raw v => simp [lay] at h
theorem lay_shaped {n : Nat} {d : D} (hn : n ≤ 64) (h : lay n d = true) : ∃ p, pd d = some p ∧ SeqAt.shaped p = true := by
  obtain ⟨p, e, c, k⟩ := lay_pd n d h
  refine ⟨p, e, ?_⟩
  unfold SeqAt.shaped
  rw [c, Bool.true_and, decide_eq_true_eq]
  omega
theorem pd_pk {d : D} {p : PyData} (h : pd d = some p) : pk d = p := by unfold pk; rw [h]; rfl
theorem fEqD_lay {n m : Nat} {d e : D} (hn : n ≤ 64) (hm : m ≤ 64) (h : lay n d = true) (h' : lay m e = true) : fEqD d e = some (PyData.eqv (pk d) (pk e)) := by
  obtain ⟨p, e1, s1⟩ := lay_shaped hn h
  obtain ⟨q, e2, s2⟩ := lay_shaped hm h'
  unfold fEqD
  rw [e1, e2, pd_pk e1, pd_pk e2]
  simp [s1, s2]
/-! ### texts, rows of texts -/
theorem strs_lay {n : Nat} {l : List Str} (h : ∀ x ∈ l, PyData.strOk x = true) : (l.map D.str).all (lay n) = true := by
  rw [List.all_eq_true]
  intro d hd
  obtain ⟨x, hx, rfl⟩ := List.mem_map.mp hd
  cases n <;> exact h x hx
theorem tS_lay {n : Nat} {l : List Str} (h : ∀ x ∈ l, PyData.strOk x = true) : lay (n + 1) (tS l) = true := strs_lay h
theorem pds_strs : ∀ l : List Str, pds (l.map D.str) = some (l.map PyData.str)
  | [] => rfl
  | x :: l => by
    show (pd (.str x)).bind _ = _
    rw [pds_strs l]
    rfl
theorem pk_tS (l : List Str) : pk (tS l) = .tuple (l.map PyData.str) := by
  refine pd_pk ?_
  show Option.map _ (pds _) = _
  rw [pds_strs]
  rfl
theorem eqvAll_strs : ∀ a b : List Str, PyData.eqvAll (a.map PyData.str) (b.map PyData.str) = decide (a = b)
  | [], [] => rfl
  | [], _ :: _ => rfl
  | _ :: _, [] => rfl
  | x :: a, y :: b => by
    show (PyData.eqv (.str x) (.str y) && PyData.eqvAll (a.map PyData.str) (b.map PyData.str)) = _
    rw [eqvAll_strs a b]
    unfold PyData.eqv
    rw [Bool.eq_iff_iff]
    simp
section
variable {QB : Bool → Prop} {Q : D → Prop} {a b : List Str} {x : Str} {L : List (List Str)}
def Oks (a : List Str) : Prop := ∀ x ∈ a, PyData.strOk x = true
theorem fEq_tS (ha : Oks a) (hb : Oks b) : fEq (tS a) (tS b) = some (decide (a = b)) := by
  show fEqD (tS a) (tS b) = _
  rw [fEqD_lay (n := 1) (m := 1) (by omega) (by omega) (tS_lay ha) (tS_lay hb), pk_tS, pk_tS]
  show some (PyData.eqvAll _ _) = _
  rw [eqvAll_strs]
theorem k_eqT (ha : Oks a) (hb : Oks b) : OkO (fEq (tS a) (tS b)) QB = QB (decide (a = b)) := by
  rw [fEq_tS ha hb]
  rfl
theorem k_neT (ha : Oks a) (hb : Oks b) : OkO (fNe (tS a) (tS b)) QB = QB (!decide (a = b)) := by
  unfold fNe
  rw [fEq_tS ha hb]
  rfl
theorem fEq_nil {l : List D} {n : Nat} (hn : n ≤ 64) (h : lay n (.lst l) = true) : fEq (.lst l) (.lst []) = some l.isEmpty := by
  show fEqD (.lst l) (.lst []) = _
  rw [fEqD_lay (n := n) (m := 1) hn (by omega) h rfl]
  cases l with
  | nil => rfl
  | cons d l =>
    obtain ⟨p, e, _⟩ := lay_pd n _ h
    have e' := e
    unfold pd pds at e
    obtain ⟨ps, q, rfl⟩ := Option.map_eq_some_iff.mp e
    obtain ⟨p1, q1, q⟩ := Option.bind_eq_some_iff.mp q
    obtain ⟨ps2, q2, rfl⟩ := Option.map_eq_some_iff.mp q
    rw [pd_pk e']
    rfl
theorem k_eqN {l : List D} {n : Nat} (hn : n ≤ 64) (h : lay n (.lst l) = true) : OkO (fEq (.lst l) (.lst [])) QB = QB l.isEmpty := by
  rw [fEq_nil hn h]
  rfl
theorem k_neN {l : List D} {n : Nat} (hn : n ≤ 64) (h : lay n (.lst l) = true) : OkO (fNe (.lst l) (.lst [])) QB = QB (!l.isEmpty) := by
  unfold fNe
  rw [fEq_nil hn h]
  rfl
/-! ### membership -/
theorem flat_strs (l : List Str) : (l.map D.str).all flatD = true := by
  rw [List.all_map]
  exact List.all_eq_true.mpr fun _ _ => rfl
theorem inD_strs (x : Str) : ∀ l : List Str, inD (.str x) (l.map D.str) = decide (x ∈ l)
  | [] => by simp [inD]
  | y :: l => by
    have h := inD_strs x l
    unfold inD at h ⊢
    rw [List.map_cons, List.any_cons, h]
    have e : eqF (.str y) (.str x) = decide (x = y) := by
      show (y == x) = _
      rw [Bool.eq_iff_iff, beq_iff_eq, decide_eq_true_eq]
      exact eq_comm
    rw [e, Bool.eq_iff_iff, Bool.or_eq_true, decide_eq_true_eq, decide_eq_true_eq, decide_eq_true_eq, List.mem_cons]
theorem fMem_strT : fMem (.str x) (tS b) = some (decide (x ∈ b)) := by
  unfold fMem tS fIn
  simp [flat_strs, inD_strs, flatD]
theorem fMem_strL : fMem (.str x) (lS b) = some (decide (x ∈ b)) := by
  unfold fMem lS fIn
  simp [flat_strs, inD_strs, flatD]
theorem k_inT : OkO (fMem (.str x) (tS b)) QB = QB (decide (x ∈ b)) := by rw [fMem_strT]; rfl
theorem k_ninT : OkO (fNotMem (.str x) (tS b)) QB = QB (!decide (x ∈ b)) := by unfold fNotMem; rw [fMem_strT]; rfl
theorem k_inL : OkO (fMem (.str x) (lS b)) QB = QB (decide (x ∈ b)) := by rw [fMem_strL]; rfl
theorem k_ninL : OkO (fNotMem (.str x) (lS b)) QB = QB (!decide (x ∈ b)) := by unfold fNotMem; rw [fMem_strL]; rfl
theorem pds_tS : ∀ L : List (List Str), pds (L.map tS) = some (L.map fun l => .tuple (l.map PyData.str))
  | [] => rfl
  | l :: L => by
    show (pd (tS l)).bind _ = _
    rw [pds_tS L]
    show (Option.map PyData.tuple (pds (l.map D.str))).bind _ = _
    rw [pds_strs]
    rfl
theorem LL_lay {n : Nat} (h : ∀ l ∈ L, Oks l) : lay (n + 2) (.lst (L.map tS)) = true := by
  show (L.map tS).all (lay (n + 1)) = true
  rw [List.all_eq_true]
  intro d hd
  obtain ⟨l, hl, rfl⟩ := List.mem_map.mp hd
  exact tS_lay (h l hl)
theorem fMem_tup (ha : Oks a) (h : ∀ l ∈ L, Oks l) : fMem (tS a) (.lst (L.map tS)) = some (decide (a ∈ L)) := by
  have e1 : fIn (tS a) (.lst (L.map tS)) = none := by
    unfold fIn tS
    simp [flatD]
  unfold fMem
  rw [e1]
  show deepIn (tS a) (L.map tS) = _
  obtain ⟨p, e2, s2⟩ := lay_shaped (n := 1) (by omega) (tS_lay ha)
  obtain ⟨q, e3, s3⟩ := lay_shaped (n := 2) (by omega) (LL_lay h)
  have e4 : q = .list (L.map fun l => .tuple (l.map PyData.str)) := by
    have : pd (.lst (L.map tS)) = some (.list (L.map fun l => .tuple (l.map PyData.str))) := by
      show Option.map _ (pds _) = _
      rw [pds_tS]
      rfl
    rw [this] at e3
    exact (Option.some.inj e3).symm
  subst e4
  have e5 : p = .tuple (a.map PyData.str) := by rw [← pd_pk e2, pk_tS]
  subst e5
  unfold deepIn
  rw [e2, pds_tS]
  simp only [s2, s3, Bool.and_self, if_true]
  congr 1
  rw [List.any_map, Bool.eq_iff_iff, List.any_eq_true, decide_eq_true_eq]
  constructor
  · rintro ⟨l, hl, q⟩
    have q : PyData.eqvAll (l.map PyData.str) (a.map PyData.str) = true := q
    rw [eqvAll_strs, decide_eq_true_eq] at q
    exact q ▸ hl
  · intro h
    refine ⟨a, h, ?_⟩
    show PyData.eqvAll (a.map PyData.str) (a.map PyData.str) = true
    rw [eqvAll_strs]
    simp
theorem k_ninLL (ha : Oks a) (h : ∀ l ∈ L, Oks l) : OkO (fNotMem (tS a) (.lst (L.map tS))) QB = QB (!decide (a ∈ L)) := by
  unfold fNotMem
  rw [fMem_tup ha h]
  rfl
/-! ### sorted -/
noncomputable def sortS (a : List Str) : List Str := a.mergeSort VLT.txLe
noncomputable def leT (a b : List Str) : Bool := leD (tS a) (tS b)
noncomputable def sortT (L : List (List Str)) : List (List Str) := L.mergeSort leT
theorem leD_str (x y : Str) : leD (.str x) (.str y) = VLT.txLe x y := by
  have h := congrFun (congrFun (PySem.W.dataLe_str (fun x : Str => x)) x) y
  exact h
theorem alike_strs : ∀ a b : List Str, PySem.W.alikeAll (a.map PyData.str) (b.map PyData.str) = true
  | [], _ => by simp [PySem.W.alikeAll]
  | _ :: _, [] => by simp [PySem.W.alikeAll]
  | x :: a, y :: b => by simp [PySem.W.alikeAll, PySem.W.alike, alike_strs a b]
theorem sortD_strs (h : a.length ≤ sizeLine) : sortD (a.map D.str) = some ((sortS a).map D.str) := by
  unfold sortD
  rw [pds_strs]
  have ok : sortOk (a.map PyData.str) = true := by
    unfold sortOk
    simp [PySem.W.alike, PyData.depth, isTupP, plainP]
  simp only [ok, List.length_map, h, and_self, if_true]
  congr 1
  exact (List.map_mergeSort (r := VLT.txLe) (s := leD) (f := D.str) fun x _ y _ => (leD_str x y).symm).symm
theorem k_sortL (h : a.length ≤ sizeLine) : OkO (fSorted (lS a)) Q = Q (lS (sortS a)) := by
  show OkO (Option.map D.lst (sortD (a.map D.str))) Q = _
  rw [sortD_strs h]
  rfl
theorem k_sortT (h : a.length ≤ sizeLine) : OkO (fSorted (tS a)) Q = Q (lS (sortS a)) := by
  show OkO (Option.map D.lst (sortD (a.map D.str))) Q = _
  rw [sortD_strs h]
  rfl
theorem depth_strs (l : List Str) : PyData.depthAll (l.map PyData.str) = 0 := by
  induction l with
  | nil => rfl
  | cons x l ih => simp [PyData.depthAll, PyData.depth, ih]
theorem k_sortLL (h : L.length ≤ sizeLine) : OkO (fSorted (.lst (L.map tS))) Q = Q (.lst ((sortT L).map tS)) := by
  show OkO (Option.map D.lst (sortD (L.map tS))) Q = _
  have e : sortD (L.map tS) = some ((sortT L).map tS) := by
    unfold sortD
    rw [pds_tS]
    have ok : sortOk (L.map fun l => PyData.tuple (l.map PyData.str)) = true := by
      unfold sortOk
      simp [PySem.W.alike, alike_strs, PyData.depth, depth_strs, isTupP]
    simp only [ok, List.length_map, h, and_self, if_true]
    congr 1
    exact (List.map_mergeSort (r := leT) (s := leD) (f := tS) fun x _ y _ => rfl).symm
  rw [e]
  rfl
theorem sortS_perm (h : a.Perm b) : sortS a = sortS b := VLT.tx_perm h
theorem sortS_mem : x ∈ sortS a ↔ x ∈ a := (List.mergeSort_perm _ _).mem_iff
theorem sortS_len : (sortS a).length = a.length := (List.mergeSort_perm _ _).length_eq
theorem sortS_idem : sortS (sortS a) = sortS a := sortS_perm (List.mergeSort_perm _ _)
theorem sortT_mem {l : List Str} : l ∈ sortT L ↔ l ∈ L := (List.mergeSort_perm _ _).mem_iff
theorem sortT_len : (sortT L).length = L.length := (List.mergeSort_perm _ _).length_eq
end
/-! ### repr -/
section
variable {Q : D → Prop} {a b : List Str} {x : Str} {L A B : List (List Str)}
theorem k_reprB {b : Bool} : OkO (fRepr (.bl b)) Q = Q (.str (if b then "True" else "False")) := by
  have e : fRepr (.bl b) = some (.str (PyData.shown (.bool b))) := by
    show (if shownOk (.bool b) = true then _ else _) = _
    have : shownOk (.bool b) = true := by cases b <;> decide +kernel
    rw [if_pos this]
  rw [e]
  cases b <;> rfl
/-- a short name of small signs -/
def Nm (x : Str) : Prop := x.length ≤ 30 ∧ ∀ c ∈ x.cps.toList, c < 128
theorem Nm.ok (h : Nm x) : PyData.strOk x = true := by
  unfold PyData.strOk
  rw [← Array.all_toList, List.all_eq_true]
  intro c hc
  have := h.2 c hc
  exact decide_eq_true (by omega)
theorem Nms.ok (h : ∀ x ∈ a, Nm x) : Oks a := fun x hx => (h x hx).ok
theorem bulk_strs : ∀ l : List Str, (∀ x ∈ l, Nm x) → PyData.bulkAll (l.map PyData.str) ≤ 31 * l.length
  | [], _ => by simp [PyData.bulkAll]
  | x :: l, h => by
    have h1 := bulk_strs l fun y hy => h y (List.mem_cons_of_mem _ hy)
    have h2 : x.cps.size ≤ 30 := (h x (List.mem_cons_self ..)).1
    simp only [List.map_cons, PyData.bulkAll, PyData.bulk, List.length_cons]
    omega
abbrev tP (l : List Str) : PyData := .tuple (l.map PyData.str)
theorem bulk_tups : ∀ L : List (List Str), (∀ l ∈ L, l.length ≤ 64 ∧ ∀ x ∈ l, Nm x) → PyData.bulkAll (L.map tP) ≤ 1985 * L.length
  | [], _ => by simp [PyData.bulkAll]
  | l :: L, h => by
    have h1 := bulk_tups L fun y hy => h y (List.mem_cons_of_mem _ hy)
    have h2 := bulk_strs l (h l (List.mem_cons_self ..)).2
    have h3 := (h l (List.mem_cons_self ..)).1
    simp only [List.map_cons, PyData.bulkAll, PyData.bulk, List.length_cons]
    omega
theorem short_strs : ∀ l : List Str, (∀ x ∈ l, Nm x) → PyData.leavesShortAll 8 (l.map PyData.str) = true
  | [], _ => by simp [PyData.leavesShortAll]
  | x :: l, h => by
    have h1 := short_strs l fun y hy => h y (List.mem_cons_of_mem _ hy)
    have h2 := (h x (List.mem_cons_self ..)).2
    simp only [List.map_cons, PyData.leavesShortAll, PyData.leavesShort, h1, Bool.and_true, List.all_eq_true, decide_eq_true_eq]
    intro c hc
    have := h2 c hc
    omega
theorem short_tups : ∀ L : List (List Str), (∀ l ∈ L, l.length ≤ 64 ∧ ∀ x ∈ l, Nm x) → PyData.leavesShortAll 8 (L.map tP) = true
  | [], _ => by simp [PyData.leavesShortAll]
  | l :: L, h => by
    have h1 := short_tups L fun y hy => h y (List.mem_cons_of_mem _ hy)
    simp only [List.map_cons, PyData.leavesShortAll, PyData.leavesShort, h1, Bool.and_true]
    exact short_strs l (h l (List.mem_cons_self ..)).2
theorem show_strs : ∀ l : List Str, PyData.showableAll (l.map PyData.str) = true
  | [] => by simp [PyData.showableAll]
  | x :: l => by simp [PyData.showableAll, PyData.showable, show_strs l]
theorem show_tups : ∀ L : List (List Str), PyData.showableAll (L.map tP) = true
  | [] => by simp [PyData.showableAll]
  | l :: L => by simp [PyData.showableAll, PyData.showable, show_strs l, show_tups L]
theorem nod_strs : ∀ l : List Str, PyData.hasDictAll (l.map PyData.str) = false
  | [] => by simp [PyData.hasDictAll]
  | x :: l => by simp [PyData.hasDictAll, PyData.hasDict, nod_strs l]
theorem nod_tups : ∀ L : List (List Str), PyData.hasDictAll (L.map tP) = false
  | [] => by simp [PyData.hasDictAll]
  | l :: L => by simp [PyData.hasDictAll, PyData.hasDict, nod_strs l, nod_tups L]
theorem depth_tups : ∀ L : List (List Str), PyData.depthAll (L.map tP) ≤ 1
  | [] => by simp [PyData.depthAll]
  | l :: L => by
    have := depth_tups L
    simp only [List.map_cons, PyData.depthAll, PyData.depth, depth_strs]
    omega
theorem reprLL (hA : A.length ≤ 200) (hB : B.length ≤ 200) (kA : ∀ l ∈ A, l.length ≤ 64 ∧ ∀ x ∈ l, Nm x) (kB : ∀ l ∈ B, l.length ≤ 64 ∧ ∀ x ∈ l, Nm x) : ∃ t, fRepr (.lst [.lst (A.map tS), .lst (B.map tS)]) = some (.str t) := by
  have e : pd (.lst [.lst (A.map tS), .lst (B.map tS)]) = some (.list [.list (A.map tP), .list (B.map tP)]) := by
    simp only [pd, pds, pds_tS]
    rfl
  unfold fRepr
  rw [e]
  have ok : shownOk (.list [.list (A.map tP), .list (B.map tP)]) = true := by
    have h1 := bulk_tups A kA
    have h2 := bulk_tups B kB
    have d1 := depth_tups A
    have d2 := depth_tups B
    have len := PyData.shown_le_bulk 8 (by omega) (.list [.list (A.map tP), .list (B.map tP)]) (by simp [PyData.leavesShort, PyData.leavesShortAll, short_tups A kA, short_tups B kB])
    have bk : PyData.bulk (.list [.list (A.map tP), .list (B.map tP)]) ≤ 800000 := by
      simp only [PyData.bulk, PyData.bulkAll]
      omega
    have len : (PyData.shown (.list [.list (A.map tP), .list (B.map tP)])).length ≤ sizeLine := by
      rw [sizeLine_eq]
      omega
    have s1 : PyData.showable (.list [.list (A.map tP), .list (B.map tP)]) = true := by simp [PyData.showable, PyData.showableAll, show_tups]
    have s2 : PyData.hasDict (.list [.list (A.map tP), .list (B.map tP)]) = false := by simp [PyData.hasDict, PyData.hasDictAll, nod_tups]
    have s3 : PyData.depth (.list [.list (A.map tP), .list (B.map tP)]) ≤ 60 := by
      simp only [PyData.depth, PyData.depthAll]
      omega
    unfold shownOk
    rw [s1, s2]
    simp [s3, len]
  simp only [ok, if_true]
  exact ⟨_, rfl⟩
/-! ### sorted(set) -/
theorem strsD_map : ∀ l : List Str, strsD (l.map D.str) = some l
  | [] => rfl
  | x :: l => by
    show (strsD (l.map D.str)).map _ = _
    rw [strsD_map l]
    rfl
theorem k_uniq (h : a.length ≤ 1000) : OkO (fSortedSet (tS a)) Q = Q (lS (uniq a)) := by
  show OkO (match strsD (a.map D.str) with | some xs => _ | none => _) Q = _
  rw [strsD_map]
  simp only [h, if_true]
  rfl
theorem uniq_mem : ∀ x : Str, x ∈ uniq a → x ∈ a := by
  intro x h
  have h : x ∈ a.foldl VLT.met [] := (List.mergeSort_perm _ _).mem_iff.mp h
  suffices k : ∀ (a ks : List Str), x ∈ a.foldl VLT.met ks → x ∈ ks ∨ x ∈ a from (k a [] h).resolve_left (by simp)
  intro a
  induction a with
  | nil => intro ks h; exact .inl h
  | cons y a ih =>
    intro ks h
    rcases ih _ h with h | h
    · unfold VLT.met at h
      split at h
      · exact .inl h
      · rcases List.mem_append.mp h with h | h
        · exact .inl h
        · rw [List.mem_singleton.mp h]; exact .inr (by simp)
    · exact .inr (List.mem_cons_of_mem _ h)
theorem uniq_len : (uniq a).length ≤ a.length := by
  unfold uniq
  rw [(List.mergeSort_perm _ _).length_eq]
  exact met_fold_le a
/-! ### sizes -/
theorem log_lt {n k : Nat} (h : n < 2 ^ k) (hk : 0 < k) : n.log2 < k := by
  by_cases z : n = 0
  · subst z
    simpa using hk
  · exact (Nat.log2_lt z).mpr h
theorem mulOk_of {i j : Int} (h : i.natAbs < 2 ^ 400000) (h' : j.natAbs < 2 ^ 400000) : mulOk i j = true := by
  have h1 := log_lt h (by decide)
  have h2 := log_lt h' (by decide)
  unfold mulOk
  exact decide_eq_true (by omega)
theorem divOk_of {j : Int} (h : 0 < j) (h' : j.natAbs < 2 ^ 8000) : divOk j = true := by
  have h1 := log_lt h' (by decide)
  unfold divOk
  rw [Bool.and_eq_true, decide_eq_true_eq, decide_eq_true_eq]
  exact ⟨h, by omega⟩
theorem big64 {i : Int} {k : Nat} (h : i.natAbs < 2 ^ 64) (hk : 64 ≤ k) : i.natAbs < 2 ^ k := Nat.lt_of_lt_of_le h (Nat.pow_le_pow_right (by omega) hk)
theorem mulOk64 {i j : Int} (h : i.natAbs < 2 ^ 64) (h' : j.natAbs < 2 ^ 64) : mulOk i j = true := by
  have h1 := log_lt h (by decide)
  have h2 := log_lt h' (by decide)
  unfold mulOk
  exact decide_eq_true (by omega)
theorem mulOk130 {i j : Int} (h : i.natAbs < 2 ^ 200) (h' : j.natAbs < 2 ^ 200) : mulOk i j = true := by
  have h1 := log_lt h (by decide)
  have h2 := log_lt h' (by decide)
  unfold mulOk
  exact decide_eq_true (by omega)
theorem divOk64 {j : Int} (h : 0 < j) (h' : j < 2 ^ 64) : divOk j = true := by
  have h1 := log_lt (n := j.natAbs) (k := 64) (by omega) (by decide)
  unfold divOk
  rw [Bool.and_eq_true, decide_eq_true_eq, decide_eq_true_eq]
  exact ⟨h, by omega⟩
/-! ### all, any -/
theorem bools_map {γ : Type} (p : γ → Bool) : ∀ xs : List γ, bools (xs.map fun x => .bl (p x)) = some (xs.map p)
  | [] => rfl
  | x :: xs => by
    show (bools (xs.map fun x => .bl (p x))).map _ = _
    rw [bools_map p xs]
    rfl
theorem k_all {γ : Type} {p : γ → Bool} {xs : List γ} : OkO (fAll (.lst (xs.map fun x => .bl (p x)))) Q = Q (.bl (xs.all p)) := by
  show OkO (Option.map _ (bools _)) Q = _
  rw [bools_map]
  show Q (.bl ((xs.map p).all id)) = _
  rw [List.all_map]
  rfl
theorem k_any {γ : Type} {p : γ → Bool} {xs : List γ} : OkO (fAny (.lst (xs.map fun x => .bl (p x)))) Q = Q (.bl (xs.any p)) := by
  show OkO (Option.map _ (bools _)) Q = _
  rw [bools_map]
  show Q (.bl ((xs.map p).any id)) = _
  rw [List.any_map]
  rfl
theorem filter_true {γ : Type} (xs : List γ) : xs.filter (fun _ => true) = xs := List.filter_eq_self.mpr fun _ _ => rfl
end
end VL
set_option Elab.async false
set_option linter.all false
set_option maxRecDepth 100000
set_option maxHeartbeats 1000000
namespace K81
open PySem L2 VL
def sub (a b : List Str) : Bool := a.all fun x => decide (x ∈ b)
variable {st : List D} {a b x : List Str} {L S B O : List (List Str)} {ns : List Str}
theorem lies (ha : Oks a) (la : a.length ≤ sizeLine) : OkG (G_law_lies_in [tS a, tS b] st) fun d st' => d = .bl (sub a b) ∧ st = st' := by
  refine g_mk rfl ?_
  unfold F_law_lies_in
  simp -dsimp only [po_nx, po_rt, po_bk, po_ct, fr_env, fr_st, w_ok, w_bind, w_of, w_some, w_var, w_slv, w_slo, w_c, w_op, w_un, w_cmp2, w_cmpP, w_ecmpP, w_inP, w_einP, w_ecmp, w_val, w_asB, w_no, w_an, w_or, w_tY, w_ean, w_eor, w_eno, w_eif, w_nil, w_cons, w_consO, w_tup, w_lst, w_pOf, w_pSl, w_slLv, w_slLo, w_rd, w_rd2, w_trd, w_atd, w_atl, w_atv, w_ato, w_pNo, w_asI, w_pSo, w_sl, w_slL, w_cb, w_put, w_mt, w_m1, w_asS, w_seqI, w_rng1, w_rng2, w_range, w_call, w_nx, w_seq, w_asg, w_gN, w_asgO, w_asgH, w_par, w_drop, w_ret, w_retN, w_if, w_brk, w_ct, w_set, w_for, List.getElem?_cons_zero, List.getElem?_cons_succ, List.set_cons_zero, List.set_cons_succ, List.map_cons, List.map_nil, List.cons_append, List.nil_append, List.replicate_succ, List.replicate_zero, setAll, dr_int, dr_str, dr_bl, dr_non, dr_tup, dr_lst, dr_scr, dr_dK, dr_h0, put_sl, put_h, put_own, put_vh, k_add, k_sub, k_mul, k_div, k_mod, k_pow, k_abs, k_neg, k_lt, k_le, k_gt, k_ge, k_cat, k_catT, k_catL, k_lenL, k_lenT, k_lenF, k_lenS, k_listL, k_listT, k_listF, k_tupL, k_tupT, k_slL, k_slT, k_slF, k_slS, sq_l, sq_t, sq_f, k_min, k_max, ok_app, isL_l, k_isB, k_isnB, k_eqI, k_neI, k_eqB, k_neB, k_eqS, k_neS, sq_tS, sq_lS, dr_tS, dr_lS, wi_nil, wi_cons, no_eq, no_1, no_2, k_lenT', k_lenL', List.all_cons, List.all_nil, Bool.and_true, Bool.and_self, k_inT, k_ninT, k_inL, k_ninL, List.length_cons, List.length_nil, sizeLine_eq, Nat.reduceAdd, Nat.reduceLeDiff, Nat.reduceLT, if_true, if_false, Bool.false_eq_true, Bool.not_true, Bool.not_false, ite_self, implies_true, k_all, k_any, filter_true, true_and, and_true, decide_eq_true_eq]
  refine lc_pure a .str (fun x => !decide (x ∈ b)) .str ?_
  simp -dsimp only [po_nx, po_rt, po_bk, po_ct, fr_env, fr_st, w_ok, w_bind, w_of, w_some, w_var, w_slv, w_slo, w_c, w_op, w_un, w_cmp2, w_cmpP, w_ecmpP, w_inP, w_einP, w_ecmp, w_val, w_asB, w_no, w_an, w_or, w_tY, w_ean, w_eor, w_eno, w_eif, w_nil, w_cons, w_consO, w_tup, w_lst, w_pOf, w_pSl, w_slLv, w_slLo, w_rd, w_rd2, w_trd, w_atd, w_atl, w_atv, w_ato, w_pNo, w_asI, w_pSo, w_sl, w_slL, w_cb, w_put, w_mt, w_m1, w_asS, w_seqI, w_rng1, w_rng2, w_range, w_call, w_nx, w_seq, w_asg, w_gN, w_asgO, w_asgH, w_par, w_drop, w_ret, w_retN, w_if, w_brk, w_ct, w_set, w_for, List.getElem?_cons_zero, List.getElem?_cons_succ, List.set_cons_zero, List.set_cons_succ, List.map_cons, List.map_nil, List.cons_append, List.nil_append, List.replicate_succ, List.replicate_zero, setAll, dr_int, dr_str, dr_bl, dr_non, dr_tup, dr_lst, dr_scr, dr_dK, dr_h0, put_sl, put_h, put_own, put_vh, k_add, k_sub, k_mul, k_div, k_mod, k_pow, k_abs, k_neg, k_lt, k_le, k_gt, k_ge, k_cat, k_catT, k_catL, k_lenL, k_lenT, k_lenF, k_lenS, k_listL, k_listT, k_listF, k_tupL, k_tupT, k_slL, k_slT, k_slF, k_slS, sq_l, sq_t, sq_f, k_min, k_max, ok_app, isL_l, k_isB, k_isnB, k_eqI, k_neI, k_eqB, k_neB, k_eqS, k_neS, sq_tS, sq_lS, dr_tS, dr_lS, wi_nil, wi_cons, no_eq, no_1, no_2, k_lenT', k_lenL', List.all_cons, List.all_nil, Bool.and_true, Bool.and_self, k_inT, k_ninT, k_inL, k_ninL, List.length_cons, List.length_nil, sizeLine_eq, Nat.reduceAdd, Nat.reduceLeDiff, Nat.reduceLT, if_true, if_false, Bool.false_eq_true, Bool.not_true, Bool.not_false, ite_self, implies_true, k_all, k_any, filter_true, true_and, and_true, decide_eq_true_eq]
  have em : ∀ l : List Str, (∀ x ∈ l, x ∈ a) → lay 5 (.lst (l.map .str)) = true := fun l h => strs_lay fun x hx => ha x (h x hx)
  refine ⟨by rw [← sizeLine_eq]; exact la, ?_⟩
  rw [k_eqN (n := 5) (by omega) (em _ fun x hx => (List.mem_filter.mp hx).1)]
  try simp -dsimp only [po_nx, po_rt, po_bk, po_ct, fr_env, fr_st, w_ok, w_bind, w_of, w_some, w_var, w_slv, w_slo, w_c, w_op, w_un, w_cmp2, w_cmpP, w_ecmpP, w_inP, w_einP, w_ecmp, w_val, w_asB, w_no, w_an, w_or, w_tY, w_ean, w_eor, w_eno, w_eif, w_nil, w_cons, w_consO, w_tup, w_lst, w_pOf, w_pSl, w_slLv, w_slLo, w_rd, w_rd2, w_trd, w_atd, w_atl, w_atv, w_ato, w_pNo, w_asI, w_pSo, w_sl, w_slL, w_cb, w_put, w_mt, w_m1, w_asS, w_seqI, w_rng1, w_rng2, w_range, w_call, w_nx, w_seq, w_asg, w_gN, w_asgO, w_asgH, w_par, w_drop, w_ret, w_retN, w_if, w_brk, w_ct, w_set, w_for, List.getElem?_cons_zero, List.getElem?_cons_succ, List.set_cons_zero, List.set_cons_succ, List.map_cons, List.map_nil, List.cons_append, List.nil_append, List.replicate_succ, List.replicate_zero, setAll, dr_int, dr_str, dr_bl, dr_non, dr_tup, dr_lst, dr_scr, dr_dK, dr_h0, put_sl, put_h, put_own, put_vh, k_add, k_sub, k_mul, k_div, k_mod, k_pow, k_abs, k_neg, k_lt, k_le, k_gt, k_ge, k_cat, k_catT, k_catL, k_lenL, k_lenT, k_lenF, k_lenS, k_listL, k_listT, k_listF, k_tupL, k_tupT, k_slL, k_slT, k_slF, k_slS, sq_l, sq_t, sq_f, k_min, k_max, ok_app, isL_l, k_isB, k_isnB, k_eqI, k_neI, k_eqB, k_neB, k_eqS, k_neS, sq_tS, sq_lS, dr_tS, dr_lS, wi_nil, wi_cons, no_eq, no_1, no_2, k_lenT', k_lenL', List.all_cons, List.all_nil, Bool.and_true, Bool.and_self, k_inT, k_ninT, k_inL, k_ninL, List.length_cons, List.length_nil, sizeLine_eq, Nat.reduceAdd, Nat.reduceLeDiff, Nat.reduceLT, if_true, if_false, Bool.false_eq_true, Bool.not_true, Bool.not_false, ite_self, implies_true, k_all, k_any, filter_true, true_and, and_true, decide_eq_true_eq]
  congr 1
  rw [List.isEmpty_map]
  unfold sub
  rw [Bool.eq_iff_iff, List.isEmpty_iff, List.filter_eq_nil_iff, List.all_eq_true]
  simp
theorem within (la : a.length ≤ sizeLine) : OkG (G_is_within [tS a, tS b] st) fun d st' => d = .bl (sub a b) ∧ st = st' := by
  refine g_mk rfl ?_
  unfold F_is_within
  simp -dsimp only [po_nx, po_rt, po_bk, po_ct, fr_env, fr_st, w_ok, w_bind, w_of, w_some, w_var, w_slv, w_slo, w_c, w_op, w_un, w_cmp2, w_cmpP, w_ecmpP, w_inP, w_einP, w_ecmp, w_val, w_asB, w_no, w_an, w_or, w_tY, w_ean, w_eor, w_eno, w_eif, w_nil, w_cons, w_consO, w_tup, w_lst, w_pOf, w_pSl, w_slLv, w_slLo, w_rd, w_rd2, w_trd, w_atd, w_atl, w_atv, w_ato, w_pNo, w_asI, w_pSo, w_sl, w_slL, w_cb, w_put, w_mt, w_m1, w_asS, w_seqI, w_rng1, w_rng2, w_range, w_call, w_nx, w_seq, w_asg, w_gN, w_asgO, w_asgH, w_par, w_drop, w_ret, w_retN, w_if, w_brk, w_ct, w_set, w_for, List.getElem?_cons_zero, List.getElem?_cons_succ, List.set_cons_zero, List.set_cons_succ, List.map_cons, List.map_nil, List.cons_append, List.nil_append, List.replicate_succ, List.replicate_zero, setAll, dr_int, dr_str, dr_bl, dr_non, dr_tup, dr_lst, dr_scr, dr_dK, dr_h0, put_sl, put_h, put_own, put_vh, k_add, k_sub, k_mul, k_div, k_mod, k_pow, k_abs, k_neg, k_lt, k_le, k_gt, k_ge, k_cat, k_catT, k_catL, k_lenL, k_lenT, k_lenF, k_lenS, k_listL, k_listT, k_listF, k_tupL, k_tupT, k_slL, k_slT, k_slF, k_slS, sq_l, sq_t, sq_f, k_min, k_max, ok_app, isL_l, k_isB, k_isnB, k_eqI, k_neI, k_eqB, k_neB, k_eqS, k_neS, sq_tS, sq_lS, dr_tS, dr_lS, wi_nil, wi_cons, no_eq, no_1, no_2, k_lenT', k_lenL', List.all_cons, List.all_nil, Bool.and_true, Bool.and_self, k_inT, k_ninT, k_inL, k_ninL, List.length_cons, List.length_nil, sizeLine_eq, Nat.reduceAdd, Nat.reduceLeDiff, Nat.reduceLT, if_true, if_false, Bool.false_eq_true, Bool.not_true, Bool.not_false, ite_self, implies_true, k_all, k_any, filter_true, true_and, and_true, decide_eq_true_eq]
  refine lc_pure a .str (fun _ => true) (fun x => .bl (decide (x ∈ b))) ?_
  simp -dsimp only [po_nx, po_rt, po_bk, po_ct, fr_env, fr_st, w_ok, w_bind, w_of, w_some, w_var, w_slv, w_slo, w_c, w_op, w_un, w_cmp2, w_cmpP, w_ecmpP, w_inP, w_einP, w_ecmp, w_val, w_asB, w_no, w_an, w_or, w_tY, w_ean, w_eor, w_eno, w_eif, w_nil, w_cons, w_consO, w_tup, w_lst, w_pOf, w_pSl, w_slLv, w_slLo, w_rd, w_rd2, w_trd, w_atd, w_atl, w_atv, w_ato, w_pNo, w_asI, w_pSo, w_sl, w_slL, w_cb, w_put, w_mt, w_m1, w_asS, w_seqI, w_rng1, w_rng2, w_range, w_call, w_nx, w_seq, w_asg, w_gN, w_asgO, w_asgH, w_par, w_drop, w_ret, w_retN, w_if, w_brk, w_ct, w_set, w_for, List.getElem?_cons_zero, List.getElem?_cons_succ, List.set_cons_zero, List.set_cons_succ, List.map_cons, List.map_nil, List.cons_append, List.nil_append, List.replicate_succ, List.replicate_zero, setAll, dr_int, dr_str, dr_bl, dr_non, dr_tup, dr_lst, dr_scr, dr_dK, dr_h0, put_sl, put_h, put_own, put_vh, k_add, k_sub, k_mul, k_div, k_mod, k_pow, k_abs, k_neg, k_lt, k_le, k_gt, k_ge, k_cat, k_catT, k_catL, k_lenL, k_lenT, k_lenF, k_lenS, k_listL, k_listT, k_listF, k_tupL, k_tupT, k_slL, k_slT, k_slF, k_slS, sq_l, sq_t, sq_f, k_min, k_max, ok_app, isL_l, k_isB, k_isnB, k_eqI, k_neI, k_eqB, k_neB, k_eqS, k_neS, sq_tS, sq_lS, dr_tS, dr_lS, wi_nil, wi_cons, no_eq, no_1, no_2, k_lenT', k_lenL', List.all_cons, List.all_nil, Bool.and_true, Bool.and_self, k_inT, k_ninT, k_inL, k_ninL, List.length_cons, List.length_nil, sizeLine_eq, Nat.reduceAdd, Nat.reduceLeDiff, Nat.reduceLT, if_true, if_false, Bool.false_eq_true, Bool.not_true, Bool.not_false, ite_self, implies_true, k_all, k_any, filter_true, true_and, and_true, decide_eq_true_eq]
  exact ⟨by rw [← sizeLine_eq]; exact la, rfl⟩
/-! ### all sets -/
def pwk (ns : List Str) : List (List Str) := ns.foldl (fun f n => f ++ f.map (· ++ [n])) [[]]
noncomputable def pw (ns : List Str) : List (List Str) := sortT (pwk (sortS ns))
theorem pwk_snoc (ns : List Str) (n : Str) : pwk (ns ++ [n]) = pwk ns ++ (pwk ns).map (· ++ [n]) := by
  unfold pwk
  rw [List.foldl_append]
  rfl
theorem pwk_len (ns : List Str) : (pwk ns).length = 2 ^ ns.length := by
  suffices h : ∀ (ns : List Str) (f : List (List Str)), (ns.foldl (fun f n => f ++ f.map (· ++ [n])) f).length = f.length * 2 ^ ns.length by
    have := h ns [[]]
    rw [List.length_singleton, Nat.one_mul] at this
    exact this
  intro ns
  induction ns with
  | nil => intro f; simp
  | cons n ns ih =>
    intro f
    rw [List.foldl_cons, ih, List.length_append, List.length_map, List.length_cons, Nat.pow_succ, ← Nat.two_mul, Nat.mul_comm 2, Nat.mul_assoc, Nat.mul_comm 2]
theorem pwk_sub {l ns : List Str} (h : l ∈ pwk ns) : l.Sublist ns := by
  suffices k : ∀ (ns p : List Str) (f : List (List Str)), (∀ x ∈ f, x.Sublist p) → ∀ l ∈ ns.foldl (fun f n => f ++ f.map (· ++ [n])) f, l.Sublist (p ++ ns) from k ns [] [[]] (by simp) l h
  intro ns
  induction ns with
  | nil => intro p f h l hl; simpa using h l hl
  | cons n ns ih =>
    intro p f h l hl
    have := ih (p ++ [n]) _ (fun x hx => ?_) l hl
    · simpa using this
    · rcases List.mem_append.mp hx with hx | hx
      · exact (h x hx).trans (List.sublist_append_left _ _)
      · obtain ⟨y, hy, rfl⟩ := List.mem_map.mp hx
        exact (h y hy).append (List.Sublist.refl _)
theorem pow_small {n k : Nat} (h : n ≤ k) : 2 ^ n ≤ 2 ^ k := Nat.pow_le_pow_right (by omega) h
theorem sets_of {nd : D} (hd : nd = lS ns ∨ nd = tS ns) (hn : ns.length ≤ 10) : OkG (G_law_sets [nd] st) fun d st' => d = .lst ((pw ns).map tS) ∧ st = st' := by
  refine g_mk rfl ?_
  unfold F_law_sets
  have e0 : deref st nd = nd := by rcases hd with rfl | rfl <;> rfl
  have es : ∀ {Q : D → Prop}, OkO (fSorted nd) Q = Q (lS (sortS ns)) := fun {Q} => by
    have h : ns.length ≤ sizeLine := by rw [sizeLine_eq]; omega
    rcases hd with rfl | rfl
    · exact k_sortL h
    · exact k_sortT h
  simp -dsimp only [po_nx, po_rt, po_bk, po_ct, fr_env, fr_st, w_ok, w_bind, w_of, w_some, w_var, w_slv, w_slo, w_c, w_op, w_un, w_cmp2, w_cmpP, w_ecmpP, w_inP, w_einP, w_ecmp, w_val, w_asB, w_no, w_an, w_or, w_tY, w_ean, w_eor, w_eno, w_eif, w_nil, w_cons, w_consO, w_tup, w_lst, w_pOf, w_pSl, w_slLv, w_slLo, w_rd, w_rd2, w_trd, w_atd, w_atl, w_atv, w_ato, w_pNo, w_asI, w_pSo, w_sl, w_slL, w_cb, w_put, w_mt, w_m1, w_asS, w_seqI, w_rng1, w_rng2, w_range, w_call, w_nx, w_seq, w_asg, w_gN, w_asgO, w_asgH, w_par, w_drop, w_ret, w_retN, w_if, w_brk, w_ct, w_set, w_for, List.getElem?_cons_zero, List.getElem?_cons_succ, List.set_cons_zero, List.set_cons_succ, List.map_cons, List.map_nil, List.cons_append, List.nil_append, List.replicate_succ, List.replicate_zero, setAll, dr_int, dr_str, dr_bl, dr_non, dr_tup, dr_lst, dr_scr, dr_dK, dr_h0, put_sl, put_h, put_own, put_vh, k_add, k_sub, k_mul, k_div, k_mod, k_pow, k_abs, k_neg, k_lt, k_le, k_gt, k_ge, k_cat, k_catT, k_catL, k_lenL, k_lenT, k_lenF, k_lenS, k_listL, k_listT, k_listF, k_tupL, k_tupT, k_slL, k_slT, k_slF, k_slS, sq_l, sq_t, sq_f, k_min, k_max, ok_app, isL_l, k_isB, k_isnB, k_eqI, k_neI, k_eqB, k_neB, k_eqS, k_neS, sq_tS, sq_lS, dr_tS, dr_lS, wi_nil, wi_cons, no_eq, no_1, no_2, k_lenT', k_lenL', List.all_cons, List.all_nil, Bool.and_true, Bool.and_self, k_inT, k_ninT, k_inL, k_ninL, List.length_cons, List.length_nil, sizeLine_eq, Nat.reduceAdd, Nat.reduceLeDiff, Nat.reduceLT, if_true, if_false, Bool.false_eq_true, Bool.not_true, Bool.not_false, ite_self, implies_true, k_all, k_any, filter_true, true_and, and_true, decide_eq_true_eq, e0, es]
  refine for_inv (fun i s => ∃ sl, s = ⟨[.val nd, .val (.lst ((pwk ((sortS ns).take i)).map tS)), sl, .no], st⟩) ⟨_, rfl⟩ ?_ ?_
  · rintro i d s hi ⟨sl, rfl⟩
    rw [List.getElem?_map] at hi
    obtain ⟨n, hn', rfl⟩ := Option.map_eq_some_iff.mp hi
    have il : i < ns.length := by have := (List.getElem?_eq_some_iff.mp hn').1; rw [sortS_len] at this; exact this
    have len := pwk_len ((sortS ns).take i)
    have tl : ((sortS ns).take i).length = i := by rw [List.length_take, sortS_len]; omega
    rw [tl] at len
    have p10 := pow_small (show i ≤ 10 by omega)
    simp -dsimp only [po_nx, po_rt, po_bk, po_ct, fr_env, fr_st, w_ok, w_bind, w_of, w_some, w_var, w_slv, w_slo, w_c, w_op, w_un, w_cmp2, w_cmpP, w_ecmpP, w_inP, w_einP, w_ecmp, w_val, w_asB, w_no, w_an, w_or, w_tY, w_ean, w_eor, w_eno, w_eif, w_nil, w_cons, w_consO, w_tup, w_lst, w_pOf, w_pSl, w_slLv, w_slLo, w_rd, w_rd2, w_trd, w_atd, w_atl, w_atv, w_ato, w_pNo, w_asI, w_pSo, w_sl, w_slL, w_cb, w_put, w_mt, w_m1, w_asS, w_seqI, w_rng1, w_rng2, w_range, w_call, w_nx, w_seq, w_asg, w_gN, w_asgO, w_asgH, w_par, w_drop, w_ret, w_retN, w_if, w_brk, w_ct, w_set, w_for, List.getElem?_cons_zero, List.getElem?_cons_succ, List.set_cons_zero, List.set_cons_succ, List.map_cons, List.map_nil, List.cons_append, List.nil_append, List.replicate_succ, List.replicate_zero, setAll, dr_int, dr_str, dr_bl, dr_non, dr_tup, dr_lst, dr_scr, dr_dK, dr_h0, put_sl, put_h, put_own, put_vh, k_add, k_sub, k_mul, k_div, k_mod, k_pow, k_abs, k_neg, k_lt, k_le, k_gt, k_ge, k_cat, k_catT, k_catL, k_lenL, k_lenT, k_lenF, k_lenS, k_listL, k_listT, k_listF, k_tupL, k_tupT, k_slL, k_slT, k_slF, k_slS, sq_l, sq_t, sq_f, k_min, k_max, ok_app, isL_l, k_isB, k_isnB, k_eqI, k_neI, k_eqB, k_neB, k_eqS, k_neS, sq_tS, sq_lS, dr_tS, dr_lS, wi_nil, wi_cons, no_eq, no_1, no_2, k_lenT', k_lenL', List.all_cons, List.all_nil, Bool.and_true, Bool.and_self, k_inT, k_ninT, k_inL, k_ninL, List.length_cons, List.length_nil, sizeLine_eq, Nat.reduceAdd, Nat.reduceLeDiff, Nat.reduceLT, if_true, if_false, Bool.false_eq_true, Bool.not_true, Bool.not_false, ite_self, implies_true, k_all, k_any, filter_true, true_and, and_true, decide_eq_true_eq]
    refine lc_pure (pwk ((sortS ns).take i)) tS (fun _ => true) (fun l => tS (l ++ [n])) ?_
    simp -dsimp only [po_nx, po_rt, po_bk, po_ct, fr_env, fr_st, w_ok, w_bind, w_of, w_some, w_var, w_slv, w_slo, w_c, w_op, w_un, w_cmp2, w_cmpP, w_ecmpP, w_inP, w_einP, w_ecmp, w_val, w_asB, w_no, w_an, w_or, w_tY, w_ean, w_eor, w_eno, w_eif, w_nil, w_cons, w_consO, w_tup, w_lst, w_pOf, w_pSl, w_slLv, w_slLo, w_rd, w_rd2, w_trd, w_atd, w_atl, w_atv, w_ato, w_pNo, w_asI, w_pSo, w_sl, w_slL, w_cb, w_put, w_mt, w_m1, w_asS, w_seqI, w_rng1, w_rng2, w_range, w_call, w_nx, w_seq, w_asg, w_gN, w_asgO, w_asgH, w_par, w_drop, w_ret, w_retN, w_if, w_brk, w_ct, w_set, w_for, List.getElem?_cons_zero, List.getElem?_cons_succ, List.set_cons_zero, List.set_cons_succ, List.map_cons, List.map_nil, List.cons_append, List.nil_append, List.replicate_succ, List.replicate_zero, setAll, dr_int, dr_str, dr_bl, dr_non, dr_tup, dr_lst, dr_scr, dr_dK, dr_h0, put_sl, put_h, put_own, put_vh, k_add, k_sub, k_mul, k_div, k_mod, k_pow, k_abs, k_neg, k_lt, k_le, k_gt, k_ge, k_cat, k_catT, k_catL, k_lenL, k_lenT, k_lenF, k_lenS, k_listL, k_listT, k_listF, k_tupL, k_tupT, k_slL, k_slT, k_slF, k_slS, sq_l, sq_t, sq_f, k_min, k_max, ok_app, isL_l, k_isB, k_isnB, k_eqI, k_neI, k_eqB, k_neB, k_eqS, k_neS, sq_tS, sq_lS, dr_tS, dr_lS, wi_nil, wi_cons, no_eq, no_1, no_2, k_lenT', k_lenL', List.all_cons, List.all_nil, Bool.and_true, Bool.and_self, k_inT, k_ninT, k_inL, k_ninL, List.length_cons, List.length_nil, sizeLine_eq, Nat.reduceAdd, Nat.reduceLeDiff, Nat.reduceLT, if_true, if_false, Bool.false_eq_true, Bool.not_true, Bool.not_false, ite_self, implies_true, k_all, k_any, filter_true, true_and, and_true, decide_eq_true_eq]
    refine ⟨by omega, fun l hl => ?_, ?_, ?_⟩
    · have := (pwk_sub hl).length_le
      show OkO (fAdd (.tup (l.map .str)) (.tup [.str n])) _
      simp -dsimp only [po_nx, po_rt, po_bk, po_ct, fr_env, fr_st, w_ok, w_bind, w_of, w_some, w_var, w_slv, w_slo, w_c, w_op, w_un, w_cmp2, w_cmpP, w_ecmpP, w_inP, w_einP, w_ecmp, w_val, w_asB, w_no, w_an, w_or, w_tY, w_ean, w_eor, w_eno, w_eif, w_nil, w_cons, w_consO, w_tup, w_lst, w_pOf, w_pSl, w_slLv, w_slLo, w_rd, w_rd2, w_trd, w_atd, w_atl, w_atv, w_ato, w_pNo, w_asI, w_pSo, w_sl, w_slL, w_cb, w_put, w_mt, w_m1, w_asS, w_seqI, w_rng1, w_rng2, w_range, w_call, w_nx, w_seq, w_asg, w_gN, w_asgO, w_asgH, w_par, w_drop, w_ret, w_retN, w_if, w_brk, w_ct, w_set, w_for, List.getElem?_cons_zero, List.getElem?_cons_succ, List.set_cons_zero, List.set_cons_succ, List.map_cons, List.map_nil, List.cons_append, List.nil_append, List.replicate_succ, List.replicate_zero, setAll, dr_int, dr_str, dr_bl, dr_non, dr_tup, dr_lst, dr_scr, dr_dK, dr_h0, put_sl, put_h, put_own, put_vh, k_add, k_sub, k_mul, k_div, k_mod, k_pow, k_abs, k_neg, k_lt, k_le, k_gt, k_ge, k_cat, k_catT, k_catL, k_lenL, k_lenT, k_lenF, k_lenS, k_listL, k_listT, k_listF, k_tupL, k_tupT, k_slL, k_slT, k_slF, k_slS, sq_l, sq_t, sq_f, k_min, k_max, ok_app, isL_l, k_isB, k_isnB, k_eqI, k_neI, k_eqB, k_neB, k_eqS, k_neS, sq_tS, sq_lS, dr_tS, dr_lS, wi_nil, wi_cons, no_eq, no_1, no_2, k_lenT', k_lenL', List.all_cons, List.all_nil, Bool.and_true, Bool.and_self, k_inT, k_ninT, k_inL, k_ninL, List.length_cons, List.length_nil, sizeLine_eq, Nat.reduceAdd, Nat.reduceLeDiff, Nat.reduceLT, if_true, if_false, Bool.false_eq_true, Bool.not_true, Bool.not_false, ite_self, implies_true, k_all, k_any, filter_true, true_and, and_true, decide_eq_true_eq]
      refine ⟨by rw [List.length_map]; omega, ?_⟩
      show D.tup (l.map .str ++ [.str n]) = tS (l ++ [n])
      unfold tS
      rw [List.map_append]
      rfl
    · rw [List.length_map, List.length_map]
      omega
    · have e : (sortS ns).take (i + 1) = (sortS ns).take i ++ [n] := by rw [List.take_add_one, hn']; rfl
      rw [e, pwk_snoc, List.map_append, List.map_map]
      exact ⟨_, rfl⟩
  · rintro s ⟨sl, rfl⟩
    have len := pwk_len (sortS ns)
    rw [sortS_len] at len
    have p10 := pow_small hn
    simp -dsimp only [po_nx, po_rt, po_bk, po_ct, fr_env, fr_st, w_ok, w_bind, w_of, w_some, w_var, w_slv, w_slo, w_c, w_op, w_un, w_cmp2, w_cmpP, w_ecmpP, w_inP, w_einP, w_ecmp, w_val, w_asB, w_no, w_an, w_or, w_tY, w_ean, w_eor, w_eno, w_eif, w_nil, w_cons, w_consO, w_tup, w_lst, w_pOf, w_pSl, w_slLv, w_slLo, w_rd, w_rd2, w_trd, w_atd, w_atl, w_atv, w_ato, w_pNo, w_asI, w_pSo, w_sl, w_slL, w_cb, w_put, w_mt, w_m1, w_asS, w_seqI, w_rng1, w_rng2, w_range, w_call, w_nx, w_seq, w_asg, w_gN, w_asgO, w_asgH, w_par, w_drop, w_ret, w_retN, w_if, w_brk, w_ct, w_set, w_for, List.getElem?_cons_zero, List.getElem?_cons_succ, List.set_cons_zero, List.set_cons_succ, List.map_cons, List.map_nil, List.cons_append, List.nil_append, List.replicate_succ, List.replicate_zero, setAll, dr_int, dr_str, dr_bl, dr_non, dr_tup, dr_lst, dr_scr, dr_dK, dr_h0, put_sl, put_h, put_own, put_vh, k_add, k_sub, k_mul, k_div, k_mod, k_pow, k_abs, k_neg, k_lt, k_le, k_gt, k_ge, k_cat, k_catT, k_catL, k_lenL, k_lenT, k_lenF, k_lenS, k_listL, k_listT, k_listF, k_tupL, k_tupT, k_slL, k_slT, k_slF, k_slS, sq_l, sq_t, sq_f, k_min, k_max, ok_app, isL_l, k_isB, k_isnB, k_eqI, k_neI, k_eqB, k_neB, k_eqS, k_neS, sq_tS, sq_lS, dr_tS, dr_lS, wi_nil, wi_cons, no_eq, no_1, no_2, k_lenT', k_lenL', List.all_cons, List.all_nil, Bool.and_true, Bool.and_self, k_inT, k_ninT, k_inL, k_ninL, List.length_cons, List.length_nil, sizeLine_eq, Nat.reduceAdd, Nat.reduceLeDiff, Nat.reduceLT, if_true, if_false, Bool.false_eq_true, Bool.not_true, Bool.not_false, ite_self, implies_true, k_all, k_any, filter_true, true_and, and_true, decide_eq_true_eq]
    rw [List.length_map, show (sortS ns).take (sortS ns).length = sortS ns from List.take_length]
    rw [k_sortLL (by rw [sizeLine_eq]; omega)]
    exact ⟨rfl, rfl⟩
theorem subsets_eq : G_subsets = G_law_sets := rfl
theorem pw_mem {l : List Str} (h : l ∈ pw ns) : l.Sublist (sortS ns) := pwk_sub (sortT_mem.mp h)
theorem pw_len (hn : ns.length ≤ 10) : (pw ns).length ≤ 1024 := by
  unfold pw
  rw [sortT_len, pwk_len, sortS_len]
  exact pow_small hn
theorem pw_in {l : List Str} {y : Str} (h : l ∈ pw ns) (hy : y ∈ l) : y ∈ ns := sortS_mem.mp ((pw_mem h).subset hy)
theorem pw_size {l : List Str} (h : l ∈ pw ns) : l.length ≤ ns.length := by
  have := (pw_mem h).length_le
  rwa [sortS_len] at this
/-! ### what decides -/
def up (B : List (List Str)) (x : List Str) : Bool := B.any fun m => sub m x
def dn (O : List (List Str)) (x : List Str) : Bool := O.any fun m => sub x m
noncomputable def dec (ns : List Str) (B O : List (List Str)) : Bool := (pw ns).all fun x => up B x != dn O x
def Short (L : List (List Str)) : Prop := L.length ≤ sizeLine ∧ ∀ l ∈ L, l.length ≤ sizeLine ∧ Oks l
theorem decides_is {nd : D} (hd : nd = lS ns ∨ nd = tS ns) (hn : ns.length ≤ 10) (hB : Short B) (hO : Short O) : OkG (G_decides [nd, .lst (B.map tS), .lst (O.map tS)] st) fun d st' => d = .bl (dec ns B O) ∧ st = st' := by
  refine g_mk rfl ?_
  unfold F_decides
  simp -dsimp only [po_nx, po_rt, po_bk, po_ct, fr_env, fr_st, w_ok, w_bind, w_of, w_some, w_var, w_slv, w_slo, w_c, w_op, w_un, w_cmp2, w_cmpP, w_ecmpP, w_inP, w_einP, w_ecmp, w_val, w_asB, w_no, w_an, w_or, w_tY, w_ean, w_eor, w_eno, w_eif, w_nil, w_cons, w_consO, w_tup, w_lst, w_pOf, w_pSl, w_slLv, w_slLo, w_rd, w_rd2, w_trd, w_atd, w_atl, w_atv, w_ato, w_pNo, w_asI, w_pSo, w_sl, w_slL, w_cb, w_put, w_mt, w_m1, w_asS, w_seqI, w_rng1, w_rng2, w_range, w_call, w_nx, w_seq, w_asg, w_gN, w_asgO, w_asgH, w_par, w_drop, w_ret, w_retN, w_if, w_brk, w_ct, w_set, w_for, List.getElem?_cons_zero, List.getElem?_cons_succ, List.set_cons_zero, List.set_cons_succ, List.map_cons, List.map_nil, List.cons_append, List.nil_append, List.replicate_succ, List.replicate_zero, setAll, dr_int, dr_str, dr_bl, dr_non, dr_tup, dr_lst, dr_scr, dr_dK, dr_h0, put_sl, put_h, put_own, put_vh, k_add, k_sub, k_mul, k_div, k_mod, k_pow, k_abs, k_neg, k_lt, k_le, k_gt, k_ge, k_cat, k_catT, k_catL, k_lenL, k_lenT, k_lenF, k_lenS, k_listL, k_listT, k_listF, k_tupL, k_tupT, k_slL, k_slT, k_slF, k_slS, sq_l, sq_t, sq_f, k_min, k_max, ok_app, isL_l, k_isB, k_isnB, k_eqI, k_neI, k_eqB, k_neB, k_eqS, k_neS, sq_tS, sq_lS, dr_tS, dr_lS, wi_nil, wi_cons, no_eq, no_1, no_2, k_lenT', k_lenL', List.all_cons, List.all_nil, Bool.and_true, Bool.and_self, k_inT, k_ninT, k_inL, k_ninL, List.length_cons, List.length_nil, sizeLine_eq, Nat.reduceAdd, Nat.reduceLeDiff, Nat.reduceLT, if_true, if_false, Bool.false_eq_true, Bool.not_true, Bool.not_false, ite_self, implies_true, k_all, k_any, filter_true, true_and, and_true, decide_eq_true_eq]
  rw [subsets_eq]
  refine (sets_of hd hn).mono ?_
  rintro _ _ ⟨rfl, rfl⟩
  simp -dsimp only [po_nx, po_rt, po_bk, po_ct, fr_env, fr_st, w_ok, w_bind, w_of, w_some, w_var, w_slv, w_slo, w_c, w_op, w_un, w_cmp2, w_cmpP, w_ecmpP, w_inP, w_einP, w_ecmp, w_val, w_asB, w_no, w_an, w_or, w_tY, w_ean, w_eor, w_eno, w_eif, w_nil, w_cons, w_consO, w_tup, w_lst, w_pOf, w_pSl, w_slLv, w_slLo, w_rd, w_rd2, w_trd, w_atd, w_atl, w_atv, w_ato, w_pNo, w_asI, w_pSo, w_sl, w_slL, w_cb, w_put, w_mt, w_m1, w_asS, w_seqI, w_rng1, w_rng2, w_range, w_call, w_nx, w_seq, w_asg, w_gN, w_asgO, w_asgH, w_par, w_drop, w_ret, w_retN, w_if, w_brk, w_ct, w_set, w_for, List.getElem?_cons_zero, List.getElem?_cons_succ, List.set_cons_zero, List.set_cons_succ, List.map_cons, List.map_nil, List.cons_append, List.nil_append, List.replicate_succ, List.replicate_zero, setAll, dr_int, dr_str, dr_bl, dr_non, dr_tup, dr_lst, dr_scr, dr_dK, dr_h0, put_sl, put_h, put_own, put_vh, k_add, k_sub, k_mul, k_div, k_mod, k_pow, k_abs, k_neg, k_lt, k_le, k_gt, k_ge, k_cat, k_catT, k_catL, k_lenL, k_lenT, k_lenF, k_lenS, k_listL, k_listT, k_listF, k_tupL, k_tupT, k_slL, k_slT, k_slF, k_slS, sq_l, sq_t, sq_f, k_min, k_max, ok_app, isL_l, k_isB, k_isnB, k_eqI, k_neI, k_eqB, k_neB, k_eqS, k_neS, sq_tS, sq_lS, dr_tS, dr_lS, wi_nil, wi_cons, no_eq, no_1, no_2, k_lenT', k_lenL', List.all_cons, List.all_nil, Bool.and_true, Bool.and_self, k_inT, k_ninT, k_inL, k_ninL, List.length_cons, List.length_nil, sizeLine_eq, Nat.reduceAdd, Nat.reduceLeDiff, Nat.reduceLT, if_true, if_false, Bool.false_eq_true, Bool.not_true, Bool.not_false, ite_self, implies_true, k_all, k_any, filter_true, true_and, and_true, decide_eq_true_eq]
  refine for_inv (fun i s => (∀ x ∈ (pw ns).take i, (up B x != dn O x) = true) ∧ ∃ s1 s2, s = ⟨[.val nd, .val (.lst (B.map tS)), .val (.lst (O.map tS)), s1, s2, .no], st⟩) ⟨by simp, _, _, rfl⟩ ?_ ?_
  · rintro i d s hi ⟨all, s1, s2, rfl⟩
    rw [List.getElem?_map] at hi
    obtain ⟨x, hx, rfl⟩ := Option.map_eq_some_iff.mp hi
    have hm := List.mem_of_getElem? hx
    have xs : x.length ≤ sizeLine := by have := pw_size hm; rw [sizeLine_eq]; omega
    simp -dsimp only [po_nx, po_rt, po_bk, po_ct, fr_env, fr_st, w_ok, w_bind, w_of, w_some, w_var, w_slv, w_slo, w_c, w_op, w_un, w_cmp2, w_cmpP, w_ecmpP, w_inP, w_einP, w_ecmp, w_val, w_asB, w_no, w_an, w_or, w_tY, w_ean, w_eor, w_eno, w_eif, w_nil, w_cons, w_consO, w_tup, w_lst, w_pOf, w_pSl, w_slLv, w_slLo, w_rd, w_rd2, w_trd, w_atd, w_atl, w_atv, w_ato, w_pNo, w_asI, w_pSo, w_sl, w_slL, w_cb, w_put, w_mt, w_m1, w_asS, w_seqI, w_rng1, w_rng2, w_range, w_call, w_nx, w_seq, w_asg, w_gN, w_asgO, w_asgH, w_par, w_drop, w_ret, w_retN, w_if, w_brk, w_ct, w_set, w_for, List.getElem?_cons_zero, List.getElem?_cons_succ, List.set_cons_zero, List.set_cons_succ, List.map_cons, List.map_nil, List.cons_append, List.nil_append, List.replicate_succ, List.replicate_zero, setAll, dr_int, dr_str, dr_bl, dr_non, dr_tup, dr_lst, dr_scr, dr_dK, dr_h0, put_sl, put_h, put_own, put_vh, k_add, k_sub, k_mul, k_div, k_mod, k_pow, k_abs, k_neg, k_lt, k_le, k_gt, k_ge, k_cat, k_catT, k_catL, k_lenL, k_lenT, k_lenF, k_lenS, k_listL, k_listT, k_listF, k_tupL, k_tupT, k_slL, k_slT, k_slF, k_slS, sq_l, sq_t, sq_f, k_min, k_max, ok_app, isL_l, k_isB, k_isnB, k_eqI, k_neI, k_eqB, k_neB, k_eqS, k_neS, sq_tS, sq_lS, dr_tS, dr_lS, wi_nil, wi_cons, no_eq, no_1, no_2, k_lenT', k_lenL', List.all_cons, List.all_nil, Bool.and_true, Bool.and_self, k_inT, k_ninT, k_inL, k_ninL, List.length_cons, List.length_nil, sizeLine_eq, Nat.reduceAdd, Nat.reduceLeDiff, Nat.reduceLT, if_true, if_false, Bool.false_eq_true, Bool.not_true, Bool.not_false, ite_self, implies_true, k_all, k_any, filter_true, true_and, and_true, decide_eq_true_eq]
    refine lc_pure B tS (fun _ => true) (fun m => .bl (sub m x)) ?_
    simp -dsimp only [po_nx, po_rt, po_bk, po_ct, fr_env, fr_st, w_ok, w_bind, w_of, w_some, w_var, w_slv, w_slo, w_c, w_op, w_un, w_cmp2, w_cmpP, w_ecmpP, w_inP, w_einP, w_ecmp, w_val, w_asB, w_no, w_an, w_or, w_tY, w_ean, w_eor, w_eno, w_eif, w_nil, w_cons, w_consO, w_tup, w_lst, w_pOf, w_pSl, w_slLv, w_slLo, w_rd, w_rd2, w_trd, w_atd, w_atl, w_atv, w_ato, w_pNo, w_asI, w_pSo, w_sl, w_slL, w_cb, w_put, w_mt, w_m1, w_asS, w_seqI, w_rng1, w_rng2, w_range, w_call, w_nx, w_seq, w_asg, w_gN, w_asgO, w_asgH, w_par, w_drop, w_ret, w_retN, w_if, w_brk, w_ct, w_set, w_for, List.getElem?_cons_zero, List.getElem?_cons_succ, List.set_cons_zero, List.set_cons_succ, List.map_cons, List.map_nil, List.cons_append, List.nil_append, List.replicate_succ, List.replicate_zero, setAll, dr_int, dr_str, dr_bl, dr_non, dr_tup, dr_lst, dr_scr, dr_dK, dr_h0, put_sl, put_h, put_own, put_vh, k_add, k_sub, k_mul, k_div, k_mod, k_pow, k_abs, k_neg, k_lt, k_le, k_gt, k_ge, k_cat, k_catT, k_catL, k_lenL, k_lenT, k_lenF, k_lenS, k_listL, k_listT, k_listF, k_tupL, k_tupT, k_slL, k_slT, k_slF, k_slS, sq_l, sq_t, sq_f, k_min, k_max, ok_app, isL_l, k_isB, k_isnB, k_eqI, k_neI, k_eqB, k_neB, k_eqS, k_neS, sq_tS, sq_lS, dr_tS, dr_lS, wi_nil, wi_cons, no_eq, no_1, no_2, k_lenT', k_lenL', List.all_cons, List.all_nil, Bool.and_true, Bool.and_self, k_inT, k_ninT, k_inL, k_ninL, List.length_cons, List.length_nil, sizeLine_eq, Nat.reduceAdd, Nat.reduceLeDiff, Nat.reduceLT, if_true, if_false, Bool.false_eq_true, Bool.not_true, Bool.not_false, ite_self, implies_true, k_all, k_any, filter_true, true_and, and_true, decide_eq_true_eq]
    refine ⟨by rw [← sizeLine_eq]; exact hB.1, fun m hm => ?_, ?_⟩
    · refine (within (hB.2 m hm).1).mono ?_
      rintro _ _ ⟨rfl, rfl⟩
      simp -dsimp only [po_nx, po_rt, po_bk, po_ct, fr_env, fr_st, w_ok, w_bind, w_of, w_some, w_var, w_slv, w_slo, w_c, w_op, w_un, w_cmp2, w_cmpP, w_ecmpP, w_inP, w_einP, w_ecmp, w_val, w_asB, w_no, w_an, w_or, w_tY, w_ean, w_eor, w_eno, w_eif, w_nil, w_cons, w_consO, w_tup, w_lst, w_pOf, w_pSl, w_slLv, w_slLo, w_rd, w_rd2, w_trd, w_atd, w_atl, w_atv, w_ato, w_pNo, w_asI, w_pSo, w_sl, w_slL, w_cb, w_put, w_mt, w_m1, w_asS, w_seqI, w_rng1, w_rng2, w_range, w_call, w_nx, w_seq, w_asg, w_gN, w_asgO, w_asgH, w_par, w_drop, w_ret, w_retN, w_if, w_brk, w_ct, w_set, w_for, List.getElem?_cons_zero, List.getElem?_cons_succ, List.set_cons_zero, List.set_cons_succ, List.map_cons, List.map_nil, List.cons_append, List.nil_append, List.replicate_succ, List.replicate_zero, setAll, dr_int, dr_str, dr_bl, dr_non, dr_tup, dr_lst, dr_scr, dr_dK, dr_h0, put_sl, put_h, put_own, put_vh, k_add, k_sub, k_mul, k_div, k_mod, k_pow, k_abs, k_neg, k_lt, k_le, k_gt, k_ge, k_cat, k_catT, k_catL, k_lenL, k_lenT, k_lenF, k_lenS, k_listL, k_listT, k_listF, k_tupL, k_tupT, k_slL, k_slT, k_slF, k_slS, sq_l, sq_t, sq_f, k_min, k_max, ok_app, isL_l, k_isB, k_isnB, k_eqI, k_neI, k_eqB, k_neB, k_eqS, k_neS, sq_tS, sq_lS, dr_tS, dr_lS, wi_nil, wi_cons, no_eq, no_1, no_2, k_lenT', k_lenL', List.all_cons, List.all_nil, Bool.and_true, Bool.and_self, k_inT, k_ninT, k_inL, k_ninL, List.length_cons, List.length_nil, sizeLine_eq, Nat.reduceAdd, Nat.reduceLeDiff, Nat.reduceLT, if_true, if_false, Bool.false_eq_true, Bool.not_true, Bool.not_false, ite_self, implies_true, k_all, k_any, filter_true, true_and, and_true, decide_eq_true_eq]
    · refine lc_pure O tS (fun _ => true) (fun m => .bl (sub x m)) ?_
      simp -dsimp only [po_nx, po_rt, po_bk, po_ct, fr_env, fr_st, w_ok, w_bind, w_of, w_some, w_var, w_slv, w_slo, w_c, w_op, w_un, w_cmp2, w_cmpP, w_ecmpP, w_inP, w_einP, w_ecmp, w_val, w_asB, w_no, w_an, w_or, w_tY, w_ean, w_eor, w_eno, w_eif, w_nil, w_cons, w_consO, w_tup, w_lst, w_pOf, w_pSl, w_slLv, w_slLo, w_rd, w_rd2, w_trd, w_atd, w_atl, w_atv, w_ato, w_pNo, w_asI, w_pSo, w_sl, w_slL, w_cb, w_put, w_mt, w_m1, w_asS, w_seqI, w_rng1, w_rng2, w_range, w_call, w_nx, w_seq, w_asg, w_gN, w_asgO, w_asgH, w_par, w_drop, w_ret, w_retN, w_if, w_brk, w_ct, w_set, w_for, List.getElem?_cons_zero, List.getElem?_cons_succ, List.set_cons_zero, List.set_cons_succ, List.map_cons, List.map_nil, List.cons_append, List.nil_append, List.replicate_succ, List.replicate_zero, setAll, dr_int, dr_str, dr_bl, dr_non, dr_tup, dr_lst, dr_scr, dr_dK, dr_h0, put_sl, put_h, put_own, put_vh, k_add, k_sub, k_mul, k_div, k_mod, k_pow, k_abs, k_neg, k_lt, k_le, k_gt, k_ge, k_cat, k_catT, k_catL, k_lenL, k_lenT, k_lenF, k_lenS, k_listL, k_listT, k_listF, k_tupL, k_tupT, k_slL, k_slT, k_slF, k_slS, sq_l, sq_t, sq_f, k_min, k_max, ok_app, isL_l, k_isB, k_isnB, k_eqI, k_neI, k_eqB, k_neB, k_eqS, k_neS, sq_tS, sq_lS, dr_tS, dr_lS, wi_nil, wi_cons, no_eq, no_1, no_2, k_lenT', k_lenL', List.all_cons, List.all_nil, Bool.and_true, Bool.and_self, k_inT, k_ninT, k_inL, k_ninL, List.length_cons, List.length_nil, sizeLine_eq, Nat.reduceAdd, Nat.reduceLeDiff, Nat.reduceLT, if_true, if_false, Bool.false_eq_true, Bool.not_true, Bool.not_false, ite_self, implies_true, k_all, k_any, filter_true, true_and, and_true, decide_eq_true_eq]
      refine ⟨by rw [← sizeLine_eq]; exact hO.1, fun m hm => ?_, ?_⟩
      · refine (within xs).mono ?_
        rintro _ _ ⟨rfl, rfl⟩
        simp -dsimp only [po_nx, po_rt, po_bk, po_ct, fr_env, fr_st, w_ok, w_bind, w_of, w_some, w_var, w_slv, w_slo, w_c, w_op, w_un, w_cmp2, w_cmpP, w_ecmpP, w_inP, w_einP, w_ecmp, w_val, w_asB, w_no, w_an, w_or, w_tY, w_ean, w_eor, w_eno, w_eif, w_nil, w_cons, w_consO, w_tup, w_lst, w_pOf, w_pSl, w_slLv, w_slLo, w_rd, w_rd2, w_trd, w_atd, w_atl, w_atv, w_ato, w_pNo, w_asI, w_pSo, w_sl, w_slL, w_cb, w_put, w_mt, w_m1, w_asS, w_seqI, w_rng1, w_rng2, w_range, w_call, w_nx, w_seq, w_asg, w_gN, w_asgO, w_asgH, w_par, w_drop, w_ret, w_retN, w_if, w_brk, w_ct, w_set, w_for, List.getElem?_cons_zero, List.getElem?_cons_succ, List.set_cons_zero, List.set_cons_succ, List.map_cons, List.map_nil, List.cons_append, List.nil_append, List.replicate_succ, List.replicate_zero, setAll, dr_int, dr_str, dr_bl, dr_non, dr_tup, dr_lst, dr_scr, dr_dK, dr_h0, put_sl, put_h, put_own, put_vh, k_add, k_sub, k_mul, k_div, k_mod, k_pow, k_abs, k_neg, k_lt, k_le, k_gt, k_ge, k_cat, k_catT, k_catL, k_lenL, k_lenT, k_lenF, k_lenS, k_listL, k_listT, k_listF, k_tupL, k_tupT, k_slL, k_slT, k_slF, k_slS, sq_l, sq_t, sq_f, k_min, k_max, ok_app, isL_l, k_isB, k_isnB, k_eqI, k_neI, k_eqB, k_neB, k_eqS, k_neS, sq_tS, sq_lS, dr_tS, dr_lS, wi_nil, wi_cons, no_eq, no_1, no_2, k_lenT', k_lenL', List.all_cons, List.all_nil, Bool.and_true, Bool.and_self, k_inT, k_ninT, k_inL, k_ninL, List.length_cons, List.length_nil, sizeLine_eq, Nat.reduceAdd, Nat.reduceLeDiff, Nat.reduceLT, if_true, if_false, Bool.false_eq_true, Bool.not_true, Bool.not_false, ite_self, implies_true, k_all, k_any, filter_true, true_and, and_true, decide_eq_true_eq]
      · have e : (pw ns).take (i + 1) = (pw ns).take i ++ [x] := by rw [List.take_add_one, hx]; rfl
        by_cases q : up B x = dn O x
        · rw [if_pos (show (B.any fun m => sub m x) = O.any (sub x) from q)]
          congr 1
          refine (Bool.eq_false_iff.mpr fun z => ?_).symm
          have := List.all_eq_true.mp z x hm
          rw [q] at this
          simp at this
        · rw [if_neg (show ¬ (B.any fun m => sub m x) = O.any (sub x) from q)]
          refine ⟨fun y hy => ?_, _, _, rfl⟩
          rw [e] at hy
          rcases List.mem_append.mp hy with hy | hy
          · exact all y hy
          · rw [List.mem_singleton.mp hy]
            simpa using q
  · rintro s ⟨all, s1, s2, rfl⟩
    simp -dsimp only [po_nx, po_rt, po_bk, po_ct, fr_env, fr_st, w_ok, w_bind, w_of, w_some, w_var, w_slv, w_slo, w_c, w_op, w_un, w_cmp2, w_cmpP, w_ecmpP, w_inP, w_einP, w_ecmp, w_val, w_asB, w_no, w_an, w_or, w_tY, w_ean, w_eor, w_eno, w_eif, w_nil, w_cons, w_consO, w_tup, w_lst, w_pOf, w_pSl, w_slLv, w_slLo, w_rd, w_rd2, w_trd, w_atd, w_atl, w_atv, w_ato, w_pNo, w_asI, w_pSo, w_sl, w_slL, w_cb, w_put, w_mt, w_m1, w_asS, w_seqI, w_rng1, w_rng2, w_range, w_call, w_nx, w_seq, w_asg, w_gN, w_asgO, w_asgH, w_par, w_drop, w_ret, w_retN, w_if, w_brk, w_ct, w_set, w_for, List.getElem?_cons_zero, List.getElem?_cons_succ, List.set_cons_zero, List.set_cons_succ, List.map_cons, List.map_nil, List.cons_append, List.nil_append, List.replicate_succ, List.replicate_zero, setAll, dr_int, dr_str, dr_bl, dr_non, dr_tup, dr_lst, dr_scr, dr_dK, dr_h0, put_sl, put_h, put_own, put_vh, k_add, k_sub, k_mul, k_div, k_mod, k_pow, k_abs, k_neg, k_lt, k_le, k_gt, k_ge, k_cat, k_catT, k_catL, k_lenL, k_lenT, k_lenF, k_lenS, k_listL, k_listT, k_listF, k_tupL, k_tupT, k_slL, k_slT, k_slF, k_slS, sq_l, sq_t, sq_f, k_min, k_max, ok_app, isL_l, k_isB, k_isnB, k_eqI, k_neI, k_eqB, k_neB, k_eqS, k_neS, sq_tS, sq_lS, dr_tS, dr_lS, wi_nil, wi_cons, no_eq, no_1, no_2, k_lenT', k_lenL', List.all_cons, List.all_nil, Bool.and_true, Bool.and_self, k_inT, k_ninT, k_inL, k_ninL, List.length_cons, List.length_nil, sizeLine_eq, Nat.reduceAdd, Nat.reduceLeDiff, Nat.reduceLT, if_true, if_false, Bool.false_eq_true, Bool.not_true, Bool.not_false, ite_self, implies_true, k_all, k_any, filter_true, true_and, and_true, decide_eq_true_eq]
    congr 1
    rw [List.length_map, List.take_length] at all
    exact (List.all_eq_true.mpr all).symm
theorem is_decided {nd : D} (hd : nd = lS ns ∨ nd = tS ns) (hn : ns.length ≤ 10) (kn : Oks ns) (hB : Short B) (hO : Short O) : OkG (G_law_is_decided [nd, .lst (B.map tS), .lst (O.map tS)] st) fun d st' => d = .bl (dec ns B O) ∧ st = st' := by
  refine g_mk rfl ?_
  unfold F_law_is_decided
  simp -dsimp only [po_nx, po_rt, po_bk, po_ct, fr_env, fr_st, w_ok, w_bind, w_of, w_some, w_var, w_slv, w_slo, w_c, w_op, w_un, w_cmp2, w_cmpP, w_ecmpP, w_inP, w_einP, w_ecmp, w_val, w_asB, w_no, w_an, w_or, w_tY, w_ean, w_eor, w_eno, w_eif, w_nil, w_cons, w_consO, w_tup, w_lst, w_pOf, w_pSl, w_slLv, w_slLo, w_rd, w_rd2, w_trd, w_atd, w_atl, w_atv, w_ato, w_pNo, w_asI, w_pSo, w_sl, w_slL, w_cb, w_put, w_mt, w_m1, w_asS, w_seqI, w_rng1, w_rng2, w_range, w_call, w_nx, w_seq, w_asg, w_gN, w_asgO, w_asgH, w_par, w_drop, w_ret, w_retN, w_if, w_brk, w_ct, w_set, w_for, List.getElem?_cons_zero, List.getElem?_cons_succ, List.set_cons_zero, List.set_cons_succ, List.map_cons, List.map_nil, List.cons_append, List.nil_append, List.replicate_succ, List.replicate_zero, setAll, dr_int, dr_str, dr_bl, dr_non, dr_tup, dr_lst, dr_scr, dr_dK, dr_h0, put_sl, put_h, put_own, put_vh, k_add, k_sub, k_mul, k_div, k_mod, k_pow, k_abs, k_neg, k_lt, k_le, k_gt, k_ge, k_cat, k_catT, k_catL, k_lenL, k_lenT, k_lenF, k_lenS, k_listL, k_listT, k_listF, k_tupL, k_tupT, k_slL, k_slT, k_slF, k_slS, sq_l, sq_t, sq_f, k_min, k_max, ok_app, isL_l, k_isB, k_isnB, k_eqI, k_neI, k_eqB, k_neB, k_eqS, k_neS, sq_tS, sq_lS, dr_tS, dr_lS, wi_nil, wi_cons, no_eq, no_1, no_2, k_lenT', k_lenL', List.all_cons, List.all_nil, Bool.and_true, Bool.and_self, k_inT, k_ninT, k_inL, k_ninL, List.length_cons, List.length_nil, sizeLine_eq, Nat.reduceAdd, Nat.reduceLeDiff, Nat.reduceLT, if_true, if_false, Bool.false_eq_true, Bool.not_true, Bool.not_false, ite_self, implies_true, k_all, k_any, filter_true, true_and, and_true, decide_eq_true_eq]
  refine (sets_of hd hn).mono ?_
  rintro _ _ ⟨rfl, rfl⟩
  simp -dsimp only [po_nx, po_rt, po_bk, po_ct, fr_env, fr_st, w_ok, w_bind, w_of, w_some, w_var, w_slv, w_slo, w_c, w_op, w_un, w_cmp2, w_cmpP, w_ecmpP, w_inP, w_einP, w_ecmp, w_val, w_asB, w_no, w_an, w_or, w_tY, w_ean, w_eor, w_eno, w_eif, w_nil, w_cons, w_consO, w_tup, w_lst, w_pOf, w_pSl, w_slLv, w_slLo, w_rd, w_rd2, w_trd, w_atd, w_atl, w_atv, w_ato, w_pNo, w_asI, w_pSo, w_sl, w_slL, w_cb, w_put, w_mt, w_m1, w_asS, w_seqI, w_rng1, w_rng2, w_range, w_call, w_nx, w_seq, w_asg, w_gN, w_asgO, w_asgH, w_par, w_drop, w_ret, w_retN, w_if, w_brk, w_ct, w_set, w_for, List.getElem?_cons_zero, List.getElem?_cons_succ, List.set_cons_zero, List.set_cons_succ, List.map_cons, List.map_nil, List.cons_append, List.nil_append, List.replicate_succ, List.replicate_zero, setAll, dr_int, dr_str, dr_bl, dr_non, dr_tup, dr_lst, dr_scr, dr_dK, dr_h0, put_sl, put_h, put_own, put_vh, k_add, k_sub, k_mul, k_div, k_mod, k_pow, k_abs, k_neg, k_lt, k_le, k_gt, k_ge, k_cat, k_catT, k_catL, k_lenL, k_lenT, k_lenF, k_lenS, k_listL, k_listT, k_listF, k_tupL, k_tupT, k_slL, k_slT, k_slF, k_slS, sq_l, sq_t, sq_f, k_min, k_max, ok_app, isL_l, k_isB, k_isnB, k_eqI, k_neI, k_eqB, k_neB, k_eqS, k_neS, sq_tS, sq_lS, dr_tS, dr_lS, wi_nil, wi_cons, no_eq, no_1, no_2, k_lenT', k_lenL', List.all_cons, List.all_nil, Bool.and_true, Bool.and_self, k_inT, k_ninT, k_inL, k_ninL, List.length_cons, List.length_nil, sizeLine_eq, Nat.reduceAdd, Nat.reduceLeDiff, Nat.reduceLT, if_true, if_false, Bool.false_eq_true, Bool.not_true, Bool.not_false, ite_self, implies_true, k_all, k_any, filter_true, true_and, and_true, decide_eq_true_eq]
  refine for_inv (fun i s => (∀ x ∈ (pw ns).take i, (up B x != dn O x) = true) ∧ ∃ s1 s2, s = ⟨[.val nd, .val (.lst (B.map tS)), .val (.lst (O.map tS)), s1, s2, .no], st⟩) ⟨by simp, _, _, rfl⟩ ?_ ?_
  · rintro i d s hi ⟨all, s1, s2, rfl⟩
    rw [List.getElem?_map] at hi
    obtain ⟨x, hx, rfl⟩ := Option.map_eq_some_iff.mp hi
    have hm := List.mem_of_getElem? hx
    have xs : x.length ≤ sizeLine := by have := pw_size hm; rw [sizeLine_eq]; omega
    have xo : Oks x := fun y hy => kn y (pw_in hm hy)
    simp -dsimp only [po_nx, po_rt, po_bk, po_ct, fr_env, fr_st, w_ok, w_bind, w_of, w_some, w_var, w_slv, w_slo, w_c, w_op, w_un, w_cmp2, w_cmpP, w_ecmpP, w_inP, w_einP, w_ecmp, w_val, w_asB, w_no, w_an, w_or, w_tY, w_ean, w_eor, w_eno, w_eif, w_nil, w_cons, w_consO, w_tup, w_lst, w_pOf, w_pSl, w_slLv, w_slLo, w_rd, w_rd2, w_trd, w_atd, w_atl, w_atv, w_ato, w_pNo, w_asI, w_pSo, w_sl, w_slL, w_cb, w_put, w_mt, w_m1, w_asS, w_seqI, w_rng1, w_rng2, w_range, w_call, w_nx, w_seq, w_asg, w_gN, w_asgO, w_asgH, w_par, w_drop, w_ret, w_retN, w_if, w_brk, w_ct, w_set, w_for, List.getElem?_cons_zero, List.getElem?_cons_succ, List.set_cons_zero, List.set_cons_succ, List.map_cons, List.map_nil, List.cons_append, List.nil_append, List.replicate_succ, List.replicate_zero, setAll, dr_int, dr_str, dr_bl, dr_non, dr_tup, dr_lst, dr_scr, dr_dK, dr_h0, put_sl, put_h, put_own, put_vh, k_add, k_sub, k_mul, k_div, k_mod, k_pow, k_abs, k_neg, k_lt, k_le, k_gt, k_ge, k_cat, k_catT, k_catL, k_lenL, k_lenT, k_lenF, k_lenS, k_listL, k_listT, k_listF, k_tupL, k_tupT, k_slL, k_slT, k_slF, k_slS, sq_l, sq_t, sq_f, k_min, k_max, ok_app, isL_l, k_isB, k_isnB, k_eqI, k_neI, k_eqB, k_neB, k_eqS, k_neS, sq_tS, sq_lS, dr_tS, dr_lS, wi_nil, wi_cons, no_eq, no_1, no_2, k_lenT', k_lenL', List.all_cons, List.all_nil, Bool.and_true, Bool.and_self, k_inT, k_ninT, k_inL, k_ninL, List.length_cons, List.length_nil, sizeLine_eq, Nat.reduceAdd, Nat.reduceLeDiff, Nat.reduceLT, if_true, if_false, Bool.false_eq_true, Bool.not_true, Bool.not_false, ite_self, implies_true, k_all, k_any, filter_true, true_and, and_true, decide_eq_true_eq]
    refine lc_pure B tS (fun m => sub m x) tS ?_
    simp -dsimp only [po_nx, po_rt, po_bk, po_ct, fr_env, fr_st, w_ok, w_bind, w_of, w_some, w_var, w_slv, w_slo, w_c, w_op, w_un, w_cmp2, w_cmpP, w_ecmpP, w_inP, w_einP, w_ecmp, w_val, w_asB, w_no, w_an, w_or, w_tY, w_ean, w_eor, w_eno, w_eif, w_nil, w_cons, w_consO, w_tup, w_lst, w_pOf, w_pSl, w_slLv, w_slLo, w_rd, w_rd2, w_trd, w_atd, w_atl, w_atv, w_ato, w_pNo, w_asI, w_pSo, w_sl, w_slL, w_cb, w_put, w_mt, w_m1, w_asS, w_seqI, w_rng1, w_rng2, w_range, w_call, w_nx, w_seq, w_asg, w_gN, w_asgO, w_asgH, w_par, w_drop, w_ret, w_retN, w_if, w_brk, w_ct, w_set, w_for, List.getElem?_cons_zero, List.getElem?_cons_succ, List.set_cons_zero, List.set_cons_succ, List.map_cons, List.map_nil, List.cons_append, List.nil_append, List.replicate_succ, List.replicate_zero, setAll, dr_int, dr_str, dr_bl, dr_non, dr_tup, dr_lst, dr_scr, dr_dK, dr_h0, put_sl, put_h, put_own, put_vh, k_add, k_sub, k_mul, k_div, k_mod, k_pow, k_abs, k_neg, k_lt, k_le, k_gt, k_ge, k_cat, k_catT, k_catL, k_lenL, k_lenT, k_lenF, k_lenS, k_listL, k_listT, k_listF, k_tupL, k_tupT, k_slL, k_slT, k_slF, k_slS, sq_l, sq_t, sq_f, k_min, k_max, ok_app, isL_l, k_isB, k_isnB, k_eqI, k_neI, k_eqB, k_neB, k_eqS, k_neS, sq_tS, sq_lS, dr_tS, dr_lS, wi_nil, wi_cons, no_eq, no_1, no_2, k_lenT', k_lenL', List.all_cons, List.all_nil, Bool.and_true, Bool.and_self, k_inT, k_ninT, k_inL, k_ninL, List.length_cons, List.length_nil, sizeLine_eq, Nat.reduceAdd, Nat.reduceLeDiff, Nat.reduceLT, if_true, if_false, Bool.false_eq_true, Bool.not_true, Bool.not_false, ite_self, implies_true, k_all, k_any, filter_true, true_and, and_true, decide_eq_true_eq]
    refine ⟨by rw [← sizeLine_eq]; exact hB.1, fun m hm => ?_, ?_⟩
    · refine (lies (hB.2 m hm).2 (hB.2 m hm).1).mono ?_
      rintro _ _ ⟨rfl, rfl⟩
      simp -dsimp only [po_nx, po_rt, po_bk, po_ct, fr_env, fr_st, w_ok, w_bind, w_of, w_some, w_var, w_slv, w_slo, w_c, w_op, w_un, w_cmp2, w_cmpP, w_ecmpP, w_inP, w_einP, w_ecmp, w_val, w_asB, w_no, w_an, w_or, w_tY, w_ean, w_eor, w_eno, w_eif, w_nil, w_cons, w_consO, w_tup, w_lst, w_pOf, w_pSl, w_slLv, w_slLo, w_rd, w_rd2, w_trd, w_atd, w_atl, w_atv, w_ato, w_pNo, w_asI, w_pSo, w_sl, w_slL, w_cb, w_put, w_mt, w_m1, w_asS, w_seqI, w_rng1, w_rng2, w_range, w_call, w_nx, w_seq, w_asg, w_gN, w_asgO, w_asgH, w_par, w_drop, w_ret, w_retN, w_if, w_brk, w_ct, w_set, w_for, List.getElem?_cons_zero, List.getElem?_cons_succ, List.set_cons_zero, List.set_cons_succ, List.map_cons, List.map_nil, List.cons_append, List.nil_append, List.replicate_succ, List.replicate_zero, setAll, dr_int, dr_str, dr_bl, dr_non, dr_tup, dr_lst, dr_scr, dr_dK, dr_h0, put_sl, put_h, put_own, put_vh, k_add, k_sub, k_mul, k_div, k_mod, k_pow, k_abs, k_neg, k_lt, k_le, k_gt, k_ge, k_cat, k_catT, k_catL, k_lenL, k_lenT, k_lenF, k_lenS, k_listL, k_listT, k_listF, k_tupL, k_tupT, k_slL, k_slT, k_slF, k_slS, sq_l, sq_t, sq_f, k_min, k_max, ok_app, isL_l, k_isB, k_isnB, k_eqI, k_neI, k_eqB, k_neB, k_eqS, k_neS, sq_tS, sq_lS, dr_tS, dr_lS, wi_nil, wi_cons, no_eq, no_1, no_2, k_lenT', k_lenL', List.all_cons, List.all_nil, Bool.and_true, Bool.and_self, k_inT, k_ninT, k_inL, k_ninL, List.length_cons, List.length_nil, sizeLine_eq, Nat.reduceAdd, Nat.reduceLeDiff, Nat.reduceLT, if_true, if_false, Bool.false_eq_true, Bool.not_true, Bool.not_false, ite_self, implies_true, k_all, k_any, filter_true, true_and, and_true, decide_eq_true_eq]
    · rw [k_neN (n := 2) (by omega) (LL_lay fun m hm => (hB.2 m (List.mem_filter.mp hm).1).2)]
      try simp -dsimp only [po_nx, po_rt, po_bk, po_ct, fr_env, fr_st, w_ok, w_bind, w_of, w_some, w_var, w_slv, w_slo, w_c, w_op, w_un, w_cmp2, w_cmpP, w_ecmpP, w_inP, w_einP, w_ecmp, w_val, w_asB, w_no, w_an, w_or, w_tY, w_ean, w_eor, w_eno, w_eif, w_nil, w_cons, w_consO, w_tup, w_lst, w_pOf, w_pSl, w_slLv, w_slLo, w_rd, w_rd2, w_trd, w_atd, w_atl, w_atv, w_ato, w_pNo, w_asI, w_pSo, w_sl, w_slL, w_cb, w_put, w_mt, w_m1, w_asS, w_seqI, w_rng1, w_rng2, w_range, w_call, w_nx, w_seq, w_asg, w_gN, w_asgO, w_asgH, w_par, w_drop, w_ret, w_retN, w_if, w_brk, w_ct, w_set, w_for, List.getElem?_cons_zero, List.getElem?_cons_succ, List.set_cons_zero, List.set_cons_succ, List.map_cons, List.map_nil, List.cons_append, List.nil_append, List.replicate_succ, List.replicate_zero, setAll, dr_int, dr_str, dr_bl, dr_non, dr_tup, dr_lst, dr_scr, dr_dK, dr_h0, put_sl, put_h, put_own, put_vh, k_add, k_sub, k_mul, k_div, k_mod, k_pow, k_abs, k_neg, k_lt, k_le, k_gt, k_ge, k_cat, k_catT, k_catL, k_lenL, k_lenT, k_lenF, k_lenS, k_listL, k_listT, k_listF, k_tupL, k_tupT, k_slL, k_slT, k_slF, k_slS, sq_l, sq_t, sq_f, k_min, k_max, ok_app, isL_l, k_isB, k_isnB, k_eqI, k_neI, k_eqB, k_neB, k_eqS, k_neS, sq_tS, sq_lS, dr_tS, dr_lS, wi_nil, wi_cons, no_eq, no_1, no_2, k_lenT', k_lenL', List.all_cons, List.all_nil, Bool.and_true, Bool.and_self, k_inT, k_ninT, k_inL, k_ninL, List.length_cons, List.length_nil, sizeLine_eq, Nat.reduceAdd, Nat.reduceLeDiff, Nat.reduceLT, if_true, if_false, Bool.false_eq_true, Bool.not_true, Bool.not_false, ite_self, implies_true, k_all, k_any, filter_true, true_and, and_true, decide_eq_true_eq]
      refine lc_pure O tS (fun m => sub x m) tS ?_
      simp -dsimp only [po_nx, po_rt, po_bk, po_ct, fr_env, fr_st, w_ok, w_bind, w_of, w_some, w_var, w_slv, w_slo, w_c, w_op, w_un, w_cmp2, w_cmpP, w_ecmpP, w_inP, w_einP, w_ecmp, w_val, w_asB, w_no, w_an, w_or, w_tY, w_ean, w_eor, w_eno, w_eif, w_nil, w_cons, w_consO, w_tup, w_lst, w_pOf, w_pSl, w_slLv, w_slLo, w_rd, w_rd2, w_trd, w_atd, w_atl, w_atv, w_ato, w_pNo, w_asI, w_pSo, w_sl, w_slL, w_cb, w_put, w_mt, w_m1, w_asS, w_seqI, w_rng1, w_rng2, w_range, w_call, w_nx, w_seq, w_asg, w_gN, w_asgO, w_asgH, w_par, w_drop, w_ret, w_retN, w_if, w_brk, w_ct, w_set, w_for, List.getElem?_cons_zero, List.getElem?_cons_succ, List.set_cons_zero, List.set_cons_succ, List.map_cons, List.map_nil, List.cons_append, List.nil_append, List.replicate_succ, List.replicate_zero, setAll, dr_int, dr_str, dr_bl, dr_non, dr_tup, dr_lst, dr_scr, dr_dK, dr_h0, put_sl, put_h, put_own, put_vh, k_add, k_sub, k_mul, k_div, k_mod, k_pow, k_abs, k_neg, k_lt, k_le, k_gt, k_ge, k_cat, k_catT, k_catL, k_lenL, k_lenT, k_lenF, k_lenS, k_listL, k_listT, k_listF, k_tupL, k_tupT, k_slL, k_slT, k_slF, k_slS, sq_l, sq_t, sq_f, k_min, k_max, ok_app, isL_l, k_isB, k_isnB, k_eqI, k_neI, k_eqB, k_neB, k_eqS, k_neS, sq_tS, sq_lS, dr_tS, dr_lS, wi_nil, wi_cons, no_eq, no_1, no_2, k_lenT', k_lenL', List.all_cons, List.all_nil, Bool.and_true, Bool.and_self, k_inT, k_ninT, k_inL, k_ninL, List.length_cons, List.length_nil, sizeLine_eq, Nat.reduceAdd, Nat.reduceLeDiff, Nat.reduceLT, if_true, if_false, Bool.false_eq_true, Bool.not_true, Bool.not_false, ite_self, implies_true, k_all, k_any, filter_true, true_and, and_true, decide_eq_true_eq]
      refine ⟨by rw [← sizeLine_eq]; exact hO.1, fun m hm => ?_, ?_⟩
      · refine (lies xo xs).mono ?_
        rintro _ _ ⟨rfl, rfl⟩
        simp -dsimp only [po_nx, po_rt, po_bk, po_ct, fr_env, fr_st, w_ok, w_bind, w_of, w_some, w_var, w_slv, w_slo, w_c, w_op, w_un, w_cmp2, w_cmpP, w_ecmpP, w_inP, w_einP, w_ecmp, w_val, w_asB, w_no, w_an, w_or, w_tY, w_ean, w_eor, w_eno, w_eif, w_nil, w_cons, w_consO, w_tup, w_lst, w_pOf, w_pSl, w_slLv, w_slLo, w_rd, w_rd2, w_trd, w_atd, w_atl, w_atv, w_ato, w_pNo, w_asI, w_pSo, w_sl, w_slL, w_cb, w_put, w_mt, w_m1, w_asS, w_seqI, w_rng1, w_rng2, w_range, w_call, w_nx, w_seq, w_asg, w_gN, w_asgO, w_asgH, w_par, w_drop, w_ret, w_retN, w_if, w_brk, w_ct, w_set, w_for, List.getElem?_cons_zero, List.getElem?_cons_succ, List.set_cons_zero, List.set_cons_succ, List.map_cons, List.map_nil, List.cons_append, List.nil_append, List.replicate_succ, List.replicate_zero, setAll, dr_int, dr_str, dr_bl, dr_non, dr_tup, dr_lst, dr_scr, dr_dK, dr_h0, put_sl, put_h, put_own, put_vh, k_add, k_sub, k_mul, k_div, k_mod, k_pow, k_abs, k_neg, k_lt, k_le, k_gt, k_ge, k_cat, k_catT, k_catL, k_lenL, k_lenT, k_lenF, k_lenS, k_listL, k_listT, k_listF, k_tupL, k_tupT, k_slL, k_slT, k_slF, k_slS, sq_l, sq_t, sq_f, k_min, k_max, ok_app, isL_l, k_isB, k_isnB, k_eqI, k_neI, k_eqB, k_neB, k_eqS, k_neS, sq_tS, sq_lS, dr_tS, dr_lS, wi_nil, wi_cons, no_eq, no_1, no_2, k_lenT', k_lenL', List.all_cons, List.all_nil, Bool.and_true, Bool.and_self, k_inT, k_ninT, k_inL, k_ninL, List.length_cons, List.length_nil, sizeLine_eq, Nat.reduceAdd, Nat.reduceLeDiff, Nat.reduceLT, if_true, if_false, Bool.false_eq_true, Bool.not_true, Bool.not_false, ite_self, implies_true, k_all, k_any, filter_true, true_and, and_true, decide_eq_true_eq]
      · have e : (pw ns).take (i + 1) = (pw ns).take i ++ [x] := by rw [List.take_add_one, hx]; rfl
        have eu : (!((B.filter fun m => sub m x).map tS).isEmpty) = up B x := by
          rw [List.isEmpty_map, Bool.eq_iff_iff, Bool.not_eq_true', ← Bool.not_eq_true, List.isEmpty_iff, List.filter_eq_nil_iff]
          unfold up
          rw [List.any_eq_true]
          simp
        have ed : (!((O.filter fun m => sub x m).map tS).isEmpty) = dn O x := by
          rw [List.isEmpty_map, Bool.eq_iff_iff, Bool.not_eq_true', ← Bool.not_eq_true, List.isEmpty_iff, List.filter_eq_nil_iff]
          unfold dn
          rw [List.any_eq_true]
          simp
        rw [k_neN (n := 2) (by omega) (LL_lay fun m hm => (hO.2 m (List.mem_filter.mp hm).1).2)]
        rw [eu, ed]
        try simp -dsimp only [po_nx, po_rt, po_bk, po_ct, fr_env, fr_st, w_ok, w_bind, w_of, w_some, w_var, w_slv, w_slo, w_c, w_op, w_un, w_cmp2, w_cmpP, w_ecmpP, w_inP, w_einP, w_ecmp, w_val, w_asB, w_no, w_an, w_or, w_tY, w_ean, w_eor, w_eno, w_eif, w_nil, w_cons, w_consO, w_tup, w_lst, w_pOf, w_pSl, w_slLv, w_slLo, w_rd, w_rd2, w_trd, w_atd, w_atl, w_atv, w_ato, w_pNo, w_asI, w_pSo, w_sl, w_slL, w_cb, w_put, w_mt, w_m1, w_asS, w_seqI, w_rng1, w_rng2, w_range, w_call, w_nx, w_seq, w_asg, w_gN, w_asgO, w_asgH, w_par, w_drop, w_ret, w_retN, w_if, w_brk, w_ct, w_set, w_for, List.getElem?_cons_zero, List.getElem?_cons_succ, List.set_cons_zero, List.set_cons_succ, List.map_cons, List.map_nil, List.cons_append, List.nil_append, List.replicate_succ, List.replicate_zero, setAll, dr_int, dr_str, dr_bl, dr_non, dr_tup, dr_lst, dr_scr, dr_dK, dr_h0, put_sl, put_h, put_own, put_vh, k_add, k_sub, k_mul, k_div, k_mod, k_pow, k_abs, k_neg, k_lt, k_le, k_gt, k_ge, k_cat, k_catT, k_catL, k_lenL, k_lenT, k_lenF, k_lenS, k_listL, k_listT, k_listF, k_tupL, k_tupT, k_slL, k_slT, k_slF, k_slS, sq_l, sq_t, sq_f, k_min, k_max, ok_app, isL_l, k_isB, k_isnB, k_eqI, k_neI, k_eqB, k_neB, k_eqS, k_neS, sq_tS, sq_lS, dr_tS, dr_lS, wi_nil, wi_cons, no_eq, no_1, no_2, k_lenT', k_lenL', List.all_cons, List.all_nil, Bool.and_true, Bool.and_self, k_inT, k_ninT, k_inL, k_ninL, List.length_cons, List.length_nil, sizeLine_eq, Nat.reduceAdd, Nat.reduceLeDiff, Nat.reduceLT, if_true, if_false, Bool.false_eq_true, Bool.not_true, Bool.not_false, ite_self, implies_true, k_all, k_any, filter_true, true_and, and_true, decide_eq_true_eq]
        by_cases q : up B x = dn O x
        · rw [if_pos q]
          congr 1
          refine (Bool.eq_false_iff.mpr fun z => ?_).symm
          have := List.all_eq_true.mp z x hm
          rw [q] at this
          simp at this
        · rw [if_neg q]
          refine ⟨fun y hy => ?_, _, _, rfl⟩
          rw [e] at hy
          rcases List.mem_append.mp hy with hy | hy
          · exact all y hy
          · rw [List.mem_singleton.mp hy]
            simpa using q
  · rintro s ⟨all, s1, s2, rfl⟩
    simp -dsimp only [po_nx, po_rt, po_bk, po_ct, fr_env, fr_st, w_ok, w_bind, w_of, w_some, w_var, w_slv, w_slo, w_c, w_op, w_un, w_cmp2, w_cmpP, w_ecmpP, w_inP, w_einP, w_ecmp, w_val, w_asB, w_no, w_an, w_or, w_tY, w_ean, w_eor, w_eno, w_eif, w_nil, w_cons, w_consO, w_tup, w_lst, w_pOf, w_pSl, w_slLv, w_slLo, w_rd, w_rd2, w_trd, w_atd, w_atl, w_atv, w_ato, w_pNo, w_asI, w_pSo, w_sl, w_slL, w_cb, w_put, w_mt, w_m1, w_asS, w_seqI, w_rng1, w_rng2, w_range, w_call, w_nx, w_seq, w_asg, w_gN, w_asgO, w_asgH, w_par, w_drop, w_ret, w_retN, w_if, w_brk, w_ct, w_set, w_for, List.getElem?_cons_zero, List.getElem?_cons_succ, List.set_cons_zero, List.set_cons_succ, List.map_cons, List.map_nil, List.cons_append, List.nil_append, List.replicate_succ, List.replicate_zero, setAll, dr_int, dr_str, dr_bl, dr_non, dr_tup, dr_lst, dr_scr, dr_dK, dr_h0, put_sl, put_h, put_own, put_vh, k_add, k_sub, k_mul, k_div, k_mod, k_pow, k_abs, k_neg, k_lt, k_le, k_gt, k_ge, k_cat, k_catT, k_catL, k_lenL, k_lenT, k_lenF, k_lenS, k_listL, k_listT, k_listF, k_tupL, k_tupT, k_slL, k_slT, k_slF, k_slS, sq_l, sq_t, sq_f, k_min, k_max, ok_app, isL_l, k_isB, k_isnB, k_eqI, k_neI, k_eqB, k_neB, k_eqS, k_neS, sq_tS, sq_lS, dr_tS, dr_lS, wi_nil, wi_cons, no_eq, no_1, no_2, k_lenT', k_lenL', List.all_cons, List.all_nil, Bool.and_true, Bool.and_self, k_inT, k_ninT, k_inL, k_ninL, List.length_cons, List.length_nil, sizeLine_eq, Nat.reduceAdd, Nat.reduceLeDiff, Nat.reduceLT, if_true, if_false, Bool.false_eq_true, Bool.not_true, Bool.not_false, ite_self, implies_true, k_all, k_any, filter_true, true_and, and_true, decide_eq_true_eq]
    congr 1
    rw [List.length_map, List.take_length] at all
    exact (List.all_eq_true.mpr all).symm
def less (S : List (List Str)) (x : List Str) : Bool := S.any fun o => !decide (o = x) && sub o x
def more (S : List (List Str)) (x : List Str) : Bool := S.any fun o => !decide (o = x) && sub x o
theorem filt {S : List (List Str)} {p : List Str → Bool} : (!((S.filter p).map tS).isEmpty) = S.any p := by
  rw [List.isEmpty_map, Bool.eq_iff_iff, Bool.not_eq_true', ← Bool.not_eq_true, List.isEmpty_iff, List.filter_eq_nil_iff, List.any_eq_true]
  simp
theorem has_less (hS : Short S) (hx : Oks x) : OkG (G_law_has_less [.lst (S.map tS), tS x] st) fun d st' => d = .bl (less S x) ∧ st = st' := by
  refine g_mk rfl ?_
  unfold F_law_has_less
  simp -dsimp only [po_nx, po_rt, po_bk, po_ct, fr_env, fr_st, w_ok, w_bind, w_of, w_some, w_var, w_slv, w_slo, w_c, w_op, w_un, w_cmp2, w_cmpP, w_ecmpP, w_inP, w_einP, w_ecmp, w_val, w_asB, w_no, w_an, w_or, w_tY, w_ean, w_eor, w_eno, w_eif, w_nil, w_cons, w_consO, w_tup, w_lst, w_pOf, w_pSl, w_slLv, w_slLo, w_rd, w_rd2, w_trd, w_atd, w_atl, w_atv, w_ato, w_pNo, w_asI, w_pSo, w_sl, w_slL, w_cb, w_put, w_mt, w_m1, w_asS, w_seqI, w_rng1, w_rng2, w_range, w_call, w_nx, w_seq, w_asg, w_gN, w_asgO, w_asgH, w_par, w_drop, w_ret, w_retN, w_if, w_brk, w_ct, w_set, w_for, List.getElem?_cons_zero, List.getElem?_cons_succ, List.set_cons_zero, List.set_cons_succ, List.map_cons, List.map_nil, List.cons_append, List.nil_append, List.replicate_succ, List.replicate_zero, setAll, dr_int, dr_str, dr_bl, dr_non, dr_tup, dr_lst, dr_scr, dr_dK, dr_h0, put_sl, put_h, put_own, put_vh, k_add, k_sub, k_mul, k_div, k_mod, k_pow, k_abs, k_neg, k_lt, k_le, k_gt, k_ge, k_cat, k_catT, k_catL, k_lenL, k_lenT, k_lenF, k_lenS, k_listL, k_listT, k_listF, k_tupL, k_tupT, k_slL, k_slT, k_slF, k_slS, sq_l, sq_t, sq_f, k_min, k_max, ok_app, isL_l, k_isB, k_isnB, k_eqI, k_neI, k_eqB, k_neB, k_eqS, k_neS, sq_tS, sq_lS, dr_tS, dr_lS, wi_nil, wi_cons, no_eq, no_1, no_2, k_lenT', k_lenL', List.all_cons, List.all_nil, Bool.and_true, Bool.and_self, k_inT, k_ninT, k_inL, k_ninL, List.length_cons, List.length_nil, sizeLine_eq, Nat.reduceAdd, Nat.reduceLeDiff, Nat.reduceLT, if_true, if_false, Bool.false_eq_true, Bool.not_true, Bool.not_false, ite_self, implies_true, k_all, k_any, filter_true, true_and, and_true, decide_eq_true_eq]
  refine lc_pure S tS (fun o => !decide (o = x) && sub o x) tS ?_
  simp -dsimp only [po_nx, po_rt, po_bk, po_ct, fr_env, fr_st, w_ok, w_bind, w_of, w_some, w_var, w_slv, w_slo, w_c, w_op, w_un, w_cmp2, w_cmpP, w_ecmpP, w_inP, w_einP, w_ecmp, w_val, w_asB, w_no, w_an, w_or, w_tY, w_ean, w_eor, w_eno, w_eif, w_nil, w_cons, w_consO, w_tup, w_lst, w_pOf, w_pSl, w_slLv, w_slLo, w_rd, w_rd2, w_trd, w_atd, w_atl, w_atv, w_ato, w_pNo, w_asI, w_pSo, w_sl, w_slL, w_cb, w_put, w_mt, w_m1, w_asS, w_seqI, w_rng1, w_rng2, w_range, w_call, w_nx, w_seq, w_asg, w_gN, w_asgO, w_asgH, w_par, w_drop, w_ret, w_retN, w_if, w_brk, w_ct, w_set, w_for, List.getElem?_cons_zero, List.getElem?_cons_succ, List.set_cons_zero, List.set_cons_succ, List.map_cons, List.map_nil, List.cons_append, List.nil_append, List.replicate_succ, List.replicate_zero, setAll, dr_int, dr_str, dr_bl, dr_non, dr_tup, dr_lst, dr_scr, dr_dK, dr_h0, put_sl, put_h, put_own, put_vh, k_add, k_sub, k_mul, k_div, k_mod, k_pow, k_abs, k_neg, k_lt, k_le, k_gt, k_ge, k_cat, k_catT, k_catL, k_lenL, k_lenT, k_lenF, k_lenS, k_listL, k_listT, k_listF, k_tupL, k_tupT, k_slL, k_slT, k_slF, k_slS, sq_l, sq_t, sq_f, k_min, k_max, ok_app, isL_l, k_isB, k_isnB, k_eqI, k_neI, k_eqB, k_neB, k_eqS, k_neS, sq_tS, sq_lS, dr_tS, dr_lS, wi_nil, wi_cons, no_eq, no_1, no_2, k_lenT', k_lenL', List.all_cons, List.all_nil, Bool.and_true, Bool.and_self, k_inT, k_ninT, k_inL, k_ninL, List.length_cons, List.length_nil, sizeLine_eq, Nat.reduceAdd, Nat.reduceLeDiff, Nat.reduceLT, if_true, if_false, Bool.false_eq_true, Bool.not_true, Bool.not_false, ite_self, implies_true, k_all, k_any, filter_true, true_and, and_true, decide_eq_true_eq]
  refine ⟨by rw [← sizeLine_eq]; exact hS.1, fun m hm => ?_, ?_⟩
  · rw [k_neT (hS.2 m hm).2 hx]
    by_cases e : m = x
    · simp [e]
      rfl
    · simp only [e, decide_false, Bool.not_false, if_true, Bool.true_and]
      try simp -dsimp only [po_nx, po_rt, po_bk, po_ct, fr_env, fr_st, w_ok, w_bind, w_of, w_some, w_var, w_slv, w_slo, w_c, w_op, w_un, w_cmp2, w_cmpP, w_ecmpP, w_inP, w_einP, w_ecmp, w_val, w_asB, w_no, w_an, w_or, w_tY, w_ean, w_eor, w_eno, w_eif, w_nil, w_cons, w_consO, w_tup, w_lst, w_pOf, w_pSl, w_slLv, w_slLo, w_rd, w_rd2, w_trd, w_atd, w_atl, w_atv, w_ato, w_pNo, w_asI, w_pSo, w_sl, w_slL, w_cb, w_put, w_mt, w_m1, w_asS, w_seqI, w_rng1, w_rng2, w_range, w_call, w_nx, w_seq, w_asg, w_gN, w_asgO, w_asgH, w_par, w_drop, w_ret, w_retN, w_if, w_brk, w_ct, w_set, w_for, List.getElem?_cons_zero, List.getElem?_cons_succ, List.set_cons_zero, List.set_cons_succ, List.map_cons, List.map_nil, List.cons_append, List.nil_append, List.replicate_succ, List.replicate_zero, setAll, dr_int, dr_str, dr_bl, dr_non, dr_tup, dr_lst, dr_scr, dr_dK, dr_h0, put_sl, put_h, put_own, put_vh, k_add, k_sub, k_mul, k_div, k_mod, k_pow, k_abs, k_neg, k_lt, k_le, k_gt, k_ge, k_cat, k_catT, k_catL, k_lenL, k_lenT, k_lenF, k_lenS, k_listL, k_listT, k_listF, k_tupL, k_tupT, k_slL, k_slT, k_slF, k_slS, sq_l, sq_t, sq_f, k_min, k_max, ok_app, isL_l, k_isB, k_isnB, k_eqI, k_neI, k_eqB, k_neB, k_eqS, k_neS, sq_tS, sq_lS, dr_tS, dr_lS, wi_nil, wi_cons, no_eq, no_1, no_2, k_lenT', k_lenL', List.all_cons, List.all_nil, Bool.and_true, Bool.and_self, k_inT, k_ninT, k_inL, k_ninL, List.length_cons, List.length_nil, sizeLine_eq, Nat.reduceAdd, Nat.reduceLeDiff, Nat.reduceLT, if_true, if_false, Bool.false_eq_true, Bool.not_true, Bool.not_false, ite_self, implies_true, k_all, k_any, filter_true, true_and, and_true, decide_eq_true_eq]
      refine (lies (hS.2 m hm).2 (hS.2 m hm).1).mono ?_
      rintro _ _ ⟨rfl, rfl⟩
      try simp -dsimp only [po_nx, po_rt, po_bk, po_ct, fr_env, fr_st, w_ok, w_bind, w_of, w_some, w_var, w_slv, w_slo, w_c, w_op, w_un, w_cmp2, w_cmpP, w_ecmpP, w_inP, w_einP, w_ecmp, w_val, w_asB, w_no, w_an, w_or, w_tY, w_ean, w_eor, w_eno, w_eif, w_nil, w_cons, w_consO, w_tup, w_lst, w_pOf, w_pSl, w_slLv, w_slLo, w_rd, w_rd2, w_trd, w_atd, w_atl, w_atv, w_ato, w_pNo, w_asI, w_pSo, w_sl, w_slL, w_cb, w_put, w_mt, w_m1, w_asS, w_seqI, w_rng1, w_rng2, w_range, w_call, w_nx, w_seq, w_asg, w_gN, w_asgO, w_asgH, w_par, w_drop, w_ret, w_retN, w_if, w_brk, w_ct, w_set, w_for, List.getElem?_cons_zero, List.getElem?_cons_succ, List.set_cons_zero, List.set_cons_succ, List.map_cons, List.map_nil, List.cons_append, List.nil_append, List.replicate_succ, List.replicate_zero, setAll, dr_int, dr_str, dr_bl, dr_non, dr_tup, dr_lst, dr_scr, dr_dK, dr_h0, put_sl, put_h, put_own, put_vh, k_add, k_sub, k_mul, k_div, k_mod, k_pow, k_abs, k_neg, k_lt, k_le, k_gt, k_ge, k_cat, k_catT, k_catL, k_lenL, k_lenT, k_lenF, k_lenS, k_listL, k_listT, k_listF, k_tupL, k_tupT, k_slL, k_slT, k_slF, k_slS, sq_l, sq_t, sq_f, k_min, k_max, ok_app, isL_l, k_isB, k_isnB, k_eqI, k_neI, k_eqB, k_neB, k_eqS, k_neS, sq_tS, sq_lS, dr_tS, dr_lS, wi_nil, wi_cons, no_eq, no_1, no_2, k_lenT', k_lenL', List.all_cons, List.all_nil, Bool.and_true, Bool.and_self, k_inT, k_ninT, k_inL, k_ninL, List.length_cons, List.length_nil, sizeLine_eq, Nat.reduceAdd, Nat.reduceLeDiff, Nat.reduceLT, if_true, if_false, Bool.false_eq_true, Bool.not_true, Bool.not_false, ite_self, implies_true, k_all, k_any, filter_true, true_and, and_true, decide_eq_true_eq]
      simp [e]
  · rw [k_neN (n := 2) (by omega) (LL_lay fun m hm => (hS.2 m (List.mem_filter.mp hm).1).2), filt]
    exact ⟨rfl, rfl⟩
theorem has_more (hS : Short S) (hx : Oks x) (lx : x.length ≤ sizeLine) : OkG (G_law_has_more [.lst (S.map tS), tS x] st) fun d st' => d = .bl (more S x) ∧ st = st' := by
  refine g_mk rfl ?_
  unfold F_law_has_more
  simp -dsimp only [po_nx, po_rt, po_bk, po_ct, fr_env, fr_st, w_ok, w_bind, w_of, w_some, w_var, w_slv, w_slo, w_c, w_op, w_un, w_cmp2, w_cmpP, w_ecmpP, w_inP, w_einP, w_ecmp, w_val, w_asB, w_no, w_an, w_or, w_tY, w_ean, w_eor, w_eno, w_eif, w_nil, w_cons, w_consO, w_tup, w_lst, w_pOf, w_pSl, w_slLv, w_slLo, w_rd, w_rd2, w_trd, w_atd, w_atl, w_atv, w_ato, w_pNo, w_asI, w_pSo, w_sl, w_slL, w_cb, w_put, w_mt, w_m1, w_asS, w_seqI, w_rng1, w_rng2, w_range, w_call, w_nx, w_seq, w_asg, w_gN, w_asgO, w_asgH, w_par, w_drop, w_ret, w_retN, w_if, w_brk, w_ct, w_set, w_for, List.getElem?_cons_zero, List.getElem?_cons_succ, List.set_cons_zero, List.set_cons_succ, List.map_cons, List.map_nil, List.cons_append, List.nil_append, List.replicate_succ, List.replicate_zero, setAll, dr_int, dr_str, dr_bl, dr_non, dr_tup, dr_lst, dr_scr, dr_dK, dr_h0, put_sl, put_h, put_own, put_vh, k_add, k_sub, k_mul, k_div, k_mod, k_pow, k_abs, k_neg, k_lt, k_le, k_gt, k_ge, k_cat, k_catT, k_catL, k_lenL, k_lenT, k_lenF, k_lenS, k_listL, k_listT, k_listF, k_tupL, k_tupT, k_slL, k_slT, k_slF, k_slS, sq_l, sq_t, sq_f, k_min, k_max, ok_app, isL_l, k_isB, k_isnB, k_eqI, k_neI, k_eqB, k_neB, k_eqS, k_neS, sq_tS, sq_lS, dr_tS, dr_lS, wi_nil, wi_cons, no_eq, no_1, no_2, k_lenT', k_lenL', List.all_cons, List.all_nil, Bool.and_true, Bool.and_self, k_inT, k_ninT, k_inL, k_ninL, List.length_cons, List.length_nil, sizeLine_eq, Nat.reduceAdd, Nat.reduceLeDiff, Nat.reduceLT, if_true, if_false, Bool.false_eq_true, Bool.not_true, Bool.not_false, ite_self, implies_true, k_all, k_any, filter_true, true_and, and_true, decide_eq_true_eq]
  refine lc_pure S tS (fun o => !decide (o = x) && sub x o) tS ?_
  simp -dsimp only [po_nx, po_rt, po_bk, po_ct, fr_env, fr_st, w_ok, w_bind, w_of, w_some, w_var, w_slv, w_slo, w_c, w_op, w_un, w_cmp2, w_cmpP, w_ecmpP, w_inP, w_einP, w_ecmp, w_val, w_asB, w_no, w_an, w_or, w_tY, w_ean, w_eor, w_eno, w_eif, w_nil, w_cons, w_consO, w_tup, w_lst, w_pOf, w_pSl, w_slLv, w_slLo, w_rd, w_rd2, w_trd, w_atd, w_atl, w_atv, w_ato, w_pNo, w_asI, w_pSo, w_sl, w_slL, w_cb, w_put, w_mt, w_m1, w_asS, w_seqI, w_rng1, w_rng2, w_range, w_call, w_nx, w_seq, w_asg, w_gN, w_asgO, w_asgH, w_par, w_drop, w_ret, w_retN, w_if, w_brk, w_ct, w_set, w_for, List.getElem?_cons_zero, List.getElem?_cons_succ, List.set_cons_zero, List.set_cons_succ, List.map_cons, List.map_nil, List.cons_append, List.nil_append, List.replicate_succ, List.replicate_zero, setAll, dr_int, dr_str, dr_bl, dr_non, dr_tup, dr_lst, dr_scr, dr_dK, dr_h0, put_sl, put_h, put_own, put_vh, k_add, k_sub, k_mul, k_div, k_mod, k_pow, k_abs, k_neg, k_lt, k_le, k_gt, k_ge, k_cat, k_catT, k_catL, k_lenL, k_lenT, k_lenF, k_lenS, k_listL, k_listT, k_listF, k_tupL, k_tupT, k_slL, k_slT, k_slF, k_slS, sq_l, sq_t, sq_f, k_min, k_max, ok_app, isL_l, k_isB, k_isnB, k_eqI, k_neI, k_eqB, k_neB, k_eqS, k_neS, sq_tS, sq_lS, dr_tS, dr_lS, wi_nil, wi_cons, no_eq, no_1, no_2, k_lenT', k_lenL', List.all_cons, List.all_nil, Bool.and_true, Bool.and_self, k_inT, k_ninT, k_inL, k_ninL, List.length_cons, List.length_nil, sizeLine_eq, Nat.reduceAdd, Nat.reduceLeDiff, Nat.reduceLT, if_true, if_false, Bool.false_eq_true, Bool.not_true, Bool.not_false, ite_self, implies_true, k_all, k_any, filter_true, true_and, and_true, decide_eq_true_eq]
  refine ⟨by rw [← sizeLine_eq]; exact hS.1, fun m hm => ?_, ?_⟩
  · rw [k_neT (hS.2 m hm).2 hx]
    by_cases e : m = x
    · simp [e]
      rfl
    · simp only [e, decide_false, Bool.not_false, if_true, Bool.true_and]
      try simp -dsimp only [po_nx, po_rt, po_bk, po_ct, fr_env, fr_st, w_ok, w_bind, w_of, w_some, w_var, w_slv, w_slo, w_c, w_op, w_un, w_cmp2, w_cmpP, w_ecmpP, w_inP, w_einP, w_ecmp, w_val, w_asB, w_no, w_an, w_or, w_tY, w_ean, w_eor, w_eno, w_eif, w_nil, w_cons, w_consO, w_tup, w_lst, w_pOf, w_pSl, w_slLv, w_slLo, w_rd, w_rd2, w_trd, w_atd, w_atl, w_atv, w_ato, w_pNo, w_asI, w_pSo, w_sl, w_slL, w_cb, w_put, w_mt, w_m1, w_asS, w_seqI, w_rng1, w_rng2, w_range, w_call, w_nx, w_seq, w_asg, w_gN, w_asgO, w_asgH, w_par, w_drop, w_ret, w_retN, w_if, w_brk, w_ct, w_set, w_for, List.getElem?_cons_zero, List.getElem?_cons_succ, List.set_cons_zero, List.set_cons_succ, List.map_cons, List.map_nil, List.cons_append, List.nil_append, List.replicate_succ, List.replicate_zero, setAll, dr_int, dr_str, dr_bl, dr_non, dr_tup, dr_lst, dr_scr, dr_dK, dr_h0, put_sl, put_h, put_own, put_vh, k_add, k_sub, k_mul, k_div, k_mod, k_pow, k_abs, k_neg, k_lt, k_le, k_gt, k_ge, k_cat, k_catT, k_catL, k_lenL, k_lenT, k_lenF, k_lenS, k_listL, k_listT, k_listF, k_tupL, k_tupT, k_slL, k_slT, k_slF, k_slS, sq_l, sq_t, sq_f, k_min, k_max, ok_app, isL_l, k_isB, k_isnB, k_eqI, k_neI, k_eqB, k_neB, k_eqS, k_neS, sq_tS, sq_lS, dr_tS, dr_lS, wi_nil, wi_cons, no_eq, no_1, no_2, k_lenT', k_lenL', List.all_cons, List.all_nil, Bool.and_true, Bool.and_self, k_inT, k_ninT, k_inL, k_ninL, List.length_cons, List.length_nil, sizeLine_eq, Nat.reduceAdd, Nat.reduceLeDiff, Nat.reduceLT, if_true, if_false, Bool.false_eq_true, Bool.not_true, Bool.not_false, ite_self, implies_true, k_all, k_any, filter_true, true_and, and_true, decide_eq_true_eq]
      refine (lies hx lx).mono ?_
      rintro _ _ ⟨rfl, rfl⟩
      try simp -dsimp only [po_nx, po_rt, po_bk, po_ct, fr_env, fr_st, w_ok, w_bind, w_of, w_some, w_var, w_slv, w_slo, w_c, w_op, w_un, w_cmp2, w_cmpP, w_ecmpP, w_inP, w_einP, w_ecmp, w_val, w_asB, w_no, w_an, w_or, w_tY, w_ean, w_eor, w_eno, w_eif, w_nil, w_cons, w_consO, w_tup, w_lst, w_pOf, w_pSl, w_slLv, w_slLo, w_rd, w_rd2, w_trd, w_atd, w_atl, w_atv, w_ato, w_pNo, w_asI, w_pSo, w_sl, w_slL, w_cb, w_put, w_mt, w_m1, w_asS, w_seqI, w_rng1, w_rng2, w_range, w_call, w_nx, w_seq, w_asg, w_gN, w_asgO, w_asgH, w_par, w_drop, w_ret, w_retN, w_if, w_brk, w_ct, w_set, w_for, List.getElem?_cons_zero, List.getElem?_cons_succ, List.set_cons_zero, List.set_cons_succ, List.map_cons, List.map_nil, List.cons_append, List.nil_append, List.replicate_succ, List.replicate_zero, setAll, dr_int, dr_str, dr_bl, dr_non, dr_tup, dr_lst, dr_scr, dr_dK, dr_h0, put_sl, put_h, put_own, put_vh, k_add, k_sub, k_mul, k_div, k_mod, k_pow, k_abs, k_neg, k_lt, k_le, k_gt, k_ge, k_cat, k_catT, k_catL, k_lenL, k_lenT, k_lenF, k_lenS, k_listL, k_listT, k_listF, k_tupL, k_tupT, k_slL, k_slT, k_slF, k_slS, sq_l, sq_t, sq_f, k_min, k_max, ok_app, isL_l, k_isB, k_isnB, k_eqI, k_neI, k_eqB, k_neB, k_eqS, k_neS, sq_tS, sq_lS, dr_tS, dr_lS, wi_nil, wi_cons, no_eq, no_1, no_2, k_lenT', k_lenL', List.all_cons, List.all_nil, Bool.and_true, Bool.and_self, k_inT, k_ninT, k_inL, k_ninL, List.length_cons, List.length_nil, sizeLine_eq, Nat.reduceAdd, Nat.reduceLeDiff, Nat.reduceLT, if_true, if_false, Bool.false_eq_true, Bool.not_true, Bool.not_false, ite_self, implies_true, k_all, k_any, filter_true, true_and, and_true, decide_eq_true_eq]
      simp [e]
  · rw [k_neN (n := 2) (by omega) (LL_lay fun m hm => (hS.2 m (List.mem_filter.mp hm).1).2), filt]
    exact ⟨rfl, rfl⟩
end K81
set_option Elab.async false
set_option linter.all false
set_option maxRecDepth 100000
set_option maxHeartbeats 1000000
namespace K81
open PySem L2 VL
/-! ### the pen -/
def penD (cells : List Int) (turn rest : Int) : D := .dK [(.inr "cells", .lst (cells.map .int)), (.inr "turn", .int turn), (.inr "rest", .int rest)]
section
variable {c : List Int} {t r i : Int} {Q : D → Prop} {st : List D}
theorem pen_rest : OkO (fIx (penD c t r) (.str "rest")) Q = Q (.int r) := nr rfl
theorem pen_turn : OkO (fIx (penD c t r) (.str "turn")) Q = Q (.int t) := nr rfl
theorem pen_cells : OkO (fIx (penD c t r) (.str "cells")) Q = Q (.lst (c.map .int)) := nr rfl
theorem pen_set_rest : OkO (fSet (penD c t r) (.str "rest") (.int i)) Q = Q (penD c t i) := nr rfl
theorem pen_set_turn : OkO (fSet (penD c t r) (.str "turn") (.int i)) Q = Q (penD c i r) := nr rfl
theorem pen_dr : deref [penD c t r] (.h 0) = penD c t r := nr rfl
theorem pen_st {d : D} : [penD c t r].set 0 d = [d] := nr rfl
end
/-- at most T turns done -/
def Pen (T : Nat) (st : List D) : Prop := ∃ c t r, st = [penD c t r] ∧ 0 ≤ t ∧ t ≤ T ∧ 0 ≤ r
variable {st : List D} {T : Nat} {many : Int}
theorem Pen.mono {T' : Nat} (h : Pen T st) (l : T ≤ T') : Pen T' st := by
  obtain ⟨c, t, r, e, h1, h2, h3⟩ := h
  exact ⟨c, t, r, e, h1, by omega, h3⟩
theorem lay_ints (c : List Int) : lay 1 (.lst (c.map .int)) = true := by
  show (c.map D.int).all (lay 0) = true
  rw [List.all_map]
  exact List.all_eq_true.mpr fun _ _ => rfl
theorem primes_ok {i : Int} (h : 0 ≤ i) (h2 : i < 5) {Q : D → Prop} (k : ∀ p : Int, 2147483563 ≤ p → p ≤ 2147483647 → Q (.int p)) : OkO (fIx (.lst [.int 2147483647, .int 2147483629, .int 2147483587, .int 2147483579, .int 2147483563]) (.int i)) Q := by
  refine k_ixL h (by simpa using h2) fun d hd => ?_
  have : i.toNat = 0 ∨ i.toNat = 1 ∨ i.toNat = 2 ∨ i.toNat = 3 ∨ i.toNat = 4 := by omega
  rcases this with e | e | e | e | e <;> rw [e] at hd <;> (have hd := Option.some.inj hd; subst hd; exact k _ (by decide) (by decide))
theorem p18 : (10 : Int) ^ Int.toNat 18 = 1000000000000000000 := by decide +kernel
theorem c18 {p : Prop} : ((((0 : Int) ≤ 18 ∧ (18 : Int) ≤ 1000000 ∧ Int.natAbs 10 < 2 ^ 64) ∧ p) ↔ p) := ⟨fun h => h.2, fun h => ⟨by decide, h⟩⟩
/-- the mixing of a cell x -/
theorem tail {x t : Int} {st : List D} (h1 : 0 ≤ t) (h2 : t < 2 ^ 60) (hm : 0 < many) {pn pb pc : Fr → Prop} {pt : D → List D → Prop} (k : ∀ v : Int, 0 ≤ v → v < many → pt (.int v) st) :
    Sat ((sSeq (sAsg (gN 6) (eRd2 fIx (pOf (eVar 5)) (eOp fMod (eVar 3) (eC (.int 5))))) (sSeq (sAsg (gN 7) (eOp fMod (eOp fAdd (eOp fAdd (eOp fMul (eOp fMod (eVar 4) (eVar 6)) (eC (.int 69621))) (eOp fMul (eOp fMul (eC (.int 40692)) (eVar 3)) (eVar 3))) (eC (.int 17))) (eVar 6))) (sSeq (sAsg (gN 7) (eOp fMod (eOp fMul (eVar 7) (eOp fAdd (eVar 7) (eC (.int 48271)))) (eRd2 fIx (pOf (eVar 5)) (eOp fMod (eOp fAdd (eVar 3) (eC (.int 3))) (eC (.int 5)))))) (sRet (eOp fMod (eOp fDiv (eOp fMod (eOp fMul (eVar 7) (eVar 7)) (eC (.int 2147483549))) (eC (.int 64))) (eVar 1))))))
      (⟨[.val (.h 0), .val (.int many), .no, .val (.int t), .val (.int x), .val (.lst [.int 2147483647, .int 2147483629, .int 2147483587, .int 2147483579, .int 2147483563]), .no, .no], st⟩ : Fr)) ⟨pn, pt, pb, pc⟩ := by
  simp -dsimp only [po_nx, po_rt, po_bk, po_ct, fr_env, fr_st, w_ok, w_bind, w_of, w_some, w_var, w_slv, w_slo, w_c, w_op, w_un, w_cmp2, w_cmpP, w_ecmpP, w_inP, w_einP, w_ecmp, w_val, w_asB, w_no, w_an, w_or, w_tY, w_ean, w_eor, w_eno, w_eif, w_nil, w_cons, w_consO, w_tup, w_lst, w_pOf, w_pSl, w_slLv, w_slLo, w_rd, w_rd2, w_trd, w_atd, w_atl, w_atv, w_ato, w_pNo, w_asI, w_pSo, w_sl, w_slL, w_cb, w_put, w_mt, w_m1, w_asS, w_seqI, w_rng1, w_rng2, w_range, w_call, w_nx, w_seq, w_asg, w_gN, w_asgO, w_asgH, w_par, w_drop, w_ret, w_retN, w_if, w_brk, w_ct, w_set, w_for, List.getElem?_cons_zero, List.getElem?_cons_succ, List.set_cons_zero, List.set_cons_succ, List.map_cons, List.map_nil, List.cons_append, List.nil_append, List.replicate_succ, List.replicate_zero, setAll, dr_int, dr_str, dr_bl, dr_non, dr_tup, dr_lst, dr_scr, dr_dK, dr_h0, put_sl, put_h, put_own, put_vh, k_add, k_sub, k_mul, k_div, k_mod, k_pow, k_abs, k_neg, k_lt, k_le, k_gt, k_ge, k_cat, k_catT, k_catL, k_lenL, k_lenT, k_lenF, k_lenS, k_listL, k_listT, k_listF, k_tupL, k_tupT, k_slL, k_slT, k_slF, k_slS, sq_l, sq_t, sq_f, k_min, k_max, ok_app, isL_l, k_isB, k_isnB, k_eqI, k_neI, k_eqB, k_neB, k_eqS, k_neS, sq_tS, sq_lS, dr_tS, dr_lS, wi_nil, wi_cons, no_eq, no_1, no_2, k_lenT', k_lenL', List.all_cons, List.all_nil, Bool.and_true, Bool.and_self, k_inT, k_ninT, k_inL, k_ninL, List.length_cons, List.length_nil, sizeLine_eq, Nat.reduceAdd, Nat.reduceLeDiff, Nat.reduceLT, if_true, if_false, Bool.false_eq_true, Bool.not_true, Bool.not_false, ite_self, implies_true, k_all, k_any, filter_true, true_and, and_true, decide_eq_true_eq]
  refine ⟨by decide, primes_ok (by omega) (by omega) fun p p1 p2 => ?_⟩
  simp -dsimp only [po_nx, po_rt, po_bk, po_ct, fr_env, fr_st, w_ok, w_bind, w_of, w_some, w_var, w_slv, w_slo, w_c, w_op, w_un, w_cmp2, w_cmpP, w_ecmpP, w_inP, w_einP, w_ecmp, w_val, w_asB, w_no, w_an, w_or, w_tY, w_ean, w_eor, w_eno, w_eif, w_nil, w_cons, w_consO, w_tup, w_lst, w_pOf, w_pSl, w_slLv, w_slLo, w_rd, w_rd2, w_trd, w_atd, w_atl, w_atv, w_ato, w_pNo, w_asI, w_pSo, w_sl, w_slL, w_cb, w_put, w_mt, w_m1, w_asS, w_seqI, w_rng1, w_rng2, w_range, w_call, w_nx, w_seq, w_asg, w_gN, w_asgO, w_asgH, w_par, w_drop, w_ret, w_retN, w_if, w_brk, w_ct, w_set, w_for, List.getElem?_cons_zero, List.getElem?_cons_succ, List.set_cons_zero, List.set_cons_succ, List.map_cons, List.map_nil, List.cons_append, List.nil_append, List.replicate_succ, List.replicate_zero, setAll, dr_int, dr_str, dr_bl, dr_non, dr_tup, dr_lst, dr_scr, dr_dK, dr_h0, put_sl, put_h, put_own, put_vh, k_add, k_sub, k_mul, k_div, k_mod, k_pow, k_abs, k_neg, k_lt, k_le, k_gt, k_ge, k_cat, k_catT, k_catL, k_lenL, k_lenT, k_lenF, k_lenS, k_listL, k_listT, k_listF, k_tupL, k_tupT, k_slL, k_slT, k_slF, k_slS, sq_l, sq_t, sq_f, k_min, k_max, ok_app, isL_l, k_isB, k_isnB, k_eqI, k_neI, k_eqB, k_neB, k_eqS, k_neS, sq_tS, sq_lS, dr_tS, dr_lS, wi_nil, wi_cons, no_eq, no_1, no_2, k_lenT', k_lenL', List.all_cons, List.all_nil, Bool.and_true, Bool.and_self, k_inT, k_ninT, k_inL, k_ninL, List.length_cons, List.length_nil, sizeLine_eq, Nat.reduceAdd, Nat.reduceLeDiff, Nat.reduceLT, if_true, if_false, Bool.false_eq_true, Bool.not_true, Bool.not_false, ite_self, implies_true, k_all, k_any, filter_true, true_and, and_true, decide_eq_true_eq]
  have a1 := Int.emod_nonneg x (show p ≠ 0 by omega)
  have a2 := Int.emod_lt_of_pos x (show 0 < p by omega)
  refine ⟨by omega, mulOk64 (by omega) (by omega), mulOk64 (by omega) (by omega), mulOk130 (by omega) (by omega), by omega, ?_⟩
  have b1 := Int.emod_nonneg (x % p * 69621 + 40692 * t * t + 17) (show p ≠ 0 by omega)
  have b2 := Int.emod_lt_of_pos (x % p * 69621 + 40692 * t * t + 17) (show 0 < p by omega)
  generalize (x % p * 69621 + 40692 * t * t + 17) % p = f at b1 b2 ⊢
  refine ⟨mulOk64 (by omega) (by omega), by decide, primes_ok (by omega) (by omega) fun q q1 q2 => ?_⟩
  simp -dsimp only [po_nx, po_rt, po_bk, po_ct, fr_env, fr_st, w_ok, w_bind, w_of, w_some, w_var, w_slv, w_slo, w_c, w_op, w_un, w_cmp2, w_cmpP, w_ecmpP, w_inP, w_einP, w_ecmp, w_val, w_asB, w_no, w_an, w_or, w_tY, w_ean, w_eor, w_eno, w_eif, w_nil, w_cons, w_consO, w_tup, w_lst, w_pOf, w_pSl, w_slLv, w_slLo, w_rd, w_rd2, w_trd, w_atd, w_atl, w_atv, w_ato, w_pNo, w_asI, w_pSo, w_sl, w_slL, w_cb, w_put, w_mt, w_m1, w_asS, w_seqI, w_rng1, w_rng2, w_range, w_call, w_nx, w_seq, w_asg, w_gN, w_asgO, w_asgH, w_par, w_drop, w_ret, w_retN, w_if, w_brk, w_ct, w_set, w_for, List.getElem?_cons_zero, List.getElem?_cons_succ, List.set_cons_zero, List.set_cons_succ, List.map_cons, List.map_nil, List.cons_append, List.nil_append, List.replicate_succ, List.replicate_zero, setAll, dr_int, dr_str, dr_bl, dr_non, dr_tup, dr_lst, dr_scr, dr_dK, dr_h0, put_sl, put_h, put_own, put_vh, k_add, k_sub, k_mul, k_div, k_mod, k_pow, k_abs, k_neg, k_lt, k_le, k_gt, k_ge, k_cat, k_catT, k_catL, k_lenL, k_lenT, k_lenF, k_lenS, k_listL, k_listT, k_listF, k_tupL, k_tupT, k_slL, k_slT, k_slF, k_slS, sq_l, sq_t, sq_f, k_min, k_max, ok_app, isL_l, k_isB, k_isnB, k_eqI, k_neI, k_eqB, k_neB, k_eqS, k_neS, sq_tS, sq_lS, dr_tS, dr_lS, wi_nil, wi_cons, no_eq, no_1, no_2, k_lenT', k_lenL', List.all_cons, List.all_nil, Bool.and_true, Bool.and_self, k_inT, k_ninT, k_inL, k_ninL, List.length_cons, List.length_nil, sizeLine_eq, Nat.reduceAdd, Nat.reduceLeDiff, Nat.reduceLT, if_true, if_false, Bool.false_eq_true, Bool.not_true, Bool.not_false, ite_self, implies_true, k_all, k_any, filter_true, true_and, and_true, decide_eq_true_eq]
  have c1 := Int.emod_nonneg (f * (f + 48271)) (show q ≠ 0 by omega)
  have c2 := Int.emod_lt_of_pos (f * (f + 48271)) (show 0 < q by omega)
  generalize f * (f + 48271) % q = u at c1 c2 ⊢
  refine ⟨by omega, mulOk64 (by omega) (by omega), by decide, by decide +kernel, hm, k _ ?_ ?_⟩
  · exact Int.emod_nonneg _ (by omega)
  · exact Int.emod_lt_of_pos _ hm
theorem draw (h : Pen T st) (hT : T < 2 ^ 60) (hm : 0 < many) (hm2 : many < 2 ^ 60) : OkG (G_law_draw [.h 0, .int many] st) fun d st' => ∃ v, d = .int v ∧ 0 ≤ v ∧ v < many ∧ Pen (T + 1) st' := by
  obtain ⟨c, t, r, rfl, h1, h2, h3⟩ := h
  refine g_mk rfl ?_
  unfold F_law_draw
  have dv : divOk many = true := divOk64 hm (by omega)
  have rem : ∀ {x r' t' : Int}, 0 ≤ r' → 0 ≤ t' → t' ≤ T + 1 → ∃ v, D.int (x % many) = .int v ∧ 0 ≤ v ∧ v < many ∧ Pen (T + 1) [penD c t' r'] := fun {x r' t'} h a b =>
    ⟨_, rfl, Int.emod_nonneg _ (by omega), Int.emod_lt_of_pos _ hm, c, t', r', rfl, a, by omega, h⟩
  have done : ∀ v : Int, 0 ≤ v → v < many → ∃ w, D.int v = .int w ∧ 0 ≤ w ∧ w < many ∧ Pen (T + 1) [penD c (t + 1) r] := fun v a b => ⟨v, rfl, a, b, c, t + 1, r, rfl, by omega, by omega, h3⟩
  simp -dsimp only [po_nx, po_rt, po_bk, po_ct, fr_env, fr_st, w_ok, w_bind, w_of, w_some, w_var, w_slv, w_slo, w_c, w_op, w_un, w_cmp2, w_cmpP, w_ecmpP, w_inP, w_einP, w_ecmp, w_val, w_asB, w_no, w_an, w_or, w_tY, w_ean, w_eor, w_eno, w_eif, w_nil, w_cons, w_consO, w_tup, w_lst, w_pOf, w_pSl, w_slLv, w_slLo, w_rd, w_rd2, w_trd, w_atd, w_atl, w_atv, w_ato, w_pNo, w_asI, w_pSo, w_sl, w_slL, w_cb, w_put, w_mt, w_m1, w_asS, w_seqI, w_rng1, w_rng2, w_range, w_call, w_nx, w_seq, w_asg, w_gN, w_asgO, w_asgH, w_par, w_drop, w_ret, w_retN, w_if, w_brk, w_ct, w_set, w_for, List.getElem?_cons_zero, List.getElem?_cons_succ, List.set_cons_zero, List.set_cons_succ, List.map_cons, List.map_nil, List.cons_append, List.nil_append, List.replicate_succ, List.replicate_zero, setAll, dr_int, dr_str, dr_bl, dr_non, dr_tup, dr_lst, dr_scr, dr_dK, dr_h0, put_sl, put_h, put_own, put_vh, k_add, k_sub, k_mul, k_div, k_mod, k_pow, k_abs, k_neg, k_lt, k_le, k_gt, k_ge, k_cat, k_catT, k_catL, k_lenL, k_lenT, k_lenF, k_lenS, k_listL, k_listT, k_listF, k_tupL, k_tupT, k_slL, k_slT, k_slF, k_slS, sq_l, sq_t, sq_f, k_min, k_max, ok_app, isL_l, k_isB, k_isnB, k_eqI, k_neI, k_eqB, k_neB, k_eqS, k_neS, sq_tS, sq_lS, dr_tS, dr_lS, wi_nil, wi_cons, no_eq, no_1, no_2, k_lenT', k_lenL', List.all_cons, List.all_nil, Bool.and_true, Bool.and_self, k_inT, k_ninT, k_inL, k_ninL, List.length_cons, List.length_nil, sizeLine_eq, Nat.reduceAdd, Nat.reduceLeDiff, Nat.reduceLT, if_true, if_false, Bool.false_eq_true, Bool.not_true, Bool.not_false, ite_self, implies_true, k_all, k_any, filter_true, true_and, and_true, decide_eq_true_eq, pen_rest, pen_turn, pen_cells, pen_set_rest, pen_set_turn, pen_dr, pen_st]
  split
  · exact ⟨hm, dv, rem (Int.ediv_nonneg h3 (by omega)) h1 (by omega)⟩
  · refine ⟨mulOk64 (by omega) (by omega), ?_⟩
    rw [k_neN (n := 1) (by omega) (lay_ints c)]
    have lm : ((c.map D.int).length : Int) = c.length := by rw [List.length_map]
    split
    · rename_i hc
      have pos : 0 < c.length := by
        cases c with
        | nil => simp at hc
        | cons x c => simp
      simp -dsimp only [po_nx, po_rt, po_bk, po_ct, fr_env, fr_st, w_ok, w_bind, w_of, w_some, w_var, w_slv, w_slo, w_c, w_op, w_un, w_cmp2, w_cmpP, w_ecmpP, w_inP, w_einP, w_ecmp, w_val, w_asB, w_no, w_an, w_or, w_tY, w_ean, w_eor, w_eno, w_eif, w_nil, w_cons, w_consO, w_tup, w_lst, w_pOf, w_pSl, w_slLv, w_slLo, w_rd, w_rd2, w_trd, w_atd, w_atl, w_atv, w_ato, w_pNo, w_asI, w_pSo, w_sl, w_slL, w_cb, w_put, w_mt, w_m1, w_asS, w_seqI, w_rng1, w_rng2, w_range, w_call, w_nx, w_seq, w_asg, w_gN, w_asgO, w_asgH, w_par, w_drop, w_ret, w_retN, w_if, w_brk, w_ct, w_set, w_for, List.getElem?_cons_zero, List.getElem?_cons_succ, List.set_cons_zero, List.set_cons_succ, List.map_cons, List.map_nil, List.cons_append, List.nil_append, List.replicate_succ, List.replicate_zero, setAll, dr_int, dr_str, dr_bl, dr_non, dr_tup, dr_lst, dr_scr, dr_dK, dr_h0, put_sl, put_h, put_own, put_vh, k_add, k_sub, k_mul, k_div, k_mod, k_pow, k_abs, k_neg, k_lt, k_le, k_gt, k_ge, k_cat, k_catT, k_catL, k_lenL, k_lenT, k_lenF, k_lenS, k_listL, k_listT, k_listF, k_tupL, k_tupT, k_slL, k_slT, k_slF, k_slS, sq_l, sq_t, sq_f, k_min, k_max, ok_app, isL_l, k_isB, k_isnB, k_eqI, k_neI, k_eqB, k_neB, k_eqS, k_neS, sq_tS, sq_lS, dr_tS, dr_lS, wi_nil, wi_cons, no_eq, no_1, no_2, k_lenT', k_lenL', List.all_cons, List.all_nil, Bool.and_true, Bool.and_self, k_inT, k_ninT, k_inL, k_ninL, List.length_cons, List.length_nil, sizeLine_eq, Nat.reduceAdd, Nat.reduceLeDiff, Nat.reduceLT, if_true, if_false, Bool.false_eq_true, Bool.not_true, Bool.not_false, ite_self, implies_true, k_all, k_any, filter_true, true_and, and_true, decide_eq_true_eq, pen_rest, pen_turn, pen_cells, pen_set_rest, pen_set_turn, pen_dr, pen_st]
      refine ⟨by rw [lm]; omega, k_ixL (Int.emod_nonneg _ (by omega)) (by rw [List.length_map]; exact Int.emod_lt_of_pos _ (by omega)) fun d hd => ?_⟩
      rw [List.getElem?_map] at hd
      obtain ⟨x, hx, rfl⟩ := Option.map_eq_some_iff.mp hd
      simp -dsimp only [po_nx, po_rt, po_bk, po_ct, fr_env, fr_st, w_ok, w_bind, w_of, w_some, w_var, w_slv, w_slo, w_c, w_op, w_un, w_cmp2, w_cmpP, w_ecmpP, w_inP, w_einP, w_ecmp, w_val, w_asB, w_no, w_an, w_or, w_tY, w_ean, w_eor, w_eno, w_eif, w_nil, w_cons, w_consO, w_tup, w_lst, w_pOf, w_pSl, w_slLv, w_slLo, w_rd, w_rd2, w_trd, w_atd, w_atl, w_atv, w_ato, w_pNo, w_asI, w_pSo, w_sl, w_slL, w_cb, w_put, w_mt, w_m1, w_asS, w_seqI, w_rng1, w_rng2, w_range, w_call, w_nx, w_seq, w_asg, w_gN, w_asgO, w_asgH, w_par, w_drop, w_ret, w_retN, w_if, w_brk, w_ct, w_set, w_for, List.getElem?_cons_zero, List.getElem?_cons_succ, List.set_cons_zero, List.set_cons_succ, List.map_cons, List.map_nil, List.cons_append, List.nil_append, List.replicate_succ, List.replicate_zero, setAll, dr_int, dr_str, dr_bl, dr_non, dr_tup, dr_lst, dr_scr, dr_dK, dr_h0, put_sl, put_h, put_own, put_vh, k_add, k_sub, k_mul, k_div, k_mod, k_pow, k_abs, k_neg, k_lt, k_le, k_gt, k_ge, k_cat, k_catT, k_catL, k_lenL, k_lenT, k_lenF, k_lenS, k_listL, k_listT, k_listF, k_tupL, k_tupT, k_slL, k_slT, k_slF, k_slS, sq_l, sq_t, sq_f, k_min, k_max, ok_app, isL_l, k_isB, k_isnB, k_eqI, k_neI, k_eqB, k_neB, k_eqS, k_neS, sq_tS, sq_lS, dr_tS, dr_lS, wi_nil, wi_cons, no_eq, no_1, no_2, k_lenT', k_lenL', List.all_cons, List.all_nil, Bool.and_true, Bool.and_self, k_inT, k_ninT, k_inL, k_ninL, List.length_cons, List.length_nil, sizeLine_eq, Nat.reduceAdd, Nat.reduceLeDiff, Nat.reduceLT, if_true, if_false, Bool.false_eq_true, Bool.not_true, Bool.not_false, ite_self, implies_true, k_all, k_any, filter_true, true_and, and_true, decide_eq_true_eq, pen_rest, pen_turn, pen_cells, pen_set_rest, pen_set_turn, pen_dr, pen_st, c18, p18]
      generalize (if x < 0 then -x else x) = ab
      split
      · split
        · exact ⟨dv, hm, rem (Int.ediv_nonneg (by omega) (by omega)) (by omega) (by omega)⟩
        · (have tl := tail (x := x) (pn := fun s => ∃ w, D.non = .int w ∧ 0 ≤ w ∧ w < many ∧ Pen (T + 1) s.st) (pt := fun d st' => ∃ w, d = .int w ∧ 0 ≤ w ∧ w < many ∧ Pen (T + 1) st') (pb := fun _ => False) (pc := fun _ => False) h1 (by omega) hm done; simp -dsimp only [po_nx, po_rt, po_bk, po_ct, fr_env, fr_st, w_ok, w_bind, w_of, w_some, w_var, w_slv, w_slo, w_c, w_op, w_un, w_cmp2, w_cmpP, w_ecmpP, w_inP, w_einP, w_ecmp, w_val, w_asB, w_no, w_an, w_or, w_tY, w_ean, w_eor, w_eno, w_eif, w_nil, w_cons, w_consO, w_tup, w_lst, w_pOf, w_pSl, w_slLv, w_slLo, w_rd, w_rd2, w_trd, w_atd, w_atl, w_atv, w_ato, w_pNo, w_asI, w_pSo, w_sl, w_slL, w_cb, w_put, w_mt, w_m1, w_asS, w_seqI, w_rng1, w_rng2, w_range, w_call, w_nx, w_seq, w_asg, w_gN, w_asgO, w_asgH, w_par, w_drop, w_ret, w_retN, w_if, w_brk, w_ct, w_set, w_for, List.getElem?_cons_zero, List.getElem?_cons_succ, List.set_cons_zero, List.set_cons_succ, List.map_cons, List.map_nil, List.cons_append, List.nil_append, List.replicate_succ, List.replicate_zero, setAll, dr_int, dr_str, dr_bl, dr_non, dr_tup, dr_lst, dr_scr, dr_dK, dr_h0, put_sl, put_h, put_own, put_vh, k_add, k_sub, k_mul, k_div, k_mod, k_pow, k_abs, k_neg, k_lt, k_le, k_gt, k_ge, k_cat, k_catT, k_catL, k_lenL, k_lenT, k_lenF, k_lenS, k_listL, k_listT, k_listF, k_tupL, k_tupT, k_slL, k_slT, k_slF, k_slS, sq_l, sq_t, sq_f, k_min, k_max, ok_app, isL_l, k_isB, k_isnB, k_eqI, k_neI, k_eqB, k_neB, k_eqS, k_neS, sq_tS, sq_lS, dr_tS, dr_lS, wi_nil, wi_cons, no_eq, no_1, no_2, k_lenT', k_lenL', List.all_cons, List.all_nil, Bool.and_true, Bool.and_self, k_inT, k_ninT, k_inL, k_ninL, List.length_cons, List.length_nil, sizeLine_eq, Nat.reduceAdd, Nat.reduceLeDiff, Nat.reduceLT, if_true, if_false, Bool.false_eq_true, Bool.not_true, Bool.not_false, ite_self, implies_true, k_all, k_any, filter_true, true_and, and_true, decide_eq_true_eq] at tl; exact tl)
      · (have tl := tail (x := x) (pn := fun s => ∃ w, D.non = .int w ∧ 0 ≤ w ∧ w < many ∧ Pen (T + 1) s.st) (pt := fun d st' => ∃ w, d = .int w ∧ 0 ≤ w ∧ w < many ∧ Pen (T + 1) st') (pb := fun _ => False) (pc := fun _ => False) h1 (by omega) hm done; simp -dsimp only [po_nx, po_rt, po_bk, po_ct, fr_env, fr_st, w_ok, w_bind, w_of, w_some, w_var, w_slv, w_slo, w_c, w_op, w_un, w_cmp2, w_cmpP, w_ecmpP, w_inP, w_einP, w_ecmp, w_val, w_asB, w_no, w_an, w_or, w_tY, w_ean, w_eor, w_eno, w_eif, w_nil, w_cons, w_consO, w_tup, w_lst, w_pOf, w_pSl, w_slLv, w_slLo, w_rd, w_rd2, w_trd, w_atd, w_atl, w_atv, w_ato, w_pNo, w_asI, w_pSo, w_sl, w_slL, w_cb, w_put, w_mt, w_m1, w_asS, w_seqI, w_rng1, w_rng2, w_range, w_call, w_nx, w_seq, w_asg, w_gN, w_asgO, w_asgH, w_par, w_drop, w_ret, w_retN, w_if, w_brk, w_ct, w_set, w_for, List.getElem?_cons_zero, List.getElem?_cons_succ, List.set_cons_zero, List.set_cons_succ, List.map_cons, List.map_nil, List.cons_append, List.nil_append, List.replicate_succ, List.replicate_zero, setAll, dr_int, dr_str, dr_bl, dr_non, dr_tup, dr_lst, dr_scr, dr_dK, dr_h0, put_sl, put_h, put_own, put_vh, k_add, k_sub, k_mul, k_div, k_mod, k_pow, k_abs, k_neg, k_lt, k_le, k_gt, k_ge, k_cat, k_catT, k_catL, k_lenL, k_lenT, k_lenF, k_lenS, k_listL, k_listT, k_listF, k_tupL, k_tupT, k_slL, k_slT, k_slF, k_slS, sq_l, sq_t, sq_f, k_min, k_max, ok_app, isL_l, k_isB, k_isnB, k_eqI, k_neI, k_eqB, k_neB, k_eqS, k_neS, sq_tS, sq_lS, dr_tS, dr_lS, wi_nil, wi_cons, no_eq, no_1, no_2, k_lenT', k_lenL', List.all_cons, List.all_nil, Bool.and_true, Bool.and_self, k_inT, k_ninT, k_inL, k_ninL, List.length_cons, List.length_nil, sizeLine_eq, Nat.reduceAdd, Nat.reduceLeDiff, Nat.reduceLT, if_true, if_false, Bool.false_eq_true, Bool.not_true, Bool.not_false, ite_self, implies_true, k_all, k_any, filter_true, true_and, and_true, decide_eq_true_eq] at tl; exact tl)
    · simp -dsimp only [po_nx, po_rt, po_bk, po_ct, fr_env, fr_st, w_ok, w_bind, w_of, w_some, w_var, w_slv, w_slo, w_c, w_op, w_un, w_cmp2, w_cmpP, w_ecmpP, w_inP, w_einP, w_ecmp, w_val, w_asB, w_no, w_an, w_or, w_tY, w_ean, w_eor, w_eno, w_eif, w_nil, w_cons, w_consO, w_tup, w_lst, w_pOf, w_pSl, w_slLv, w_slLo, w_rd, w_rd2, w_trd, w_atd, w_atl, w_atv, w_ato, w_pNo, w_asI, w_pSo, w_sl, w_slL, w_cb, w_put, w_mt, w_m1, w_asS, w_seqI, w_rng1, w_rng2, w_range, w_call, w_nx, w_seq, w_asg, w_gN, w_asgO, w_asgH, w_par, w_drop, w_ret, w_retN, w_if, w_brk, w_ct, w_set, w_for, List.getElem?_cons_zero, List.getElem?_cons_succ, List.set_cons_zero, List.set_cons_succ, List.map_cons, List.map_nil, List.cons_append, List.nil_append, List.replicate_succ, List.replicate_zero, setAll, dr_int, dr_str, dr_bl, dr_non, dr_tup, dr_lst, dr_scr, dr_dK, dr_h0, put_sl, put_h, put_own, put_vh, k_add, k_sub, k_mul, k_div, k_mod, k_pow, k_abs, k_neg, k_lt, k_le, k_gt, k_ge, k_cat, k_catT, k_catL, k_lenL, k_lenT, k_lenF, k_lenS, k_listL, k_listT, k_listF, k_tupL, k_tupT, k_slL, k_slT, k_slF, k_slS, sq_l, sq_t, sq_f, k_min, k_max, ok_app, isL_l, k_isB, k_isnB, k_eqI, k_neI, k_eqB, k_neB, k_eqS, k_neS, sq_tS, sq_lS, dr_tS, dr_lS, wi_nil, wi_cons, no_eq, no_1, no_2, k_lenT', k_lenL', List.all_cons, List.all_nil, Bool.and_true, Bool.and_self, k_inT, k_ninT, k_inL, k_ninL, List.length_cons, List.length_nil, sizeLine_eq, Nat.reduceAdd, Nat.reduceLeDiff, Nat.reduceLT, if_true, if_false, Bool.false_eq_true, Bool.not_true, Bool.not_false, ite_self, implies_true, k_all, k_any, filter_true, true_and, and_true, decide_eq_true_eq, pen_rest, pen_turn, pen_cells, pen_set_rest, pen_set_turn, pen_dr, pen_st, c18, p18]
      generalize (if 37 * t + 11 < 0 then -(37 * t + 11) else 37 * t + 11) = ab
      split
      · split
        · exact ⟨dv, hm, rem (Int.ediv_nonneg (by omega) (by omega)) (by omega) (by omega)⟩
        · (have tl := tail (x := 37 * t + 11) (pn := fun s => ∃ w, D.non = .int w ∧ 0 ≤ w ∧ w < many ∧ Pen (T + 1) s.st) (pt := fun d st' => ∃ w, d = .int w ∧ 0 ≤ w ∧ w < many ∧ Pen (T + 1) st') (pb := fun _ => False) (pc := fun _ => False) h1 (by omega) hm done; simp -dsimp only [po_nx, po_rt, po_bk, po_ct, fr_env, fr_st, w_ok, w_bind, w_of, w_some, w_var, w_slv, w_slo, w_c, w_op, w_un, w_cmp2, w_cmpP, w_ecmpP, w_inP, w_einP, w_ecmp, w_val, w_asB, w_no, w_an, w_or, w_tY, w_ean, w_eor, w_eno, w_eif, w_nil, w_cons, w_consO, w_tup, w_lst, w_pOf, w_pSl, w_slLv, w_slLo, w_rd, w_rd2, w_trd, w_atd, w_atl, w_atv, w_ato, w_pNo, w_asI, w_pSo, w_sl, w_slL, w_cb, w_put, w_mt, w_m1, w_asS, w_seqI, w_rng1, w_rng2, w_range, w_call, w_nx, w_seq, w_asg, w_gN, w_asgO, w_asgH, w_par, w_drop, w_ret, w_retN, w_if, w_brk, w_ct, w_set, w_for, List.getElem?_cons_zero, List.getElem?_cons_succ, List.set_cons_zero, List.set_cons_succ, List.map_cons, List.map_nil, List.cons_append, List.nil_append, List.replicate_succ, List.replicate_zero, setAll, dr_int, dr_str, dr_bl, dr_non, dr_tup, dr_lst, dr_scr, dr_dK, dr_h0, put_sl, put_h, put_own, put_vh, k_add, k_sub, k_mul, k_div, k_mod, k_pow, k_abs, k_neg, k_lt, k_le, k_gt, k_ge, k_cat, k_catT, k_catL, k_lenL, k_lenT, k_lenF, k_lenS, k_listL, k_listT, k_listF, k_tupL, k_tupT, k_slL, k_slT, k_slF, k_slS, sq_l, sq_t, sq_f, k_min, k_max, ok_app, isL_l, k_isB, k_isnB, k_eqI, k_neI, k_eqB, k_neB, k_eqS, k_neS, sq_tS, sq_lS, dr_tS, dr_lS, wi_nil, wi_cons, no_eq, no_1, no_2, k_lenT', k_lenL', List.all_cons, List.all_nil, Bool.and_true, Bool.and_self, k_inT, k_ninT, k_inL, k_ninL, List.length_cons, List.length_nil, sizeLine_eq, Nat.reduceAdd, Nat.reduceLeDiff, Nat.reduceLT, if_true, if_false, Bool.false_eq_true, Bool.not_true, Bool.not_false, ite_self, implies_true, k_all, k_any, filter_true, true_and, and_true, decide_eq_true_eq] at tl; exact tl)
      · (have tl := tail (x := 37 * t + 11) (pn := fun s => ∃ w, D.non = .int w ∧ 0 ≤ w ∧ w < many ∧ Pen (T + 1) s.st) (pt := fun d st' => ∃ w, d = .int w ∧ 0 ≤ w ∧ w < many ∧ Pen (T + 1) st') (pb := fun _ => False) (pc := fun _ => False) h1 (by omega) hm done; simp -dsimp only [po_nx, po_rt, po_bk, po_ct, fr_env, fr_st, w_ok, w_bind, w_of, w_some, w_var, w_slv, w_slo, w_c, w_op, w_un, w_cmp2, w_cmpP, w_ecmpP, w_inP, w_einP, w_ecmp, w_val, w_asB, w_no, w_an, w_or, w_tY, w_ean, w_eor, w_eno, w_eif, w_nil, w_cons, w_consO, w_tup, w_lst, w_pOf, w_pSl, w_slLv, w_slLo, w_rd, w_rd2, w_trd, w_atd, w_atl, w_atv, w_ato, w_pNo, w_asI, w_pSo, w_sl, w_slL, w_cb, w_put, w_mt, w_m1, w_asS, w_seqI, w_rng1, w_rng2, w_range, w_call, w_nx, w_seq, w_asg, w_gN, w_asgO, w_asgH, w_par, w_drop, w_ret, w_retN, w_if, w_brk, w_ct, w_set, w_for, List.getElem?_cons_zero, List.getElem?_cons_succ, List.set_cons_zero, List.set_cons_succ, List.map_cons, List.map_nil, List.cons_append, List.nil_append, List.replicate_succ, List.replicate_zero, setAll, dr_int, dr_str, dr_bl, dr_non, dr_tup, dr_lst, dr_scr, dr_dK, dr_h0, put_sl, put_h, put_own, put_vh, k_add, k_sub, k_mul, k_div, k_mod, k_pow, k_abs, k_neg, k_lt, k_le, k_gt, k_ge, k_cat, k_catT, k_catL, k_lenL, k_lenT, k_lenF, k_lenS, k_listL, k_listT, k_listF, k_tupL, k_tupT, k_slL, k_slT, k_slF, k_slS, sq_l, sq_t, sq_f, k_min, k_max, ok_app, isL_l, k_isB, k_isnB, k_eqI, k_neI, k_eqB, k_neB, k_eqS, k_neS, sq_tS, sq_lS, dr_tS, dr_lS, wi_nil, wi_cons, no_eq, no_1, no_2, k_lenT', k_lenL', List.all_cons, List.all_nil, Bool.and_true, Bool.and_self, k_inT, k_ninT, k_inL, k_ninL, List.length_cons, List.length_nil, sizeLine_eq, Nat.reduceAdd, Nat.reduceLeDiff, Nat.reduceLT, if_true, if_false, Bool.false_eq_true, Bool.not_true, Bool.not_false, ite_self, implies_true, k_all, k_any, filter_true, true_and, and_true, decide_eq_true_eq] at tl; exact tl)
theorem pick_L {xs : List D} (h : Pen T st) (hT : T < 2 ^ 60) (n : 0 < xs.length) (hl : xs.length < 2 ^ 60) (nh : ∀ k, D.lst xs ≠ .h k := by intro _ z; cases z) : OkG (G_law_pick [.h 0, .lst xs] st) fun d st' => d ∈ xs ∧ Pen (T + 1) st' := by
  refine g_mk rfl ?_
  unfold F_law_pick
  simp -dsimp only [po_nx, po_rt, po_bk, po_ct, fr_env, fr_st, w_ok, w_bind, w_of, w_some, w_var, w_slv, w_slo, w_c, w_op, w_un, w_cmp2, w_cmpP, w_ecmpP, w_inP, w_einP, w_ecmp, w_val, w_asB, w_no, w_an, w_or, w_tY, w_ean, w_eor, w_eno, w_eif, w_nil, w_cons, w_consO, w_tup, w_lst, w_pOf, w_pSl, w_slLv, w_slLo, w_rd, w_rd2, w_trd, w_atd, w_atl, w_atv, w_ato, w_pNo, w_asI, w_pSo, w_sl, w_slL, w_cb, w_put, w_mt, w_m1, w_asS, w_seqI, w_rng1, w_rng2, w_range, w_call, w_nx, w_seq, w_asg, w_gN, w_asgO, w_asgH, w_par, w_drop, w_ret, w_retN, w_if, w_brk, w_ct, w_set, w_for, List.getElem?_cons_zero, List.getElem?_cons_succ, List.set_cons_zero, List.set_cons_succ, List.map_cons, List.map_nil, List.cons_append, List.nil_append, List.replicate_succ, List.replicate_zero, setAll, dr_int, dr_str, dr_bl, dr_non, dr_tup, dr_lst, dr_scr, dr_dK, dr_h0, put_sl, put_h, put_own, put_vh, k_add, k_sub, k_mul, k_div, k_mod, k_pow, k_abs, k_neg, k_lt, k_le, k_gt, k_ge, k_cat, k_catT, k_catL, k_lenL, k_lenT, k_lenF, k_lenS, k_listL, k_listT, k_listF, k_tupL, k_tupT, k_slL, k_slT, k_slF, k_slS, sq_l, sq_t, sq_f, k_min, k_max, ok_app, isL_l, k_isB, k_isnB, k_eqI, k_neI, k_eqB, k_neB, k_eqS, k_neS, sq_tS, sq_lS, dr_tS, dr_lS, wi_nil, wi_cons, no_eq, no_1, no_2, k_lenT', k_lenL', List.all_cons, List.all_nil, Bool.and_true, Bool.and_self, k_inT, k_ninT, k_inL, k_ninL, List.length_cons, List.length_nil, sizeLine_eq, Nat.reduceAdd, Nat.reduceLeDiff, Nat.reduceLT, if_true, if_false, Bool.false_eq_true, Bool.not_true, Bool.not_false, ite_self, implies_true, k_all, k_any, filter_true, true_and, and_true, decide_eq_true_eq]
  refine (draw h hT (by omega) (by omega)).mono ?_
  rintro _ st' ⟨v, rfl, v1, v2, hp⟩
  exact k_ixL v1 v2 fun d hd => ⟨List.mem_of_getElem? hd, hp⟩
theorem pick_S {x : Str} (h : Pen T st) (hT : T < 2 ^ 60) (n : 0 < x.length) (hl : x.length ≤ 1000) : OkG (G_law_pick [.h 0, .str x] st) fun d st' => (∃ c ∈ x.cps.toList, d = .str ⟨#[c]⟩) ∧ Pen (T + 1) st' := by
  refine g_mk rfl ?_
  unfold F_law_pick
  simp -dsimp only [po_nx, po_rt, po_bk, po_ct, fr_env, fr_st, w_ok, w_bind, w_of, w_some, w_var, w_slv, w_slo, w_c, w_op, w_un, w_cmp2, w_cmpP, w_ecmpP, w_inP, w_einP, w_ecmp, w_val, w_asB, w_no, w_an, w_or, w_tY, w_ean, w_eor, w_eno, w_eif, w_nil, w_cons, w_consO, w_tup, w_lst, w_pOf, w_pSl, w_slLv, w_slLo, w_rd, w_rd2, w_trd, w_atd, w_atl, w_atv, w_ato, w_pNo, w_asI, w_pSo, w_sl, w_slL, w_cb, w_put, w_mt, w_m1, w_asS, w_seqI, w_rng1, w_rng2, w_range, w_call, w_nx, w_seq, w_asg, w_gN, w_asgO, w_asgH, w_par, w_drop, w_ret, w_retN, w_if, w_brk, w_ct, w_set, w_for, List.getElem?_cons_zero, List.getElem?_cons_succ, List.set_cons_zero, List.set_cons_succ, List.map_cons, List.map_nil, List.cons_append, List.nil_append, List.replicate_succ, List.replicate_zero, setAll, dr_int, dr_str, dr_bl, dr_non, dr_tup, dr_lst, dr_scr, dr_dK, dr_h0, put_sl, put_h, put_own, put_vh, k_add, k_sub, k_mul, k_div, k_mod, k_pow, k_abs, k_neg, k_lt, k_le, k_gt, k_ge, k_cat, k_catT, k_catL, k_lenL, k_lenT, k_lenF, k_lenS, k_listL, k_listT, k_listF, k_tupL, k_tupT, k_slL, k_slT, k_slF, k_slS, sq_l, sq_t, sq_f, k_min, k_max, ok_app, isL_l, k_isB, k_isnB, k_eqI, k_neI, k_eqB, k_neB, k_eqS, k_neS, sq_tS, sq_lS, dr_tS, dr_lS, wi_nil, wi_cons, no_eq, no_1, no_2, k_lenT', k_lenL', List.all_cons, List.all_nil, Bool.and_true, Bool.and_self, k_inT, k_ninT, k_inL, k_ninL, List.length_cons, List.length_nil, sizeLine_eq, Nat.reduceAdd, Nat.reduceLeDiff, Nat.reduceLT, if_true, if_false, Bool.false_eq_true, Bool.not_true, Bool.not_false, ite_self, implies_true, k_all, k_any, filter_true, true_and, and_true, decide_eq_true_eq]
  refine ⟨by omega, (draw h hT (by omega) (by omega)).mono ?_⟩
  rintro _ st' ⟨v, rfl, v1, v2, hp⟩
  exact k_ixS (by rw [sizeLine_eq]; omega) v1 v2 fun c hc => ⟨⟨c, List.mem_of_getElem? hc, rfl⟩, hp⟩
end K81
set_option Elab.async false
set_option linter.all false
set_option maxRecDepth 100000
set_option maxHeartbeats 1000000
namespace VL
open PySem L2
theorem re_nil {e0 e : List Slot} : restE e0 [] e = e := nr rfl
theorem re_cons {e0 e : List Slot} {v : Nat} {vs : List Nat} : restE e0 (v :: vs) e = (restE e0 vs e).set v (e0.getD v .no) := nr rfl
/-! ### small texts -/
def Sm (x : Str) : Prop := ∀ c ∈ x.cps.toList, c < 128
section
variable {x y : Str} {lo hi : Option Int} {xs ys : List D} {i k : Int} {Q : D → Prop} {st : List D}
theorem len_eq (x : Str) : x.length = x.cps.toList.length := by simp [Str.length]
theorem len_app (x y : Str) : (x ++ y).length = x.length + y.length := Str.length_append x y
theorem Sm.app (h : Sm x) (h' : Sm y) : Sm (x ++ y) := by
  intro c hc
  rw [Str.cps_append, Array.toList_append] at hc
  rcases List.mem_append.mp hc with hc | hc
  · exact h c hc
  · exact h' c hc
theorem Sm.cut (h : Sm x) : Sm (cutS x lo hi) := by
  intro c hc
  have hc : c ∈ (x.cps.toList.drop (HT.sIx x.length 0 lo)).take (HT.sIx x.length x.length hi - HT.sIx x.length 0 lo) := by simpa [cutS] using hc
  exact h c (List.mem_of_mem_drop (List.mem_of_mem_take hc))
theorem Sm.one {c : Nat} (h : c < 128) : Sm ⟨#[c]⟩ := by
  intro d hd
  simp at hd
  omega
theorem cut_len : (cutS x lo hi).length ≤ x.length := cutS_length x lo hi
theorem cut_to {n : Nat} : (cutS x none (some (n : Int))).length ≤ n := by
  show (((x.cps.toList.drop _).take _).toArray).size ≤ n
  rw [List.size_toArray, List.length_take]
  have : HT.sIx x.length x.length (some (n : Int)) = min n x.length := HT.sIx_nat _ _ _
  rw [this]
  have : HT.sIx x.length 0 none = 0 := rfl
  rw [this]
  omega
/-- single signs joined -/
theorem join_ones {ys : List Str} (h : ∀ y ∈ ys, ∃ c, c < 128 ∧ y = ⟨#[c]⟩) : Sm (Txt.join "" ys) ∧ (Txt.join "" ys).length = ys.length := by
  have e : (Txt.join "" ys).cps.toList = (ys.map fun y => y.cps.toList).flatten := by
    have h1 := TL.tl_join "" ys
    rw [← TL.join_eq] at h1
    refine h1.trans ?_
    clear h1 h
    have : ∀ ls : List (List Nat), TL.joinL [] ls = ls.flatten := by
      intro ls
      induction ls with
      | nil => rfl
      | cons p ls ih =>
        cases ls with
        | nil => simp [TL.joinL]
        | cons q ls => 
          show p ++ ([] ++ TL.joinL [] (q :: ls)) = _
          rw [ih]
          simp
    exact this _
  constructor
  · intro c hc
    rw [e] at hc
    obtain ⟨l, hl, hc⟩ := List.mem_flatten.mp hc
    obtain ⟨y, hy, rfl⟩ := List.mem_map.mp hl
    obtain ⟨d, hd, rfl⟩ := h y hy
    simp at hc
    omega
  · rw [len_eq, e, List.length_flatten, List.map_map]
    clear e
    induction ys with
    | nil => rfl
    | cons y ys ih =>
      obtain ⟨c, _, rfl⟩ := h y (List.mem_cons_self ..)
      rw [List.map_cons, List.sum_cons, ih fun z hz => h z (List.mem_cons_of_mem _ hz), List.length_cons]
      show 1 + ys.length = _
      omega
theorem strsOf_map : ∀ l : List Str, strsOf (l.map D.str) = some l
  | [] => rfl
  | x :: l => by
    show (strsOf (l.map D.str)).map _ = _
    rw [strsOf_map l]
    rfl
theorem k_join0 {l : List Str} (h : (l.map (·.length)).sum ≤ 16777216) : OkO (fJoin "" (.lst (l.map .str))) Q = Q (.str (Txt.join "" l)) := by
  show OkO ((strsOf (l.map D.str)).bind _) Q = _
  rw [strsOf_map]
  have e : l.length * (Str.ofString "").length = 0 := by
    have : (Str.ofString "").length = 0 := by decide +kernel
    rw [this]
    omega
  show OkO (if (l.map (·.length)).sum + l.length * (Str.ofString "").length ≤ 16777216 then _ else none) Q = _
  rw [e, if_pos (by omega)]
  rfl
/-! ### rows -/
theorem mem_cut {d : D} (h : d ∈ cut xs lo hi) : d ∈ xs := List.mem_of_mem_drop (List.mem_of_mem_take h)
theorem mem_cut' {γ : Type} {xs : List γ} {d : γ} (h : d ∈ cut xs lo hi) : d ∈ xs := List.mem_of_mem_drop (List.mem_of_mem_take h)
theorem len_cut {γ : Type} {xs : List γ} : (cut xs lo hi).length ≤ xs.length := by
  unfold cut
  rw [List.length_take, List.length_drop]
  omega
theorem cut_map {γ δ : Type} (f : γ → δ) (xs : List γ) : cut (xs.map f) lo hi = (cut xs lo hi).map f := by
  unfold cut
  rw [List.length_map, List.map_take, List.map_drop]
theorem strs_of {P : Str → Prop} : ∀ {ys : List D}, (∀ d ∈ ys, ∃ x, d = .str x ∧ P x) → ∃ fs : List Str, ys = fs.map .str ∧ ∀ x ∈ fs, P x
  | [], _ => ⟨[], rfl, by simp⟩
  | d :: ys, h => by
    obtain ⟨x, rfl, hx⟩ := h d (List.mem_cons_self ..)
    obtain ⟨fs, rfl, hf⟩ := strs_of (ys := ys) fun d hd => h d (List.mem_cons_of_mem _ hd)
    refine ⟨x :: fs, rfl, fun y hy => ?_⟩
    rcases List.mem_cons.mp hy with rfl | hy
    · exact hx
    · exact hf y hy
theorem k_rep : OkO (fMul (.lst xs) (.int k)) Q = ((0 ≤ k ∧ k < 2 ^ 63 ∧ xs.length * k.toNat ≤ sizeLine) ∧ Q (.lst (List.replicate k.toNat xs).flatten)) := of_if
theorem seqI {n : Nat} (h : 0 ≤ i) (h2 : i < n) : seqIndex? i n = some i.toNat := by
  unfold seqIndex?
  simp only [if_neg (show ¬ i < 0 by omega)]
  have : (decide (0 ≤ i) && decide (i < (n : Int))) = true := by simp [h, h2]
  rw [if_pos this]
theorem k_popAt {Q : D × D → Prop} (h : 0 ≤ i) (h2 : i < xs.length) (hl : xs.length < 2 ^ 62) (k : ∀ d, xs[i.toNat]? = some d → Q (d, .lst (xs.eraseIdx i.toNat))) : OkO (fPopAt (.lst xs) [.int i]) Q := by
  have lt : i.toNat < xs.length := by omega
  have e : fPopAt (.lst xs) [.int i] = some (xs[i.toNat], .lst (xs.eraseIdx i.toNat)) := by
    show (if -(2 ^ 63) ≤ i ∧ i < 2 ^ 63 then _ else none) = _
    rw [if_pos (by omega), seqI h h2]
    show (xs[i.toNat]?).map _ = _
    rw [List.getElem?_eq_getElem lt]
    rfl
  rw [e]
  exact k _ (List.getElem?_eq_getElem lt)
theorem k_setL {v : D} (h : 0 ≤ i) (h2 : i < xs.length) : OkO (fSet (.lst xs) (.int i) v) Q = Q (.lst (xs.set i.toNat v)) := by
  have e : fSet (.lst xs) (.int i) v = some (.lst (xs.set i.toNat v)) := by
    show (ixN xs.length i).map _ = _
    unfold ixN
    rw [if_pos h, if_pos h2]
    rfl
  rw [e]
  rfl
theorem rng_len (lo : Int) (n : Nat) : (rng lo n).length = n := by simp [rng]
theorem rng_get {lo : Int} {n i : Nat} {d : D} (h : (rng lo n)[i]? = some d) : i < n ∧ d = .int (lo + i) := by
  unfold rng at h
  rw [List.getElem?_map] at h
  obtain ⟨j, hj, rfl⟩ := Option.map_eq_some_iff.mp h
  obtain ⟨h1, h2⟩ := List.getElem?_eq_some_iff.mp hj
  rw [List.length_range] at h1
  rw [List.getElem_range] at h2
  subst h2
  exact ⟨h1, rfl⟩
theorem erase_map {γ δ : Type} (f : γ → δ) : ∀ (xs : List γ) (i : Nat), (xs.map f).eraseIdx i = (xs.eraseIdx i).map f
  | [], _ => rfl
  | _ :: _, 0 => rfl
  | x :: xs, i + 1 => congrArg (f x :: ·) (erase_map f xs i)
theorem rows_set {γ δ : Type} (f : γ → δ) : ∀ (xs : List γ) (i : Nat) (y : γ), (xs.map f).set i (f y) = (xs.set i y).map f
  | [], _, _ => rfl
  | _ :: _, 0, _ => rfl
  | x :: xs, i + 1, y => congrArg (f x :: ·) (rows_set f xs i y)
end
end VL
set_option Elab.async false
set_option linter.all false
set_option maxRecDepth 100000
set_option maxHeartbeats 1000000
namespace K81
open PySem L2 VL
variable {st : List D} {T : Nat} {a : List Str}
theorem isS {l : List Str} : isLst (.lst (l.map .str)) = true := rfl
def lenAt (j : Nat) (s : Fr) : Nat := match s.env[j]? with
  | some (.own (.lst l)) => l.length
  | _ => 0
theorem shuffled (h : Pen T st) (hT : T + a.length < 2 ^ 60) (ha : Oks a) (la : a.length ≤ 1000) : OkG (G_law_shuffled [.h 0, lS a] st) fun d st' => ∃ p : List Str, d = lS p ∧ p.Perm a ∧ Pen (T + a.length) st' := by
  refine g_mk rfl ?_
  unfold F_law_shuffled
  simp -dsimp only [po_nx, po_rt, po_bk, po_ct, fr_env, fr_st, w_ok, w_bind, w_of, w_some, w_var, w_slv, w_slo, w_c, w_op, w_un, w_cmp2, w_cmpP, w_ecmpP, w_inP, w_einP, w_ecmp, w_val, w_asB, w_no, w_an, w_or, w_tY, w_ean, w_eor, w_eno, w_eif, w_nil, w_cons, w_consO, w_tup, w_lst, w_pOf, w_pSl, w_slLv, w_slLo, w_rd, w_rd2, w_trd, w_atd, w_atl, w_atv, w_ato, w_pNo, w_asI, w_pSo, w_sl, w_slL, w_cb, w_put, w_mt, w_m1, w_asS, w_seqI, w_rng1, w_rng2, w_range, w_call, w_nx, w_seq, w_asg, w_gN, w_asgO, w_asgH, w_par, w_drop, w_ret, w_retN, w_if, w_brk, w_ct, w_set, w_for, List.getElem?_cons_zero, List.getElem?_cons_succ, List.set_cons_zero, List.set_cons_succ, List.map_cons, List.map_nil, List.cons_append, List.nil_append, List.replicate_succ, List.replicate_zero, setAll, dr_int, dr_str, dr_bl, dr_non, dr_tup, dr_lst, dr_scr, dr_dK, dr_h0, put_sl, put_h, put_own, put_vh, k_add, k_sub, k_mul, k_div, k_mod, k_pow, k_abs, k_neg, k_lt, k_le, k_gt, k_ge, k_cat, k_catT, k_catL, k_lenL, k_lenT, k_lenF, k_lenS, k_listL, k_listT, k_listF, k_tupL, k_tupT, k_slL, k_slT, k_slF, k_slS, sq_l, sq_t, sq_f, k_min, k_max, ok_app, isL_l, k_isB, k_isnB, k_eqI, k_neI, k_eqB, k_neB, k_eqS, k_neS, sq_tS, sq_lS, dr_tS, dr_lS, wi_nil, wi_cons, no_eq, no_1, no_2, k_lenT', k_lenL', List.all_cons, List.all_nil, Bool.and_true, Bool.and_self, k_inT, k_ninT, k_inL, k_ninL, List.length_cons, List.length_nil, sizeLine_eq, Nat.reduceAdd, Nat.reduceLeDiff, Nat.reduceLT, if_true, if_false, Bool.false_eq_true, Bool.not_true, Bool.not_false, ite_self, implies_true, k_all, k_any, filter_true, true_and, and_true, decide_eq_true_eq, re_nil, re_cons, List.getD_cons_zero, List.getD_cons_succ, show deref st (lS a) = .lst (a.map .str) from rfl]
  refine wh_inv (fun s => ∃ l f T' st', s = ⟨[.val (.h 0), .val (lS a), .own (.lst (l.map .str)), .own (.lst (f.map .str))], st'⟩ ∧ (l ++ f).Perm a ∧ T' + l.length ≤ T + a.length ∧ Pen T' st') (lenAt 2) ⟨a, [], T, st, rfl, by simp, by omega, h⟩ ?_
  rintro s ⟨l, f, T', st', rfl, pm, tb, hp⟩
  have ll : l.length + f.length = a.length := by have := pm.length_eq; simpa using this
  have lo : lay 1 (.lst (l.map .str)) = true := strs_lay fun x hx => ha x (pm.mem_iff.mp (List.mem_append_left _ hx))
  simp -dsimp only [po_nx, po_rt, po_bk, po_ct, fr_env, fr_st, w_ok, w_bind, w_of, w_some, w_var, w_slv, w_slo, w_c, w_op, w_un, w_cmp2, w_cmpP, w_ecmpP, w_inP, w_einP, w_ecmp, w_val, w_asB, w_no, w_an, w_or, w_tY, w_ean, w_eor, w_eno, w_eif, w_nil, w_cons, w_consO, w_tup, w_lst, w_pOf, w_pSl, w_slLv, w_slLo, w_rd, w_rd2, w_trd, w_atd, w_atl, w_atv, w_ato, w_pNo, w_asI, w_pSo, w_sl, w_slL, w_cb, w_put, w_mt, w_m1, w_asS, w_seqI, w_rng1, w_rng2, w_range, w_call, w_nx, w_seq, w_asg, w_gN, w_asgO, w_asgH, w_par, w_drop, w_ret, w_retN, w_if, w_brk, w_ct, w_set, w_for, List.getElem?_cons_zero, List.getElem?_cons_succ, List.set_cons_zero, List.set_cons_succ, List.map_cons, List.map_nil, List.cons_append, List.nil_append, List.replicate_succ, List.replicate_zero, setAll, dr_int, dr_str, dr_bl, dr_non, dr_tup, dr_lst, dr_scr, dr_dK, dr_h0, put_sl, put_h, put_own, put_vh, k_add, k_sub, k_mul, k_div, k_mod, k_pow, k_abs, k_neg, k_lt, k_le, k_gt, k_ge, k_cat, k_catT, k_catL, k_lenL, k_lenT, k_lenF, k_lenS, k_listL, k_listT, k_listF, k_tupL, k_tupT, k_slL, k_slT, k_slF, k_slS, sq_l, sq_t, sq_f, k_min, k_max, ok_app, isL_l, k_isB, k_isnB, k_eqI, k_neI, k_eqB, k_neB, k_eqS, k_neS, sq_tS, sq_lS, dr_tS, dr_lS, wi_nil, wi_cons, no_eq, no_1, no_2, k_lenT', k_lenL', List.all_cons, List.all_nil, Bool.and_true, Bool.and_self, k_inT, k_ninT, k_inL, k_ninL, List.length_cons, List.length_nil, sizeLine_eq, Nat.reduceAdd, Nat.reduceLeDiff, Nat.reduceLT, if_true, if_false, Bool.false_eq_true, Bool.not_true, Bool.not_false, ite_self, implies_true, k_all, k_any, filter_true, true_and, and_true, decide_eq_true_eq, re_nil, re_cons, List.getD_cons_zero, List.getD_cons_succ]
  rw [k_neN (n := 1) (by omega) lo]
  split
  · rename_i hne
    have lpos : 0 < l.length := by cases l with | nil => simp at hne | cons x l => simp
    try simp -dsimp only [po_nx, po_rt, po_bk, po_ct, fr_env, fr_st, w_ok, w_bind, w_of, w_some, w_var, w_slv, w_slo, w_c, w_op, w_un, w_cmp2, w_cmpP, w_ecmpP, w_inP, w_einP, w_ecmp, w_val, w_asB, w_no, w_an, w_or, w_tY, w_ean, w_eor, w_eno, w_eif, w_nil, w_cons, w_consO, w_tup, w_lst, w_pOf, w_pSl, w_slLv, w_slLo, w_rd, w_rd2, w_trd, w_atd, w_atl, w_atv, w_ato, w_pNo, w_asI, w_pSo, w_sl, w_slL, w_cb, w_put, w_mt, w_m1, w_asS, w_seqI, w_rng1, w_rng2, w_range, w_call, w_nx, w_seq, w_asg, w_gN, w_asgO, w_asgH, w_par, w_drop, w_ret, w_retN, w_if, w_brk, w_ct, w_set, w_for, List.getElem?_cons_zero, List.getElem?_cons_succ, List.set_cons_zero, List.set_cons_succ, List.map_cons, List.map_nil, List.cons_append, List.nil_append, List.replicate_succ, List.replicate_zero, setAll, dr_int, dr_str, dr_bl, dr_non, dr_tup, dr_lst, dr_scr, dr_dK, dr_h0, put_sl, put_h, put_own, put_vh, k_add, k_sub, k_mul, k_div, k_mod, k_pow, k_abs, k_neg, k_lt, k_le, k_gt, k_ge, k_cat, k_catT, k_catL, k_lenL, k_lenT, k_lenF, k_lenS, k_listL, k_listT, k_listF, k_tupL, k_tupT, k_slL, k_slT, k_slF, k_slS, sq_l, sq_t, sq_f, k_min, k_max, ok_app, isL_l, k_isB, k_isnB, k_eqI, k_neI, k_eqB, k_neB, k_eqS, k_neS, sq_tS, sq_lS, dr_tS, dr_lS, wi_nil, wi_cons, no_eq, no_1, no_2, k_lenT', k_lenL', List.all_cons, List.all_nil, Bool.and_true, Bool.and_self, k_inT, k_ninT, k_inL, k_ninL, List.length_cons, List.length_nil, sizeLine_eq, Nat.reduceAdd, Nat.reduceLeDiff, Nat.reduceLT, if_true, if_false, Bool.false_eq_true, Bool.not_true, Bool.not_false, ite_self, implies_true, k_all, k_any, filter_true, true_and, and_true, decide_eq_true_eq, re_nil, re_cons, List.getD_cons_zero, List.getD_cons_succ]
    refine (draw hp (by omega) (by rw [List.length_map]; omega) (by rw [List.length_map]; omega)).mono ?_
    rintro _ st2 ⟨v, rfl, v1, v2, hp2⟩
    try simp -dsimp only [po_nx, po_rt, po_bk, po_ct, fr_env, fr_st, w_ok, w_bind, w_of, w_some, w_var, w_slv, w_slo, w_c, w_op, w_un, w_cmp2, w_cmpP, w_ecmpP, w_inP, w_einP, w_ecmp, w_val, w_asB, w_no, w_an, w_or, w_tY, w_ean, w_eor, w_eno, w_eif, w_nil, w_cons, w_consO, w_tup, w_lst, w_pOf, w_pSl, w_slLv, w_slLo, w_rd, w_rd2, w_trd, w_atd, w_atl, w_atv, w_ato, w_pNo, w_asI, w_pSo, w_sl, w_slL, w_cb, w_put, w_mt, w_m1, w_asS, w_seqI, w_rng1, w_rng2, w_range, w_call, w_nx, w_seq, w_asg, w_gN, w_asgO, w_asgH, w_par, w_drop, w_ret, w_retN, w_if, w_brk, w_ct, w_set, w_for, List.getElem?_cons_zero, List.getElem?_cons_succ, List.set_cons_zero, List.set_cons_succ, List.map_cons, List.map_nil, List.cons_append, List.nil_append, List.replicate_succ, List.replicate_zero, setAll, dr_int, dr_str, dr_bl, dr_non, dr_tup, dr_lst, dr_scr, dr_dK, dr_h0, put_sl, put_h, put_own, put_vh, k_add, k_sub, k_mul, k_div, k_mod, k_pow, k_abs, k_neg, k_lt, k_le, k_gt, k_ge, k_cat, k_catT, k_catL, k_lenL, k_lenT, k_lenF, k_lenS, k_listL, k_listT, k_listF, k_tupL, k_tupT, k_slL, k_slT, k_slF, k_slS, sq_l, sq_t, sq_f, k_min, k_max, ok_app, isL_l, k_isB, k_isnB, k_eqI, k_neI, k_eqB, k_neB, k_eqS, k_neS, sq_tS, sq_lS, dr_tS, dr_lS, wi_nil, wi_cons, no_eq, no_1, no_2, k_lenT', k_lenL', List.all_cons, List.all_nil, Bool.and_true, Bool.and_self, k_inT, k_ninT, k_inL, k_ninL, List.length_cons, List.length_nil, sizeLine_eq, Nat.reduceAdd, Nat.reduceLeDiff, Nat.reduceLT, if_true, if_false, Bool.false_eq_true, Bool.not_true, Bool.not_false, ite_self, implies_true, k_all, k_any, filter_true, true_and, and_true, decide_eq_true_eq, re_nil, re_cons, List.getD_cons_zero, List.getD_cons_succ]
    rw [List.length_map] at v2
    refine k_popAt v1 (by rw [List.length_map]; exact v2) (by rw [List.length_map]; omega) fun d hd => ?_
    rw [List.getElem?_map] at hd
    obtain ⟨x, hx, rfl⟩ := Option.map_eq_some_iff.mp hd
    have vl : v.toNat < l.length := (List.getElem?_eq_some_iff.mp hx).1
    have ex : l[v.toNat] = x := (List.getElem?_eq_some_iff.mp hx).2
    try simp -dsimp only [po_nx, po_rt, po_bk, po_ct, fr_env, fr_st, w_ok, w_bind, w_of, w_some, w_var, w_slv, w_slo, w_c, w_op, w_un, w_cmp2, w_cmpP, w_ecmpP, w_inP, w_einP, w_ecmp, w_val, w_asB, w_no, w_an, w_or, w_tY, w_ean, w_eor, w_eno, w_eif, w_nil, w_cons, w_consO, w_tup, w_lst, w_pOf, w_pSl, w_slLv, w_slLo, w_rd, w_rd2, w_trd, w_atd, w_atl, w_atv, w_ato, w_pNo, w_asI, w_pSo, w_sl, w_slL, w_cb, w_put, w_mt, w_m1, w_asS, w_seqI, w_rng1, w_rng2, w_range, w_call, w_nx, w_seq, w_asg, w_gN, w_asgO, w_asgH, w_par, w_drop, w_ret, w_retN, w_if, w_brk, w_ct, w_set, w_for, List.getElem?_cons_zero, List.getElem?_cons_succ, List.set_cons_zero, List.set_cons_succ, List.map_cons, List.map_nil, List.cons_append, List.nil_append, List.replicate_succ, List.replicate_zero, setAll, dr_int, dr_str, dr_bl, dr_non, dr_tup, dr_lst, dr_scr, dr_dK, dr_h0, put_sl, put_h, put_own, put_vh, k_add, k_sub, k_mul, k_div, k_mod, k_pow, k_abs, k_neg, k_lt, k_le, k_gt, k_ge, k_cat, k_catT, k_catL, k_lenL, k_lenT, k_lenF, k_lenS, k_listL, k_listT, k_listF, k_tupL, k_tupT, k_slL, k_slT, k_slF, k_slS, sq_l, sq_t, sq_f, k_min, k_max, ok_app, isL_l, k_isB, k_isnB, k_eqI, k_neI, k_eqB, k_neB, k_eqS, k_neS, sq_tS, sq_lS, dr_tS, dr_lS, wi_nil, wi_cons, no_eq, no_1, no_2, k_lenT', k_lenL', List.all_cons, List.all_nil, Bool.and_true, Bool.and_self, k_inT, k_ninT, k_inL, k_ninL, List.length_cons, List.length_nil, sizeLine_eq, Nat.reduceAdd, Nat.reduceLeDiff, Nat.reduceLT, if_true, if_false, Bool.false_eq_true, Bool.not_true, Bool.not_false, ite_self, implies_true, k_all, k_any, filter_true, true_and, and_true, decide_eq_true_eq, re_nil, re_cons, List.getD_cons_zero, List.getD_cons_succ]
    refine ⟨by rw [List.length_map]; omega, ⟨l.eraseIdx v.toNat, f ++ [x], T' + 1, st2, ?_, ?_, ?_, hp2⟩, ?_⟩
    · rw [erase_map, List.map_append]
      rfl
    · refine List.Perm.trans ?_ pm
      have e1 : (x :: l.eraseIdx v.toNat).Perm l := L2.erase_perm l v.toNat x hx
      have e2 : (l.eraseIdx v.toNat ++ (f ++ [x])).Perm (x :: l.eraseIdx v.toNat ++ f) := by
        rw [← List.append_assoc]
        exact List.perm_append_singleton _ _
      exact e2.trans (e1.append_right _)
    · rw [List.length_eraseIdx, if_pos vl]
      omega
    · show ((l.map D.str).eraseIdx v.toNat).length < (l.map D.str).length
      rw [List.length_eraseIdx, List.length_map, if_pos vl]
      omega
  · rename_i hne
    have l0 : l = [] := by cases l with | nil => rfl | cons x l => simp at hne
    subst l0
    try simp -dsimp only [po_nx, po_rt, po_bk, po_ct, fr_env, fr_st, w_ok, w_bind, w_of, w_some, w_var, w_slv, w_slo, w_c, w_op, w_un, w_cmp2, w_cmpP, w_ecmpP, w_inP, w_einP, w_ecmp, w_val, w_asB, w_no, w_an, w_or, w_tY, w_ean, w_eor, w_eno, w_eif, w_nil, w_cons, w_consO, w_tup, w_lst, w_pOf, w_pSl, w_slLv, w_slLo, w_rd, w_rd2, w_trd, w_atd, w_atl, w_atv, w_ato, w_pNo, w_asI, w_pSo, w_sl, w_slL, w_cb, w_put, w_mt, w_m1, w_asS, w_seqI, w_rng1, w_rng2, w_range, w_call, w_nx, w_seq, w_asg, w_gN, w_asgO, w_asgH, w_par, w_drop, w_ret, w_retN, w_if, w_brk, w_ct, w_set, w_for, List.getElem?_cons_zero, List.getElem?_cons_succ, List.set_cons_zero, List.set_cons_succ, List.map_cons, List.map_nil, List.cons_append, List.nil_append, List.replicate_succ, List.replicate_zero, setAll, dr_int, dr_str, dr_bl, dr_non, dr_tup, dr_lst, dr_scr, dr_dK, dr_h0, put_sl, put_h, put_own, put_vh, k_add, k_sub, k_mul, k_div, k_mod, k_pow, k_abs, k_neg, k_lt, k_le, k_gt, k_ge, k_cat, k_catT, k_catL, k_lenL, k_lenT, k_lenF, k_lenS, k_listL, k_listT, k_listF, k_tupL, k_tupT, k_slL, k_slT, k_slF, k_slS, sq_l, sq_t, sq_f, k_min, k_max, ok_app, isL_l, k_isB, k_isnB, k_eqI, k_neI, k_eqB, k_neB, k_eqS, k_neS, sq_tS, sq_lS, dr_tS, dr_lS, wi_nil, wi_cons, no_eq, no_1, no_2, k_lenT', k_lenL', List.all_cons, List.all_nil, Bool.and_true, Bool.and_self, k_inT, k_ninT, k_inL, k_ninL, List.length_cons, List.length_nil, sizeLine_eq, Nat.reduceAdd, Nat.reduceLeDiff, Nat.reduceLT, if_true, if_false, Bool.false_eq_true, Bool.not_true, Bool.not_false, ite_self, implies_true, k_all, k_any, filter_true, true_and, and_true, decide_eq_true_eq, re_nil, re_cons, List.getD_cons_zero, List.getD_cons_succ]
    exact ⟨f, rfl, by simpa using pm, hp.mono (by simp at tb ll; omega)⟩
/-! ### names -/
theorem sm_lit {x : Str} (h : x.cps.toList.all (· < 128) = true) : Sm x := fun c hc => of_decide_eq_true (List.all_eq_true.mp h c hc)
def words : List Str := ["node", "edge", "watch", "modulus", "when", "forward", "backward", "at", "step", "jump", "remove", "row", "open", "blocks", "form", "residue", "a", "b"]
theorem words_ok : ∀ x ∈ words, Nm x := by
  have h : words.all (fun x => decide (x.length ≤ 30) && x.cps.toList.all (· < 128)) = true := by decide +kernel
  intro x hx
  have := List.all_eq_true.mp h x hx
  rw [Bool.and_eq_true, decide_eq_true_eq] at this
  exact ⟨this.1, sm_lit this.2⟩
def abc : Str := "abcdefghijklmnopqrstuvwxyz"
theorem abc_sm : Sm abc := sm_lit (by decide +kernel)
theorem abc_len : abc.length = 26 := by decide +kernel
/-- rows of names -/
def Names (d : D) (n : Nat) : Prop := ∃ fs : List Str, d = lS fs ∧ fs.length ≤ n ∧ ∀ x ∈ fs, Nm x
theorem names (h : Pen T st) (hT : T < 2 ^ 50) : OkG (G_law_names [.h 0, .int 18] st) fun d st' => Names d 40 ∧ Pen (T + 30) st' := by
  refine g_mk rfl ?_
  unfold F_law_names
  simp -dsimp only [po_nx, po_rt, po_bk, po_ct, fr_env, fr_st, w_ok, w_bind, w_of, w_some, w_var, w_slv, w_slo, w_c, w_op, w_un, w_cmp2, w_cmpP, w_ecmpP, w_inP, w_einP, w_ecmp, w_val, w_asB, w_no, w_an, w_or, w_tY, w_ean, w_eor, w_eno, w_eif, w_nil, w_cons, w_consO, w_tup, w_lst, w_pOf, w_pSl, w_slLv, w_slLo, w_rd, w_rd2, w_trd, w_atd, w_atl, w_atv, w_ato, w_pNo, w_asI, w_pSo, w_sl, w_slL, w_cb, w_put, w_mt, w_m1, w_asS, w_seqI, w_rng1, w_rng2, w_range, w_call, w_nx, w_seq, w_asg, w_gN, w_asgO, w_asgH, w_par, w_drop, w_ret, w_retN, w_if, w_brk, w_ct, w_set, w_for, List.getElem?_cons_zero, List.getElem?_cons_succ, List.set_cons_zero, List.set_cons_succ, List.map_cons, List.map_nil, List.cons_append, List.nil_append, List.replicate_succ, List.replicate_zero, setAll, dr_int, dr_str, dr_bl, dr_non, dr_tup, dr_lst, dr_scr, dr_dK, dr_h0, put_sl, put_h, put_own, put_vh, k_add, k_sub, k_mul, k_div, k_mod, k_pow, k_abs, k_neg, k_lt, k_le, k_gt, k_ge, k_cat, k_catT, k_catL, k_lenL, k_lenT, k_lenF, k_lenS, k_listL, k_listT, k_listF, k_tupL, k_tupT, k_slL, k_slT, k_slF, k_slS, sq_l, sq_t, sq_f, k_min, k_max, ok_app, isL_l, k_isB, k_isnB, k_eqI, k_neI, k_eqB, k_neB, k_eqS, k_neS, sq_tS, sq_lS, dr_tS, dr_lS, wi_nil, wi_cons, no_eq, no_1, no_2, k_lenT', k_lenL', List.all_cons, List.all_nil, Bool.and_true, Bool.and_self, k_inT, k_ninT, k_inL, k_ninL, List.length_cons, List.length_nil, sizeLine_eq, Nat.reduceAdd, Nat.reduceLeDiff, Nat.reduceLT, if_true, if_false, Bool.false_eq_true, Bool.not_true, Bool.not_false, ite_self, implies_true, k_all, k_any, filter_true, true_and, and_true, decide_eq_true_eq, re_nil, re_cons, List.getD_cons_zero, List.getD_cons_succ]
  refine (draw h (by omega) (by omega) (by omega)).mono ?_
  rintro _ st1 ⟨v, rfl, v1, v2, h1⟩
  try simp -dsimp only [po_nx, po_rt, po_bk, po_ct, fr_env, fr_st, w_ok, w_bind, w_of, w_some, w_var, w_slv, w_slo, w_c, w_op, w_un, w_cmp2, w_cmpP, w_ecmpP, w_inP, w_einP, w_ecmp, w_val, w_asB, w_no, w_an, w_or, w_tY, w_ean, w_eor, w_eno, w_eif, w_nil, w_cons, w_consO, w_tup, w_lst, w_pOf, w_pSl, w_slLv, w_slLo, w_rd, w_rd2, w_trd, w_atd, w_atl, w_atv, w_ato, w_pNo, w_asI, w_pSo, w_sl, w_slL, w_cb, w_put, w_mt, w_m1, w_asS, w_seqI, w_rng1, w_rng2, w_range, w_call, w_nx, w_seq, w_asg, w_gN, w_asgO, w_asgH, w_par, w_drop, w_ret, w_retN, w_if, w_brk, w_ct, w_set, w_for, List.getElem?_cons_zero, List.getElem?_cons_succ, List.set_cons_zero, List.set_cons_succ, List.map_cons, List.map_nil, List.cons_append, List.nil_append, List.replicate_succ, List.replicate_zero, setAll, dr_int, dr_str, dr_bl, dr_non, dr_tup, dr_lst, dr_scr, dr_dK, dr_h0, put_sl, put_h, put_own, put_vh, k_add, k_sub, k_mul, k_div, k_mod, k_pow, k_abs, k_neg, k_lt, k_le, k_gt, k_ge, k_cat, k_catT, k_catL, k_lenL, k_lenT, k_lenF, k_lenS, k_listL, k_listT, k_listF, k_tupL, k_tupT, k_slL, k_slT, k_slF, k_slS, sq_l, sq_t, sq_f, k_min, k_max, ok_app, isL_l, k_isB, k_isnB, k_eqI, k_neI, k_eqB, k_neB, k_eqS, k_neS, sq_tS, sq_lS, dr_tS, dr_lS, wi_nil, wi_cons, no_eq, no_1, no_2, k_lenT', k_lenL', List.all_cons, List.all_nil, Bool.and_true, Bool.and_self, k_inT, k_ninT, k_inL, k_ninL, List.length_cons, List.length_nil, sizeLine_eq, Nat.reduceAdd, Nat.reduceLeDiff, Nat.reduceLT, if_true, if_false, Bool.false_eq_true, Bool.not_true, Bool.not_false, ite_self, implies_true, k_all, k_any, filter_true, true_and, and_true, decide_eq_true_eq, re_nil, re_cons, List.getD_cons_zero, List.getD_cons_succ]
  split
  · refine (draw h1 (by omega) (by omega) (by omega)).mono ?_
    rintro _ st2 ⟨w, rfl, w1, w2, h2⟩
    simp -dsimp only [po_nx, po_rt, po_bk, po_ct, fr_env, fr_st, w_ok, w_bind, w_of, w_some, w_var, w_slv, w_slo, w_c, w_op, w_un, w_cmp2, w_cmpP, w_ecmpP, w_inP, w_einP, w_ecmp, w_val, w_asB, w_no, w_an, w_or, w_tY, w_ean, w_eor, w_eno, w_eif, w_nil, w_cons, w_consO, w_tup, w_lst, w_pOf, w_pSl, w_slLv, w_slLo, w_rd, w_rd2, w_trd, w_atd, w_atl, w_atv, w_ato, w_pNo, w_asI, w_pSo, w_sl, w_slL, w_cb, w_put, w_mt, w_m1, w_asS, w_seqI, w_rng1, w_rng2, w_range, w_call, w_nx, w_seq, w_asg, w_gN, w_asgO, w_asgH, w_par, w_drop, w_ret, w_retN, w_if, w_brk, w_ct, w_set, w_for, List.getElem?_cons_zero, List.getElem?_cons_succ, List.set_cons_zero, List.set_cons_succ, List.map_cons, List.map_nil, List.cons_append, List.nil_append, List.replicate_succ, List.replicate_zero, setAll, dr_int, dr_str, dr_bl, dr_non, dr_tup, dr_lst, dr_scr, dr_dK, dr_h0, put_sl, put_h, put_own, put_vh, k_add, k_sub, k_mul, k_div, k_mod, k_pow, k_abs, k_neg, k_lt, k_le, k_gt, k_ge, k_cat, k_catT, k_catL, k_lenL, k_lenT, k_lenF, k_lenS, k_listL, k_listT, k_listF, k_tupL, k_tupT, k_slL, k_slT, k_slF, k_slS, sq_l, sq_t, sq_f, k_min, k_max, ok_app, isL_l, k_isB, k_isnB, k_eqI, k_neI, k_eqB, k_neB, k_eqS, k_neS, sq_tS, sq_lS, dr_tS, dr_lS, wi_nil, wi_cons, no_eq, no_1, no_2, k_lenT', k_lenL', List.all_cons, List.all_nil, Bool.and_true, Bool.and_self, k_inT, k_ninT, k_inL, k_ninL, List.length_cons, List.length_nil, sizeLine_eq, Nat.reduceAdd, Nat.reduceLeDiff, Nat.reduceLT, if_true, if_false, Bool.false_eq_true, Bool.not_true, Bool.not_false, ite_self, implies_true, k_all, k_any, filter_true, true_and, and_true, decide_eq_true_eq, re_nil, re_cons, List.getD_cons_zero, List.getD_cons_succ, k_rep]
    refine ⟨by decide, ?_, h2.mono (by omega)⟩
    obtain ⟨fs, e, hf⟩ := strs_of (P := Nm) (ys := cut (cut (List.replicate (Int.toNat 2) (words.map D.str)).flatten (some w) none) none (some 18)) (fun d hd => by
      obtain ⟨l, hl, hd⟩ := List.mem_flatten.mp (mem_cut' (mem_cut' hd))
      rw [(List.mem_replicate.mp hl).2] at hd
      obtain ⟨x, hx, rfl⟩ := List.mem_map.mp hd
      exact ⟨x, rfl, words_ok x hx⟩)
    refine ⟨fs, congrArg D.lst e, ?_, hf⟩
    have l1 : fs.length = (cut (cut (List.replicate (Int.toNat 2) (words.map D.str)).flatten (some w) none) none (some 18)).length := by rw [e, List.length_map]
    have l2 := len_cut (lo := none) (hi := some 18) (xs := cut (List.replicate (Int.toNat 2) (words.map D.str)).flatten (some w) none)
    have l3 := len_cut (lo := some w) (hi := none) (xs := (List.replicate (Int.toNat 2) (words.map D.str)).flatten)
    have l4 : ((List.replicate (Int.toNat 2) (words.map D.str)).flatten).length = 36 := by decide +kernel
    omega
  · have e0 : Str.ofString "abcdefghijklmnopqrstuvwxyz" = abc := rfl
    rw [e0]
    refine lc_inv (fun ds s1 i acc s => (∃ (fs : List Str) (st' : List D), acc = fs.map .str ∧ fs.length = i ∧ (∀ y ∈ fs, ∃ c, c < 128 ∧ y = ⟨#[c]⟩) ∧ s = ⟨[.val (.h 0), .val (.int 18), .no, .no, .val (.str abc), .no, .no, .no, .no, .no, .no, .no, .no], st'⟩ ∧ Pen (T + 2 + i) st') ∧
      1 ≤ ds.length ∧ ds.length ≤ 8 ∧ s1.env = [.val (.h 0), .val (.int 18), .no, .no, .val (.str abc), .no, .no, .no, .no, .no, .no, .no, .no]) ?_
    simp -dsimp only [po_nx, po_rt, po_bk, po_ct, fr_env, fr_st, w_ok, w_bind, w_of, w_some, w_var, w_slv, w_slo, w_c, w_op, w_un, w_cmp2, w_cmpP, w_ecmpP, w_inP, w_einP, w_ecmp, w_val, w_asB, w_no, w_an, w_or, w_tY, w_ean, w_eor, w_eno, w_eif, w_nil, w_cons, w_consO, w_tup, w_lst, w_pOf, w_pSl, w_slLv, w_slLo, w_rd, w_rd2, w_trd, w_atd, w_atl, w_atv, w_ato, w_pNo, w_asI, w_pSo, w_sl, w_slL, w_cb, w_put, w_mt, w_m1, w_asS, w_seqI, w_rng1, w_rng2, w_range, w_call, w_nx, w_seq, w_asg, w_gN, w_asgO, w_asgH, w_par, w_drop, w_ret, w_retN, w_if, w_brk, w_ct, w_set, w_for, List.getElem?_cons_zero, List.getElem?_cons_succ, List.set_cons_zero, List.set_cons_succ, List.map_cons, List.map_nil, List.cons_append, List.nil_append, List.replicate_succ, List.replicate_zero, setAll, dr_int, dr_str, dr_bl, dr_non, dr_tup, dr_lst, dr_scr, dr_dK, dr_h0, put_sl, put_h, put_own, put_vh, k_add, k_sub, k_mul, k_div, k_mod, k_pow, k_abs, k_neg, k_lt, k_le, k_gt, k_ge, k_cat, k_catT, k_catL, k_lenL, k_lenT, k_lenF, k_lenS, k_listL, k_listT, k_listF, k_tupL, k_tupT, k_slL, k_slT, k_slF, k_slS, sq_l, sq_t, sq_f, k_min, k_max, ok_app, isL_l, k_isB, k_isnB, k_eqI, k_neI, k_eqB, k_neB, k_eqS, k_neS, sq_tS, sq_lS, dr_tS, dr_lS, wi_nil, wi_cons, no_eq, no_1, no_2, k_lenT', k_lenL', List.all_cons, List.all_nil, Bool.and_true, Bool.and_self, k_inT, k_ninT, k_inL, k_ninL, List.length_cons, List.length_nil, sizeLine_eq, Nat.reduceAdd, Nat.reduceLeDiff, Nat.reduceLT, if_true, if_false, Bool.false_eq_true, Bool.not_true, Bool.not_false, ite_self, implies_true, k_all, k_any, filter_true, true_and, and_true, decide_eq_true_eq, re_nil, re_cons, List.getD_cons_zero, List.getD_cons_succ]
    refine (draw h1 (by omega) (by omega) (by omega)).mono ?_
    rintro _ st2 ⟨n, rfl, n1, n2, h2⟩
    simp -dsimp only [po_nx, po_rt, po_bk, po_ct, fr_env, fr_st, w_ok, w_bind, w_of, w_some, w_var, w_slv, w_slo, w_c, w_op, w_un, w_cmp2, w_cmpP, w_ecmpP, w_inP, w_einP, w_ecmp, w_val, w_asB, w_no, w_an, w_or, w_tY, w_ean, w_eor, w_eno, w_eif, w_nil, w_cons, w_consO, w_tup, w_lst, w_pOf, w_pSl, w_slLv, w_slLo, w_rd, w_rd2, w_trd, w_atd, w_atl, w_atv, w_ato, w_pNo, w_asI, w_pSo, w_sl, w_slL, w_cb, w_put, w_mt, w_m1, w_asS, w_seqI, w_rng1, w_rng2, w_range, w_call, w_nx, w_seq, w_asg, w_gN, w_asgO, w_asgH, w_par, w_drop, w_ret, w_retN, w_if, w_brk, w_ct, w_set, w_for, List.getElem?_cons_zero, List.getElem?_cons_succ, List.set_cons_zero, List.set_cons_succ, List.map_cons, List.map_nil, List.cons_append, List.nil_append, List.replicate_succ, List.replicate_zero, setAll, dr_int, dr_str, dr_bl, dr_non, dr_tup, dr_lst, dr_scr, dr_dK, dr_h0, put_sl, put_h, put_own, put_vh, k_add, k_sub, k_mul, k_div, k_mod, k_pow, k_abs, k_neg, k_lt, k_le, k_gt, k_ge, k_cat, k_catT, k_catL, k_lenL, k_lenT, k_lenF, k_lenS, k_listL, k_listT, k_listF, k_tupL, k_tupT, k_slL, k_slT, k_slF, k_slS, sq_l, sq_t, sq_f, k_min, k_max, ok_app, isL_l, k_isB, k_isnB, k_eqI, k_neI, k_eqB, k_neB, k_eqS, k_neS, sq_tS, sq_lS, dr_tS, dr_lS, wi_nil, wi_cons, no_eq, no_1, no_2, k_lenT', k_lenL', List.all_cons, List.all_nil, Bool.and_true, Bool.and_self, k_inT, k_ninT, k_inL, k_ninL, List.length_cons, List.length_nil, sizeLine_eq, Nat.reduceAdd, Nat.reduceLeDiff, Nat.reduceLT, if_true, if_false, Bool.false_eq_true, Bool.not_true, Bool.not_false, ite_self, implies_true, k_all, k_any, filter_true, true_and, and_true, decide_eq_true_eq, re_nil, re_cons, List.getD_cons_zero, List.getD_cons_succ]
    refine ⟨by omega, by omega, ⟨⟨[], st2, rfl, rfl, by simp, rfl, h2⟩, by rw [rng_len]; omega, by rw [rng_len]; omega⟩, ?_, ?_⟩
    · rintro i d acc s hd ⟨⟨fs, st', rfl, lf, hf, rfl, hp⟩, b1, b2⟩
      have il : i < 8 := by have := (List.getElem?_eq_some_iff.mp hd).1; omega
      try simp -dsimp only [po_nx, po_rt, po_bk, po_ct, fr_env, fr_st, w_ok, w_bind, w_of, w_some, w_var, w_slv, w_slo, w_c, w_op, w_un, w_cmp2, w_cmpP, w_ecmpP, w_inP, w_einP, w_ecmp, w_val, w_asB, w_no, w_an, w_or, w_tY, w_ean, w_eor, w_eno, w_eif, w_nil, w_cons, w_consO, w_tup, w_lst, w_pOf, w_pSl, w_slLv, w_slLo, w_rd, w_rd2, w_trd, w_atd, w_atl, w_atv, w_ato, w_pNo, w_asI, w_pSo, w_sl, w_slL, w_cb, w_put, w_mt, w_m1, w_asS, w_seqI, w_rng1, w_rng2, w_range, w_call, w_nx, w_seq, w_asg, w_gN, w_asgO, w_asgH, w_par, w_drop, w_ret, w_retN, w_if, w_brk, w_ct, w_set, w_for, List.getElem?_cons_zero, List.getElem?_cons_succ, List.set_cons_zero, List.set_cons_succ, List.map_cons, List.map_nil, List.cons_append, List.nil_append, List.replicate_succ, List.replicate_zero, setAll, dr_int, dr_str, dr_bl, dr_non, dr_tup, dr_lst, dr_scr, dr_dK, dr_h0, put_sl, put_h, put_own, put_vh, k_add, k_sub, k_mul, k_div, k_mod, k_pow, k_abs, k_neg, k_lt, k_le, k_gt, k_ge, k_cat, k_catT, k_catL, k_lenL, k_lenT, k_lenF, k_lenS, k_listL, k_listT, k_listF, k_tupL, k_tupT, k_slL, k_slT, k_slF, k_slS, sq_l, sq_t, sq_f, k_min, k_max, ok_app, isL_l, k_isB, k_isnB, k_eqI, k_neI, k_eqB, k_neB, k_eqS, k_neS, sq_tS, sq_lS, dr_tS, dr_lS, wi_nil, wi_cons, no_eq, no_1, no_2, k_lenT', k_lenL', List.all_cons, List.all_nil, Bool.and_true, Bool.and_self, k_inT, k_ninT, k_inL, k_ninL, List.length_cons, List.length_nil, sizeLine_eq, Nat.reduceAdd, Nat.reduceLeDiff, Nat.reduceLT, if_true, if_false, Bool.false_eq_true, Bool.not_true, Bool.not_false, ite_self, implies_true, k_all, k_any, filter_true, true_and, and_true, decide_eq_true_eq, re_nil, re_cons, List.getD_cons_zero, List.getD_cons_succ]
      refine (pick_S hp (by omega) (by rw [abc_len]; omega) (by rw [abc_len]; omega)).mono ?_
      rintro _ st3 ⟨⟨c, hc, rfl⟩, hp3⟩
      try simp -dsimp only [po_nx, po_rt, po_bk, po_ct, fr_env, fr_st, w_ok, w_bind, w_of, w_some, w_var, w_slv, w_slo, w_c, w_op, w_un, w_cmp2, w_cmpP, w_ecmpP, w_inP, w_einP, w_ecmp, w_val, w_asB, w_no, w_an, w_or, w_tY, w_ean, w_eor, w_eno, w_eif, w_nil, w_cons, w_consO, w_tup, w_lst, w_pOf, w_pSl, w_slLv, w_slLo, w_rd, w_rd2, w_trd, w_atd, w_atl, w_atv, w_ato, w_pNo, w_asI, w_pSo, w_sl, w_slL, w_cb, w_put, w_mt, w_m1, w_asS, w_seqI, w_rng1, w_rng2, w_range, w_call, w_nx, w_seq, w_asg, w_gN, w_asgO, w_asgH, w_par, w_drop, w_ret, w_retN, w_if, w_brk, w_ct, w_set, w_for, List.getElem?_cons_zero, List.getElem?_cons_succ, List.set_cons_zero, List.set_cons_succ, List.map_cons, List.map_nil, List.cons_append, List.nil_append, List.replicate_succ, List.replicate_zero, setAll, dr_int, dr_str, dr_bl, dr_non, dr_tup, dr_lst, dr_scr, dr_dK, dr_h0, put_sl, put_h, put_own, put_vh, k_add, k_sub, k_mul, k_div, k_mod, k_pow, k_abs, k_neg, k_lt, k_le, k_gt, k_ge, k_cat, k_catT, k_catL, k_lenL, k_lenT, k_lenF, k_lenS, k_listL, k_listT, k_listF, k_tupL, k_tupT, k_slL, k_slT, k_slF, k_slS, sq_l, sq_t, sq_f, k_min, k_max, ok_app, isL_l, k_isB, k_isnB, k_eqI, k_neI, k_eqB, k_neB, k_eqS, k_neS, sq_tS, sq_lS, dr_tS, dr_lS, wi_nil, wi_cons, no_eq, no_1, no_2, k_lenT', k_lenL', List.all_cons, List.all_nil, Bool.and_true, Bool.and_self, k_inT, k_ninT, k_inL, k_ninL, List.length_cons, List.length_nil, sizeLine_eq, Nat.reduceAdd, Nat.reduceLeDiff, Nat.reduceLT, if_true, if_false, Bool.false_eq_true, Bool.not_true, Bool.not_false, ite_self, implies_true, k_all, k_any, filter_true, true_and, and_true, decide_eq_true_eq, re_nil, re_cons, List.getD_cons_zero, List.getD_cons_succ]
      refine ⟨by rw [List.length_map]; omega, ⟨fs ++ [⟨#[c]⟩], st3, ?_, ?_, ?_, rfl, hp3⟩, b1, b2⟩
      · rw [List.map_append]
        rfl
      · rw [List.length_append, lf, List.length_singleton]
      · intro y hy
        rcases List.mem_append.mp hy with hy | hy
        · exact hf y hy
        · rw [List.mem_singleton.mp hy]
          exact ⟨c, abc_sm c hc, rfl⟩
    · rintro acc s ⟨⟨fs, st', rfl, lf, hf, rfl, hp⟩, b1, b2⟩
      rw [rng_len] at lf
      have lf8 : fs.length ≤ 8 ∧ 1 ≤ fs.length := by omega
      rw [k_join0 (by
        have : ∀ l : List Str, (∀ y ∈ l, ∃ c, c < 128 ∧ y = ⟨#[c]⟩) → (l.map (·.length)).sum = l.length := by
          intro l
          induction l with
          | nil => intro _; rfl
          | cons y l ih =>
            intro h
            obtain ⟨c, _, rfl⟩ := h y (List.mem_cons_self ..)
            rw [List.map_cons, List.sum_cons, ih fun z hz => h z (List.mem_cons_of_mem _ hz), List.length_cons]
            show 1 + l.length = _
            omega
        rw [this fs hf]
        omega)]
      obtain ⟨sx, lx⟩ := join_ones hf
      generalize Txt.join "" fs = base at sx lx ⊢
      try simp -dsimp only [po_nx, po_rt, po_bk, po_ct, fr_env, fr_st, w_ok, w_bind, w_of, w_some, w_var, w_slv, w_slo, w_c, w_op, w_un, w_cmp2, w_cmpP, w_ecmpP, w_inP, w_einP, w_ecmp, w_val, w_asB, w_no, w_an, w_or, w_tY, w_ean, w_eor, w_eno, w_eif, w_nil, w_cons, w_consO, w_tup, w_lst, w_pOf, w_pSl, w_slLv, w_slLo, w_rd, w_rd2, w_trd, w_atd, w_atl, w_atv, w_ato, w_pNo, w_asI, w_pSo, w_sl, w_slL, w_cb, w_put, w_mt, w_m1, w_asS, w_seqI, w_rng1, w_rng2, w_range, w_call, w_nx, w_seq, w_asg, w_gN, w_asgO, w_asgH, w_par, w_drop, w_ret, w_retN, w_if, w_brk, w_ct, w_set, w_for, List.getElem?_cons_zero, List.getElem?_cons_succ, List.set_cons_zero, List.set_cons_succ, List.map_cons, List.map_nil, List.cons_append, List.nil_append, List.replicate_succ, List.replicate_zero, setAll, dr_int, dr_str, dr_bl, dr_non, dr_tup, dr_lst, dr_scr, dr_dK, dr_h0, put_sl, put_h, put_own, put_vh, k_add, k_sub, k_mul, k_div, k_mod, k_pow, k_abs, k_neg, k_lt, k_le, k_gt, k_ge, k_cat, k_catT, k_catL, k_lenL, k_lenT, k_lenF, k_lenS, k_listL, k_listT, k_listF, k_tupL, k_tupT, k_slL, k_slT, k_slF, k_slS, sq_l, sq_t, sq_f, k_min, k_max, ok_app, isL_l, k_isB, k_isnB, k_eqI, k_neI, k_eqB, k_neB, k_eqS, k_neS, sq_tS, sq_lS, dr_tS, dr_lS, wi_nil, wi_cons, no_eq, no_1, no_2, k_lenT', k_lenL', List.all_cons, List.all_nil, Bool.and_true, Bool.and_self, k_inT, k_ninT, k_inL, k_ninL, List.length_cons, List.length_nil, sizeLine_eq, Nat.reduceAdd, Nat.reduceLeDiff, Nat.reduceLT, if_true, if_false, Bool.false_eq_true, Bool.not_true, Bool.not_false, ite_self, implies_true, k_all, k_any, filter_true, true_and, and_true, decide_eq_true_eq, re_nil, re_cons, List.getD_cons_zero, List.getD_cons_succ]
      refine ⟨by omega, (draw hp (by rw [rng_len]; omega) (by omega) (by omega)).mono ?_⟩
      rintro _ st3 ⟨at', rfl, at1, at2, h3⟩
      try simp -dsimp only [po_nx, po_rt, po_bk, po_ct, fr_env, fr_st, w_ok, w_bind, w_of, w_some, w_var, w_slv, w_slo, w_c, w_op, w_un, w_cmp2, w_cmpP, w_ecmpP, w_inP, w_einP, w_ecmp, w_val, w_asB, w_no, w_an, w_or, w_tY, w_ean, w_eor, w_eno, w_eif, w_nil, w_cons, w_consO, w_tup, w_lst, w_pOf, w_pSl, w_slLv, w_slLo, w_rd, w_rd2, w_trd, w_atd, w_atl, w_atv, w_ato, w_pNo, w_asI, w_pSo, w_sl, w_slL, w_cb, w_put, w_mt, w_m1, w_asS, w_seqI, w_rng1, w_rng2, w_range, w_call, w_nx, w_seq, w_asg, w_gN, w_asgO, w_asgH, w_par, w_drop, w_ret, w_retN, w_if, w_brk, w_ct, w_set, w_for, List.getElem?_cons_zero, List.getElem?_cons_succ, List.set_cons_zero, List.set_cons_succ, List.map_cons, List.map_nil, List.cons_append, List.nil_append, List.replicate_succ, List.replicate_zero, setAll, dr_int, dr_str, dr_bl, dr_non, dr_tup, dr_lst, dr_scr, dr_dK, dr_h0, put_sl, put_h, put_own, put_vh, k_add, k_sub, k_mul, k_div, k_mod, k_pow, k_abs, k_neg, k_lt, k_le, k_gt, k_ge, k_cat, k_catT, k_catL, k_lenL, k_lenT, k_lenF, k_lenS, k_listL, k_listT, k_listF, k_tupL, k_tupT, k_slL, k_slT, k_slF, k_slS, sq_l, sq_t, sq_f, k_min, k_max, ok_app, isL_l, k_isB, k_isnB, k_eqI, k_neI, k_eqB, k_neB, k_eqS, k_neS, sq_tS, sq_lS, dr_tS, dr_lS, wi_nil, wi_cons, no_eq, no_1, no_2, k_lenT', k_lenL', List.all_cons, List.all_nil, Bool.and_true, Bool.and_self, k_inT, k_ninT, k_inL, k_ninL, List.length_cons, List.length_nil, sizeLine_eq, Nat.reduceAdd, Nat.reduceLeDiff, Nat.reduceLT, if_true, if_false, Bool.false_eq_true, Bool.not_true, Bool.not_false, ite_self, implies_true, k_all, k_any, filter_true, true_and, and_true, decide_eq_true_eq, re_nil, re_cons, List.getD_cons_zero, List.getD_cons_succ]
      refine (draw h3 (by rw [rng_len]; omega) (by omega) (by omega)).mono ?_
      rintro _ st4 ⟨fi, rfl, fi1, fi2, h4⟩
      try simp -dsimp only [po_nx, po_rt, po_bk, po_ct, fr_env, fr_st, w_ok, w_bind, w_of, w_some, w_var, w_slv, w_slo, w_c, w_op, w_un, w_cmp2, w_cmpP, w_ecmpP, w_inP, w_einP, w_ecmp, w_val, w_asB, w_no, w_an, w_or, w_tY, w_ean, w_eor, w_eno, w_eif, w_nil, w_cons, w_consO, w_tup, w_lst, w_pOf, w_pSl, w_slLv, w_slLo, w_rd, w_rd2, w_trd, w_atd, w_atl, w_atv, w_ato, w_pNo, w_asI, w_pSo, w_sl, w_slL, w_cb, w_put, w_mt, w_m1, w_asS, w_seqI, w_rng1, w_rng2, w_range, w_call, w_nx, w_seq, w_asg, w_gN, w_asgO, w_asgH, w_par, w_drop, w_ret, w_retN, w_if, w_brk, w_ct, w_set, w_for, List.getElem?_cons_zero, List.getElem?_cons_succ, List.set_cons_zero, List.set_cons_succ, List.map_cons, List.map_nil, List.cons_append, List.nil_append, List.replicate_succ, List.replicate_zero, setAll, dr_int, dr_str, dr_bl, dr_non, dr_tup, dr_lst, dr_scr, dr_dK, dr_h0, put_sl, put_h, put_own, put_vh, k_add, k_sub, k_mul, k_div, k_mod, k_pow, k_abs, k_neg, k_lt, k_le, k_gt, k_ge, k_cat, k_catT, k_catL, k_lenL, k_lenT, k_lenF, k_lenS, k_listL, k_listT, k_listF, k_tupL, k_tupT, k_slL, k_slT, k_slF, k_slS, sq_l, sq_t, sq_f, k_min, k_max, ok_app, isL_l, k_isB, k_isnB, k_eqI, k_neI, k_eqB, k_neB, k_eqS, k_neS, sq_tS, sq_lS, dr_tS, dr_lS, wi_nil, wi_cons, no_eq, no_1, no_2, k_lenT', k_lenL', List.all_cons, List.all_nil, Bool.and_true, Bool.and_self, k_inT, k_ninT, k_inL, k_ninL, List.length_cons, List.length_nil, sizeLine_eq, Nat.reduceAdd, Nat.reduceLeDiff, Nat.reduceLT, if_true, if_false, Bool.false_eq_true, Bool.not_true, Bool.not_false, ite_self, implies_true, k_all, k_any, filter_true, true_and, and_true, decide_eq_true_eq, re_nil, re_cons, List.getD_cons_zero, List.getD_cons_succ]
      refine (draw h4 (by rw [rng_len]; omega) (by omega) (by omega)).mono ?_
      rintro _ st5 ⟨ct, rfl, ct1, ct2, h5⟩
      try simp -dsimp only [po_nx, po_rt, po_bk, po_ct, fr_env, fr_st, w_ok, w_bind, w_of, w_some, w_var, w_slv, w_slo, w_c, w_op, w_un, w_cmp2, w_cmpP, w_ecmpP, w_inP, w_einP, w_ecmp, w_val, w_asB, w_no, w_an, w_or, w_tY, w_ean, w_eor, w_eno, w_eif, w_nil, w_cons, w_consO, w_tup, w_lst, w_pOf, w_pSl, w_slLv, w_slLo, w_rd, w_rd2, w_trd, w_atd, w_atl, w_atv, w_ato, w_pNo, w_asI, w_pSo, w_sl, w_slL, w_cb, w_put, w_mt, w_m1, w_asS, w_seqI, w_rng1, w_rng2, w_range, w_call, w_nx, w_seq, w_asg, w_gN, w_asgO, w_asgH, w_par, w_drop, w_ret, w_retN, w_if, w_brk, w_ct, w_set, w_for, List.getElem?_cons_zero, List.getElem?_cons_succ, List.set_cons_zero, List.set_cons_succ, List.map_cons, List.map_nil, List.cons_append, List.nil_append, List.replicate_succ, List.replicate_zero, setAll, dr_int, dr_str, dr_bl, dr_non, dr_tup, dr_lst, dr_scr, dr_dK, dr_h0, put_sl, put_h, put_own, put_vh, k_add, k_sub, k_mul, k_div, k_mod, k_pow, k_abs, k_neg, k_lt, k_le, k_gt, k_ge, k_cat, k_catT, k_catL, k_lenL, k_lenT, k_lenF, k_lenS, k_listL, k_listT, k_listF, k_tupL, k_tupT, k_slL, k_slT, k_slF, k_slS, sq_l, sq_t, sq_f, k_min, k_max, ok_app, isL_l, k_isB, k_isnB, k_eqI, k_neI, k_eqB, k_neB, k_eqS, k_neS, sq_tS, sq_lS, dr_tS, dr_lS, wi_nil, wi_cons, no_eq, no_1, no_2, k_lenT', k_lenL', List.all_cons, List.all_nil, Bool.and_true, Bool.and_self, k_inT, k_ninT, k_inL, k_ninL, List.length_cons, List.length_nil, sizeLine_eq, Nat.reduceAdd, Nat.reduceLeDiff, Nat.reduceLT, if_true, if_false, Bool.false_eq_true, Bool.not_true, Bool.not_false, ite_self, implies_true, k_all, k_any, filter_true, true_and, and_true, decide_eq_true_eq, re_nil, re_cons, List.getD_cons_zero, List.getD_cons_succ]
      refine (pick_L h5 (by rw [rng_len]; omega) (by simp) (by simp)).mono ?_
      rintro sd st6 ⟨hsd, h6⟩
      obtain ⟨sn, rfl, sn1, sn2⟩ : ∃ k : Int, sd = .int k ∧ 0 ≤ k ∧ k ≤ 25 := by
        simp only [List.mem_cons, List.not_mem_nil, or_false] at hsd
        rcases hsd with rfl | rfl | rfl | rfl | rfl | rfl | rfl | rfl | rfl | rfl | rfl | rfl <;> exact ⟨_, rfl, by decide, by decide⟩
      try simp -dsimp only [po_nx, po_rt, po_bk, po_ct, fr_env, fr_st, w_ok, w_bind, w_of, w_some, w_var, w_slv, w_slo, w_c, w_op, w_un, w_cmp2, w_cmpP, w_ecmpP, w_inP, w_einP, w_ecmp, w_val, w_asB, w_no, w_an, w_or, w_tY, w_ean, w_eor, w_eno, w_eif, w_nil, w_cons, w_consO, w_tup, w_lst, w_pOf, w_pSl, w_slLv, w_slLo, w_rd, w_rd2, w_trd, w_atd, w_atl, w_atv, w_ato, w_pNo, w_asI, w_pSo, w_sl, w_slL, w_cb, w_put, w_mt, w_m1, w_asS, w_seqI, w_rng1, w_rng2, w_range, w_call, w_nx, w_seq, w_asg, w_gN, w_asgO, w_asgH, w_par, w_drop, w_ret, w_retN, w_if, w_brk, w_ct, w_set, w_for, List.getElem?_cons_zero, List.getElem?_cons_succ, List.set_cons_zero, List.set_cons_succ, List.map_cons, List.map_nil, List.cons_append, List.nil_append, List.replicate_succ, List.replicate_zero, setAll, dr_int, dr_str, dr_bl, dr_non, dr_tup, dr_lst, dr_scr, dr_dK, dr_h0, put_sl, put_h, put_own, put_vh, k_add, k_sub, k_mul, k_div, k_mod, k_pow, k_abs, k_neg, k_lt, k_le, k_gt, k_ge, k_cat, k_catT, k_catL, k_lenL, k_lenT, k_lenF, k_lenS, k_listL, k_listT, k_listF, k_tupL, k_tupT, k_slL, k_slT, k_slF, k_slS, sq_l, sq_t, sq_f, k_min, k_max, ok_app, isL_l, k_isB, k_isnB, k_eqI, k_neI, k_eqB, k_neB, k_eqS, k_neS, sq_tS, sq_lS, dr_tS, dr_lS, wi_nil, wi_cons, no_eq, no_1, no_2, k_lenT', k_lenL', List.all_cons, List.all_nil, Bool.and_true, Bool.and_self, k_inT, k_ninT, k_inL, k_ninL, List.length_cons, List.length_nil, sizeLine_eq, Nat.reduceAdd, Nat.reduceLeDiff, Nat.reduceLT, if_true, if_false, Bool.false_eq_true, Bool.not_true, Bool.not_false, ite_self, implies_true, k_all, k_any, filter_true, true_and, and_true, decide_eq_true_eq, re_nil, re_cons, List.getD_cons_zero, List.getD_cons_succ]
      refine ⟨by decide, by decide, ?_⟩
      have h6' : Pen (T + 20) st6 := h6.mono (by rw [rng_len]; omega)
      refine for_inv (fun i s => ∃ (fs : List Str) (s1 s2 : VL.Slot), s = ⟨[.val (.h 0), .val (.int 18), .no, .no, .val (.str abc), .val (.str base), .val (.int at'), .val (.int fi), .val (.int ct), .val (.int sn), .own (.lst (fs.map .str)), s1, s2], st6⟩ ∧ fs.length = i ∧ ∀ x ∈ fs, Nm x) ⟨[], _, _, rfl, rfl, by simp⟩ ?_ ?_
      · rintro i d s hd ⟨fs, s1, s2, rfl, lf, hf⟩
        obtain ⟨hi, rfl⟩ := rng_get hd
        simp -dsimp only [po_nx, po_rt, po_bk, po_ct, fr_env, fr_st, w_ok, w_bind, w_of, w_some, w_var, w_slv, w_slo, w_c, w_op, w_un, w_cmp2, w_cmpP, w_ecmpP, w_inP, w_einP, w_ecmp, w_val, w_asB, w_no, w_an, w_or, w_tY, w_ean, w_eor, w_eno, w_eif, w_nil, w_cons, w_consO, w_tup, w_lst, w_pOf, w_pSl, w_slLv, w_slLo, w_rd, w_rd2, w_trd, w_atd, w_atl, w_atv, w_ato, w_pNo, w_asI, w_pSo, w_sl, w_slL, w_cb, w_put, w_mt, w_m1, w_asS, w_seqI, w_rng1, w_rng2, w_range, w_call, w_nx, w_seq, w_asg, w_gN, w_asgO, w_asgH, w_par, w_drop, w_ret, w_retN, w_if, w_brk, w_ct, w_set, w_for, List.getElem?_cons_zero, List.getElem?_cons_succ, List.set_cons_zero, List.set_cons_succ, List.map_cons, List.map_nil, List.cons_append, List.nil_append, List.replicate_succ, List.replicate_zero, setAll, dr_int, dr_str, dr_bl, dr_non, dr_tup, dr_lst, dr_scr, dr_dK, dr_h0, put_sl, put_h, put_own, put_vh, k_add, k_sub, k_mul, k_div, k_mod, k_pow, k_abs, k_neg, k_lt, k_le, k_gt, k_ge, k_cat, k_catT, k_catL, k_lenL, k_lenT, k_lenF, k_lenS, k_listL, k_listT, k_listF, k_tupL, k_tupT, k_slL, k_slT, k_slF, k_slS, sq_l, sq_t, sq_f, k_min, k_max, ok_app, isL_l, k_isB, k_isnB, k_eqI, k_neI, k_eqB, k_neB, k_eqS, k_neS, sq_tS, sq_lS, dr_tS, dr_lS, wi_nil, wi_cons, no_eq, no_1, no_2, k_lenT', k_lenL', List.all_cons, List.all_nil, Bool.and_true, Bool.and_self, k_inT, k_ninT, k_inL, k_ninL, List.length_cons, List.length_nil, sizeLine_eq, Nat.reduceAdd, Nat.reduceLeDiff, Nat.reduceLT, if_true, if_false, Bool.false_eq_true, Bool.not_true, Bool.not_false, ite_self, implies_true, k_all, k_any, filter_true, true_and, and_true, decide_eq_true_eq, re_nil, re_cons, List.getD_cons_zero, List.getD_cons_succ]
        have il : i < 18 := by simpa using hi
        have lb : base.length ≤ 8 := by omega
        have l1 := cut_len (x := base) (lo := some (at' + 1)) (hi := none)
        refine ⟨by omega, by decide, k_ixL ct1 (by simpa using ct2) fun d hd => ?_⟩
        obtain ⟨q, rfl⟩ : ∃ q : Int, d = .int q := by
          have hm := List.mem_of_getElem? hd
          simp only [List.mem_cons, List.not_mem_nil, or_false] at hm
          rcases hm with rfl | rfl <;> exact ⟨_, rfl⟩
        try simp -dsimp only [po_nx, po_rt, po_bk, po_ct, fr_env, fr_st, w_ok, w_bind, w_of, w_some, w_var, w_slv, w_slo, w_c, w_op, w_un, w_cmp2, w_cmpP, w_ecmpP, w_inP, w_einP, w_ecmp, w_val, w_asB, w_no, w_an, w_or, w_tY, w_ean, w_eor, w_eno, w_eif, w_nil, w_cons, w_consO, w_tup, w_lst, w_pOf, w_pSl, w_slLv, w_slLo, w_rd, w_rd2, w_trd, w_atd, w_atl, w_atv, w_ato, w_pNo, w_asI, w_pSo, w_sl, w_slL, w_cb, w_put, w_mt, w_m1, w_asS, w_seqI, w_rng1, w_rng2, w_range, w_call, w_nx, w_seq, w_asg, w_gN, w_asgO, w_asgH, w_par, w_drop, w_ret, w_retN, w_if, w_brk, w_ct, w_set, w_for, List.getElem?_cons_zero, List.getElem?_cons_succ, List.set_cons_zero, List.set_cons_succ, List.map_cons, List.map_nil, List.cons_append, List.nil_append, List.replicate_succ, List.replicate_zero, setAll, dr_int, dr_str, dr_bl, dr_non, dr_tup, dr_lst, dr_scr, dr_dK, dr_h0, put_sl, put_h, put_own, put_vh, k_add, k_sub, k_mul, k_div, k_mod, k_pow, k_abs, k_neg, k_lt, k_le, k_gt, k_ge, k_cat, k_catT, k_catL, k_lenL, k_lenT, k_lenF, k_lenS, k_listL, k_listT, k_listF, k_tupL, k_tupT, k_slL, k_slT, k_slF, k_slS, sq_l, sq_t, sq_f, k_min, k_max, ok_app, isL_l, k_isB, k_isnB, k_eqI, k_neI, k_eqB, k_neB, k_eqS, k_neS, sq_tS, sq_lS, dr_tS, dr_lS, wi_nil, wi_cons, no_eq, no_1, no_2, k_lenT', k_lenL', List.all_cons, List.all_nil, Bool.and_true, Bool.and_self, k_inT, k_ninT, k_inL, k_ninL, List.length_cons, List.length_nil, sizeLine_eq, Nat.reduceAdd, Nat.reduceLeDiff, Nat.reduceLT, if_true, if_false, Bool.false_eq_true, Bool.not_true, Bool.not_false, ite_self, implies_true, k_all, k_any, filter_true, true_and, and_true, decide_eq_true_eq, re_nil, re_cons, List.getD_cons_zero, List.getD_cons_succ]
        refine ⟨by omega, by omega, mulOk64 (by omega) (by omega), by decide, k_ixS (by rw [sizeLine_eq, abc_len]; omega) (Int.emod_nonneg _ (by decide)) (by rw [abc_len]; exact Int.emod_lt_of_pos _ (by decide)) fun c hc => ?_⟩
        have l2 := cut_len (x := base) (lo := none) (hi := some at')
        have l3 := cut_len (x := cutS base (some (at' + 1)) none) (lo := none) (hi := some q)
        have l4 : (⟨#[c]⟩ : Str).length = 1 := rfl
        try simp -dsimp only [po_nx, po_rt, po_bk, po_ct, fr_env, fr_st, w_ok, w_bind, w_of, w_some, w_var, w_slv, w_slo, w_c, w_op, w_un, w_cmp2, w_cmpP, w_ecmpP, w_inP, w_einP, w_ecmp, w_val, w_asB, w_no, w_an, w_or, w_tY, w_ean, w_eor, w_eno, w_eif, w_nil, w_cons, w_consO, w_tup, w_lst, w_pOf, w_pSl, w_slLv, w_slLo, w_rd, w_rd2, w_trd, w_atd, w_atl, w_atv, w_ato, w_pNo, w_asI, w_pSo, w_sl, w_slL, w_cb, w_put, w_mt, w_m1, w_asS, w_seqI, w_rng1, w_rng2, w_range, w_call, w_nx, w_seq, w_asg, w_gN, w_asgO, w_asgH, w_par, w_drop, w_ret, w_retN, w_if, w_brk, w_ct, w_set, w_for, List.getElem?_cons_zero, List.getElem?_cons_succ, List.set_cons_zero, List.set_cons_succ, List.map_cons, List.map_nil, List.cons_append, List.nil_append, List.replicate_succ, List.replicate_zero, setAll, dr_int, dr_str, dr_bl, dr_non, dr_tup, dr_lst, dr_scr, dr_dK, dr_h0, put_sl, put_h, put_own, put_vh, k_add, k_sub, k_mul, k_div, k_mod, k_pow, k_abs, k_neg, k_lt, k_le, k_gt, k_ge, k_cat, k_catT, k_catL, k_lenL, k_lenT, k_lenF, k_lenS, k_listL, k_listT, k_listF, k_tupL, k_tupT, k_slL, k_slT, k_slF, k_slS, sq_l, sq_t, sq_f, k_min, k_max, ok_app, isL_l, k_isB, k_isnB, k_eqI, k_neI, k_eqB, k_neB, k_eqS, k_neS, sq_tS, sq_lS, dr_tS, dr_lS, wi_nil, wi_cons, no_eq, no_1, no_2, k_lenT', k_lenL', List.all_cons, List.all_nil, Bool.and_true, Bool.and_self, k_inT, k_ninT, k_inL, k_ninL, List.length_cons, List.length_nil, sizeLine_eq, Nat.reduceAdd, Nat.reduceLeDiff, Nat.reduceLT, if_true, if_false, Bool.false_eq_true, Bool.not_true, Bool.not_false, ite_self, implies_true, k_all, k_any, filter_true, true_and, and_true, decide_eq_true_eq, re_nil, re_cons, List.getD_cons_zero, List.getD_cons_succ]
        refine ⟨by omega, ?_⟩
        try simp -dsimp only [po_nx, po_rt, po_bk, po_ct, fr_env, fr_st, w_ok, w_bind, w_of, w_some, w_var, w_slv, w_slo, w_c, w_op, w_un, w_cmp2, w_cmpP, w_ecmpP, w_inP, w_einP, w_ecmp, w_val, w_asB, w_no, w_an, w_or, w_tY, w_ean, w_eor, w_eno, w_eif, w_nil, w_cons, w_consO, w_tup, w_lst, w_pOf, w_pSl, w_slLv, w_slLo, w_rd, w_rd2, w_trd, w_atd, w_atl, w_atv, w_ato, w_pNo, w_asI, w_pSo, w_sl, w_slL, w_cb, w_put, w_mt, w_m1, w_asS, w_seqI, w_rng1, w_rng2, w_range, w_call, w_nx, w_seq, w_asg, w_gN, w_asgO, w_asgH, w_par, w_drop, w_ret, w_retN, w_if, w_brk, w_ct, w_set, w_for, List.getElem?_cons_zero, List.getElem?_cons_succ, List.set_cons_zero, List.set_cons_succ, List.map_cons, List.map_nil, List.cons_append, List.nil_append, List.replicate_succ, List.replicate_zero, setAll, dr_int, dr_str, dr_bl, dr_non, dr_tup, dr_lst, dr_scr, dr_dK, dr_h0, put_sl, put_h, put_own, put_vh, k_add, k_sub, k_mul, k_div, k_mod, k_pow, k_abs, k_neg, k_lt, k_le, k_gt, k_ge, k_cat, k_catT, k_catL, k_lenL, k_lenT, k_lenF, k_lenS, k_listL, k_listT, k_listF, k_tupL, k_tupT, k_slL, k_slT, k_slF, k_slS, sq_l, sq_t, sq_f, k_min, k_max, ok_app, isL_l, k_isB, k_isnB, k_eqI, k_neI, k_eqB, k_neB, k_eqS, k_neS, sq_tS, sq_lS, dr_tS, dr_lS, wi_nil, wi_cons, no_eq, no_1, no_2, k_lenT', k_lenL', List.all_cons, List.all_nil, Bool.and_true, Bool.and_self, k_inT, k_ninT, k_inL, k_ninL, List.length_cons, List.length_nil, sizeLine_eq, Nat.reduceAdd, Nat.reduceLeDiff, Nat.reduceLT, if_true, if_false, Bool.false_eq_true, Bool.not_true, Bool.not_false, ite_self, implies_true, k_all, k_any, filter_true, true_and, and_true, decide_eq_true_eq, re_nil, re_cons, List.getD_cons_zero, List.getD_cons_succ]
        refine ⟨by rw [len_app]; omega, ?_⟩
        try simp -dsimp only [po_nx, po_rt, po_bk, po_ct, fr_env, fr_st, w_ok, w_bind, w_of, w_some, w_var, w_slv, w_slo, w_c, w_op, w_un, w_cmp2, w_cmpP, w_ecmpP, w_inP, w_einP, w_ecmp, w_val, w_asB, w_no, w_an, w_or, w_tY, w_ean, w_eor, w_eno, w_eif, w_nil, w_cons, w_consO, w_tup, w_lst, w_pOf, w_pSl, w_slLv, w_slLo, w_rd, w_rd2, w_trd, w_atd, w_atl, w_atv, w_ato, w_pNo, w_asI, w_pSo, w_sl, w_slL, w_cb, w_put, w_mt, w_m1, w_asS, w_seqI, w_rng1, w_rng2, w_range, w_call, w_nx, w_seq, w_asg, w_gN, w_asgO, w_asgH, w_par, w_drop, w_ret, w_retN, w_if, w_brk, w_ct, w_set, w_for, List.getElem?_cons_zero, List.getElem?_cons_succ, List.set_cons_zero, List.set_cons_succ, List.map_cons, List.map_nil, List.cons_append, List.nil_append, List.replicate_succ, List.replicate_zero, setAll, dr_int, dr_str, dr_bl, dr_non, dr_tup, dr_lst, dr_scr, dr_dK, dr_h0, put_sl, put_h, put_own, put_vh, k_add, k_sub, k_mul, k_div, k_mod, k_pow, k_abs, k_neg, k_lt, k_le, k_gt, k_ge, k_cat, k_catT, k_catL, k_lenL, k_lenT, k_lenF, k_lenS, k_listL, k_listT, k_listF, k_tupL, k_tupT, k_slL, k_slT, k_slF, k_slS, sq_l, sq_t, sq_f, k_min, k_max, ok_app, isL_l, k_isB, k_isnB, k_eqI, k_neI, k_eqB, k_neB, k_eqS, k_neS, sq_tS, sq_lS, dr_tS, dr_lS, wi_nil, wi_cons, no_eq, no_1, no_2, k_lenT', k_lenL', List.all_cons, List.all_nil, Bool.and_true, Bool.and_self, k_inT, k_ninT, k_inL, k_ninL, List.length_cons, List.length_nil, sizeLine_eq, Nat.reduceAdd, Nat.reduceLeDiff, Nat.reduceLT, if_true, if_false, Bool.false_eq_true, Bool.not_true, Bool.not_false, ite_self, implies_true, k_all, k_any, filter_true, true_and, and_true, decide_eq_true_eq, re_nil, re_cons, List.getD_cons_zero, List.getD_cons_succ]
        refine ⟨by rw [List.length_map]; omega, fs ++ [cutS base none (some at') ++ ⟨#[c]⟩ ++ cutS (cutS base (some (at' + 1)) none) none (some q)], _, _, by rw [List.map_append]; rfl, by rw [List.length_append, lf]; rfl, fun x hx => ?_⟩
        rcases List.mem_append.mp hx with hx | hx
        · exact hf x hx
        · rw [List.mem_singleton.mp hx]
          refine ⟨by rw [len_app, len_app]; omega, ?_⟩
          exact (sx.cut.app (Sm.one (abc_sm c (List.mem_of_getElem? hc)))).app sx.cut.cut
      · rintro s ⟨fs, s1, s2, rfl, lf, hf⟩
        rw [rng_len] at lf
        have lf : fs.length = 18 := lf
        try simp -dsimp only [po_nx, po_rt, po_bk, po_ct, fr_env, fr_st, w_ok, w_bind, w_of, w_some, w_var, w_slv, w_slo, w_c, w_op, w_un, w_cmp2, w_cmpP, w_ecmpP, w_inP, w_einP, w_ecmp, w_val, w_asB, w_no, w_an, w_or, w_tY, w_ean, w_eor, w_eno, w_eif, w_nil, w_cons, w_consO, w_tup, w_lst, w_pOf, w_pSl, w_slLv, w_slLo, w_rd, w_rd2, w_trd, w_atd, w_atl, w_atv, w_ato, w_pNo, w_asI, w_pSo, w_sl, w_slL, w_cb, w_put, w_mt, w_m1, w_asS, w_seqI, w_rng1, w_rng2, w_range, w_call, w_nx, w_seq, w_asg, w_gN, w_asgO, w_asgH, w_par, w_drop, w_ret, w_retN, w_if, w_brk, w_ct, w_set, w_for, List.getElem?_cons_zero, List.getElem?_cons_succ, List.set_cons_zero, List.set_cons_succ, List.map_cons, List.map_nil, List.cons_append, List.nil_append, List.replicate_succ, List.replicate_zero, setAll, dr_int, dr_str, dr_bl, dr_non, dr_tup, dr_lst, dr_scr, dr_dK, dr_h0, put_sl, put_h, put_own, put_vh, k_add, k_sub, k_mul, k_div, k_mod, k_pow, k_abs, k_neg, k_lt, k_le, k_gt, k_ge, k_cat, k_catT, k_catL, k_lenL, k_lenT, k_lenF, k_lenS, k_listL, k_listT, k_listF, k_tupL, k_tupT, k_slL, k_slT, k_slF, k_slS, sq_l, sq_t, sq_f, k_min, k_max, ok_app, isL_l, k_isB, k_isnB, k_eqI, k_neI, k_eqB, k_neB, k_eqS, k_neS, sq_tS, sq_lS, dr_tS, dr_lS, wi_nil, wi_cons, no_eq, no_1, no_2, k_lenT', k_lenL', List.all_cons, List.all_nil, Bool.and_true, Bool.and_self, k_inT, k_ninT, k_inL, k_ninL, List.length_cons, List.length_nil, sizeLine_eq, Nat.reduceAdd, Nat.reduceLeDiff, Nat.reduceLT, if_true, if_false, Bool.false_eq_true, Bool.not_true, Bool.not_false, ite_self, implies_true, k_all, k_any, filter_true, true_and, and_true, decide_eq_true_eq, re_nil, re_cons, List.getD_cons_zero, List.getD_cons_succ]
        split
        · refine (draw h6' (by omega) (by omega) (by omega)).mono ?_
          rintro _ st7 ⟨z, rfl, z1, z2, h7⟩
          try simp -dsimp only [po_nx, po_rt, po_bk, po_ct, fr_env, fr_st, w_ok, w_bind, w_of, w_some, w_var, w_slv, w_slo, w_c, w_op, w_un, w_cmp2, w_cmpP, w_ecmpP, w_inP, w_einP, w_ecmp, w_val, w_asB, w_no, w_an, w_or, w_tY, w_ean, w_eor, w_eno, w_eif, w_nil, w_cons, w_consO, w_tup, w_lst, w_pOf, w_pSl, w_slLv, w_slLo, w_rd, w_rd2, w_trd, w_atd, w_atl, w_atv, w_ato, w_pNo, w_asI, w_pSo, w_sl, w_slL, w_cb, w_put, w_mt, w_m1, w_asS, w_seqI, w_rng1, w_rng2, w_range, w_call, w_nx, w_seq, w_asg, w_gN, w_asgO, w_asgH, w_par, w_drop, w_ret, w_retN, w_if, w_brk, w_ct, w_set, w_for, List.getElem?_cons_zero, List.getElem?_cons_succ, List.set_cons_zero, List.set_cons_succ, List.map_cons, List.map_nil, List.cons_append, List.nil_append, List.replicate_succ, List.replicate_zero, setAll, dr_int, dr_str, dr_bl, dr_non, dr_tup, dr_lst, dr_scr, dr_dK, dr_h0, put_sl, put_h, put_own, put_vh, k_add, k_sub, k_mul, k_div, k_mod, k_pow, k_abs, k_neg, k_lt, k_le, k_gt, k_ge, k_cat, k_catT, k_catL, k_lenL, k_lenT, k_lenF, k_lenS, k_listL, k_listT, k_listF, k_tupL, k_tupT, k_slL, k_slT, k_slF, k_slS, sq_l, sq_t, sq_f, k_min, k_max, ok_app, isL_l, k_isB, k_isnB, k_eqI, k_neI, k_eqB, k_neB, k_eqS, k_neS, sq_tS, sq_lS, dr_tS, dr_lS, wi_nil, wi_cons, no_eq, no_1, no_2, k_lenT', k_lenL', List.all_cons, List.all_nil, Bool.and_true, Bool.and_self, k_inT, k_ninT, k_inL, k_ninL, List.length_cons, List.length_nil, sizeLine_eq, Nat.reduceAdd, Nat.reduceLeDiff, Nat.reduceLT, if_true, if_false, Bool.false_eq_true, Bool.not_true, Bool.not_false, ite_self, implies_true, k_all, k_any, filter_true, true_and, and_true, decide_eq_true_eq, re_nil, re_cons, List.getD_cons_zero, List.getD_cons_succ]
          split
          · refine ⟨by omega, (draw h7 (by omega) (by omega) (by omega)).mono ?_⟩
            rintro _ st8 ⟨y, rfl, y1, y2, h8⟩
            try simp -dsimp only [po_nx, po_rt, po_bk, po_ct, fr_env, fr_st, w_ok, w_bind, w_of, w_some, w_var, w_slv, w_slo, w_c, w_op, w_un, w_cmp2, w_cmpP, w_ecmpP, w_inP, w_einP, w_ecmp, w_val, w_asB, w_no, w_an, w_or, w_tY, w_ean, w_eor, w_eno, w_eif, w_nil, w_cons, w_consO, w_tup, w_lst, w_pOf, w_pSl, w_slLv, w_slLo, w_rd, w_rd2, w_trd, w_atd, w_atl, w_atv, w_ato, w_pNo, w_asI, w_pSo, w_sl, w_slL, w_cb, w_put, w_mt, w_m1, w_asS, w_seqI, w_rng1, w_rng2, w_range, w_call, w_nx, w_seq, w_asg, w_gN, w_asgO, w_asgH, w_par, w_drop, w_ret, w_retN, w_if, w_brk, w_ct, w_set, w_for, List.getElem?_cons_zero, List.getElem?_cons_succ, List.set_cons_zero, List.set_cons_succ, List.map_cons, List.map_nil, List.cons_append, List.nil_append, List.replicate_succ, List.replicate_zero, setAll, dr_int, dr_str, dr_bl, dr_non, dr_tup, dr_lst, dr_scr, dr_dK, dr_h0, put_sl, put_h, put_own, put_vh, k_add, k_sub, k_mul, k_div, k_mod, k_pow, k_abs, k_neg, k_lt, k_le, k_gt, k_ge, k_cat, k_catT, k_catL, k_lenL, k_lenT, k_lenF, k_lenS, k_listL, k_listT, k_listF, k_tupL, k_tupT, k_slL, k_slT, k_slF, k_slS, sq_l, sq_t, sq_f, k_min, k_max, ok_app, isL_l, k_isB, k_isnB, k_eqI, k_neI, k_eqB, k_neB, k_eqS, k_neS, sq_tS, sq_lS, dr_tS, dr_lS, wi_nil, wi_cons, no_eq, no_1, no_2, k_lenT', k_lenL', List.all_cons, List.all_nil, Bool.and_true, Bool.and_self, k_inT, k_ninT, k_inL, k_ninL, List.length_cons, List.length_nil, sizeLine_eq, Nat.reduceAdd, Nat.reduceLeDiff, Nat.reduceLT, if_true, if_false, Bool.false_eq_true, Bool.not_true, Bool.not_false, ite_self, implies_true, k_all, k_any, filter_true, true_and, and_true, decide_eq_true_eq, re_nil, re_cons, List.getD_cons_zero, List.getD_cons_succ]
            rw [k_setL y1 (by rw [List.length_map]; omega)]
            try simp -dsimp only [po_nx, po_rt, po_bk, po_ct, fr_env, fr_st, w_ok, w_bind, w_of, w_some, w_var, w_slv, w_slo, w_c, w_op, w_un, w_cmp2, w_cmpP, w_ecmpP, w_inP, w_einP, w_ecmp, w_val, w_asB, w_no, w_an, w_or, w_tY, w_ean, w_eor, w_eno, w_eif, w_nil, w_cons, w_consO, w_tup, w_lst, w_pOf, w_pSl, w_slLv, w_slLo, w_rd, w_rd2, w_trd, w_atd, w_atl, w_atv, w_ato, w_pNo, w_asI, w_pSo, w_sl, w_slL, w_cb, w_put, w_mt, w_m1, w_asS, w_seqI, w_rng1, w_rng2, w_range, w_call, w_nx, w_seq, w_asg, w_gN, w_asgO, w_asgH, w_par, w_drop, w_ret, w_retN, w_if, w_brk, w_ct, w_set, w_for, List.getElem?_cons_zero, List.getElem?_cons_succ, List.set_cons_zero, List.set_cons_succ, List.map_cons, List.map_nil, List.cons_append, List.nil_append, List.replicate_succ, List.replicate_zero, setAll, dr_int, dr_str, dr_bl, dr_non, dr_tup, dr_lst, dr_scr, dr_dK, dr_h0, put_sl, put_h, put_own, put_vh, k_add, k_sub, k_mul, k_div, k_mod, k_pow, k_abs, k_neg, k_lt, k_le, k_gt, k_ge, k_cat, k_catT, k_catL, k_lenL, k_lenT, k_lenF, k_lenS, k_listL, k_listT, k_listF, k_tupL, k_tupT, k_slL, k_slT, k_slF, k_slS, sq_l, sq_t, sq_f, k_min, k_max, ok_app, isL_l, k_isB, k_isnB, k_eqI, k_neI, k_eqB, k_neB, k_eqS, k_neS, sq_tS, sq_lS, dr_tS, dr_lS, wi_nil, wi_cons, no_eq, no_1, no_2, k_lenT', k_lenL', List.all_cons, List.all_nil, Bool.and_true, Bool.and_self, k_inT, k_ninT, k_inL, k_ninL, List.length_cons, List.length_nil, sizeLine_eq, Nat.reduceAdd, Nat.reduceLeDiff, Nat.reduceLT, if_true, if_false, Bool.false_eq_true, Bool.not_true, Bool.not_false, ite_self, implies_true, k_all, k_any, filter_true, true_and, and_true, decide_eq_true_eq, re_nil, re_cons, List.getD_cons_zero, List.getD_cons_succ]
            refine ⟨⟨fs.set y.toNat (cutS base none (some at')), ?_, by rw [List.length_set]; omega, fun x hx => ?_⟩, h8.mono (by omega)⟩
            · rw [rows_set]
              rfl
            · rcases List.mem_or_eq_of_mem_set hx with hx | rfl
              · exact hf x hx
              · exact ⟨by have := cut_len (x := base) (lo := none) (hi := some at'); omega, sx.cut⟩
          · exact ⟨⟨fs, rfl, by omega, hf⟩, h7.mono (by omega)⟩
        · exact ⟨⟨fs, rfl, by omega, hf⟩, h6'.mono (by omega)⟩
end K81
set_option Elab.async false
set_option linter.all false
set_option maxRecDepth 100000
set_option maxHeartbeats 1000000
namespace K81
open PySem L2 VL
variable {st : List D} {T : Nat} {a : List Str}
theorem k_ninE {x : Str} {QB : Bool → Prop} : OkO (fNotMem (.str x) (.lst [])) QB = QB true := by
  have h := k_ninL (x := x) (b := []) (QB := QB)
  have e : lS [] = .lst [] := rfl
  rw [e] at h
  rw [h]
  simp
theorem fresh {many : Int} (h : Pen T st) (hT : T < 2 ^ 50) (m0 : 0 ≤ many) (m1 : many ≤ 7) : OkG (G_law_fresh [.h 0, .lst [], .int many] st) fun d st' => ∃ fs : List Str, d = lS fs ∧ fs.Nodup ∧ fs.length ≤ many.toNat ∧ (∀ x ∈ fs, Nm x) ∧ Pen (T + 30) st' := by
  refine g_mk rfl ?_
  unfold F_law_fresh
  simp -dsimp only [po_nx, po_rt, po_bk, po_ct, fr_env, fr_st, w_ok, w_bind, w_of, w_some, w_var, w_slv, w_slo, w_c, w_op, w_un, w_cmp2, w_cmpP, w_ecmpP, w_inP, w_einP, w_ecmp, w_val, w_asB, w_no, w_an, w_or, w_tY, w_ean, w_eor, w_eno, w_eif, w_nil, w_cons, w_consO, w_tup, w_lst, w_pOf, w_pSl, w_slLv, w_slLo, w_rd, w_rd2, w_trd, w_atd, w_atl, w_atv, w_ato, w_pNo, w_asI, w_pSo, w_sl, w_slL, w_cb, w_put, w_mt, w_m1, w_asS, w_seqI, w_rng1, w_rng2, w_range, w_call, w_nx, w_seq, w_asg, w_gN, w_asgO, w_asgH, w_par, w_drop, w_ret, w_retN, w_if, w_brk, w_ct, w_set, w_for, List.getElem?_cons_zero, List.getElem?_cons_succ, List.set_cons_zero, List.set_cons_succ, List.map_cons, List.map_nil, List.cons_append, List.nil_append, List.replicate_succ, List.replicate_zero, setAll, dr_int, dr_str, dr_bl, dr_non, dr_tup, dr_lst, dr_scr, dr_dK, dr_h0, put_sl, put_h, put_own, put_vh, k_add, k_sub, k_mul, k_div, k_mod, k_pow, k_abs, k_neg, k_lt, k_le, k_gt, k_ge, k_cat, k_catT, k_catL, k_lenL, k_lenT, k_lenF, k_lenS, k_listL, k_listT, k_listF, k_tupL, k_tupT, k_slL, k_slT, k_slF, k_slS, sq_l, sq_t, sq_f, k_min, k_max, ok_app, isL_l, k_isB, k_isnB, k_eqI, k_neI, k_eqB, k_neB, k_eqS, k_neS, sq_tS, sq_lS, dr_tS, dr_lS, wi_nil, wi_cons, no_eq, no_1, no_2, k_lenT', k_lenL', List.all_cons, List.all_nil, Bool.and_true, Bool.and_self, k_inT, k_ninT, k_inL, k_ninL, List.length_cons, List.length_nil, sizeLine_eq, Nat.reduceAdd, Nat.reduceLeDiff, Nat.reduceLT, if_true, if_false, Bool.false_eq_true, Bool.not_true, Bool.not_false, ite_self, implies_true, k_all, k_any, filter_true, true_and, and_true, decide_eq_true_eq, re_nil, re_cons, List.getD_cons_zero, List.getD_cons_succ]
  have e0 : Str.ofString "abcdefghijklmnopqrstuvwxyz" = abc := rfl
  rw [e0]
  refine (names h hT).mono ?_
  rintro _ st1 ⟨⟨fs, rfl, lf, hf⟩, h1⟩
  try simp -dsimp only [po_nx, po_rt, po_bk, po_ct, fr_env, fr_st, w_ok, w_bind, w_of, w_some, w_var, w_slv, w_slo, w_c, w_op, w_un, w_cmp2, w_cmpP, w_ecmpP, w_inP, w_einP, w_ecmp, w_val, w_asB, w_no, w_an, w_or, w_tY, w_ean, w_eor, w_eno, w_eif, w_nil, w_cons, w_consO, w_tup, w_lst, w_pOf, w_pSl, w_slLv, w_slLo, w_rd, w_rd2, w_trd, w_atd, w_atl, w_atv, w_ato, w_pNo, w_asI, w_pSo, w_sl, w_slL, w_cb, w_put, w_mt, w_m1, w_asS, w_seqI, w_rng1, w_rng2, w_range, w_call, w_nx, w_seq, w_asg, w_gN, w_asgO, w_asgH, w_par, w_drop, w_ret, w_retN, w_if, w_brk, w_ct, w_set, w_for, List.getElem?_cons_zero, List.getElem?_cons_succ, List.set_cons_zero, List.set_cons_succ, List.map_cons, List.map_nil, List.cons_append, List.nil_append, List.replicate_succ, List.replicate_zero, setAll, dr_int, dr_str, dr_bl, dr_non, dr_tup, dr_lst, dr_scr, dr_dK, dr_h0, put_sl, put_h, put_own, put_vh, k_add, k_sub, k_mul, k_div, k_mod, k_pow, k_abs, k_neg, k_lt, k_le, k_gt, k_ge, k_cat, k_catT, k_catL, k_lenL, k_lenT, k_lenF, k_lenS, k_listL, k_listT, k_listF, k_tupL, k_tupT, k_slL, k_slT, k_slF, k_slS, sq_l, sq_t, sq_f, k_min, k_max, ok_app, isL_l, k_isB, k_isnB, k_eqI, k_neI, k_eqB, k_neB, k_eqS, k_neS, sq_tS, sq_lS, dr_tS, dr_lS, wi_nil, wi_cons, no_eq, no_1, no_2, k_lenT', k_lenL', List.all_cons, List.all_nil, Bool.and_true, Bool.and_self, k_inT, k_ninT, k_inL, k_ninL, List.length_cons, List.length_nil, sizeLine_eq, Nat.reduceAdd, Nat.reduceLeDiff, Nat.reduceLT, if_true, if_false, Bool.false_eq_true, Bool.not_true, Bool.not_false, ite_self, implies_true, k_all, k_any, filter_true, true_and, and_true, decide_eq_true_eq, re_nil, re_cons, List.getD_cons_zero, List.getD_cons_succ]
  refine lc_inv (fun ds s1 i acc s => (∃ gs : List Str, acc = gs.map .str ∧ gs.length = i ∧ (∀ x ∈ gs, Nm x) ∧ s = ⟨[.val (.h 0), .val (.lst []), .val (.int many), .val (.str abc), .own (.lst []), .no, .no], st1⟩) ∧ ds = rng 0 99 ∧ s1 = ⟨[.val (.h 0), .val (.lst []), .val (.int many), .val (.str abc), .own (.lst []), .no, .no], st1⟩) ?_
  simp -dsimp only [po_nx, po_rt, po_bk, po_ct, fr_env, fr_st, w_ok, w_bind, w_of, w_some, w_var, w_slv, w_slo, w_c, w_op, w_un, w_cmp2, w_cmpP, w_ecmpP, w_inP, w_einP, w_ecmp, w_val, w_asB, w_no, w_an, w_or, w_tY, w_ean, w_eor, w_eno, w_eif, w_nil, w_cons, w_consO, w_tup, w_lst, w_pOf, w_pSl, w_slLv, w_slLo, w_rd, w_rd2, w_trd, w_atd, w_atl, w_atv, w_ato, w_pNo, w_asI, w_pSo, w_sl, w_slL, w_cb, w_put, w_mt, w_m1, w_asS, w_seqI, w_rng1, w_rng2, w_range, w_call, w_nx, w_seq, w_asg, w_gN, w_asgO, w_asgH, w_par, w_drop, w_ret, w_retN, w_if, w_brk, w_ct, w_set, w_for, List.getElem?_cons_zero, List.getElem?_cons_succ, List.set_cons_zero, List.set_cons_succ, List.map_cons, List.map_nil, List.cons_append, List.nil_append, List.replicate_succ, List.replicate_zero, setAll, dr_int, dr_str, dr_bl, dr_non, dr_tup, dr_lst, dr_scr, dr_dK, dr_h0, put_sl, put_h, put_own, put_vh, k_add, k_sub, k_mul, k_div, k_mod, k_pow, k_abs, k_neg, k_lt, k_le, k_gt, k_ge, k_cat, k_catT, k_catL, k_lenL, k_lenT, k_lenF, k_lenS, k_listL, k_listT, k_listF, k_tupL, k_tupT, k_slL, k_slT, k_slF, k_slS, sq_l, sq_t, sq_f, k_min, k_max, ok_app, isL_l, k_isB, k_isnB, k_eqI, k_neI, k_eqB, k_neB, k_eqS, k_neS, sq_tS, sq_lS, dr_tS, dr_lS, wi_nil, wi_cons, no_eq, no_1, no_2, k_lenT', k_lenL', List.all_cons, List.all_nil, Bool.and_true, Bool.and_self, k_inT, k_ninT, k_inL, k_ninL, List.length_cons, List.length_nil, sizeLine_eq, Nat.reduceAdd, Nat.reduceLeDiff, Nat.reduceLT, if_true, if_false, Bool.false_eq_true, Bool.not_true, Bool.not_false, ite_self, implies_true, k_all, k_any, filter_true, true_and, and_true, decide_eq_true_eq, re_nil, re_cons, List.getD_cons_zero, List.getD_cons_succ]
  refine ⟨by decide, by decide, ⟨⟨[], rfl, rfl, fun x hx => (nomatch hx)⟩, rfl⟩, ?_, ?_⟩
  · rintro i d acc s hd ⟨⟨gs, rfl, lg, hg, rfl⟩, er⟩
    obtain ⟨hi, rfl⟩ := rng_get hd
    have hi : i < 99 := by simpa using hi
    simp -dsimp only [po_nx, po_rt, po_bk, po_ct, fr_env, fr_st, w_ok, w_bind, w_of, w_some, w_var, w_slv, w_slo, w_c, w_op, w_un, w_cmp2, w_cmpP, w_ecmpP, w_inP, w_einP, w_ecmp, w_val, w_asB, w_no, w_an, w_or, w_tY, w_ean, w_eor, w_eno, w_eif, w_nil, w_cons, w_consO, w_tup, w_lst, w_pOf, w_pSl, w_slLv, w_slLo, w_rd, w_rd2, w_trd, w_atd, w_atl, w_atv, w_ato, w_pNo, w_asI, w_pSo, w_sl, w_slL, w_cb, w_put, w_mt, w_m1, w_asS, w_seqI, w_rng1, w_rng2, w_range, w_call, w_nx, w_seq, w_asg, w_gN, w_asgO, w_asgH, w_par, w_drop, w_ret, w_retN, w_if, w_brk, w_ct, w_set, w_for, List.getElem?_cons_zero, List.getElem?_cons_succ, List.set_cons_zero, List.set_cons_succ, List.map_cons, List.map_nil, List.cons_append, List.nil_append, List.replicate_succ, List.replicate_zero, setAll, dr_int, dr_str, dr_bl, dr_non, dr_tup, dr_lst, dr_scr, dr_dK, dr_h0, put_sl, put_h, put_own, put_vh, k_add, k_sub, k_mul, k_div, k_mod, k_pow, k_abs, k_neg, k_lt, k_le, k_gt, k_ge, k_cat, k_catT, k_catL, k_lenL, k_lenT, k_lenF, k_lenS, k_listL, k_listT, k_listF, k_tupL, k_tupT, k_slL, k_slT, k_slF, k_slS, sq_l, sq_t, sq_f, k_min, k_max, ok_app, isL_l, k_isB, k_isnB, k_eqI, k_neI, k_eqB, k_neB, k_eqS, k_neS, sq_tS, sq_lS, dr_tS, dr_lS, wi_nil, wi_cons, no_eq, no_1, no_2, k_lenT', k_lenL', List.all_cons, List.all_nil, Bool.and_true, Bool.and_self, k_inT, k_ninT, k_inL, k_ninL, List.length_cons, List.length_nil, sizeLine_eq, Nat.reduceAdd, Nat.reduceLeDiff, Nat.reduceLT, if_true, if_false, Bool.false_eq_true, Bool.not_true, Bool.not_false, ite_self, implies_true, k_all, k_any, filter_true, true_and, and_true, decide_eq_true_eq, re_nil, re_cons, List.getD_cons_zero, List.getD_cons_succ]
    refine ⟨divOk64 (by decide) (by decide), k_ixS (by rw [sizeLine_eq, abc_len]; omega) (by omega) (by rw [abc_len]; omega) fun c hc => ?_⟩
    try simp -dsimp only [po_nx, po_rt, po_bk, po_ct, fr_env, fr_st, w_ok, w_bind, w_of, w_some, w_var, w_slv, w_slo, w_c, w_op, w_un, w_cmp2, w_cmpP, w_ecmpP, w_inP, w_einP, w_ecmp, w_val, w_asB, w_no, w_an, w_or, w_tY, w_ean, w_eor, w_eno, w_eif, w_nil, w_cons, w_consO, w_tup, w_lst, w_pOf, w_pSl, w_slLv, w_slLo, w_rd, w_rd2, w_trd, w_atd, w_atl, w_atv, w_ato, w_pNo, w_asI, w_pSo, w_sl, w_slL, w_cb, w_put, w_mt, w_m1, w_asS, w_seqI, w_rng1, w_rng2, w_range, w_call, w_nx, w_seq, w_asg, w_gN, w_asgO, w_asgH, w_par, w_drop, w_ret, w_retN, w_if, w_brk, w_ct, w_set, w_for, List.getElem?_cons_zero, List.getElem?_cons_succ, List.set_cons_zero, List.set_cons_succ, List.map_cons, List.map_nil, List.cons_append, List.nil_append, List.replicate_succ, List.replicate_zero, setAll, dr_int, dr_str, dr_bl, dr_non, dr_tup, dr_lst, dr_scr, dr_dK, dr_h0, put_sl, put_h, put_own, put_vh, k_add, k_sub, k_mul, k_div, k_mod, k_pow, k_abs, k_neg, k_lt, k_le, k_gt, k_ge, k_cat, k_catT, k_catL, k_lenL, k_lenT, k_lenF, k_lenS, k_listL, k_listT, k_listF, k_tupL, k_tupT, k_slL, k_slT, k_slF, k_slS, sq_l, sq_t, sq_f, k_min, k_max, ok_app, isL_l, k_isB, k_isnB, k_eqI, k_neI, k_eqB, k_neB, k_eqS, k_neS, sq_tS, sq_lS, dr_tS, dr_lS, wi_nil, wi_cons, no_eq, no_1, no_2, k_lenT', k_lenL', List.all_cons, List.all_nil, Bool.and_true, Bool.and_self, k_inT, k_ninT, k_inL, k_ninL, List.length_cons, List.length_nil, sizeLine_eq, Nat.reduceAdd, Nat.reduceLeDiff, Nat.reduceLT, if_true, if_false, Bool.false_eq_true, Bool.not_true, Bool.not_false, ite_self, implies_true, k_all, k_any, filter_true, true_and, and_true, decide_eq_true_eq, re_nil, re_cons, List.getD_cons_zero, List.getD_cons_succ]
    refine ⟨by decide, k_ixS (by rw [sizeLine_eq, abc_len]; omega) (by omega) (by rw [abc_len]; omega) fun e he => ?_⟩
    have l1 : (⟨#[c]⟩ : Str).length = 1 := rfl
    have l2 : (⟨#[e]⟩ : Str).length = 1 := rfl
    try simp -dsimp only [po_nx, po_rt, po_bk, po_ct, fr_env, fr_st, w_ok, w_bind, w_of, w_some, w_var, w_slv, w_slo, w_c, w_op, w_un, w_cmp2, w_cmpP, w_ecmpP, w_inP, w_einP, w_ecmp, w_val, w_asB, w_no, w_an, w_or, w_tY, w_ean, w_eor, w_eno, w_eif, w_nil, w_cons, w_consO, w_tup, w_lst, w_pOf, w_pSl, w_slLv, w_slLo, w_rd, w_rd2, w_trd, w_atd, w_atl, w_atv, w_ato, w_pNo, w_asI, w_pSo, w_sl, w_slL, w_cb, w_put, w_mt, w_m1, w_asS, w_seqI, w_rng1, w_rng2, w_range, w_call, w_nx, w_seq, w_asg, w_gN, w_asgO, w_asgH, w_par, w_drop, w_ret, w_retN, w_if, w_brk, w_ct, w_set, w_for, List.getElem?_cons_zero, List.getElem?_cons_succ, List.set_cons_zero, List.set_cons_succ, List.map_cons, List.map_nil, List.cons_append, List.nil_append, List.replicate_succ, List.replicate_zero, setAll, dr_int, dr_str, dr_bl, dr_non, dr_tup, dr_lst, dr_scr, dr_dK, dr_h0, put_sl, put_h, put_own, put_vh, k_add, k_sub, k_mul, k_div, k_mod, k_pow, k_abs, k_neg, k_lt, k_le, k_gt, k_ge, k_cat, k_catT, k_catL, k_lenL, k_lenT, k_lenF, k_lenS, k_listL, k_listT, k_listF, k_tupL, k_tupT, k_slL, k_slT, k_slF, k_slS, sq_l, sq_t, sq_f, k_min, k_max, ok_app, isL_l, k_isB, k_isnB, k_eqI, k_neI, k_eqB, k_neB, k_eqS, k_neS, sq_tS, sq_lS, dr_tS, dr_lS, wi_nil, wi_cons, no_eq, no_1, no_2, k_lenT', k_lenL', List.all_cons, List.all_nil, Bool.and_true, Bool.and_self, k_inT, k_ninT, k_inL, k_ninL, List.length_cons, List.length_nil, sizeLine_eq, Nat.reduceAdd, Nat.reduceLeDiff, Nat.reduceLT, if_true, if_false, Bool.false_eq_true, Bool.not_true, Bool.not_false, ite_self, implies_true, k_all, k_any, filter_true, true_and, and_true, decide_eq_true_eq, re_nil, re_cons, List.getD_cons_zero, List.getD_cons_succ]
    refine ⟨by omega, by rw [List.length_map]; omega, ⟨gs ++ [⟨#[c]⟩ ++ ⟨#[e]⟩], by rw [List.map_append]; rfl, by rw [List.length_append, lg]; rfl, fun x hx => ?_⟩, er⟩
    rcases List.mem_append.mp hx with hx | hx
    · exact hg x hx
    · rw [List.mem_singleton.mp hx]
      have y1 : (⟨#[c]⟩ ++ ⟨#[e]⟩ : Str).length ≤ 30 := by rw [len_app]; omega
      exact And.intro y1 ((Sm.one (abc_sm c (List.mem_of_getElem? hc))).app (Sm.one (abc_sm e (List.mem_of_getElem? he))))
  · rintro acc s ⟨⟨gs, rfl, lg, hg, rfl⟩, er⟩
    have lg : gs.length = 99 := by rw [lg, rng_len]; rfl
    show OkO (fAdd (.lst (fs.map .str)) (.lst (gs.map .str))) _
    simp -dsimp only [po_nx, po_rt, po_bk, po_ct, fr_env, fr_st, w_ok, w_bind, w_of, w_some, w_var, w_slv, w_slo, w_c, w_op, w_un, w_cmp2, w_cmpP, w_ecmpP, w_inP, w_einP, w_ecmp, w_val, w_asB, w_no, w_an, w_or, w_tY, w_ean, w_eor, w_eno, w_eif, w_nil, w_cons, w_consO, w_tup, w_lst, w_pOf, w_pSl, w_slLv, w_slLo, w_rd, w_rd2, w_trd, w_atd, w_atl, w_atv, w_ato, w_pNo, w_asI, w_pSo, w_sl, w_slL, w_cb, w_put, w_mt, w_m1, w_asS, w_seqI, w_rng1, w_rng2, w_range, w_call, w_nx, w_seq, w_asg, w_gN, w_asgO, w_asgH, w_par, w_drop, w_ret, w_retN, w_if, w_brk, w_ct, w_set, w_for, List.getElem?_cons_zero, List.getElem?_cons_succ, List.set_cons_zero, List.set_cons_succ, List.map_cons, List.map_nil, List.cons_append, List.nil_append, List.replicate_succ, List.replicate_zero, setAll, dr_int, dr_str, dr_bl, dr_non, dr_tup, dr_lst, dr_scr, dr_dK, dr_h0, put_sl, put_h, put_own, put_vh, k_add, k_sub, k_mul, k_div, k_mod, k_pow, k_abs, k_neg, k_lt, k_le, k_gt, k_ge, k_cat, k_catT, k_catL, k_lenL, k_lenT, k_lenF, k_lenS, k_listL, k_listT, k_listF, k_tupL, k_tupT, k_slL, k_slT, k_slF, k_slS, sq_l, sq_t, sq_f, k_min, k_max, ok_app, isL_l, k_isB, k_isnB, k_eqI, k_neI, k_eqB, k_neB, k_eqS, k_neS, sq_tS, sq_lS, dr_tS, dr_lS, wi_nil, wi_cons, no_eq, no_1, no_2, k_lenT', k_lenL', List.all_cons, List.all_nil, Bool.and_true, Bool.and_self, k_inT, k_ninT, k_inL, k_ninL, List.length_cons, List.length_nil, sizeLine_eq, Nat.reduceAdd, Nat.reduceLeDiff, Nat.reduceLT, if_true, if_false, Bool.false_eq_true, Bool.not_true, Bool.not_false, ite_self, implies_true, k_all, k_any, filter_true, true_and, and_true, decide_eq_true_eq, re_nil, re_cons, List.getD_cons_zero, List.getD_cons_succ]
    refine ⟨by rw [List.length_map, List.length_map]; omega, ?_⟩
    rw [← List.map_append]
    have hz : ∀ x ∈ fs ++ gs, Nm x := fun x hx => (List.mem_append.mp hx).elim (hf x) (hg x)
    generalize fs ++ gs = zs at hz
    refine for_inv (fun i s => ∃ (ks : List Str) (s1 : VL.Slot), s = ⟨[.val (.h 0), .val (.lst []), .val (.int many), .val (.str abc), .own (lS ks), s1, .no], st1⟩ ∧ ks.Nodup ∧ ks.length ≤ many.toNat ∧ ∀ x ∈ ks, Nm x) ⟨[], _, rfl, List.nodup_nil, by simp, fun x hx => (nomatch hx)⟩ ?_ ?_
    · rintro i d s hd ⟨ks, s1, rfl, nd, kl, hk⟩
      rw [List.getElem?_map] at hd
      obtain ⟨x, hx, rfl⟩ := Option.map_eq_some_iff.mp hd
      simp -dsimp only [po_nx, po_rt, po_bk, po_ct, fr_env, fr_st, w_ok, w_bind, w_of, w_some, w_var, w_slv, w_slo, w_c, w_op, w_un, w_cmp2, w_cmpP, w_ecmpP, w_inP, w_einP, w_ecmp, w_val, w_asB, w_no, w_an, w_or, w_tY, w_ean, w_eor, w_eno, w_eif, w_nil, w_cons, w_consO, w_tup, w_lst, w_pOf, w_pSl, w_slLv, w_slLo, w_rd, w_rd2, w_trd, w_atd, w_atl, w_atv, w_ato, w_pNo, w_asI, w_pSo, w_sl, w_slL, w_cb, w_put, w_mt, w_m1, w_asS, w_seqI, w_rng1, w_rng2, w_range, w_call, w_nx, w_seq, w_asg, w_gN, w_asgO, w_asgH, w_par, w_drop, w_ret, w_retN, w_if, w_brk, w_ct, w_set, w_for, List.getElem?_cons_zero, List.getElem?_cons_succ, List.set_cons_zero, List.set_cons_succ, List.map_cons, List.map_nil, List.cons_append, List.nil_append, List.replicate_succ, List.replicate_zero, setAll, dr_int, dr_str, dr_bl, dr_non, dr_tup, dr_lst, dr_scr, dr_dK, dr_h0, put_sl, put_h, put_own, put_vh, k_add, k_sub, k_mul, k_div, k_mod, k_pow, k_abs, k_neg, k_lt, k_le, k_gt, k_ge, k_cat, k_catT, k_catL, k_lenL, k_lenT, k_lenF, k_lenS, k_listL, k_listT, k_listF, k_tupL, k_tupT, k_slL, k_slT, k_slF, k_slS, sq_l, sq_t, sq_f, k_min, k_max, ok_app, isL_l, k_isB, k_isnB, k_eqI, k_neI, k_eqB, k_neB, k_eqS, k_neS, sq_tS, sq_lS, dr_tS, dr_lS, wi_nil, wi_cons, no_eq, no_1, no_2, k_lenT', k_lenL', List.all_cons, List.all_nil, Bool.and_true, Bool.and_self, k_inT, k_ninT, k_inL, k_ninL, List.length_cons, List.length_nil, sizeLine_eq, Nat.reduceAdd, Nat.reduceLeDiff, Nat.reduceLT, if_true, if_false, Bool.false_eq_true, Bool.not_true, Bool.not_false, ite_self, implies_true, k_all, k_any, filter_true, true_and, and_true, decide_eq_true_eq, re_nil, re_cons, List.getD_cons_zero, List.getD_cons_succ, k_ninE]
      by_cases hm : x ∈ ks
      · simp only [hm, decide_true, Bool.not_true]
        try simp -dsimp only [po_nx, po_rt, po_bk, po_ct, fr_env, fr_st, w_ok, w_bind, w_of, w_some, w_var, w_slv, w_slo, w_c, w_op, w_un, w_cmp2, w_cmpP, w_ecmpP, w_inP, w_einP, w_ecmp, w_val, w_asB, w_no, w_an, w_or, w_tY, w_ean, w_eor, w_eno, w_eif, w_nil, w_cons, w_consO, w_tup, w_lst, w_pOf, w_pSl, w_slLv, w_slLo, w_rd, w_rd2, w_trd, w_atd, w_atl, w_atv, w_ato, w_pNo, w_asI, w_pSo, w_sl, w_slL, w_cb, w_put, w_mt, w_m1, w_asS, w_seqI, w_rng1, w_rng2, w_range, w_call, w_nx, w_seq, w_asg, w_gN, w_asgO, w_asgH, w_par, w_drop, w_ret, w_retN, w_if, w_brk, w_ct, w_set, w_for, List.getElem?_cons_zero, List.getElem?_cons_succ, List.set_cons_zero, List.set_cons_succ, List.map_cons, List.map_nil, List.cons_append, List.nil_append, List.replicate_succ, List.replicate_zero, setAll, dr_int, dr_str, dr_bl, dr_non, dr_tup, dr_lst, dr_scr, dr_dK, dr_h0, put_sl, put_h, put_own, put_vh, k_add, k_sub, k_mul, k_div, k_mod, k_pow, k_abs, k_neg, k_lt, k_le, k_gt, k_ge, k_cat, k_catT, k_catL, k_lenL, k_lenT, k_lenF, k_lenS, k_listL, k_listT, k_listF, k_tupL, k_tupT, k_slL, k_slT, k_slF, k_slS, sq_l, sq_t, sq_f, k_min, k_max, ok_app, isL_l, k_isB, k_isnB, k_eqI, k_neI, k_eqB, k_neB, k_eqS, k_neS, sq_tS, sq_lS, dr_tS, dr_lS, wi_nil, wi_cons, no_eq, no_1, no_2, k_lenT', k_lenL', List.all_cons, List.all_nil, Bool.and_true, Bool.and_self, k_inT, k_ninT, k_inL, k_ninL, List.length_cons, List.length_nil, sizeLine_eq, Nat.reduceAdd, Nat.reduceLeDiff, Nat.reduceLT, if_true, if_false, Bool.false_eq_true, Bool.not_true, Bool.not_false, ite_self, implies_true, k_all, k_any, filter_true, true_and, and_true, decide_eq_true_eq, re_nil, re_cons, List.getD_cons_zero, List.getD_cons_succ]
        exact ⟨ks, _, rfl, nd, kl, hk⟩
      · simp only [hm, decide_false, Bool.not_false]
        try simp -dsimp only [po_nx, po_rt, po_bk, po_ct, fr_env, fr_st, w_ok, w_bind, w_of, w_some, w_var, w_slv, w_slo, w_c, w_op, w_un, w_cmp2, w_cmpP, w_ecmpP, w_inP, w_einP, w_ecmp, w_val, w_asB, w_no, w_an, w_or, w_tY, w_ean, w_eor, w_eno, w_eif, w_nil, w_cons, w_consO, w_tup, w_lst, w_pOf, w_pSl, w_slLv, w_slLo, w_rd, w_rd2, w_trd, w_atd, w_atl, w_atv, w_ato, w_pNo, w_asI, w_pSo, w_sl, w_slL, w_cb, w_put, w_mt, w_m1, w_asS, w_seqI, w_rng1, w_rng2, w_range, w_call, w_nx, w_seq, w_asg, w_gN, w_asgO, w_asgH, w_par, w_drop, w_ret, w_retN, w_if, w_brk, w_ct, w_set, w_for, List.getElem?_cons_zero, List.getElem?_cons_succ, List.set_cons_zero, List.set_cons_succ, List.map_cons, List.map_nil, List.cons_append, List.nil_append, List.replicate_succ, List.replicate_zero, setAll, dr_int, dr_str, dr_bl, dr_non, dr_tup, dr_lst, dr_scr, dr_dK, dr_h0, put_sl, put_h, put_own, put_vh, k_add, k_sub, k_mul, k_div, k_mod, k_pow, k_abs, k_neg, k_lt, k_le, k_gt, k_ge, k_cat, k_catT, k_catL, k_lenL, k_lenT, k_lenF, k_lenS, k_listL, k_listT, k_listF, k_tupL, k_tupT, k_slL, k_slT, k_slF, k_slS, sq_l, sq_t, sq_f, k_min, k_max, ok_app, isL_l, k_isB, k_isnB, k_eqI, k_neI, k_eqB, k_neB, k_eqS, k_neS, sq_tS, sq_lS, dr_tS, dr_lS, wi_nil, wi_cons, no_eq, no_1, no_2, k_lenT', k_lenL', List.all_cons, List.all_nil, Bool.and_true, Bool.and_self, k_inT, k_ninT, k_inL, k_ninL, List.length_cons, List.length_nil, sizeLine_eq, Nat.reduceAdd, Nat.reduceLeDiff, Nat.reduceLT, if_true, if_false, Bool.false_eq_true, Bool.not_true, Bool.not_false, ite_self, implies_true, k_all, k_any, filter_true, true_and, and_true, decide_eq_true_eq, re_nil, re_cons, List.getD_cons_zero, List.getD_cons_succ]
        by_cases hl : (ks.length : Int) < many
        · simp only [hl, decide_true]
          try simp -dsimp only [po_nx, po_rt, po_bk, po_ct, fr_env, fr_st, w_ok, w_bind, w_of, w_some, w_var, w_slv, w_slo, w_c, w_op, w_un, w_cmp2, w_cmpP, w_ecmpP, w_inP, w_einP, w_ecmp, w_val, w_asB, w_no, w_an, w_or, w_tY, w_ean, w_eor, w_eno, w_eif, w_nil, w_cons, w_consO, w_tup, w_lst, w_pOf, w_pSl, w_slLv, w_slLo, w_rd, w_rd2, w_trd, w_atd, w_atl, w_atv, w_ato, w_pNo, w_asI, w_pSo, w_sl, w_slL, w_cb, w_put, w_mt, w_m1, w_asS, w_seqI, w_rng1, w_rng2, w_range, w_call, w_nx, w_seq, w_asg, w_gN, w_asgO, w_asgH, w_par, w_drop, w_ret, w_retN, w_if, w_brk, w_ct, w_set, w_for, List.getElem?_cons_zero, List.getElem?_cons_succ, List.set_cons_zero, List.set_cons_succ, List.map_cons, List.map_nil, List.cons_append, List.nil_append, List.replicate_succ, List.replicate_zero, setAll, dr_int, dr_str, dr_bl, dr_non, dr_tup, dr_lst, dr_scr, dr_dK, dr_h0, put_sl, put_h, put_own, put_vh, k_add, k_sub, k_mul, k_div, k_mod, k_pow, k_abs, k_neg, k_lt, k_le, k_gt, k_ge, k_cat, k_catT, k_catL, k_lenL, k_lenT, k_lenF, k_lenS, k_listL, k_listT, k_listF, k_tupL, k_tupT, k_slL, k_slT, k_slF, k_slS, sq_l, sq_t, sq_f, k_min, k_max, ok_app, isL_l, k_isB, k_isnB, k_eqI, k_neI, k_eqB, k_neB, k_eqS, k_neS, sq_tS, sq_lS, dr_tS, dr_lS, wi_nil, wi_cons, no_eq, no_1, no_2, k_lenT', k_lenL', List.all_cons, List.all_nil, Bool.and_true, Bool.and_self, k_inT, k_ninT, k_inL, k_ninL, List.length_cons, List.length_nil, sizeLine_eq, Nat.reduceAdd, Nat.reduceLeDiff, Nat.reduceLT, if_true, if_false, Bool.false_eq_true, Bool.not_true, Bool.not_false, ite_self, implies_true, k_all, k_any, filter_true, true_and, and_true, decide_eq_true_eq, re_nil, re_cons, List.getD_cons_zero, List.getD_cons_succ]
          refine ⟨rfl, ?_⟩
          show OkO (fApp (.lst (ks.map .str)) [.str x]) _
          simp -dsimp only [po_nx, po_rt, po_bk, po_ct, fr_env, fr_st, w_ok, w_bind, w_of, w_some, w_var, w_slv, w_slo, w_c, w_op, w_un, w_cmp2, w_cmpP, w_ecmpP, w_inP, w_einP, w_ecmp, w_val, w_asB, w_no, w_an, w_or, w_tY, w_ean, w_eor, w_eno, w_eif, w_nil, w_cons, w_consO, w_tup, w_lst, w_pOf, w_pSl, w_slLv, w_slLo, w_rd, w_rd2, w_trd, w_atd, w_atl, w_atv, w_ato, w_pNo, w_asI, w_pSo, w_sl, w_slL, w_cb, w_put, w_mt, w_m1, w_asS, w_seqI, w_rng1, w_rng2, w_range, w_call, w_nx, w_seq, w_asg, w_gN, w_asgO, w_asgH, w_par, w_drop, w_ret, w_retN, w_if, w_brk, w_ct, w_set, w_for, List.getElem?_cons_zero, List.getElem?_cons_succ, List.set_cons_zero, List.set_cons_succ, List.map_cons, List.map_nil, List.cons_append, List.nil_append, List.replicate_succ, List.replicate_zero, setAll, dr_int, dr_str, dr_bl, dr_non, dr_tup, dr_lst, dr_scr, dr_dK, dr_h0, put_sl, put_h, put_own, put_vh, k_add, k_sub, k_mul, k_div, k_mod, k_pow, k_abs, k_neg, k_lt, k_le, k_gt, k_ge, k_cat, k_catT, k_catL, k_lenL, k_lenT, k_lenF, k_lenS, k_listL, k_listT, k_listF, k_tupL, k_tupT, k_slL, k_slT, k_slF, k_slS, sq_l, sq_t, sq_f, k_min, k_max, ok_app, isL_l, k_isB, k_isnB, k_eqI, k_neI, k_eqB, k_neB, k_eqS, k_neS, sq_tS, sq_lS, dr_tS, dr_lS, wi_nil, wi_cons, no_eq, no_1, no_2, k_lenT', k_lenL', List.all_cons, List.all_nil, Bool.and_true, Bool.and_self, k_inT, k_ninT, k_inL, k_ninL, List.length_cons, List.length_nil, sizeLine_eq, Nat.reduceAdd, Nat.reduceLeDiff, Nat.reduceLT, if_true, if_false, Bool.false_eq_true, Bool.not_true, Bool.not_false, ite_self, implies_true, k_all, k_any, filter_true, true_and, and_true, decide_eq_true_eq, re_nil, re_cons, List.getD_cons_zero, List.getD_cons_succ]
          refine ⟨by rw [List.length_map]; omega, ks ++ [x], _, by unfold lS; rw [List.map_append]; rfl, ?_, by rw [List.length_append, List.length_singleton]; omega, fun y hy => ?_⟩
          · refine List.nodup_append.mpr ⟨nd, by simp, fun y hy z hz' e => ?_⟩
            rw [List.mem_singleton.mp hz'] at e
            exact hm (e ▸ hy)
          · rcases List.mem_append.mp hy with hy | hy
            · exact hk y hy
            · rw [List.mem_singleton.mp hy]
              exact hz x (List.mem_of_getElem? hx)
        · simp only [hl, decide_false]
          try simp -dsimp only [po_nx, po_rt, po_bk, po_ct, fr_env, fr_st, w_ok, w_bind, w_of, w_some, w_var, w_slv, w_slo, w_c, w_op, w_un, w_cmp2, w_cmpP, w_ecmpP, w_inP, w_einP, w_ecmp, w_val, w_asB, w_no, w_an, w_or, w_tY, w_ean, w_eor, w_eno, w_eif, w_nil, w_cons, w_consO, w_tup, w_lst, w_pOf, w_pSl, w_slLv, w_slLo, w_rd, w_rd2, w_trd, w_atd, w_atl, w_atv, w_ato, w_pNo, w_asI, w_pSo, w_sl, w_slL, w_cb, w_put, w_mt, w_m1, w_asS, w_seqI, w_rng1, w_rng2, w_range, w_call, w_nx, w_seq, w_asg, w_gN, w_asgO, w_asgH, w_par, w_drop, w_ret, w_retN, w_if, w_brk, w_ct, w_set, w_for, List.getElem?_cons_zero, List.getElem?_cons_succ, List.set_cons_zero, List.set_cons_succ, List.map_cons, List.map_nil, List.cons_append, List.nil_append, List.replicate_succ, List.replicate_zero, setAll, dr_int, dr_str, dr_bl, dr_non, dr_tup, dr_lst, dr_scr, dr_dK, dr_h0, put_sl, put_h, put_own, put_vh, k_add, k_sub, k_mul, k_div, k_mod, k_pow, k_abs, k_neg, k_lt, k_le, k_gt, k_ge, k_cat, k_catT, k_catL, k_lenL, k_lenT, k_lenF, k_lenS, k_listL, k_listT, k_listF, k_tupL, k_tupT, k_slL, k_slT, k_slF, k_slS, sq_l, sq_t, sq_f, k_min, k_max, ok_app, isL_l, k_isB, k_isnB, k_eqI, k_neI, k_eqB, k_neB, k_eqS, k_neS, sq_tS, sq_lS, dr_tS, dr_lS, wi_nil, wi_cons, no_eq, no_1, no_2, k_lenT', k_lenL', List.all_cons, List.all_nil, Bool.and_true, Bool.and_self, k_inT, k_ninT, k_inL, k_ninL, List.length_cons, List.length_nil, sizeLine_eq, Nat.reduceAdd, Nat.reduceLeDiff, Nat.reduceLT, if_true, if_false, Bool.false_eq_true, Bool.not_true, Bool.not_false, ite_self, implies_true, k_all, k_any, filter_true, true_and, and_true, decide_eq_true_eq, re_nil, re_cons, List.getD_cons_zero, List.getD_cons_succ]
          exact ⟨ks, _, rfl, nd, kl, hk⟩
    · rintro s ⟨ks, s1, rfl, nd, kl, hk⟩
      try simp -dsimp only [po_nx, po_rt, po_bk, po_ct, fr_env, fr_st, w_ok, w_bind, w_of, w_some, w_var, w_slv, w_slo, w_c, w_op, w_un, w_cmp2, w_cmpP, w_ecmpP, w_inP, w_einP, w_ecmp, w_val, w_asB, w_no, w_an, w_or, w_tY, w_ean, w_eor, w_eno, w_eif, w_nil, w_cons, w_consO, w_tup, w_lst, w_pOf, w_pSl, w_slLv, w_slLo, w_rd, w_rd2, w_trd, w_atd, w_atl, w_atv, w_ato, w_pNo, w_asI, w_pSo, w_sl, w_slL, w_cb, w_put, w_mt, w_m1, w_asS, w_seqI, w_rng1, w_rng2, w_range, w_call, w_nx, w_seq, w_asg, w_gN, w_asgO, w_asgH, w_par, w_drop, w_ret, w_retN, w_if, w_brk, w_ct, w_set, w_for, List.getElem?_cons_zero, List.getElem?_cons_succ, List.set_cons_zero, List.set_cons_succ, List.map_cons, List.map_nil, List.cons_append, List.nil_append, List.replicate_succ, List.replicate_zero, setAll, dr_int, dr_str, dr_bl, dr_non, dr_tup, dr_lst, dr_scr, dr_dK, dr_h0, put_sl, put_h, put_own, put_vh, k_add, k_sub, k_mul, k_div, k_mod, k_pow, k_abs, k_neg, k_lt, k_le, k_gt, k_ge, k_cat, k_catT, k_catL, k_lenL, k_lenT, k_lenF, k_lenS, k_listL, k_listT, k_listF, k_tupL, k_tupT, k_slL, k_slT, k_slF, k_slS, sq_l, sq_t, sq_f, k_min, k_max, ok_app, isL_l, k_isB, k_isnB, k_eqI, k_neI, k_eqB, k_neB, k_eqS, k_neS, sq_tS, sq_lS, dr_tS, dr_lS, wi_nil, wi_cons, no_eq, no_1, no_2, k_lenT', k_lenL', List.all_cons, List.all_nil, Bool.and_true, Bool.and_self, k_inT, k_ninT, k_inL, k_ninL, List.length_cons, List.length_nil, sizeLine_eq, Nat.reduceAdd, Nat.reduceLeDiff, Nat.reduceLT, if_true, if_false, Bool.false_eq_true, Bool.not_true, Bool.not_false, ite_self, implies_true, k_all, k_any, filter_true, true_and, and_true, decide_eq_true_eq, re_nil, re_cons, List.getD_cons_zero, List.getD_cons_succ]
      exact ⟨ks, rfl, nd, kl, hk, h1⟩
end K81
set_option Elab.async false
set_option linter.all false
set_option maxRecDepth 100000
set_option maxHeartbeats 1000000
namespace K81
open PySem L2 VL
/-! ### sets of names, as rows in order -/
theorem sub_iff {a b : List Str} : sub a b = true ↔ ∀ x ∈ a, x ∈ b := by
  unfold sub
  rw [List.all_eq_true]
  simp
theorem sub_rfl {a : List Str} : sub a a = true := sub_iff.mpr fun _ h => h
theorem sub_tr {a b c : List Str} (h : sub a b = true) (k : sub b c = true) : sub a c = true := sub_iff.mpr fun x hx => sub_iff.mp k x (sub_iff.mp h x hx)
theorem row_eq {N l : List Str} (h : l.Sublist N) (nd : N.Nodup) : l = N.filter fun x => decide (x ∈ l) := by
  induction h with
  | slnil => rfl
  | cons a h ih =>
    rename_i l1 l2
    have nd' := List.nodup_cons.mp nd
    rw [List.filter_cons, if_neg (by simpa using fun z => nd'.1 (h.subset z))]
    exact ih nd'.2
  | cons_cons a h ih =>
    rename_i l1 l2
    have nd' := List.nodup_cons.mp nd
    rw [List.filter_cons, if_pos (by simp)]
    congr 1
    refine (ih nd'.2).trans (List.filter_congr fun x hx => ?_)
    have : x ≠ a := fun e => nd'.1 (e ▸ hx)
    simp [this]
theorem row_sub {N a b : List Str} (ha : a.Sublist N) (hb : b.Sublist N) (nd : N.Nodup) (h : sub a b = true) : a.Sublist b := by
  rw [row_eq ha nd, row_eq hb nd]
  have e : (N.filter fun x => decide (x ∈ a)) = (N.filter fun x => decide (x ∈ b)).filter fun x => decide (x ∈ a) := by
    rw [List.filter_filter]
    refine List.filter_congr fun x _ => ?_
    by_cases z : x ∈ a
    · simp [z, sub_iff.mp h x z]
    · simp [z]
  rw [e]
  exact List.filter_sublist
theorem row_lt {N a b : List Str} (ha : a.Sublist N) (hb : b.Sublist N) (nd : N.Nodup) (h : sub a b = true) (ne : a ≠ b) : a.length < b.length := by
  have s := row_sub ha hb nd h
  rcases Nat.lt_or_ge a.length b.length with l | l
  · exact l
  · exact (ne (s.eq_of_length (Nat.le_antisymm s.length_le l))).elim
section
variable {N : List Str} {S : List (List Str)}
theorem less_iff {x : List Str} : less S x = true ↔ ∃ o ∈ S, o ≠ x ∧ sub o x = true := by
  unfold less
  simp [List.any_eq_true]
theorem more_iff {x : List Str} : more S x = true ↔ ∃ o ∈ S, o ≠ x ∧ sub x o = true := by
  unfold more
  simp [List.any_eq_true]
theorem least_below (nd : N.Nodup) (hS : ∀ l ∈ S, l.Sublist N) : ∀ (n : Nat) (x : List Str), x.length ≤ n → x ∈ S → ∃ m ∈ S.filter (fun l => !less S l), sub m x = true
  | n, x, hn, hx => by
    by_cases c : less S x = true
    · obtain ⟨o, ho, ne, hs⟩ := less_iff.mp c
      have lt := row_lt (hS o ho) (hS x hx) nd hs ne
      match n, hn with
      | 0, hn => omega
      | n + 1, hn =>
        obtain ⟨m, hm, k⟩ := least_below nd hS n o (by omega) ho
        exact ⟨m, hm, sub_tr k hs⟩
    · exact ⟨x, List.mem_filter.mpr ⟨hx, by simpa using c⟩, sub_rfl⟩
theorem most_above (nd : N.Nodup) (hS : ∀ l ∈ S, l.Sublist N) : ∀ (n : Nat) (x : List Str), N.length ≤ x.length + n → x ∈ S → ∃ m ∈ S.filter (fun l => !more S l), sub x m = true
  | n, x, hn, hx => by
    by_cases c : more S x = true
    · obtain ⟨o, ho, ne, hs⟩ := more_iff.mp c
      have lt := row_lt (hS x hx) (hS o ho) nd hs (fun e => ne e.symm)
      have le := (hS o ho).length_le
      match n, hn with
      | 0, hn => omega
      | n + 1, hn =>
        obtain ⟨m, hm, k⟩ := most_above nd hS n o (by omega) ho
        exact ⟨m, hm, sub_tr hs k⟩
    · exact ⟨x, List.mem_filter.mpr ⟨hx, by simpa using c⟩, sub_rfl⟩
end
/-- the family of all sets that contain a root: its least ones and the greatest outside decide -/
theorem fam_dec {ns : List Str} (nd : ns.Nodup) (R : List (List Str)) :
    dec ns (((pw ns).filter fun x => up R x).filter fun l => !less ((pw ns).filter fun x => up R x) l) (((pw ns).filter fun x => !decide (x ∈ (pw ns).filter fun x => up R x)).filter fun l => !more ((pw ns).filter fun x => !decide (x ∈ (pw ns).filter fun x => up R x)) l) = true := by
  have ndN : (sortS ns).Nodup := (List.mergeSort_perm _ _).nodup_iff.mpr nd
  generalize hI : ((pw ns).filter fun x => up R x) = I
  generalize hO : ((pw ns).filter fun x => !decide (x ∈ I)) = O
  have iI : ∀ x, x ∈ I ↔ x ∈ pw ns ∧ up R x = true := fun x => by rw [← hI]; exact List.mem_filter
  have iO : ∀ x, x ∈ O ↔ x ∈ pw ns ∧ x ∉ I := fun x => by rw [← hO, List.mem_filter]; simp
  have sI : ∀ l ∈ I, l.Sublist (sortS ns) := fun l h => pw_mem ((iI l).mp h).1
  have sO : ∀ l ∈ O, l.Sublist (sortS ns) := fun l h => pw_mem ((iO l).mp h).1
  have mono : ∀ {x y}, x ∈ I → y ∈ pw ns → sub x y = true → y ∈ I := fun {x y} hx hy hs => by
    obtain ⟨h1, h2⟩ := (iI x).mp hx
    unfold up at h2
    obtain ⟨m, hm, k⟩ := List.any_eq_true.mp h2
    refine (iI y).mpr ⟨hy, ?_⟩
    unfold up
    exact List.any_eq_true.mpr ⟨m, hm, sub_tr k hs⟩
  refine List.all_eq_true.mpr fun x hx => ?_
  by_cases c : x ∈ I
  · have u : up (I.filter fun l => !less I l) x = true := List.any_eq_true.mpr (least_below ndN sI _ x (Nat.le_refl _) c)
    have d : dn (O.filter fun l => !more O l) x = false := by
      refine Bool.eq_false_iff.mpr fun z => ?_
      obtain ⟨m, hm, k⟩ := List.any_eq_true.mp z
      have hm := (iO m).mp (List.mem_filter.mp hm).1
      exact hm.2 (mono c hm.1 k)
    rw [u, d]; rfl
  · have u : up (I.filter fun l => !less I l) x = false := by
      refine Bool.eq_false_iff.mpr fun z => ?_
      obtain ⟨m, hm, k⟩ := List.any_eq_true.mp z
      exact c (mono (List.mem_filter.mp hm).1 hx k)
    have d : dn (O.filter fun l => !more O l) x = true := List.any_eq_true.mpr (most_above ndN sO (sortS ns).length x (by omega) ((iO x).mpr ⟨hx, c⟩))
    rw [u, d]; rfl
theorem dec_perm {a b : List Str} (h : a.Perm b) {B O : List (List Str)} : dec a B O = dec b B O := by
  unfold dec pw
  rw [sortS_perm h]
end K81
set_option Elab.async false
set_option linter.all false
set_option maxRecDepth 100000
set_option maxHeartbeats 1000000
namespace K81
open PySem L2 VL
variable {st : List D} {T : Nat} {ns : List Str}
theorem LL_nin {L : List (List Str)} {x : List Str} {QB : Bool → Prop} (hx : Oks x) (h : Short L) : OkO (fNotMem (tS x) (.lst (L.map tS))) QB = QB (!decide (x ∈ L)) := k_ninLL hx fun l hl => (h.2 l hl).2
theorem Short.filter {L : List (List Str)} {p : List Str → Bool} (h : Short L) : Short (L.filter p) := ⟨Nat.le_trans (List.length_filter_le _ _) h.1, fun l hl => h.2 l (List.mem_filter.mp hl).1⟩
theorem pw_short (hn : ns.length ≤ 10) (kn : Oks ns) : Short (pw ns) := ⟨by have := pw_len hn; rw [sizeLine_eq]; omega, fun l hl => ⟨by have := pw_size hl; rw [sizeLine_eq]; omega, fun x hx => kn x (pw_in hl hx)⟩⟩
/-- rows of rows of names -/
def Rows (ns : List Str) (L : List (List Str)) : Prop := L.length ≤ 64 ∧ ∀ l ∈ L, l.length ≤ 6 ∧ ∀ x ∈ l, x ∈ ns
theorem pw_rows (hn : ns.length ≤ 6) : Rows ns (pw ns) := ⟨by
  unfold pw
  rw [sortT_len, pwk_len, sortS_len]
  exact pow_small hn, fun l hl => ⟨by have := pw_size hl; omega, fun x hx => pw_in hl hx⟩⟩
theorem Rows.filter {L : List (List Str)} {p : List Str → Bool} (h : Rows ns L) : Rows ns (L.filter p) := ⟨Nat.le_trans (List.length_filter_le _ _) h.1, fun l hl => h.2 l (List.mem_filter.mp hl).1⟩
theorem family (h : Pen T st) (hT : T < 2 ^ 50) (hn : ns.length ≤ 6) (kn : Oks ns) (nd : ns.Nodup) : OkG (G_law_family [.h 0, lS ns] st) fun d st' => ∃ B O : List (List Str), d = .tup [.lst (B.map tS), .lst (O.map tS)] ∧ dec ns B O = true ∧ Rows ns B ∧ Rows ns O ∧ Pen (T + 200) st' := by
  have sp := pw_short (by omega) kn
  have rp := pw_rows hn
  refine g_mk rfl ?_
  unfold F_law_family
  simp -dsimp only [po_nx, po_rt, po_bk, po_ct, fr_env, fr_st, w_ok, w_bind, w_of, w_some, w_var, w_slv, w_slo, w_c, w_op, w_un, w_cmp2, w_cmpP, w_ecmpP, w_inP, w_einP, w_ecmp, w_val, w_asB, w_no, w_an, w_or, w_tY, w_ean, w_eor, w_eno, w_eif, w_nil, w_cons, w_consO, w_tup, w_lst, w_pOf, w_pSl, w_slLv, w_slLo, w_rd, w_rd2, w_trd, w_atd, w_atl, w_atv, w_ato, w_pNo, w_asI, w_pSo, w_sl, w_slL, w_cb, w_put, w_mt, w_m1, w_asS, w_seqI, w_rng1, w_rng2, w_range, w_call, w_nx, w_seq, w_asg, w_gN, w_asgO, w_asgH, w_par, w_drop, w_ret, w_retN, w_if, w_brk, w_ct, w_set, w_for, List.getElem?_cons_zero, List.getElem?_cons_succ, List.set_cons_zero, List.set_cons_succ, List.map_cons, List.map_nil, List.cons_append, List.nil_append, List.replicate_succ, List.replicate_zero, setAll, dr_int, dr_str, dr_bl, dr_non, dr_tup, dr_lst, dr_scr, dr_dK, dr_h0, put_sl, put_h, put_own, put_vh, k_add, k_sub, k_mul, k_div, k_mod, k_pow, k_abs, k_neg, k_lt, k_le, k_gt, k_ge, k_cat, k_catT, k_catL, k_lenL, k_lenT, k_lenF, k_lenS, k_listL, k_listT, k_listF, k_tupL, k_tupT, k_slL, k_slT, k_slF, k_slS, sq_l, sq_t, sq_f, k_min, k_max, ok_app, isL_l, k_isB, k_isnB, k_eqI, k_neI, k_eqB, k_neB, k_eqS, k_neS, sq_tS, sq_lS, dr_tS, dr_lS, wi_nil, wi_cons, no_eq, no_1, no_2, k_lenT', k_lenL', List.all_cons, List.all_nil, Bool.and_true, Bool.and_self, k_inT, k_ninT, k_inL, k_ninL, List.length_cons, List.length_nil, sizeLine_eq, Nat.reduceAdd, Nat.reduceLeDiff, Nat.reduceLT, if_true, if_false, Bool.false_eq_true, Bool.not_true, Bool.not_false, ite_self, implies_true, k_all, k_any, filter_true, true_and, and_true, decide_eq_true_eq, re_nil, re_cons, List.getD_cons_zero, List.getD_cons_succ]
  refine (sets_of (.inl rfl) (by omega)).mono ?_
  rintro _ _ ⟨rfl, rfl⟩
  try simp -dsimp only [po_nx, po_rt, po_bk, po_ct, fr_env, fr_st, w_ok, w_bind, w_of, w_some, w_var, w_slv, w_slo, w_c, w_op, w_un, w_cmp2, w_cmpP, w_ecmpP, w_inP, w_einP, w_ecmp, w_val, w_asB, w_no, w_an, w_or, w_tY, w_ean, w_eor, w_eno, w_eif, w_nil, w_cons, w_consO, w_tup, w_lst, w_pOf, w_pSl, w_slLv, w_slLo, w_rd, w_rd2, w_trd, w_atd, w_atl, w_atv, w_ato, w_pNo, w_asI, w_pSo, w_sl, w_slL, w_cb, w_put, w_mt, w_m1, w_asS, w_seqI, w_rng1, w_rng2, w_range, w_call, w_nx, w_seq, w_asg, w_gN, w_asgO, w_asgH, w_par, w_drop, w_ret, w_retN, w_if, w_brk, w_ct, w_set, w_for, List.getElem?_cons_zero, List.getElem?_cons_succ, List.set_cons_zero, List.set_cons_succ, List.map_cons, List.map_nil, List.cons_append, List.nil_append, List.replicate_succ, List.replicate_zero, setAll, dr_int, dr_str, dr_bl, dr_non, dr_tup, dr_lst, dr_scr, dr_dK, dr_h0, put_sl, put_h, put_own, put_vh, k_add, k_sub, k_mul, k_div, k_mod, k_pow, k_abs, k_neg, k_lt, k_le, k_gt, k_ge, k_cat, k_catT, k_catL, k_lenL, k_lenT, k_lenF, k_lenS, k_listL, k_listT, k_listF, k_tupL, k_tupT, k_slL, k_slT, k_slF, k_slS, sq_l, sq_t, sq_f, k_min, k_max, ok_app, isL_l, k_isB, k_isnB, k_eqI, k_neI, k_eqB, k_neB, k_eqS, k_neS, sq_tS, sq_lS, dr_tS, dr_lS, wi_nil, wi_cons, no_eq, no_1, no_2, k_lenT', k_lenL', List.all_cons, List.all_nil, Bool.and_true, Bool.and_self, k_inT, k_ninT, k_inL, k_ninL, List.length_cons, List.length_nil, sizeLine_eq, Nat.reduceAdd, Nat.reduceLeDiff, Nat.reduceLT, if_true, if_false, Bool.false_eq_true, Bool.not_true, Bool.not_false, ite_self, implies_true, k_all, k_any, filter_true, true_and, and_true, decide_eq_true_eq, re_nil, re_cons, List.getD_cons_zero, List.getD_cons_succ]
  -- roots
  refine lc_inv (fun ds s1 i acc s => (∃ (R : List (List Str)) (st' : List D), acc = R.map tS ∧ R.length ≤ i ∧ (∀ l ∈ R, l ∈ pw ns) ∧ s = ⟨[.val (.h 0), .val (lS ns), .val (.lst ((pw ns).map tS)), .no, .no, .no, .no, .no, .no], st'⟩ ∧ Pen (T + 2 * i) st') ∧ ds = (pw ns).map tS ∧ s1 = ⟨[.val (.h 0), .val (lS ns), .val (.lst ((pw ns).map tS)), .no, .no, .no, .no, .no, .no], st⟩) ?_
  simp -dsimp only [po_nx, po_rt, po_bk, po_ct, fr_env, fr_st, w_ok, w_bind, w_of, w_some, w_var, w_slv, w_slo, w_c, w_op, w_un, w_cmp2, w_cmpP, w_ecmpP, w_inP, w_einP, w_ecmp, w_val, w_asB, w_no, w_an, w_or, w_tY, w_ean, w_eor, w_eno, w_eif, w_nil, w_cons, w_consO, w_tup, w_lst, w_pOf, w_pSl, w_slLv, w_slLo, w_rd, w_rd2, w_trd, w_atd, w_atl, w_atv, w_ato, w_pNo, w_asI, w_pSo, w_sl, w_slL, w_cb, w_put, w_mt, w_m1, w_asS, w_seqI, w_rng1, w_rng2, w_range, w_call, w_nx, w_seq, w_asg, w_gN, w_asgO, w_asgH, w_par, w_drop, w_ret, w_retN, w_if, w_brk, w_ct, w_set, w_for, List.getElem?_cons_zero, List.getElem?_cons_succ, List.set_cons_zero, List.set_cons_succ, List.map_cons, List.map_nil, List.cons_append, List.nil_append, List.replicate_succ, List.replicate_zero, setAll, dr_int, dr_str, dr_bl, dr_non, dr_tup, dr_lst, dr_scr, dr_dK, dr_h0, put_sl, put_h, put_own, put_vh, k_add, k_sub, k_mul, k_div, k_mod, k_pow, k_abs, k_neg, k_lt, k_le, k_gt, k_ge, k_cat, k_catT, k_catL, k_lenL, k_lenT, k_lenF, k_lenS, k_listL, k_listT, k_listF, k_tupL, k_tupT, k_slL, k_slT, k_slF, k_slS, sq_l, sq_t, sq_f, k_min, k_max, ok_app, isL_l, k_isB, k_isnB, k_eqI, k_neI, k_eqB, k_neB, k_eqS, k_neS, sq_tS, sq_lS, dr_tS, dr_lS, wi_nil, wi_cons, no_eq, no_1, no_2, k_lenT', k_lenL', List.all_cons, List.all_nil, Bool.and_true, Bool.and_self, k_inT, k_ninT, k_inL, k_ninL, List.length_cons, List.length_nil, sizeLine_eq, Nat.reduceAdd, Nat.reduceLeDiff, Nat.reduceLT, if_true, if_false, Bool.false_eq_true, Bool.not_true, Bool.not_false, ite_self, implies_true, k_all, k_any, filter_true, true_and, and_true, decide_eq_true_eq, re_nil, re_cons, List.getD_cons_zero, List.getD_cons_succ]
  refine ⟨⟨[], _, rfl, by simp, fun l hl => (nomatch hl), rfl, h⟩, ?_, ?_⟩
  · rintro i d acc s hd ⟨R, st', rfl, lR, hR, rfl, hp⟩
    rw [List.getElem?_map] at hd
    obtain ⟨x, hx, rfl⟩ := Option.map_eq_some_iff.mp hd
    have il : i < 64 := by have := (List.getElem?_eq_some_iff.mp hx).1; have := rp.1; omega
    simp -dsimp only [po_nx, po_rt, po_bk, po_ct, fr_env, fr_st, w_ok, w_bind, w_of, w_some, w_var, w_slv, w_slo, w_c, w_op, w_un, w_cmp2, w_cmpP, w_ecmpP, w_inP, w_einP, w_ecmp, w_val, w_asB, w_no, w_an, w_or, w_tY, w_ean, w_eor, w_eno, w_eif, w_nil, w_cons, w_consO, w_tup, w_lst, w_pOf, w_pSl, w_slLv, w_slLo, w_rd, w_rd2, w_trd, w_atd, w_atl, w_atv, w_ato, w_pNo, w_asI, w_pSo, w_sl, w_slL, w_cb, w_put, w_mt, w_m1, w_asS, w_seqI, w_rng1, w_rng2, w_range, w_call, w_nx, w_seq, w_asg, w_gN, w_asgO, w_asgH, w_par, w_drop, w_ret, w_retN, w_if, w_brk, w_ct, w_set, w_for, List.getElem?_cons_zero, List.getElem?_cons_succ, List.set_cons_zero, List.set_cons_succ, List.map_cons, List.map_nil, List.cons_append, List.nil_append, List.replicate_succ, List.replicate_zero, setAll, dr_int, dr_str, dr_bl, dr_non, dr_tup, dr_lst, dr_scr, dr_dK, dr_h0, put_sl, put_h, put_own, put_vh, k_add, k_sub, k_mul, k_div, k_mod, k_pow, k_abs, k_neg, k_lt, k_le, k_gt, k_ge, k_cat, k_catT, k_catL, k_lenL, k_lenT, k_lenF, k_lenS, k_listL, k_listT, k_listF, k_tupL, k_tupT, k_slL, k_slT, k_slF, k_slS, sq_l, sq_t, sq_f, k_min, k_max, ok_app, isL_l, k_isB, k_isnB, k_eqI, k_neI, k_eqB, k_neB, k_eqS, k_neS, sq_tS, sq_lS, dr_tS, dr_lS, wi_nil, wi_cons, no_eq, no_1, no_2, k_lenT', k_lenL', List.all_cons, List.all_nil, Bool.and_true, Bool.and_self, k_inT, k_ninT, k_inL, k_ninL, List.length_cons, List.length_nil, sizeLine_eq, Nat.reduceAdd, Nat.reduceLeDiff, Nat.reduceLT, if_true, if_false, Bool.false_eq_true, Bool.not_true, Bool.not_false, ite_self, implies_true, k_all, k_any, filter_true, true_and, and_true, decide_eq_true_eq, re_nil, re_cons, List.getD_cons_zero, List.getD_cons_succ]
    refine (pick_L hp (by omega) (by simp) (by simp)).mono ?_
    rintro dv st2 ⟨hv, hp2⟩
    obtain ⟨v, rfl, v0⟩ : ∃ v : Int, dv = .int v ∧ 0 < v ∧ v ≤ 30 := by
      simp only [List.mem_cons, List.not_mem_nil, or_false] at hv
      rcases hv with rfl | rfl | rfl <;> exact ⟨_, rfl, by decide, by decide⟩
    try simp -dsimp only [po_nx, po_rt, po_bk, po_ct, fr_env, fr_st, w_ok, w_bind, w_of, w_some, w_var, w_slv, w_slo, w_c, w_op, w_un, w_cmp2, w_cmpP, w_ecmpP, w_inP, w_einP, w_ecmp, w_val, w_asB, w_no, w_an, w_or, w_tY, w_ean, w_eor, w_eno, w_eif, w_nil, w_cons, w_consO, w_tup, w_lst, w_pOf, w_pSl, w_slLv, w_slLo, w_rd, w_rd2, w_trd, w_atd, w_atl, w_atv, w_ato, w_pNo, w_asI, w_pSo, w_sl, w_slL, w_cb, w_put, w_mt, w_m1, w_asS, w_seqI, w_rng1, w_rng2, w_range, w_call, w_nx, w_seq, w_asg, w_gN, w_asgO, w_asgH, w_par, w_drop, w_ret, w_retN, w_if, w_brk, w_ct, w_set, w_for, List.getElem?_cons_zero, List.getElem?_cons_succ, List.set_cons_zero, List.set_cons_succ, List.map_cons, List.map_nil, List.cons_append, List.nil_append, List.replicate_succ, List.replicate_zero, setAll, dr_int, dr_str, dr_bl, dr_non, dr_tup, dr_lst, dr_scr, dr_dK, dr_h0, put_sl, put_h, put_own, put_vh, k_add, k_sub, k_mul, k_div, k_mod, k_pow, k_abs, k_neg, k_lt, k_le, k_gt, k_ge, k_cat, k_catT, k_catL, k_lenL, k_lenT, k_lenF, k_lenS, k_listL, k_listT, k_listF, k_tupL, k_tupT, k_slL, k_slT, k_slF, k_slS, sq_l, sq_t, sq_f, k_min, k_max, ok_app, isL_l, k_isB, k_isnB, k_eqI, k_neI, k_eqB, k_neB, k_eqS, k_neS, sq_tS, sq_lS, dr_tS, dr_lS, wi_nil, wi_cons, no_eq, no_1, no_2, k_lenT', k_lenL', List.all_cons, List.all_nil, Bool.and_true, Bool.and_self, k_inT, k_ninT, k_inL, k_ninL, List.length_cons, List.length_nil, sizeLine_eq, Nat.reduceAdd, Nat.reduceLeDiff, Nat.reduceLT, if_true, if_false, Bool.false_eq_true, Bool.not_true, Bool.not_false, ite_self, implies_true, k_all, k_any, filter_true, true_and, and_true, decide_eq_true_eq, re_nil, re_cons, List.getD_cons_zero, List.getD_cons_succ]
    refine (draw hp2 (by omega) v0.1 (by omega)).mono ?_
    rintro _ st3 ⟨u, rfl, u1, u2, hp3⟩
    try simp -dsimp only [po_nx, po_rt, po_bk, po_ct, fr_env, fr_st, w_ok, w_bind, w_of, w_some, w_var, w_slv, w_slo, w_c, w_op, w_un, w_cmp2, w_cmpP, w_ecmpP, w_inP, w_einP, w_ecmp, w_val, w_asB, w_no, w_an, w_or, w_tY, w_ean, w_eor, w_eno, w_eif, w_nil, w_cons, w_consO, w_tup, w_lst, w_pOf, w_pSl, w_slLv, w_slLo, w_rd, w_rd2, w_trd, w_atd, w_atl, w_atv, w_ato, w_pNo, w_asI, w_pSo, w_sl, w_slL, w_cb, w_put, w_mt, w_m1, w_asS, w_seqI, w_rng1, w_rng2, w_range, w_call, w_nx, w_seq, w_asg, w_gN, w_asgO, w_asgH, w_par, w_drop, w_ret, w_retN, w_if, w_brk, w_ct, w_set, w_for, List.getElem?_cons_zero, List.getElem?_cons_succ, List.set_cons_zero, List.set_cons_succ, List.map_cons, List.map_nil, List.cons_append, List.nil_append, List.replicate_succ, List.replicate_zero, setAll, dr_int, dr_str, dr_bl, dr_non, dr_tup, dr_lst, dr_scr, dr_dK, dr_h0, put_sl, put_h, put_own, put_vh, k_add, k_sub, k_mul, k_div, k_mod, k_pow, k_abs, k_neg, k_lt, k_le, k_gt, k_ge, k_cat, k_catT, k_catL, k_lenL, k_lenT, k_lenF, k_lenS, k_listL, k_listT, k_listF, k_tupL, k_tupT, k_slL, k_slT, k_slF, k_slS, sq_l, sq_t, sq_f, k_min, k_max, ok_app, isL_l, k_isB, k_isnB, k_eqI, k_neI, k_eqB, k_neB, k_eqS, k_neS, sq_tS, sq_lS, dr_tS, dr_lS, wi_nil, wi_cons, no_eq, no_1, no_2, k_lenT', k_lenL', List.all_cons, List.all_nil, Bool.and_true, Bool.and_self, k_inT, k_ninT, k_inL, k_ninL, List.length_cons, List.length_nil, sizeLine_eq, Nat.reduceAdd, Nat.reduceLeDiff, Nat.reduceLT, if_true, if_false, Bool.false_eq_true, Bool.not_true, Bool.not_false, ite_self, implies_true, k_all, k_any, filter_true, true_and, and_true, decide_eq_true_eq, re_nil, re_cons, List.getD_cons_zero, List.getD_cons_succ]
    split
    · refine ⟨by rw [List.length_map]; omega, R ++ [x], st3, by rw [List.map_append]; rfl, by rw [List.length_append, List.length_singleton]; omega, fun l hl => ?_, rfl, hp3.mono (by omega)⟩
      rcases List.mem_append.mp hl with hl | hl
      · exact hR l hl
      · rw [List.mem_singleton.mp hl]
        exact List.mem_of_getElem? hx
    · exact ⟨R, st3, rfl, by omega, hR, rfl, hp3.mono (by omega)⟩
  · rintro acc s ⟨R, st', rfl, lR, hR, rfl, hp⟩
    rw [List.length_map] at lR hp
    have hl64 := rp.1
    have sR : Short R := ⟨by rw [sizeLine_eq]; omega, fun l hl => sp.2 l (hR l hl)⟩
    try simp -dsimp only [po_nx, po_rt, po_bk, po_ct, fr_env, fr_st, w_ok, w_bind, w_of, w_some, w_var, w_slv, w_slo, w_c, w_op, w_un, w_cmp2, w_cmpP, w_ecmpP, w_inP, w_einP, w_ecmp, w_val, w_asB, w_no, w_an, w_or, w_tY, w_ean, w_eor, w_eno, w_eif, w_nil, w_cons, w_consO, w_tup, w_lst, w_pOf, w_pSl, w_slLv, w_slLo, w_rd, w_rd2, w_trd, w_atd, w_atl, w_atv, w_ato, w_pNo, w_asI, w_pSo, w_sl, w_slL, w_cb, w_put, w_mt, w_m1, w_asS, w_seqI, w_rng1, w_rng2, w_range, w_call, w_nx, w_seq, w_asg, w_gN, w_asgO, w_asgH, w_par, w_drop, w_ret, w_retN, w_if, w_brk, w_ct, w_set, w_for, List.getElem?_cons_zero, List.getElem?_cons_succ, List.set_cons_zero, List.set_cons_succ, List.map_cons, List.map_nil, List.cons_append, List.nil_append, List.replicate_succ, List.replicate_zero, setAll, dr_int, dr_str, dr_bl, dr_non, dr_tup, dr_lst, dr_scr, dr_dK, dr_h0, put_sl, put_h, put_own, put_vh, k_add, k_sub, k_mul, k_div, k_mod, k_pow, k_abs, k_neg, k_lt, k_le, k_gt, k_ge, k_cat, k_catT, k_catL, k_lenL, k_lenT, k_lenF, k_lenS, k_listL, k_listT, k_listF, k_tupL, k_tupT, k_slL, k_slT, k_slF, k_slS, sq_l, sq_t, sq_f, k_min, k_max, ok_app, isL_l, k_isB, k_isnB, k_eqI, k_neI, k_eqB, k_neB, k_eqS, k_neS, sq_tS, sq_lS, dr_tS, dr_lS, wi_nil, wi_cons, no_eq, no_1, no_2, k_lenT', k_lenL', List.all_cons, List.all_nil, Bool.and_true, Bool.and_self, k_inT, k_ninT, k_inL, k_ninL, List.length_cons, List.length_nil, sizeLine_eq, Nat.reduceAdd, Nat.reduceLeDiff, Nat.reduceLT, if_true, if_false, Bool.false_eq_true, Bool.not_true, Bool.not_false, ite_self, implies_true, k_all, k_any, filter_true, true_and, and_true, decide_eq_true_eq, re_nil, re_cons, List.getD_cons_zero, List.getD_cons_succ]
    -- inside
    refine lc_pure (pw ns) tS (fun x => up R x) tS ?_
    simp -dsimp only [po_nx, po_rt, po_bk, po_ct, fr_env, fr_st, w_ok, w_bind, w_of, w_some, w_var, w_slv, w_slo, w_c, w_op, w_un, w_cmp2, w_cmpP, w_ecmpP, w_inP, w_einP, w_ecmp, w_val, w_asB, w_no, w_an, w_or, w_tY, w_ean, w_eor, w_eno, w_eif, w_nil, w_cons, w_consO, w_tup, w_lst, w_pOf, w_pSl, w_slLv, w_slLo, w_rd, w_rd2, w_trd, w_atd, w_atl, w_atv, w_ato, w_pNo, w_asI, w_pSo, w_sl, w_slL, w_cb, w_put, w_mt, w_m1, w_asS, w_seqI, w_rng1, w_rng2, w_range, w_call, w_nx, w_seq, w_asg, w_gN, w_asgO, w_asgH, w_par, w_drop, w_ret, w_retN, w_if, w_brk, w_ct, w_set, w_for, List.getElem?_cons_zero, List.getElem?_cons_succ, List.set_cons_zero, List.set_cons_succ, List.map_cons, List.map_nil, List.cons_append, List.nil_append, List.replicate_succ, List.replicate_zero, setAll, dr_int, dr_str, dr_bl, dr_non, dr_tup, dr_lst, dr_scr, dr_dK, dr_h0, put_sl, put_h, put_own, put_vh, k_add, k_sub, k_mul, k_div, k_mod, k_pow, k_abs, k_neg, k_lt, k_le, k_gt, k_ge, k_cat, k_catT, k_catL, k_lenL, k_lenT, k_lenF, k_lenS, k_listL, k_listT, k_listF, k_tupL, k_tupT, k_slL, k_slT, k_slF, k_slS, sq_l, sq_t, sq_f, k_min, k_max, ok_app, isL_l, k_isB, k_isnB, k_eqI, k_neI, k_eqB, k_neB, k_eqS, k_neS, sq_tS, sq_lS, dr_tS, dr_lS, wi_nil, wi_cons, no_eq, no_1, no_2, k_lenT', k_lenL', List.all_cons, List.all_nil, Bool.and_true, Bool.and_self, k_inT, k_ninT, k_inL, k_ninL, List.length_cons, List.length_nil, sizeLine_eq, Nat.reduceAdd, Nat.reduceLeDiff, Nat.reduceLT, if_true, if_false, Bool.false_eq_true, Bool.not_true, Bool.not_false, ite_self, implies_true, k_all, k_any, filter_true, true_and, and_true, decide_eq_true_eq, re_nil, re_cons, List.getD_cons_zero, List.getD_cons_succ]
    refine ⟨by rw [← sizeLine_eq]; exact sp.1, fun x hx => ?_, ?_⟩
    · refine lc_pure R tS (fun m => sub m x) tS ?_
      simp -dsimp only [po_nx, po_rt, po_bk, po_ct, fr_env, fr_st, w_ok, w_bind, w_of, w_some, w_var, w_slv, w_slo, w_c, w_op, w_un, w_cmp2, w_cmpP, w_ecmpP, w_inP, w_einP, w_ecmp, w_val, w_asB, w_no, w_an, w_or, w_tY, w_ean, w_eor, w_eno, w_eif, w_nil, w_cons, w_consO, w_tup, w_lst, w_pOf, w_pSl, w_slLv, w_slLo, w_rd, w_rd2, w_trd, w_atd, w_atl, w_atv, w_ato, w_pNo, w_asI, w_pSo, w_sl, w_slL, w_cb, w_put, w_mt, w_m1, w_asS, w_seqI, w_rng1, w_rng2, w_range, w_call, w_nx, w_seq, w_asg, w_gN, w_asgO, w_asgH, w_par, w_drop, w_ret, w_retN, w_if, w_brk, w_ct, w_set, w_for, List.getElem?_cons_zero, List.getElem?_cons_succ, List.set_cons_zero, List.set_cons_succ, List.map_cons, List.map_nil, List.cons_append, List.nil_append, List.replicate_succ, List.replicate_zero, setAll, dr_int, dr_str, dr_bl, dr_non, dr_tup, dr_lst, dr_scr, dr_dK, dr_h0, put_sl, put_h, put_own, put_vh, k_add, k_sub, k_mul, k_div, k_mod, k_pow, k_abs, k_neg, k_lt, k_le, k_gt, k_ge, k_cat, k_catT, k_catL, k_lenL, k_lenT, k_lenF, k_lenS, k_listL, k_listT, k_listF, k_tupL, k_tupT, k_slL, k_slT, k_slF, k_slS, sq_l, sq_t, sq_f, k_min, k_max, ok_app, isL_l, k_isB, k_isnB, k_eqI, k_neI, k_eqB, k_neB, k_eqS, k_neS, sq_tS, sq_lS, dr_tS, dr_lS, wi_nil, wi_cons, no_eq, no_1, no_2, k_lenT', k_lenL', List.all_cons, List.all_nil, Bool.and_true, Bool.and_self, k_inT, k_ninT, k_inL, k_ninL, List.length_cons, List.length_nil, sizeLine_eq, Nat.reduceAdd, Nat.reduceLeDiff, Nat.reduceLT, if_true, if_false, Bool.false_eq_true, Bool.not_true, Bool.not_false, ite_self, implies_true, k_all, k_any, filter_true, true_and, and_true, decide_eq_true_eq, re_nil, re_cons, List.getD_cons_zero, List.getD_cons_succ]
      refine ⟨by rw [← sizeLine_eq]; exact sR.1, fun m hm => ?_, ?_⟩
      · refine (lies (sR.2 m hm).2 (sR.2 m hm).1).mono ?_
        rintro _ _ ⟨rfl, rfl⟩
        simp -dsimp only [po_nx, po_rt, po_bk, po_ct, fr_env, fr_st, w_ok, w_bind, w_of, w_some, w_var, w_slv, w_slo, w_c, w_op, w_un, w_cmp2, w_cmpP, w_ecmpP, w_inP, w_einP, w_ecmp, w_val, w_asB, w_no, w_an, w_or, w_tY, w_ean, w_eor, w_eno, w_eif, w_nil, w_cons, w_consO, w_tup, w_lst, w_pOf, w_pSl, w_slLv, w_slLo, w_rd, w_rd2, w_trd, w_atd, w_atl, w_atv, w_ato, w_pNo, w_asI, w_pSo, w_sl, w_slL, w_cb, w_put, w_mt, w_m1, w_asS, w_seqI, w_rng1, w_rng2, w_range, w_call, w_nx, w_seq, w_asg, w_gN, w_asgO, w_asgH, w_par, w_drop, w_ret, w_retN, w_if, w_brk, w_ct, w_set, w_for, List.getElem?_cons_zero, List.getElem?_cons_succ, List.set_cons_zero, List.set_cons_succ, List.map_cons, List.map_nil, List.cons_append, List.nil_append, List.replicate_succ, List.replicate_zero, setAll, dr_int, dr_str, dr_bl, dr_non, dr_tup, dr_lst, dr_scr, dr_dK, dr_h0, put_sl, put_h, put_own, put_vh, k_add, k_sub, k_mul, k_div, k_mod, k_pow, k_abs, k_neg, k_lt, k_le, k_gt, k_ge, k_cat, k_catT, k_catL, k_lenL, k_lenT, k_lenF, k_lenS, k_listL, k_listT, k_listF, k_tupL, k_tupT, k_slL, k_slT, k_slF, k_slS, sq_l, sq_t, sq_f, k_min, k_max, ok_app, isL_l, k_isB, k_isnB, k_eqI, k_neI, k_eqB, k_neB, k_eqS, k_neS, sq_tS, sq_lS, dr_tS, dr_lS, wi_nil, wi_cons, no_eq, no_1, no_2, k_lenT', k_lenL', List.all_cons, List.all_nil, Bool.and_true, Bool.and_self, k_inT, k_ninT, k_inL, k_ninL, List.length_cons, List.length_nil, sizeLine_eq, Nat.reduceAdd, Nat.reduceLeDiff, Nat.reduceLT, if_true, if_false, Bool.false_eq_true, Bool.not_true, Bool.not_false, ite_self, implies_true, k_all, k_any, filter_true, true_and, and_true, decide_eq_true_eq, re_nil, re_cons, List.getD_cons_zero, List.getD_cons_succ]
      · rw [k_neN (n := 2) (by omega) (LL_lay fun m hm => (sR.2 m (List.mem_filter.mp hm).1).2), filt]
        refine ⟨rfl, ?_⟩
        try simp -dsimp only [po_nx, po_rt, po_bk, po_ct, fr_env, fr_st, w_ok, w_bind, w_of, w_some, w_var, w_slv, w_slo, w_c, w_op, w_un, w_cmp2, w_cmpP, w_ecmpP, w_inP, w_einP, w_ecmp, w_val, w_asB, w_no, w_an, w_or, w_tY, w_ean, w_eor, w_eno, w_eif, w_nil, w_cons, w_consO, w_tup, w_lst, w_pOf, w_pSl, w_slLv, w_slLo, w_rd, w_rd2, w_trd, w_atd, w_atl, w_atv, w_ato, w_pNo, w_asI, w_pSo, w_sl, w_slL, w_cb, w_put, w_mt, w_m1, w_asS, w_seqI, w_rng1, w_rng2, w_range, w_call, w_nx, w_seq, w_asg, w_gN, w_asgO, w_asgH, w_par, w_drop, w_ret, w_retN, w_if, w_brk, w_ct, w_set, w_for, List.getElem?_cons_zero, List.getElem?_cons_succ, List.set_cons_zero, List.set_cons_succ, List.map_cons, List.map_nil, List.cons_append, List.nil_append, List.replicate_succ, List.replicate_zero, setAll, dr_int, dr_str, dr_bl, dr_non, dr_tup, dr_lst, dr_scr, dr_dK, dr_h0, put_sl, put_h, put_own, put_vh, k_add, k_sub, k_mul, k_div, k_mod, k_pow, k_abs, k_neg, k_lt, k_le, k_gt, k_ge, k_cat, k_catT, k_catL, k_lenL, k_lenT, k_lenF, k_lenS, k_listL, k_listT, k_listF, k_tupL, k_tupT, k_slL, k_slT, k_slF, k_slS, sq_l, sq_t, sq_f, k_min, k_max, ok_app, isL_l, k_isB, k_isnB, k_eqI, k_neI, k_eqB, k_neB, k_eqS, k_neS, sq_tS, sq_lS, dr_tS, dr_lS, wi_nil, wi_cons, no_eq, no_1, no_2, k_lenT', k_lenL', List.all_cons, List.all_nil, Bool.and_true, Bool.and_self, k_inT, k_ninT, k_inL, k_ninL, List.length_cons, List.length_nil, sizeLine_eq, Nat.reduceAdd, Nat.reduceLeDiff, Nat.reduceLT, if_true, if_false, Bool.false_eq_true, Bool.not_true, Bool.not_false, ite_self, implies_true, k_all, k_any, filter_true, true_and, and_true, decide_eq_true_eq, re_nil, re_cons, List.getD_cons_zero, List.getD_cons_succ]
    · have sI : Short ((pw ns).filter fun x => up R x) := sp.filter
      generalize hI : ((pw ns).filter fun x => up R x) = I at sI
      -- outside
      refine lc_pure (pw ns) tS (fun x => !decide (x ∈ I)) tS ?_
      simp -dsimp only [po_nx, po_rt, po_bk, po_ct, fr_env, fr_st, w_ok, w_bind, w_of, w_some, w_var, w_slv, w_slo, w_c, w_op, w_un, w_cmp2, w_cmpP, w_ecmpP, w_inP, w_einP, w_ecmp, w_val, w_asB, w_no, w_an, w_or, w_tY, w_ean, w_eor, w_eno, w_eif, w_nil, w_cons, w_consO, w_tup, w_lst, w_pOf, w_pSl, w_slLv, w_slLo, w_rd, w_rd2, w_trd, w_atd, w_atl, w_atv, w_ato, w_pNo, w_asI, w_pSo, w_sl, w_slL, w_cb, w_put, w_mt, w_m1, w_asS, w_seqI, w_rng1, w_rng2, w_range, w_call, w_nx, w_seq, w_asg, w_gN, w_asgO, w_asgH, w_par, w_drop, w_ret, w_retN, w_if, w_brk, w_ct, w_set, w_for, List.getElem?_cons_zero, List.getElem?_cons_succ, List.set_cons_zero, List.set_cons_succ, List.map_cons, List.map_nil, List.cons_append, List.nil_append, List.replicate_succ, List.replicate_zero, setAll, dr_int, dr_str, dr_bl, dr_non, dr_tup, dr_lst, dr_scr, dr_dK, dr_h0, put_sl, put_h, put_own, put_vh, k_add, k_sub, k_mul, k_div, k_mod, k_pow, k_abs, k_neg, k_lt, k_le, k_gt, k_ge, k_cat, k_catT, k_catL, k_lenL, k_lenT, k_lenF, k_lenS, k_listL, k_listT, k_listF, k_tupL, k_tupT, k_slL, k_slT, k_slF, k_slS, sq_l, sq_t, sq_f, k_min, k_max, ok_app, isL_l, k_isB, k_isnB, k_eqI, k_neI, k_eqB, k_neB, k_eqS, k_neS, sq_tS, sq_lS, dr_tS, dr_lS, wi_nil, wi_cons, no_eq, no_1, no_2, k_lenT', k_lenL', List.all_cons, List.all_nil, Bool.and_true, Bool.and_self, k_inT, k_ninT, k_inL, k_ninL, List.length_cons, List.length_nil, sizeLine_eq, Nat.reduceAdd, Nat.reduceLeDiff, Nat.reduceLT, if_true, if_false, Bool.false_eq_true, Bool.not_true, Bool.not_false, ite_self, implies_true, k_all, k_any, filter_true, true_and, and_true, decide_eq_true_eq, re_nil, re_cons, List.getD_cons_zero, List.getD_cons_succ]
      refine ⟨by rw [← sizeLine_eq]; exact sp.1, fun x hx => ?_, ?_⟩
      · rw [LL_nin (sp.2 x hx).2 sI]
        try simp -dsimp only [po_nx, po_rt, po_bk, po_ct, fr_env, fr_st, w_ok, w_bind, w_of, w_some, w_var, w_slv, w_slo, w_c, w_op, w_un, w_cmp2, w_cmpP, w_ecmpP, w_inP, w_einP, w_ecmp, w_val, w_asB, w_no, w_an, w_or, w_tY, w_ean, w_eor, w_eno, w_eif, w_nil, w_cons, w_consO, w_tup, w_lst, w_pOf, w_pSl, w_slLv, w_slLo, w_rd, w_rd2, w_trd, w_atd, w_atl, w_atv, w_ato, w_pNo, w_asI, w_pSo, w_sl, w_slL, w_cb, w_put, w_mt, w_m1, w_asS, w_seqI, w_rng1, w_rng2, w_range, w_call, w_nx, w_seq, w_asg, w_gN, w_asgO, w_asgH, w_par, w_drop, w_ret, w_retN, w_if, w_brk, w_ct, w_set, w_for, List.getElem?_cons_zero, List.getElem?_cons_succ, List.set_cons_zero, List.set_cons_succ, List.map_cons, List.map_nil, List.cons_append, List.nil_append, List.replicate_succ, List.replicate_zero, setAll, dr_int, dr_str, dr_bl, dr_non, dr_tup, dr_lst, dr_scr, dr_dK, dr_h0, put_sl, put_h, put_own, put_vh, k_add, k_sub, k_mul, k_div, k_mod, k_pow, k_abs, k_neg, k_lt, k_le, k_gt, k_ge, k_cat, k_catT, k_catL, k_lenL, k_lenT, k_lenF, k_lenS, k_listL, k_listT, k_listF, k_tupL, k_tupT, k_slL, k_slT, k_slF, k_slS, sq_l, sq_t, sq_f, k_min, k_max, ok_app, isL_l, k_isB, k_isnB, k_eqI, k_neI, k_eqB, k_neB, k_eqS, k_neS, sq_tS, sq_lS, dr_tS, dr_lS, wi_nil, wi_cons, no_eq, no_1, no_2, k_lenT', k_lenL', List.all_cons, List.all_nil, Bool.and_true, Bool.and_self, k_inT, k_ninT, k_inL, k_ninL, List.length_cons, List.length_nil, sizeLine_eq, Nat.reduceAdd, Nat.reduceLeDiff, Nat.reduceLT, if_true, if_false, Bool.false_eq_true, Bool.not_true, Bool.not_false, ite_self, implies_true, k_all, k_any, filter_true, true_and, and_true, decide_eq_true_eq, re_nil, re_cons, List.getD_cons_zero, List.getD_cons_succ]
      · have sO : Short ((pw ns).filter fun x => !decide (x ∈ I)) := sp.filter
        generalize hO : ((pw ns).filter fun x => !decide (x ∈ I)) = O at sO
        refine lc_pure I tS (fun x => !less I x) tS ?_
        simp -dsimp only [po_nx, po_rt, po_bk, po_ct, fr_env, fr_st, w_ok, w_bind, w_of, w_some, w_var, w_slv, w_slo, w_c, w_op, w_un, w_cmp2, w_cmpP, w_ecmpP, w_inP, w_einP, w_ecmp, w_val, w_asB, w_no, w_an, w_or, w_tY, w_ean, w_eor, w_eno, w_eif, w_nil, w_cons, w_consO, w_tup, w_lst, w_pOf, w_pSl, w_slLv, w_slLo, w_rd, w_rd2, w_trd, w_atd, w_atl, w_atv, w_ato, w_pNo, w_asI, w_pSo, w_sl, w_slL, w_cb, w_put, w_mt, w_m1, w_asS, w_seqI, w_rng1, w_rng2, w_range, w_call, w_nx, w_seq, w_asg, w_gN, w_asgO, w_asgH, w_par, w_drop, w_ret, w_retN, w_if, w_brk, w_ct, w_set, w_for, List.getElem?_cons_zero, List.getElem?_cons_succ, List.set_cons_zero, List.set_cons_succ, List.map_cons, List.map_nil, List.cons_append, List.nil_append, List.replicate_succ, List.replicate_zero, setAll, dr_int, dr_str, dr_bl, dr_non, dr_tup, dr_lst, dr_scr, dr_dK, dr_h0, put_sl, put_h, put_own, put_vh, k_add, k_sub, k_mul, k_div, k_mod, k_pow, k_abs, k_neg, k_lt, k_le, k_gt, k_ge, k_cat, k_catT, k_catL, k_lenL, k_lenT, k_lenF, k_lenS, k_listL, k_listT, k_listF, k_tupL, k_tupT, k_slL, k_slT, k_slF, k_slS, sq_l, sq_t, sq_f, k_min, k_max, ok_app, isL_l, k_isB, k_isnB, k_eqI, k_neI, k_eqB, k_neB, k_eqS, k_neS, sq_tS, sq_lS, dr_tS, dr_lS, wi_nil, wi_cons, no_eq, no_1, no_2, k_lenT', k_lenL', List.all_cons, List.all_nil, Bool.and_true, Bool.and_self, k_inT, k_ninT, k_inL, k_ninL, List.length_cons, List.length_nil, sizeLine_eq, Nat.reduceAdd, Nat.reduceLeDiff, Nat.reduceLT, if_true, if_false, Bool.false_eq_true, Bool.not_true, Bool.not_false, ite_self, implies_true, k_all, k_any, filter_true, true_and, and_true, decide_eq_true_eq, re_nil, re_cons, List.getD_cons_zero, List.getD_cons_succ]
        refine ⟨by rw [← sizeLine_eq]; exact sI.1, fun x hx => ?_, ?_⟩
        · refine (has_less sI (sI.2 x hx).2).mono ?_
          rintro _ _ ⟨rfl, rfl⟩
          simp -dsimp only [po_nx, po_rt, po_bk, po_ct, fr_env, fr_st, w_ok, w_bind, w_of, w_some, w_var, w_slv, w_slo, w_c, w_op, w_un, w_cmp2, w_cmpP, w_ecmpP, w_inP, w_einP, w_ecmp, w_val, w_asB, w_no, w_an, w_or, w_tY, w_ean, w_eor, w_eno, w_eif, w_nil, w_cons, w_consO, w_tup, w_lst, w_pOf, w_pSl, w_slLv, w_slLo, w_rd, w_rd2, w_trd, w_atd, w_atl, w_atv, w_ato, w_pNo, w_asI, w_pSo, w_sl, w_slL, w_cb, w_put, w_mt, w_m1, w_asS, w_seqI, w_rng1, w_rng2, w_range, w_call, w_nx, w_seq, w_asg, w_gN, w_asgO, w_asgH, w_par, w_drop, w_ret, w_retN, w_if, w_brk, w_ct, w_set, w_for, List.getElem?_cons_zero, List.getElem?_cons_succ, List.set_cons_zero, List.set_cons_succ, List.map_cons, List.map_nil, List.cons_append, List.nil_append, List.replicate_succ, List.replicate_zero, setAll, dr_int, dr_str, dr_bl, dr_non, dr_tup, dr_lst, dr_scr, dr_dK, dr_h0, put_sl, put_h, put_own, put_vh, k_add, k_sub, k_mul, k_div, k_mod, k_pow, k_abs, k_neg, k_lt, k_le, k_gt, k_ge, k_cat, k_catT, k_catL, k_lenL, k_lenT, k_lenF, k_lenS, k_listL, k_listT, k_listF, k_tupL, k_tupT, k_slL, k_slT, k_slF, k_slS, sq_l, sq_t, sq_f, k_min, k_max, ok_app, isL_l, k_isB, k_isnB, k_eqI, k_neI, k_eqB, k_neB, k_eqS, k_neS, sq_tS, sq_lS, dr_tS, dr_lS, wi_nil, wi_cons, no_eq, no_1, no_2, k_lenT', k_lenL', List.all_cons, List.all_nil, Bool.and_true, Bool.and_self, k_inT, k_ninT, k_inL, k_ninL, List.length_cons, List.length_nil, sizeLine_eq, Nat.reduceAdd, Nat.reduceLeDiff, Nat.reduceLT, if_true, if_false, Bool.false_eq_true, Bool.not_true, Bool.not_false, ite_self, implies_true, k_all, k_any, filter_true, true_and, and_true, decide_eq_true_eq, re_nil, re_cons, List.getD_cons_zero, List.getD_cons_succ]
        · refine lc_pure O tS (fun x => !more O x) tS ?_
          simp -dsimp only [po_nx, po_rt, po_bk, po_ct, fr_env, fr_st, w_ok, w_bind, w_of, w_some, w_var, w_slv, w_slo, w_c, w_op, w_un, w_cmp2, w_cmpP, w_ecmpP, w_inP, w_einP, w_ecmp, w_val, w_asB, w_no, w_an, w_or, w_tY, w_ean, w_eor, w_eno, w_eif, w_nil, w_cons, w_consO, w_tup, w_lst, w_pOf, w_pSl, w_slLv, w_slLo, w_rd, w_rd2, w_trd, w_atd, w_atl, w_atv, w_ato, w_pNo, w_asI, w_pSo, w_sl, w_slL, w_cb, w_put, w_mt, w_m1, w_asS, w_seqI, w_rng1, w_rng2, w_range, w_call, w_nx, w_seq, w_asg, w_gN, w_asgO, w_asgH, w_par, w_drop, w_ret, w_retN, w_if, w_brk, w_ct, w_set, w_for, List.getElem?_cons_zero, List.getElem?_cons_succ, List.set_cons_zero, List.set_cons_succ, List.map_cons, List.map_nil, List.cons_append, List.nil_append, List.replicate_succ, List.replicate_zero, setAll, dr_int, dr_str, dr_bl, dr_non, dr_tup, dr_lst, dr_scr, dr_dK, dr_h0, put_sl, put_h, put_own, put_vh, k_add, k_sub, k_mul, k_div, k_mod, k_pow, k_abs, k_neg, k_lt, k_le, k_gt, k_ge, k_cat, k_catT, k_catL, k_lenL, k_lenT, k_lenF, k_lenS, k_listL, k_listT, k_listF, k_tupL, k_tupT, k_slL, k_slT, k_slF, k_slS, sq_l, sq_t, sq_f, k_min, k_max, ok_app, isL_l, k_isB, k_isnB, k_eqI, k_neI, k_eqB, k_neB, k_eqS, k_neS, sq_tS, sq_lS, dr_tS, dr_lS, wi_nil, wi_cons, no_eq, no_1, no_2, k_lenT', k_lenL', List.all_cons, List.all_nil, Bool.and_true, Bool.and_self, k_inT, k_ninT, k_inL, k_ninL, List.length_cons, List.length_nil, sizeLine_eq, Nat.reduceAdd, Nat.reduceLeDiff, Nat.reduceLT, if_true, if_false, Bool.false_eq_true, Bool.not_true, Bool.not_false, ite_self, implies_true, k_all, k_any, filter_true, true_and, and_true, decide_eq_true_eq, re_nil, re_cons, List.getD_cons_zero, List.getD_cons_succ]
          refine ⟨by rw [← sizeLine_eq]; exact sO.1, fun x hx => ?_, ?_⟩
          · refine (has_more sO (sO.2 x hx).2 (sO.2 x hx).1).mono ?_
            rintro _ _ ⟨rfl, rfl⟩
            simp -dsimp only [po_nx, po_rt, po_bk, po_ct, fr_env, fr_st, w_ok, w_bind, w_of, w_some, w_var, w_slv, w_slo, w_c, w_op, w_un, w_cmp2, w_cmpP, w_ecmpP, w_inP, w_einP, w_ecmp, w_val, w_asB, w_no, w_an, w_or, w_tY, w_ean, w_eor, w_eno, w_eif, w_nil, w_cons, w_consO, w_tup, w_lst, w_pOf, w_pSl, w_slLv, w_slLo, w_rd, w_rd2, w_trd, w_atd, w_atl, w_atv, w_ato, w_pNo, w_asI, w_pSo, w_sl, w_slL, w_cb, w_put, w_mt, w_m1, w_asS, w_seqI, w_rng1, w_rng2, w_range, w_call, w_nx, w_seq, w_asg, w_gN, w_asgO, w_asgH, w_par, w_drop, w_ret, w_retN, w_if, w_brk, w_ct, w_set, w_for, List.getElem?_cons_zero, List.getElem?_cons_succ, List.set_cons_zero, List.set_cons_succ, List.map_cons, List.map_nil, List.cons_append, List.nil_append, List.replicate_succ, List.replicate_zero, setAll, dr_int, dr_str, dr_bl, dr_non, dr_tup, dr_lst, dr_scr, dr_dK, dr_h0, put_sl, put_h, put_own, put_vh, k_add, k_sub, k_mul, k_div, k_mod, k_pow, k_abs, k_neg, k_lt, k_le, k_gt, k_ge, k_cat, k_catT, k_catL, k_lenL, k_lenT, k_lenF, k_lenS, k_listL, k_listT, k_listF, k_tupL, k_tupT, k_slL, k_slT, k_slF, k_slS, sq_l, sq_t, sq_f, k_min, k_max, ok_app, isL_l, k_isB, k_isnB, k_eqI, k_neI, k_eqB, k_neB, k_eqS, k_neS, sq_tS, sq_lS, dr_tS, dr_lS, wi_nil, wi_cons, no_eq, no_1, no_2, k_lenT', k_lenL', List.all_cons, List.all_nil, Bool.and_true, Bool.and_self, k_inT, k_ninT, k_inL, k_ninL, List.length_cons, List.length_nil, sizeLine_eq, Nat.reduceAdd, Nat.reduceLeDiff, Nat.reduceLT, if_true, if_false, Bool.false_eq_true, Bool.not_true, Bool.not_false, ite_self, implies_true, k_all, k_any, filter_true, true_and, and_true, decide_eq_true_eq, re_nil, re_cons, List.getD_cons_zero, List.getD_cons_succ]
          · refine ⟨_, _, rfl, ?_, ?_, ?_, hp.mono (by omega)⟩
            · rw [← hO, ← hI]
              exact fam_dec nd R
            · rw [← hI]; exact rp.filter.filter
            · rw [← hO]; exact rp.filter.filter
end K81
set_option Elab.async false
set_option linter.all false
set_option maxRecDepth 100000
set_option maxHeartbeats 1000000
namespace VL
open PySem L2
section
variable {s : Fr} {QD : D → Fr → Prop} {fs : List (EF × EF)} {F G : EF}
/-- a written dict's pairs -/
def ppP : List (EF × EF) → Fr → (List (D × D) → Fr → Prop) → Prop
  | [], s, Q => Q [] s
  | (F, G) :: r, s, Q => Ok (F s) fun k s1 => Ok (G s1) fun v s2 => ppP r s2 fun ps s3 => Q ((k, v) :: ps) s3
def dispO (ps : List (D × D)) (Q : D → Prop) [Kp Q] : Prop := match keyPs ps with
  | some kvs => kvs.length ≤ 15 ∧ Q (.dK (mergeD kvs))
  | none => False
theorem w_pp0 {Q : List (D × D) → Fr → Prop} : ppP [] s Q = Q [] s := nr rfl
theorem w_pp1 {Q : List (D × D) → Fr → Prop} : ppP ((F, G) :: fs) s Q = Ok (F s) fun k s1 => Ok (G s1) fun v s2 => ppP fs s2 fun ps s3 => Q ((k, v) :: ps) s3 := nr rfl
theorem pp_eq : ∀ (fs : List (EF × EF)) (s : Fr) (Q : List (D × D) → Fr → Prop), ppP fs s Q = Ok (ppGo fs s) Q
  | [], s, Q => rfl
  | (F, G) :: r, s, Q => by
    show (Ok (F s) fun k s1 => Ok (G s1) fun v s2 => ppP r s2 fun ps s3 => Q ((k, v) :: ps) s3) = Ok ((F s).bind fun k s1 => (G s1).bind fun v s2 => (ppGo r s2).bind fun ps s3 => .ok ((k, v) :: ps) s3) Q
    rw [w_bind]
    refine ok_ext fun k s1 => ?_
    rw [w_bind]
    refine ok_ext fun v s2 => ?_
    rw [w_bind, pp_eq r s2]
    rfl
theorem w_disp : Ok (eDisp fs s) QD = ppP fs s fun ps s1 => dispO ps fun d => QD d s1 := by
  rw [pp_eq]
  unfold eDisp
  cases ppGo fs s with
  | bad => rfl
  | exc c p s => rfl
  | ok ps s1 =>
    rw [w_ok]
    unfold dispO
    simp only
    cases keyPs ps with
    | none => rfl
    | some kvs =>
      simp only
      split
      · rename_i h; exact propext ⟨fun q => ⟨h, q⟩, fun q => q.2⟩
      · rename_i h; exact propext ⟨fun q => q.elim, fun q => h q.1⟩
theorem gt2 {i j : Nat} {a b : D} {s : Fr} : gT [gN i, gN j] (.tup [a, b]) s = some { s with env := (s.env.set i (.val a)).set j (.val b) } := nr rfl
theorem ix0 {a b : D} {Q : D → Prop} : OkO (fIx (.tup [a, b]) (.int 0)) Q = Q a := nr rfl
theorem ix1 {a b : D} {Q : D → Prop} : OkO (fIx (.tup [a, b]) (.int 1)) Q = Q b := nr rfl
end
end VL
set_option Elab.async false
set_option linter.all false
set_option maxRecDepth 100000
set_option maxHeartbeats 1000000
namespace K81
open PySem L2 VL
variable {st : List D} {T : Nat} {ns : List Str}
/-- rows with one change -/
def Rows2 (ns : List Str) (L : List (List Str)) : Prop := L.length ≤ 130 ∧ ∀ l ∈ L, l.length ≤ 12 ∧ ∀ x ∈ l, x ∈ ns
theorem Rows.to2 {L : List (List Str)} (h : Rows ns L) : Rows2 ns L := ⟨by have := h.1; omega, fun l hl => ⟨by have := (h.2 l hl).1; omega, (h.2 l hl).2⟩⟩
theorem Rows.cut {L : List (List Str)} {lo hi : Option Int} (h : Rows ns L) : Rows ns (VL.cut L lo hi) := ⟨Nat.le_trans len_cut h.1, fun l hl => h.2 l (mem_cut' hl)⟩
theorem rows_app {A B : List (List Str)} (h : Rows ns A) (h' : Rows ns B) : Rows2 ns (A ++ B) := ⟨by rw [List.length_append]; have := h.1; have := h'.1; omega, fun l hl => (List.mem_append.mp hl).elim (h.to2.2 l) (h'.to2.2 l)⟩
theorem cutLT {L : List (List Str)} {lo hi : Option Int} : VL.cut (L.map tS) lo hi = (VL.cut L lo hi).map tS := cut_map tS L
theorem catLT {A B : List (List Str)} {Q : D → Prop} : OkO (fAdd (.lst (A.map tS)) (.lst (B.map tS))) Q = (A.length + B.length ≤ sizeLine ∧ Q (.lst ((A ++ B).map tS))) := by
  rw [k_catL, List.length_map, List.length_map, List.map_append]
theorem rows3 {A B C : List (List Str)} (h : Rows ns A) (hB : B.length ≤ 1 ∧ ∀ l ∈ B, l.length ≤ 12 ∧ ∀ x ∈ l, x ∈ ns) (h' : Rows ns C) : Rows2 ns (A ++ B ++ C) := by
  refine ⟨by rw [List.length_append, List.length_append]; have := h.1; have := h'.1; have := hB.1; omega, fun l hl => ?_⟩
  rcases List.mem_append.mp hl with hl | hl
  · exact (List.mem_append.mp hl).elim (h.to2.2 l) (hB.2 l)
  · exact h'.to2.2 l hl
theorem cut1 {γ : Type} {L : List γ} {i : Int} (h : 0 ≤ i) (h2 : i < 1000) : (VL.cut L (some i) (some (i + 1))).length ≤ 1 := by
  unfold VL.cut
  rw [List.length_take]
  have e1 : HT.sIx L.length 0 (some i) = min i.toNat L.length := by
    have := HT.sIx_nat L.length 0 i.toNat
    rwa [show ((i.toNat : Nat) : Int) = i by omega] at this
  have e2 : HT.sIx L.length L.length (some (i + 1)) = min (i + 1).toNat L.length := by
    have := HT.sIx_nat L.length L.length (i + 1).toNat
    rwa [show (((i + 1).toNat : Nat) : Int) = i + 1 by omega] at this
  rw [e1, e2]
  omega
theorem tupS {a : List Str} {Q : D → Prop} : OkO (fTuple (lS a)) Q = Q (tS a) := nr rfl
theorem tupTS {a : List Str} {Q : D → Prop} : OkO (fTuple (tS a)) Q = Q (tS a) := nr rfl
theorem catTS {a b : List Str} {Q : D → Prop} : OkO (fAdd (tS a) (tS b)) Q = (a.length + b.length ≤ sizeLine ∧ Q (tS (a ++ b))) := by
  show OkO (fAdd (.tup (a.map .str)) (.tup (b.map .str))) Q = _
  rw [k_catT, List.length_map, List.length_map, ← List.map_append]
  rfl
theorem changed {L : List (List Str)} (h : Pen T st) (hT : T < 2 ^ 50) (hn : ns.length ≤ 6) (hL : Rows ns L) : OkG (G_law_changed [.h 0, lS ns, .lst (L.map tS)] st) fun d st' => ∃ L' : List (List Str), d = .lst (L'.map tS) ∧ Rows2 ns L' ∧ Pen (T + 5) st' := by
  have hl := hL.1
  have rp := pw_rows hn
  refine g_mk rfl ?_
  unfold F_law_changed
  simp -dsimp only [po_nx, po_rt, po_bk, po_ct, fr_env, fr_st, w_ok, w_bind, w_of, w_some, w_var, w_slv, w_slo, w_c, w_op, w_un, w_cmp2, w_cmpP, w_ecmpP, w_inP, w_einP, w_ecmp, w_val, w_asB, w_no, w_an, w_or, w_tY, w_ean, w_eor, w_eno, w_eif, w_nil, w_cons, w_consO, w_tup, w_lst, w_pOf, w_pSl, w_slLv, w_slLo, w_rd, w_rd2, w_trd, w_atd, w_atl, w_atv, w_ato, w_pNo, w_asI, w_pSo, w_sl, w_slL, w_cb, w_put, w_mt, w_m1, w_asS, w_seqI, w_rng1, w_rng2, w_range, w_call, w_nx, w_seq, w_asg, w_gN, w_asgO, w_asgH, w_par, w_drop, w_ret, w_retN, w_if, w_brk, w_ct, w_set, w_for, List.getElem?_cons_zero, List.getElem?_cons_succ, List.set_cons_zero, List.set_cons_succ, List.map_cons, List.map_nil, List.cons_append, List.nil_append, List.replicate_succ, List.replicate_zero, setAll, dr_int, dr_str, dr_bl, dr_non, dr_tup, dr_lst, dr_scr, dr_dK, dr_h0, put_sl, put_h, put_own, put_vh, k_add, k_sub, k_mul, k_div, k_mod, k_pow, k_abs, k_neg, k_lt, k_le, k_gt, k_ge, k_cat, k_catT, k_catL, k_lenL, k_lenT, k_lenF, k_lenS, k_listL, k_listT, k_listF, k_tupL, k_tupT, k_slL, k_slT, k_slF, k_slS, sq_l, sq_t, sq_f, k_min, k_max, ok_app, isL_l, k_isB, k_isnB, k_eqI, k_neI, k_eqB, k_neB, k_eqS, k_neS, sq_tS, sq_lS, dr_tS, dr_lS, wi_nil, wi_cons, no_eq, no_1, no_2, k_lenT', k_lenL', List.all_cons, List.all_nil, Bool.and_true, Bool.and_self, k_inT, k_ninT, k_inL, k_ninL, List.length_cons, List.length_nil, sizeLine_eq, Nat.reduceAdd, Nat.reduceLeDiff, Nat.reduceLT, if_true, if_false, Bool.false_eq_true, Bool.not_true, Bool.not_false, ite_self, implies_true, k_all, k_any, filter_true, true_and, and_true, decide_eq_true_eq, re_nil, re_cons, List.getD_cons_zero, List.getD_cons_succ]
  rw [List.length_map]
  refine (draw h (by omega) (by omega) (by omega)).mono ?_
  rintro _ st1 ⟨at', rfl, at1, at2, h1⟩
  try simp -dsimp only [po_nx, po_rt, po_bk, po_ct, fr_env, fr_st, w_ok, w_bind, w_of, w_some, w_var, w_slv, w_slo, w_c, w_op, w_un, w_cmp2, w_cmpP, w_ecmpP, w_inP, w_einP, w_ecmp, w_val, w_asB, w_no, w_an, w_or, w_tY, w_ean, w_eor, w_eno, w_eif, w_nil, w_cons, w_consO, w_tup, w_lst, w_pOf, w_pSl, w_slLv, w_slLo, w_rd, w_rd2, w_trd, w_atd, w_atl, w_atv, w_ato, w_pNo, w_asI, w_pSo, w_sl, w_slL, w_cb, w_put, w_mt, w_m1, w_asS, w_seqI, w_rng1, w_rng2, w_range, w_call, w_nx, w_seq, w_asg, w_gN, w_asgO, w_asgH, w_par, w_drop, w_ret, w_retN, w_if, w_brk, w_ct, w_set, w_for, List.getElem?_cons_zero, List.getElem?_cons_succ, List.set_cons_zero, List.set_cons_succ, List.map_cons, List.map_nil, List.cons_append, List.nil_append, List.replicate_succ, List.replicate_zero, setAll, dr_int, dr_str, dr_bl, dr_non, dr_tup, dr_lst, dr_scr, dr_dK, dr_h0, put_sl, put_h, put_own, put_vh, k_add, k_sub, k_mul, k_div, k_mod, k_pow, k_abs, k_neg, k_lt, k_le, k_gt, k_ge, k_cat, k_catT, k_catL, k_lenL, k_lenT, k_lenF, k_lenS, k_listL, k_listT, k_listF, k_tupL, k_tupT, k_slL, k_slT, k_slF, k_slS, sq_l, sq_t, sq_f, k_min, k_max, ok_app, isL_l, k_isB, k_isnB, k_eqI, k_neI, k_eqB, k_neB, k_eqS, k_neS, sq_tS, sq_lS, dr_tS, dr_lS, wi_nil, wi_cons, no_eq, no_1, no_2, k_lenT', k_lenL', List.all_cons, List.all_nil, Bool.and_true, Bool.and_self, k_inT, k_ninT, k_inL, k_ninL, List.length_cons, List.length_nil, sizeLine_eq, Nat.reduceAdd, Nat.reduceLeDiff, Nat.reduceLT, if_true, if_false, Bool.false_eq_true, Bool.not_true, Bool.not_false, ite_self, implies_true, k_all, k_any, filter_true, true_and, and_true, decide_eq_true_eq, re_nil, re_cons, List.getD_cons_zero, List.getD_cons_succ]
  refine (sets_of (.inl rfl) (by omega)).mono ?_
  rintro _ _ ⟨rfl, rfl⟩
  try simp -dsimp only [po_nx, po_rt, po_bk, po_ct, fr_env, fr_st, w_ok, w_bind, w_of, w_some, w_var, w_slv, w_slo, w_c, w_op, w_un, w_cmp2, w_cmpP, w_ecmpP, w_inP, w_einP, w_ecmp, w_val, w_asB, w_no, w_an, w_or, w_tY, w_ean, w_eor, w_eno, w_eif, w_nil, w_cons, w_consO, w_tup, w_lst, w_pOf, w_pSl, w_slLv, w_slLo, w_rd, w_rd2, w_trd, w_atd, w_atl, w_atv, w_ato, w_pNo, w_asI, w_pSo, w_sl, w_slL, w_cb, w_put, w_mt, w_m1, w_asS, w_seqI, w_rng1, w_rng2, w_range, w_call, w_nx, w_seq, w_asg, w_gN, w_asgO, w_asgH, w_par, w_drop, w_ret, w_retN, w_if, w_brk, w_ct, w_set, w_for, List.getElem?_cons_zero, List.getElem?_cons_succ, List.set_cons_zero, List.set_cons_succ, List.map_cons, List.map_nil, List.cons_append, List.nil_append, List.replicate_succ, List.replicate_zero, setAll, dr_int, dr_str, dr_bl, dr_non, dr_tup, dr_lst, dr_scr, dr_dK, dr_h0, put_sl, put_h, put_own, put_vh, k_add, k_sub, k_mul, k_div, k_mod, k_pow, k_abs, k_neg, k_lt, k_le, k_gt, k_ge, k_cat, k_catT, k_catL, k_lenL, k_lenT, k_lenF, k_lenS, k_listL, k_listT, k_listF, k_tupL, k_tupT, k_slL, k_slT, k_slF, k_slS, sq_l, sq_t, sq_f, k_min, k_max, ok_app, isL_l, k_isB, k_isnB, k_eqI, k_neI, k_eqB, k_neB, k_eqS, k_neS, sq_tS, sq_lS, dr_tS, dr_lS, wi_nil, wi_cons, no_eq, no_1, no_2, k_lenT', k_lenL', List.all_cons, List.all_nil, Bool.and_true, Bool.and_self, k_inT, k_ninT, k_inL, k_ninL, List.length_cons, List.length_nil, sizeLine_eq, Nat.reduceAdd, Nat.reduceLeDiff, Nat.reduceLT, if_true, if_false, Bool.false_eq_true, Bool.not_true, Bool.not_false, ite_self, implies_true, k_all, k_any, filter_true, true_and, and_true, decide_eq_true_eq, re_nil, re_cons, List.getD_cons_zero, List.getD_cons_succ]
  have pos : 0 < ((pw ns).map tS).length := by
    rw [List.length_map]
    unfold pw
    rw [sortT_len, pwk_len]
    exact Nat.pow_pos (by omega)
  have p64 := rp.1
  refine (pick_L h1 (by omega) pos (by rw [List.length_map]; omega)).mono ?_
  rintro _ st2 ⟨hd, h2⟩
  obtain ⟨one, h1m, rfl⟩ := List.mem_map.mp hd
  have r1 := rp.2 one h1m
  try simp -dsimp only [po_nx, po_rt, po_bk, po_ct, fr_env, fr_st, w_ok, w_bind, w_of, w_some, w_var, w_slv, w_slo, w_c, w_op, w_un, w_cmp2, w_cmpP, w_ecmpP, w_inP, w_einP, w_ecmp, w_val, w_asB, w_no, w_an, w_or, w_tY, w_ean, w_eor, w_eno, w_eif, w_nil, w_cons, w_consO, w_tup, w_lst, w_pOf, w_pSl, w_slLv, w_slLo, w_rd, w_rd2, w_trd, w_atd, w_atl, w_atv, w_ato, w_pNo, w_asI, w_pSo, w_sl, w_slL, w_cb, w_put, w_mt, w_m1, w_asS, w_seqI, w_rng1, w_rng2, w_range, w_call, w_nx, w_seq, w_asg, w_gN, w_asgO, w_asgH, w_par, w_drop, w_ret, w_retN, w_if, w_brk, w_ct, w_set, w_for, List.getElem?_cons_zero, List.getElem?_cons_succ, List.set_cons_zero, List.set_cons_succ, List.map_cons, List.map_nil, List.cons_append, List.nil_append, List.replicate_succ, List.replicate_zero, setAll, dr_int, dr_str, dr_bl, dr_non, dr_tup, dr_lst, dr_scr, dr_dK, dr_h0, put_sl, put_h, put_own, put_vh, k_add, k_sub, k_mul, k_div, k_mod, k_pow, k_abs, k_neg, k_lt, k_le, k_gt, k_ge, k_cat, k_catT, k_catL, k_lenL, k_lenT, k_lenF, k_lenS, k_listL, k_listT, k_listF, k_tupL, k_tupT, k_slL, k_slT, k_slF, k_slS, sq_l, sq_t, sq_f, k_min, k_max, ok_app, isL_l, k_isB, k_isnB, k_eqI, k_neI, k_eqB, k_neB, k_eqS, k_neS, sq_tS, sq_lS, dr_tS, dr_lS, wi_nil, wi_cons, no_eq, no_1, no_2, k_lenT', k_lenL', List.all_cons, List.all_nil, Bool.and_true, Bool.and_self, k_inT, k_ninT, k_inL, k_ninL, List.length_cons, List.length_nil, sizeLine_eq, Nat.reduceAdd, Nat.reduceLeDiff, Nat.reduceLT, if_true, if_false, Bool.false_eq_true, Bool.not_true, Bool.not_false, ite_self, implies_true, k_all, k_any, filter_true, true_and, and_true, decide_eq_true_eq, re_nil, re_cons, List.getD_cons_zero, List.getD_cons_succ]
  refine (draw h2 (by omega) (by omega) (by omega)).mono ?_
  rintro _ st3 ⟨way, rfl, w1, w2, h3⟩
  try simp -dsimp only [po_nx, po_rt, po_bk, po_ct, fr_env, fr_st, w_ok, w_bind, w_of, w_some, w_var, w_slv, w_slo, w_c, w_op, w_un, w_cmp2, w_cmpP, w_ecmpP, w_inP, w_einP, w_ecmp, w_val, w_asB, w_no, w_an, w_or, w_tY, w_ean, w_eor, w_eno, w_eif, w_nil, w_cons, w_consO, w_tup, w_lst, w_pOf, w_pSl, w_slLv, w_slLo, w_rd, w_rd2, w_trd, w_atd, w_atl, w_atv, w_ato, w_pNo, w_asI, w_pSo, w_sl, w_slL, w_cb, w_put, w_mt, w_m1, w_asS, w_seqI, w_rng1, w_rng2, w_range, w_call, w_nx, w_seq, w_asg, w_gN, w_asgO, w_asgH, w_par, w_drop, w_ret, w_retN, w_if, w_brk, w_ct, w_set, w_for, List.getElem?_cons_zero, List.getElem?_cons_succ, List.set_cons_zero, List.set_cons_succ, List.map_cons, List.map_nil, List.cons_append, List.nil_append, List.replicate_succ, List.replicate_zero, setAll, dr_int, dr_str, dr_bl, dr_non, dr_tup, dr_lst, dr_scr, dr_dK, dr_h0, put_sl, put_h, put_own, put_vh, k_add, k_sub, k_mul, k_div, k_mod, k_pow, k_abs, k_neg, k_lt, k_le, k_gt, k_ge, k_cat, k_catT, k_catL, k_lenL, k_lenT, k_lenF, k_lenS, k_listL, k_listT, k_listF, k_tupL, k_tupT, k_slL, k_slT, k_slF, k_slS, sq_l, sq_t, sq_f, k_min, k_max, ok_app, isL_l, k_isB, k_isnB, k_eqI, k_neI, k_eqB, k_neB, k_eqS, k_neS, sq_tS, sq_lS, dr_tS, dr_lS, wi_nil, wi_cons, no_eq, no_1, no_2, k_lenT', k_lenL', List.all_cons, List.all_nil, Bool.and_true, Bool.and_self, k_inT, k_ninT, k_inL, k_ninL, List.length_cons, List.length_nil, sizeLine_eq, Nat.reduceAdd, Nat.reduceLeDiff, Nat.reduceLT, if_true, if_false, Bool.false_eq_true, Bool.not_true, Bool.not_false, ite_self, implies_true, k_all, k_any, filter_true, true_and, and_true, decide_eq_true_eq, re_nil, re_cons, List.getD_cons_zero, List.getD_cons_succ]
  rw [gt2]
  simp -dsimp only [po_nx, po_rt, po_bk, po_ct, fr_env, fr_st, w_ok, w_bind, w_of, w_some, w_var, w_slv, w_slo, w_c, w_op, w_un, w_cmp2, w_cmpP, w_ecmpP, w_inP, w_einP, w_ecmp, w_val, w_asB, w_no, w_an, w_or, w_tY, w_ean, w_eor, w_eno, w_eif, w_nil, w_cons, w_consO, w_tup, w_lst, w_pOf, w_pSl, w_slLv, w_slLo, w_rd, w_rd2, w_trd, w_atd, w_atl, w_atv, w_ato, w_pNo, w_asI, w_pSo, w_sl, w_slL, w_cb, w_put, w_mt, w_m1, w_asS, w_seqI, w_rng1, w_rng2, w_range, w_call, w_nx, w_seq, w_asg, w_gN, w_asgO, w_asgH, w_par, w_drop, w_ret, w_retN, w_if, w_brk, w_ct, w_set, w_for, List.getElem?_cons_zero, List.getElem?_cons_succ, List.set_cons_zero, List.set_cons_succ, List.map_cons, List.map_nil, List.cons_append, List.nil_append, List.replicate_succ, List.replicate_zero, setAll, dr_int, dr_str, dr_bl, dr_non, dr_tup, dr_lst, dr_scr, dr_dK, dr_h0, put_sl, put_h, put_own, put_vh, k_add, k_sub, k_mul, k_div, k_mod, k_pow, k_abs, k_neg, k_lt, k_le, k_gt, k_ge, k_cat, k_catT, k_catL, k_lenL, k_lenT, k_lenF, k_lenS, k_listL, k_listT, k_listF, k_tupL, k_tupT, k_slL, k_slT, k_slF, k_slS, sq_l, sq_t, sq_f, k_min, k_max, ok_app, isL_l, k_isB, k_isnB, k_eqI, k_neI, k_eqB, k_neB, k_eqS, k_neS, sq_tS, sq_lS, dr_tS, dr_lS, wi_nil, wi_cons, no_eq, no_1, no_2, k_lenT', k_lenL', List.all_cons, List.all_nil, Bool.and_true, Bool.and_self, k_inT, k_ninT, k_inL, k_ninL, List.length_cons, List.length_nil, sizeLine_eq, Nat.reduceAdd, Nat.reduceLeDiff, Nat.reduceLT, if_true, if_false, Bool.false_eq_true, Bool.not_true, Bool.not_false, ite_self, implies_true, k_all, k_any, filter_true, true_and, and_true, decide_eq_true_eq, re_nil, re_cons, List.getD_cons_zero, List.getD_cons_succ, cutLT, List.length_map, ← List.map_append]
  have rc : ∀ {lo hi : Option Int}, Rows ns (VL.cut L lo hi) := fun {lo hi} => hL.cut
  have cl : ∀ {lo hi : Option Int}, (VL.cut L lo hi).length ≤ 64 := fun {lo hi} => rc.1
  have ca := cl (lo := none) (hi := some at')
  have cb := cl (lo := some (at' + 1)) (hi := none)
  have cc := cl (lo := some at') (hi := none)
  have o1 : [tS one] = [one].map tS := rfl
  split
  · refine ⟨by omega, _, rfl, rows_app rc rc, h3.mono (by omega)⟩
  · split
    · refine ⟨by omega, by rw [List.length_append, List.length_map]; show _ + 1 + _ ≤ _; omega, VL.cut L none (some at') ++ [one] ++ VL.cut L (some at') none, by rw [List.map_append, List.map_append]; rfl, rows3 rc ⟨Nat.le_refl _, fun l hl => ?_⟩ rc, h3.mono (by omega)⟩
      rw [List.mem_singleton.mp hl]
      exact ⟨by omega, r1.2⟩
    · have c1 := cut1 (L := L) at1 (by omega)
      split
      · refine lc_pure (VL.cut L (some at') (some (at' + 1))) tS (fun _ => true) (fun l => tS (uniq (l ++ one))) ?_
        simp -dsimp only [po_nx, po_rt, po_bk, po_ct, fr_env, fr_st, w_ok, w_bind, w_of, w_some, w_var, w_slv, w_slo, w_c, w_op, w_un, w_cmp2, w_cmpP, w_ecmpP, w_inP, w_einP, w_ecmp, w_val, w_asB, w_no, w_an, w_or, w_tY, w_ean, w_eor, w_eno, w_eif, w_nil, w_cons, w_consO, w_tup, w_lst, w_pOf, w_pSl, w_slLv, w_slLo, w_rd, w_rd2, w_trd, w_atd, w_atl, w_atv, w_ato, w_pNo, w_asI, w_pSo, w_sl, w_slL, w_cb, w_put, w_mt, w_m1, w_asS, w_seqI, w_rng1, w_rng2, w_range, w_call, w_nx, w_seq, w_asg, w_gN, w_asgO, w_asgH, w_par, w_drop, w_ret, w_retN, w_if, w_brk, w_ct, w_set, w_for, List.getElem?_cons_zero, List.getElem?_cons_succ, List.set_cons_zero, List.set_cons_succ, List.map_cons, List.map_nil, List.cons_append, List.nil_append, List.replicate_succ, List.replicate_zero, setAll, dr_int, dr_str, dr_bl, dr_non, dr_tup, dr_lst, dr_scr, dr_dK, dr_h0, put_sl, put_h, put_own, put_vh, k_add, k_sub, k_mul, k_div, k_mod, k_pow, k_abs, k_neg, k_lt, k_le, k_gt, k_ge, k_cat, k_catT, k_catL, k_lenL, k_lenT, k_lenF, k_lenS, k_listL, k_listT, k_listF, k_tupL, k_tupT, k_slL, k_slT, k_slF, k_slS, sq_l, sq_t, sq_f, k_min, k_max, ok_app, isL_l, k_isB, k_isnB, k_eqI, k_neI, k_eqB, k_neB, k_eqS, k_neS, sq_tS, sq_lS, dr_tS, dr_lS, wi_nil, wi_cons, no_eq, no_1, no_2, k_lenT', k_lenL', List.all_cons, List.all_nil, Bool.and_true, Bool.and_self, k_inT, k_ninT, k_inL, k_ninL, List.length_cons, List.length_nil, sizeLine_eq, Nat.reduceAdd, Nat.reduceLeDiff, Nat.reduceLT, if_true, if_false, Bool.false_eq_true, Bool.not_true, Bool.not_false, ite_self, implies_true, k_all, k_any, filter_true, true_and, and_true, decide_eq_true_eq, re_nil, re_cons, List.getD_cons_zero, List.getD_cons_succ, cutLT, List.length_map, ← List.map_append]
        refine ⟨by omega, fun l hl => ?_, ?_⟩
        · have lr := (rc.2 l hl).1
          simp -dsimp only [po_nx, po_rt, po_bk, po_ct, fr_env, fr_st, w_ok, w_bind, w_of, w_some, w_var, w_slv, w_slo, w_c, w_op, w_un, w_cmp2, w_cmpP, w_ecmpP, w_inP, w_einP, w_ecmp, w_val, w_asB, w_no, w_an, w_or, w_tY, w_ean, w_eor, w_eno, w_eif, w_nil, w_cons, w_consO, w_tup, w_lst, w_pOf, w_pSl, w_slLv, w_slLo, w_rd, w_rd2, w_trd, w_atd, w_atl, w_atv, w_ato, w_pNo, w_asI, w_pSo, w_sl, w_slL, w_cb, w_put, w_mt, w_m1, w_asS, w_seqI, w_rng1, w_rng2, w_range, w_call, w_nx, w_seq, w_asg, w_gN, w_asgO, w_asgH, w_par, w_drop, w_ret, w_retN, w_if, w_brk, w_ct, w_set, w_for, List.getElem?_cons_zero, List.getElem?_cons_succ, List.set_cons_zero, List.set_cons_succ, List.map_cons, List.map_nil, List.cons_append, List.nil_append, List.replicate_succ, List.replicate_zero, setAll, dr_int, dr_str, dr_bl, dr_non, dr_tup, dr_lst, dr_scr, dr_dK, dr_h0, put_sl, put_h, put_own, put_vh, k_add, k_sub, k_mul, k_div, k_mod, k_pow, k_abs, k_neg, k_lt, k_le, k_gt, k_ge, k_cat, k_catT, k_catL, k_lenL, k_lenT, k_lenF, k_lenS, k_listL, k_listT, k_listF, k_tupL, k_tupT, k_slL, k_slT, k_slF, k_slS, sq_l, sq_t, sq_f, k_min, k_max, ok_app, isL_l, k_isB, k_isnB, k_eqI, k_neI, k_eqB, k_neB, k_eqS, k_neS, sq_tS, sq_lS, dr_tS, dr_lS, wi_nil, wi_cons, no_eq, no_1, no_2, k_lenT', k_lenL', List.all_cons, List.all_nil, Bool.and_true, Bool.and_self, k_inT, k_ninT, k_inL, k_ninL, List.length_cons, List.length_nil, sizeLine_eq, Nat.reduceAdd, Nat.reduceLeDiff, Nat.reduceLT, if_true, if_false, Bool.false_eq_true, Bool.not_true, Bool.not_false, ite_self, implies_true, k_all, k_any, filter_true, true_and, and_true, decide_eq_true_eq, re_nil, re_cons, List.getD_cons_zero, List.getD_cons_succ, catTS]
          refine ⟨by omega, ?_⟩
          rw [k_uniq (by rw [List.length_append]; omega)]
          show OkO (fTuple (lS _)) _
          simp -dsimp only [po_nx, po_rt, po_bk, po_ct, fr_env, fr_st, w_ok, w_bind, w_of, w_some, w_var, w_slv, w_slo, w_c, w_op, w_un, w_cmp2, w_cmpP, w_ecmpP, w_inP, w_einP, w_ecmp, w_val, w_asB, w_no, w_an, w_or, w_tY, w_ean, w_eor, w_eno, w_eif, w_nil, w_cons, w_consO, w_tup, w_lst, w_pOf, w_pSl, w_slLv, w_slLo, w_rd, w_rd2, w_trd, w_atd, w_atl, w_atv, w_ato, w_pNo, w_asI, w_pSo, w_sl, w_slL, w_cb, w_put, w_mt, w_m1, w_asS, w_seqI, w_rng1, w_rng2, w_range, w_call, w_nx, w_seq, w_asg, w_gN, w_asgO, w_asgH, w_par, w_drop, w_ret, w_retN, w_if, w_brk, w_ct, w_set, w_for, List.getElem?_cons_zero, List.getElem?_cons_succ, List.set_cons_zero, List.set_cons_succ, List.map_cons, List.map_nil, List.cons_append, List.nil_append, List.replicate_succ, List.replicate_zero, setAll, dr_int, dr_str, dr_bl, dr_non, dr_tup, dr_lst, dr_scr, dr_dK, dr_h0, put_sl, put_h, put_own, put_vh, k_add, k_sub, k_mul, k_div, k_mod, k_pow, k_abs, k_neg, k_lt, k_le, k_gt, k_ge, k_cat, k_catT, k_catL, k_lenL, k_lenT, k_lenF, k_lenS, k_listL, k_listT, k_listF, k_tupL, k_tupT, k_slL, k_slT, k_slF, k_slS, sq_l, sq_t, sq_f, k_min, k_max, ok_app, isL_l, k_isB, k_isnB, k_eqI, k_neI, k_eqB, k_neB, k_eqS, k_neS, sq_tS, sq_lS, dr_tS, dr_lS, wi_nil, wi_cons, no_eq, no_1, no_2, k_lenT', k_lenL', List.all_cons, List.all_nil, Bool.and_true, Bool.and_self, k_inT, k_ninT, k_inL, k_ninL, List.length_cons, List.length_nil, sizeLine_eq, Nat.reduceAdd, Nat.reduceLeDiff, Nat.reduceLT, if_true, if_false, Bool.false_eq_true, Bool.not_true, Bool.not_false, ite_self, implies_true, k_all, k_any, filter_true, true_and, and_true, decide_eq_true_eq, re_nil, re_cons, List.getD_cons_zero, List.getD_cons_succ, tupS]
        · refine ⟨by omega, by rw [List.length_append, List.length_map, List.length_map]; omega, VL.cut L none (some at') ++ (VL.cut L (some at') (some (at' + 1))).map (fun l => uniq (l ++ one)) ++ VL.cut L (some (at' + 1)) none, by rw [List.map_append, List.map_append, List.map_map]; rfl, rows3 rc ⟨by rw [List.length_map]; exact c1, fun l hl => ?_⟩ rc, h3.mono (by omega)⟩
          obtain ⟨y, hy, rfl⟩ := List.mem_map.mp hl
          have yr := rc.2 y hy
          refine ⟨?_, fun x hx => ?_⟩
          · have := uniq_len (a := y ++ one)
            rw [List.length_append] at this
            omega
          · rcases List.mem_append.mp (uniq_mem x hx) with h | h
            · exact yr.2 x h
            · exact r1.2 x h
      · refine lc_pure (VL.cut L (some at') (some (at' + 1))) tS (fun _ => true) (fun l => tS (ns.filter fun x => decide (x ∈ l) && !decide (x ∈ one))) ?_
        simp -dsimp only [po_nx, po_rt, po_bk, po_ct, fr_env, fr_st, w_ok, w_bind, w_of, w_some, w_var, w_slv, w_slo, w_c, w_op, w_un, w_cmp2, w_cmpP, w_ecmpP, w_inP, w_einP, w_ecmp, w_val, w_asB, w_no, w_an, w_or, w_tY, w_ean, w_eor, w_eno, w_eif, w_nil, w_cons, w_consO, w_tup, w_lst, w_pOf, w_pSl, w_slLv, w_slLo, w_rd, w_rd2, w_trd, w_atd, w_atl, w_atv, w_ato, w_pNo, w_asI, w_pSo, w_sl, w_slL, w_cb, w_put, w_mt, w_m1, w_asS, w_seqI, w_rng1, w_rng2, w_range, w_call, w_nx, w_seq, w_asg, w_gN, w_asgO, w_asgH, w_par, w_drop, w_ret, w_retN, w_if, w_brk, w_ct, w_set, w_for, List.getElem?_cons_zero, List.getElem?_cons_succ, List.set_cons_zero, List.set_cons_succ, List.map_cons, List.map_nil, List.cons_append, List.nil_append, List.replicate_succ, List.replicate_zero, setAll, dr_int, dr_str, dr_bl, dr_non, dr_tup, dr_lst, dr_scr, dr_dK, dr_h0, put_sl, put_h, put_own, put_vh, k_add, k_sub, k_mul, k_div, k_mod, k_pow, k_abs, k_neg, k_lt, k_le, k_gt, k_ge, k_cat, k_catT, k_catL, k_lenL, k_lenT, k_lenF, k_lenS, k_listL, k_listT, k_listF, k_tupL, k_tupT, k_slL, k_slT, k_slF, k_slS, sq_l, sq_t, sq_f, k_min, k_max, ok_app, isL_l, k_isB, k_isnB, k_eqI, k_neI, k_eqB, k_neB, k_eqS, k_neS, sq_tS, sq_lS, dr_tS, dr_lS, wi_nil, wi_cons, no_eq, no_1, no_2, k_lenT', k_lenL', List.all_cons, List.all_nil, Bool.and_true, Bool.and_self, k_inT, k_ninT, k_inL, k_ninL, List.length_cons, List.length_nil, sizeLine_eq, Nat.reduceAdd, Nat.reduceLeDiff, Nat.reduceLT, if_true, if_false, Bool.false_eq_true, Bool.not_true, Bool.not_false, ite_self, implies_true, k_all, k_any, filter_true, true_and, and_true, decide_eq_true_eq, re_nil, re_cons, List.getD_cons_zero, List.getD_cons_succ, cutLT, List.length_map, ← List.map_append]
        refine ⟨by omega, fun l hl => ?_, ?_⟩
        · refine lc_pure ns .str (fun x => decide (x ∈ l) && !decide (x ∈ one)) .str ?_
          simp -dsimp only [po_nx, po_rt, po_bk, po_ct, fr_env, fr_st, w_ok, w_bind, w_of, w_some, w_var, w_slv, w_slo, w_c, w_op, w_un, w_cmp2, w_cmpP, w_ecmpP, w_inP, w_einP, w_ecmp, w_val, w_asB, w_no, w_an, w_or, w_tY, w_ean, w_eor, w_eno, w_eif, w_nil, w_cons, w_consO, w_tup, w_lst, w_pOf, w_pSl, w_slLv, w_slLo, w_rd, w_rd2, w_trd, w_atd, w_atl, w_atv, w_ato, w_pNo, w_asI, w_pSo, w_sl, w_slL, w_cb, w_put, w_mt, w_m1, w_asS, w_seqI, w_rng1, w_rng2, w_range, w_call, w_nx, w_seq, w_asg, w_gN, w_asgO, w_asgH, w_par, w_drop, w_ret, w_retN, w_if, w_brk, w_ct, w_set, w_for, List.getElem?_cons_zero, List.getElem?_cons_succ, List.set_cons_zero, List.set_cons_succ, List.map_cons, List.map_nil, List.cons_append, List.nil_append, List.replicate_succ, List.replicate_zero, setAll, dr_int, dr_str, dr_bl, dr_non, dr_tup, dr_lst, dr_scr, dr_dK, dr_h0, put_sl, put_h, put_own, put_vh, k_add, k_sub, k_mul, k_div, k_mod, k_pow, k_abs, k_neg, k_lt, k_le, k_gt, k_ge, k_cat, k_catT, k_catL, k_lenL, k_lenT, k_lenF, k_lenS, k_listL, k_listT, k_listF, k_tupL, k_tupT, k_slL, k_slT, k_slF, k_slS, sq_l, sq_t, sq_f, k_min, k_max, ok_app, isL_l, k_isB, k_isnB, k_eqI, k_neI, k_eqB, k_neB, k_eqS, k_neS, sq_tS, sq_lS, dr_tS, dr_lS, wi_nil, wi_cons, no_eq, no_1, no_2, k_lenT', k_lenL', List.all_cons, List.all_nil, Bool.and_true, Bool.and_self, k_inT, k_ninT, k_inL, k_ninL, List.length_cons, List.length_nil, sizeLine_eq, Nat.reduceAdd, Nat.reduceLeDiff, Nat.reduceLT, if_true, if_false, Bool.false_eq_true, Bool.not_true, Bool.not_false, ite_self, implies_true, k_all, k_any, filter_true, true_and, and_true, decide_eq_true_eq, re_nil, re_cons, List.getD_cons_zero, List.getD_cons_succ]
          refine ⟨by omega, fun x hx => ?_, rfl⟩
          split
          · rename_i z; simp [z]
          · rename_i z; simp [z]
        · refine ⟨by omega, by rw [List.length_append, List.length_map, List.length_map]; omega, VL.cut L none (some at') ++ (VL.cut L (some at') (some (at' + 1))).map (fun l => ns.filter fun x => decide (x ∈ l) && !decide (x ∈ one)) ++ VL.cut L (some (at' + 1)) none, by rw [List.map_append, List.map_append, List.map_map]; rfl, rows3 rc ⟨by rw [List.length_map]; exact c1, fun l hl => ?_⟩ rc, h3.mono (by omega)⟩
          obtain ⟨y, hy, rfl⟩ := List.mem_map.mp hl
          exact ⟨by have := List.length_filter_le (fun x => decide (x ∈ y) && !decide (x ∈ one)) ns; omega, fun x hx => (List.mem_filter.mp hx).1⟩
/-! ### the law -/
theorem pen_is {ns : List Int} (h : ns.length ≤ 63) : OkG (G_law_pen [.scr (ns.map .int)] []) fun d st' => d = penD ns 0 0 ∧ st' = [] := by
  refine g_mkO rfl ?_
  unfold F_law_pen
  simp -dsimp only [po_nx, po_rt, po_bk, po_ct, fr_env, fr_st, w_ok, w_bind, w_of, w_some, w_var, w_slv, w_slo, w_c, w_op, w_un, w_cmp2, w_cmpP, w_ecmpP, w_inP, w_einP, w_ecmp, w_val, w_asB, w_no, w_an, w_or, w_tY, w_ean, w_eor, w_eno, w_eif, w_nil, w_cons, w_consO, w_tup, w_lst, w_pOf, w_pSl, w_slLv, w_slLo, w_rd, w_rd2, w_trd, w_atd, w_atl, w_atv, w_ato, w_pNo, w_asI, w_pSo, w_sl, w_slL, w_cb, w_put, w_mt, w_m1, w_asS, w_seqI, w_rng1, w_rng2, w_range, w_call, w_nx, w_seq, w_asg, w_gN, w_asgO, w_asgH, w_par, w_drop, w_ret, w_retN, w_if, w_brk, w_ct, w_set, w_for, List.getElem?_cons_zero, List.getElem?_cons_succ, List.set_cons_zero, List.set_cons_succ, List.map_cons, List.map_nil, List.cons_append, List.nil_append, List.replicate_succ, List.replicate_zero, setAll, dr_int, dr_str, dr_bl, dr_non, dr_tup, dr_lst, dr_scr, dr_dK, dr_h0, put_sl, put_h, put_own, put_vh, k_add, k_sub, k_mul, k_div, k_mod, k_pow, k_abs, k_neg, k_lt, k_le, k_gt, k_ge, k_cat, k_catT, k_catL, k_lenL, k_lenT, k_lenF, k_lenS, k_listL, k_listT, k_listF, k_tupL, k_tupT, k_slL, k_slT, k_slF, k_slS, sq_l, sq_t, sq_f, k_min, k_max, ok_app, isL_l, k_isB, k_isnB, k_eqI, k_neI, k_eqB, k_neB, k_eqS, k_neS, sq_tS, sq_lS, dr_tS, dr_lS, wi_nil, wi_cons, no_eq, no_1, no_2, k_lenT', k_lenL', List.all_cons, List.all_nil, Bool.and_true, Bool.and_self, k_inT, k_ninT, k_inL, k_ninL, List.length_cons, List.length_nil, sizeLine_eq, Nat.reduceAdd, Nat.reduceLeDiff, Nat.reduceLT, if_true, if_false, Bool.false_eq_true, Bool.not_true, Bool.not_false, ite_self, implies_true, k_all, k_any, filter_true, true_and, and_true, decide_eq_true_eq, re_nil, re_cons, List.getD_cons_zero, List.getD_cons_succ, w_disp, w_pp0, w_pp1]
  have e : cut (ns.map D.int) none (some 63) = ns.map D.int := by
    unfold cut
    have e1 : HT.sIx (ns.map D.int).length 0 none = 0 := rfl
    have e2 : HT.sIx (ns.map D.int).length (ns.map D.int).length (some 63) = min 63 (ns.map D.int).length := HT.sIx_nat _ _ 63
    rw [e1, e2, List.drop_zero, List.take_of_length_le]
    rw [List.length_map]
    omega
  rw [e]
  exact ⟨(by decide : (3 : Nat) ≤ 15), rfl, rfl⟩
theorem Rows2.short {L : List (List Str)} (h : Rows2 ns L) (kn : Oks ns) : Short L := ⟨by have := h.1; rw [sizeLine_eq]; omega, fun l hl => ⟨by have := (h.2 l hl).1; rw [sizeLine_eq]; omega, fun x hx => kn x ((h.2 l hl).2 x hx)⟩⟩
theorem Rows2.rep {L : List (List Str)} (h : Rows2 ns L) (nm : ∀ x ∈ ns, Nm x) : L.length ≤ 200 ∧ ∀ l ∈ L, l.length ≤ 64 ∧ ∀ x ∈ l, Nm x := ⟨by have := h.1; omega, fun l hl => ⟨by have := (h.2 l hl).1; omega, fun x hx => nm x ((h.2 l hl).2 x hx)⟩⟩
/-- the last part of a turn: what is asked of one, other -/
theorem turn_end {A C : List (List Str)} {j : Nat} {c0 c1 c2 c4 s8 s9 : VL.Slot} {pn pb pc : Fr → Prop} (hn : ns.length ≤ 10) (nm : ∀ x ∈ ns, Nm x) (hA : Rows2 ns A) (hC : Rows2 ns C) (hF : ∀ r p, pn ⟨[c0, c1, c2, .val (lS ns), c4, .val (.int (0 + j)), .val (.lst (A.map tS)), .val (.lst (C.map tS)), .val r, .val p], st⟩) :
    Sat ((sSeq (sPar [8, 9] [false, false] (aCons (eRd fRepr (pOf (eLst (aCons (eVar 6) (aCons (eVar 7) (aNil)))))) (aCons (eRd2 fIx (pOf (eLst (aCons (eVar 3) (aCons (eRd fTuple (pOf (eVar 3))) (aNil))))) (eOp fMod (eVar 5) (eC (.int 2)))) (aNil)))) (sSeq (sIf (tCmpP fNe (pOf (eRd fRepr (pOf (eCall G_decides (aCons (eVar 9) (aCons (eVar 6) (aCons (eVar 7) (aNil)))))))) (eRd fRepr (pOf (eCall G_law_is_decided (aCons (eVar 3) (aCons (eVar 6) (aCons (eVar 7) (aNil)))))))) (sRet (eC (.bl false))) (sNx)) (sIf (tCmpP fNe (pOf (eRd fRepr (pOf (eLst (aCons (eVar 6) (aCons (eVar 7) (aNil))))))) (eVar 8)) (sRet (eC (.bl false))) (sNx)))) (⟨[c0, c1, c2, .val (lS ns), c4, .val (.int (0 + j)), .val (.lst (A.map tS)), .val (.lst (C.map tS)), s8, s9], st⟩ : Fr)) ⟨pn, fun d _ => d = .bl true, pb, pc⟩ := by
  have kn : Oks ns := Nms.ok nm
  obtain ⟨t, ht⟩ := reprLL (hA.rep nm).1 (hC.rep nm).1 (hA.rep nm).2 (hC.rep nm).2
  simp -dsimp only [po_nx, po_rt, po_bk, po_ct, fr_env, fr_st, w_ok, w_bind, w_of, w_some, w_var, w_slv, w_slo, w_c, w_op, w_un, w_cmp2, w_cmpP, w_ecmpP, w_inP, w_einP, w_ecmp, w_val, w_asB, w_no, w_an, w_or, w_tY, w_ean, w_eor, w_eno, w_eif, w_nil, w_cons, w_consO, w_tup, w_lst, w_pOf, w_pSl, w_slLv, w_slLo, w_rd, w_rd2, w_trd, w_atd, w_atl, w_atv, w_ato, w_pNo, w_asI, w_pSo, w_sl, w_slL, w_cb, w_put, w_mt, w_m1, w_asS, w_seqI, w_rng1, w_rng2, w_range, w_call, w_nx, w_seq, w_asg, w_gN, w_asgO, w_asgH, w_par, w_drop, w_ret, w_retN, w_if, w_brk, w_ct, w_set, w_for, List.getElem?_cons_zero, List.getElem?_cons_succ, List.set_cons_zero, List.set_cons_succ, List.map_cons, List.map_nil, List.cons_append, List.nil_append, List.replicate_succ, List.replicate_zero, setAll, dr_int, dr_str, dr_bl, dr_non, dr_tup, dr_lst, dr_scr, dr_dK, dr_h0, put_sl, put_h, put_own, put_vh, k_add, k_sub, k_mul, k_div, k_mod, k_pow, k_abs, k_neg, k_lt, k_le, k_gt, k_ge, k_cat, k_catT, k_catL, k_lenL, k_lenT, k_lenF, k_lenS, k_listL, k_listT, k_listF, k_tupL, k_tupT, k_slL, k_slT, k_slF, k_slS, sq_l, sq_t, sq_f, k_min, k_max, ok_app, isL_l, k_isB, k_isnB, k_eqI, k_neI, k_eqB, k_neB, k_eqS, k_neS, sq_tS, sq_lS, dr_tS, dr_lS, wi_nil, wi_cons, no_eq, no_1, no_2, k_lenT', k_lenL', List.all_cons, List.all_nil, Bool.and_true, Bool.and_self, k_inT, k_ninT, k_inL, k_ninL, List.length_cons, List.length_nil, sizeLine_eq, Nat.reduceAdd, Nat.reduceLeDiff, Nat.reduceLT, if_true, if_false, Bool.false_eq_true, Bool.not_true, Bool.not_false, ite_self, implies_true, k_all, k_any, filter_true, true_and, and_true, decide_eq_true_eq, re_nil, re_cons, List.getD_cons_zero, List.getD_cons_succ]
  rw [ht]
  simp -dsimp only [po_nx, po_rt, po_bk, po_ct, fr_env, fr_st, w_ok, w_bind, w_of, w_some, w_var, w_slv, w_slo, w_c, w_op, w_un, w_cmp2, w_cmpP, w_ecmpP, w_inP, w_einP, w_ecmp, w_val, w_asB, w_no, w_an, w_or, w_tY, w_ean, w_eor, w_eno, w_eif, w_nil, w_cons, w_consO, w_tup, w_lst, w_pOf, w_pSl, w_slLv, w_slLo, w_rd, w_rd2, w_trd, w_atd, w_atl, w_atv, w_ato, w_pNo, w_asI, w_pSo, w_sl, w_slL, w_cb, w_put, w_mt, w_m1, w_asS, w_seqI, w_rng1, w_rng2, w_range, w_call, w_nx, w_seq, w_asg, w_gN, w_asgO, w_asgH, w_par, w_drop, w_ret, w_retN, w_if, w_brk, w_ct, w_set, w_for, List.getElem?_cons_zero, List.getElem?_cons_succ, List.set_cons_zero, List.set_cons_succ, List.map_cons, List.map_nil, List.cons_append, List.nil_append, List.replicate_succ, List.replicate_zero, setAll, dr_int, dr_str, dr_bl, dr_non, dr_tup, dr_lst, dr_scr, dr_dK, dr_h0, put_sl, put_h, put_own, put_vh, k_add, k_sub, k_mul, k_div, k_mod, k_pow, k_abs, k_neg, k_lt, k_le, k_gt, k_ge, k_cat, k_catT, k_catL, k_lenL, k_lenT, k_lenF, k_lenS, k_listL, k_listT, k_listF, k_tupL, k_tupT, k_slL, k_slT, k_slF, k_slS, sq_l, sq_t, sq_f, k_min, k_max, ok_app, isL_l, k_isB, k_isnB, k_eqI, k_neI, k_eqB, k_neB, k_eqS, k_neS, sq_tS, sq_lS, dr_tS, dr_lS, wi_nil, wi_cons, no_eq, no_1, no_2, k_lenT', k_lenL', List.all_cons, List.all_nil, Bool.and_true, Bool.and_self, k_inT, k_ninT, k_inL, k_ninL, List.length_cons, List.length_nil, sizeLine_eq, Nat.reduceAdd, Nat.reduceLeDiff, Nat.reduceLT, if_true, if_false, Bool.false_eq_true, Bool.not_true, Bool.not_false, ite_self, implies_true, k_all, k_any, filter_true, true_and, and_true, decide_eq_true_eq, re_nil, re_cons, List.getD_cons_zero, List.getD_cons_succ]
  rw [tupS]
  have ji := Int.emod_nonneg (0 + (j : Int)) (show (2 : Int) ≠ 0 by decide)
  have jl := Int.emod_lt_of_pos (0 + (j : Int)) (show (0 : Int) < 2 by decide)
  refine ⟨(by decide : (2 : Nat) ≤ 16777216), ?_⟩
  simp -dsimp only [po_nx, po_rt, po_bk, po_ct, fr_env, fr_st, w_ok, w_bind, w_of, w_some, w_var, w_slv, w_slo, w_c, w_op, w_un, w_cmp2, w_cmpP, w_ecmpP, w_inP, w_einP, w_ecmp, w_val, w_asB, w_no, w_an, w_or, w_tY, w_ean, w_eor, w_eno, w_eif, w_nil, w_cons, w_consO, w_tup, w_lst, w_pOf, w_pSl, w_slLv, w_slLo, w_rd, w_rd2, w_trd, w_atd, w_atl, w_atv, w_ato, w_pNo, w_asI, w_pSo, w_sl, w_slL, w_cb, w_put, w_mt, w_m1, w_asS, w_seqI, w_rng1, w_rng2, w_range, w_call, w_nx, w_seq, w_asg, w_gN, w_asgO, w_asgH, w_par, w_drop, w_ret, w_retN, w_if, w_brk, w_ct, w_set, w_for, List.getElem?_cons_zero, List.getElem?_cons_succ, List.set_cons_zero, List.set_cons_succ, List.map_cons, List.map_nil, List.cons_append, List.nil_append, List.replicate_succ, List.replicate_zero, setAll, dr_int, dr_str, dr_bl, dr_non, dr_tup, dr_lst, dr_scr, dr_dK, dr_h0, put_sl, put_h, put_own, put_vh, k_add, k_sub, k_mul, k_div, k_mod, k_pow, k_abs, k_neg, k_lt, k_le, k_gt, k_ge, k_cat, k_catT, k_catL, k_lenL, k_lenT, k_lenF, k_lenS, k_listL, k_listT, k_listF, k_tupL, k_tupT, k_slL, k_slT, k_slF, k_slS, sq_l, sq_t, sq_f, k_min, k_max, ok_app, isL_l, k_isB, k_isnB, k_eqI, k_neI, k_eqB, k_neB, k_eqS, k_neS, sq_tS, sq_lS, dr_tS, dr_lS, wi_nil, wi_cons, no_eq, no_1, no_2, k_lenT', k_lenL', List.all_cons, List.all_nil, Bool.and_true, Bool.and_self, k_inT, k_ninT, k_inL, k_ninL, List.length_cons, List.length_nil, sizeLine_eq, Nat.reduceAdd, Nat.reduceLeDiff, Nat.reduceLT, if_true, if_false, Bool.false_eq_true, Bool.not_true, Bool.not_false, ite_self, implies_true, k_all, k_any, filter_true, true_and, and_true, decide_eq_true_eq, re_nil, re_cons, List.getD_cons_zero, List.getD_cons_succ]
  refine ⟨by decide, k_ixL (xs := [lS ns, tS ns]) ji (by show _ < ((2 : Nat) : Int); exact jl) fun d hd => ?_⟩
  have hd' : d = lS ns ∨ d = tS ns := by
    have := List.mem_of_getElem? hd
    simpa using this
  simp -dsimp only [po_nx, po_rt, po_bk, po_ct, fr_env, fr_st, w_ok, w_bind, w_of, w_some, w_var, w_slv, w_slo, w_c, w_op, w_un, w_cmp2, w_cmpP, w_ecmpP, w_inP, w_einP, w_ecmp, w_val, w_asB, w_no, w_an, w_or, w_tY, w_ean, w_eor, w_eno, w_eif, w_nil, w_cons, w_consO, w_tup, w_lst, w_pOf, w_pSl, w_slLv, w_slLo, w_rd, w_rd2, w_trd, w_atd, w_atl, w_atv, w_ato, w_pNo, w_asI, w_pSo, w_sl, w_slL, w_cb, w_put, w_mt, w_m1, w_asS, w_seqI, w_rng1, w_rng2, w_range, w_call, w_nx, w_seq, w_asg, w_gN, w_asgO, w_asgH, w_par, w_drop, w_ret, w_retN, w_if, w_brk, w_ct, w_set, w_for, List.getElem?_cons_zero, List.getElem?_cons_succ, List.set_cons_zero, List.set_cons_succ, List.map_cons, List.map_nil, List.cons_append, List.nil_append, List.replicate_succ, List.replicate_zero, setAll, dr_int, dr_str, dr_bl, dr_non, dr_tup, dr_lst, dr_scr, dr_dK, dr_h0, put_sl, put_h, put_own, put_vh, k_add, k_sub, k_mul, k_div, k_mod, k_pow, k_abs, k_neg, k_lt, k_le, k_gt, k_ge, k_cat, k_catT, k_catL, k_lenL, k_lenT, k_lenF, k_lenS, k_listL, k_listT, k_listF, k_tupL, k_tupT, k_slL, k_slT, k_slF, k_slS, sq_l, sq_t, sq_f, k_min, k_max, ok_app, isL_l, k_isB, k_isnB, k_eqI, k_neI, k_eqB, k_neB, k_eqS, k_neS, sq_tS, sq_lS, dr_tS, dr_lS, wi_nil, wi_cons, no_eq, no_1, no_2, k_lenT', k_lenL', List.all_cons, List.all_nil, Bool.and_true, Bool.and_self, k_inT, k_ninT, k_inL, k_ninL, List.length_cons, List.length_nil, sizeLine_eq, Nat.reduceAdd, Nat.reduceLeDiff, Nat.reduceLT, if_true, if_false, Bool.false_eq_true, Bool.not_true, Bool.not_false, ite_self, implies_true, k_all, k_any, filter_true, true_and, and_true, decide_eq_true_eq, re_nil, re_cons, List.getD_cons_zero, List.getD_cons_succ]
  refine (decides_is hd' hn (hA.short kn) (hC.short kn)).mono ?_
  rintro _ _ ⟨rfl, rfl⟩
  simp -dsimp only [po_nx, po_rt, po_bk, po_ct, fr_env, fr_st, w_ok, w_bind, w_of, w_some, w_var, w_slv, w_slo, w_c, w_op, w_un, w_cmp2, w_cmpP, w_ecmpP, w_inP, w_einP, w_ecmp, w_val, w_asB, w_no, w_an, w_or, w_tY, w_ean, w_eor, w_eno, w_eif, w_nil, w_cons, w_consO, w_tup, w_lst, w_pOf, w_pSl, w_slLv, w_slLo, w_rd, w_rd2, w_trd, w_atd, w_atl, w_atv, w_ato, w_pNo, w_asI, w_pSo, w_sl, w_slL, w_cb, w_put, w_mt, w_m1, w_asS, w_seqI, w_rng1, w_rng2, w_range, w_call, w_nx, w_seq, w_asg, w_gN, w_asgO, w_asgH, w_par, w_drop, w_ret, w_retN, w_if, w_brk, w_ct, w_set, w_for, List.getElem?_cons_zero, List.getElem?_cons_succ, List.set_cons_zero, List.set_cons_succ, List.map_cons, List.map_nil, List.cons_append, List.nil_append, List.replicate_succ, List.replicate_zero, setAll, dr_int, dr_str, dr_bl, dr_non, dr_tup, dr_lst, dr_scr, dr_dK, dr_h0, put_sl, put_h, put_own, put_vh, k_add, k_sub, k_mul, k_div, k_mod, k_pow, k_abs, k_neg, k_lt, k_le, k_gt, k_ge, k_cat, k_catT, k_catL, k_lenL, k_lenT, k_lenF, k_lenS, k_listL, k_listT, k_listF, k_tupL, k_tupT, k_slL, k_slT, k_slF, k_slS, sq_l, sq_t, sq_f, k_min, k_max, ok_app, isL_l, k_isB, k_isnB, k_eqI, k_neI, k_eqB, k_neB, k_eqS, k_neS, sq_tS, sq_lS, dr_tS, dr_lS, wi_nil, wi_cons, no_eq, no_1, no_2, k_lenT', k_lenL', List.all_cons, List.all_nil, Bool.and_true, Bool.and_self, k_inT, k_ninT, k_inL, k_ninL, List.length_cons, List.length_nil, sizeLine_eq, Nat.reduceAdd, Nat.reduceLeDiff, Nat.reduceLT, if_true, if_false, Bool.false_eq_true, Bool.not_true, Bool.not_false, ite_self, implies_true, k_all, k_any, filter_true, true_and, and_true, decide_eq_true_eq, re_nil, re_cons, List.getD_cons_zero, List.getD_cons_succ]
  rw [k_reprB]
  simp -dsimp only [po_nx, po_rt, po_bk, po_ct, fr_env, fr_st, w_ok, w_bind, w_of, w_some, w_var, w_slv, w_slo, w_c, w_op, w_un, w_cmp2, w_cmpP, w_ecmpP, w_inP, w_einP, w_ecmp, w_val, w_asB, w_no, w_an, w_or, w_tY, w_ean, w_eor, w_eno, w_eif, w_nil, w_cons, w_consO, w_tup, w_lst, w_pOf, w_pSl, w_slLv, w_slLo, w_rd, w_rd2, w_trd, w_atd, w_atl, w_atv, w_ato, w_pNo, w_asI, w_pSo, w_sl, w_slL, w_cb, w_put, w_mt, w_m1, w_asS, w_seqI, w_rng1, w_rng2, w_range, w_call, w_nx, w_seq, w_asg, w_gN, w_asgO, w_asgH, w_par, w_drop, w_ret, w_retN, w_if, w_brk, w_ct, w_set, w_for, List.getElem?_cons_zero, List.getElem?_cons_succ, List.set_cons_zero, List.set_cons_succ, List.map_cons, List.map_nil, List.cons_append, List.nil_append, List.replicate_succ, List.replicate_zero, setAll, dr_int, dr_str, dr_bl, dr_non, dr_tup, dr_lst, dr_scr, dr_dK, dr_h0, put_sl, put_h, put_own, put_vh, k_add, k_sub, k_mul, k_div, k_mod, k_pow, k_abs, k_neg, k_lt, k_le, k_gt, k_ge, k_cat, k_catT, k_catL, k_lenL, k_lenT, k_lenF, k_lenS, k_listL, k_listT, k_listF, k_tupL, k_tupT, k_slL, k_slT, k_slF, k_slS, sq_l, sq_t, sq_f, k_min, k_max, ok_app, isL_l, k_isB, k_isnB, k_eqI, k_neI, k_eqB, k_neB, k_eqS, k_neS, sq_tS, sq_lS, dr_tS, dr_lS, wi_nil, wi_cons, no_eq, no_1, no_2, k_lenT', k_lenL', List.all_cons, List.all_nil, Bool.and_true, Bool.and_self, k_inT, k_ninT, k_inL, k_ninL, List.length_cons, List.length_nil, sizeLine_eq, Nat.reduceAdd, Nat.reduceLeDiff, Nat.reduceLT, if_true, if_false, Bool.false_eq_true, Bool.not_true, Bool.not_false, ite_self, implies_true, k_all, k_any, filter_true, true_and, and_true, decide_eq_true_eq, re_nil, re_cons, List.getD_cons_zero, List.getD_cons_succ]
  refine (is_decided (.inl rfl) hn kn (hA.short kn) (hC.short kn)).mono ?_
  rintro _ _ ⟨rfl, rfl⟩
  simp -dsimp only [po_nx, po_rt, po_bk, po_ct, fr_env, fr_st, w_ok, w_bind, w_of, w_some, w_var, w_slv, w_slo, w_c, w_op, w_un, w_cmp2, w_cmpP, w_ecmpP, w_inP, w_einP, w_ecmp, w_val, w_asB, w_no, w_an, w_or, w_tY, w_ean, w_eor, w_eno, w_eif, w_nil, w_cons, w_consO, w_tup, w_lst, w_pOf, w_pSl, w_slLv, w_slLo, w_rd, w_rd2, w_trd, w_atd, w_atl, w_atv, w_ato, w_pNo, w_asI, w_pSo, w_sl, w_slL, w_cb, w_put, w_mt, w_m1, w_asS, w_seqI, w_rng1, w_rng2, w_range, w_call, w_nx, w_seq, w_asg, w_gN, w_asgO, w_asgH, w_par, w_drop, w_ret, w_retN, w_if, w_brk, w_ct, w_set, w_for, List.getElem?_cons_zero, List.getElem?_cons_succ, List.set_cons_zero, List.set_cons_succ, List.map_cons, List.map_nil, List.cons_append, List.nil_append, List.replicate_succ, List.replicate_zero, setAll, dr_int, dr_str, dr_bl, dr_non, dr_tup, dr_lst, dr_scr, dr_dK, dr_h0, put_sl, put_h, put_own, put_vh, k_add, k_sub, k_mul, k_div, k_mod, k_pow, k_abs, k_neg, k_lt, k_le, k_gt, k_ge, k_cat, k_catT, k_catL, k_lenL, k_lenT, k_lenF, k_lenS, k_listL, k_listT, k_listF, k_tupL, k_tupT, k_slL, k_slT, k_slF, k_slS, sq_l, sq_t, sq_f, k_min, k_max, ok_app, isL_l, k_isB, k_isnB, k_eqI, k_neI, k_eqB, k_neB, k_eqS, k_neS, sq_tS, sq_lS, dr_tS, dr_lS, wi_nil, wi_cons, no_eq, no_1, no_2, k_lenT', k_lenL', List.all_cons, List.all_nil, Bool.and_true, Bool.and_self, k_inT, k_ninT, k_inL, k_ninL, List.length_cons, List.length_nil, sizeLine_eq, Nat.reduceAdd, Nat.reduceLeDiff, Nat.reduceLT, if_true, if_false, Bool.false_eq_true, Bool.not_true, Bool.not_false, ite_self, implies_true, k_all, k_any, filter_true, true_and, and_true, decide_eq_true_eq, re_nil, re_cons, List.getD_cons_zero, List.getD_cons_succ]
  rw [k_reprB]
  simp -dsimp only [po_nx, po_rt, po_bk, po_ct, fr_env, fr_st, w_ok, w_bind, w_of, w_some, w_var, w_slv, w_slo, w_c, w_op, w_un, w_cmp2, w_cmpP, w_ecmpP, w_inP, w_einP, w_ecmp, w_val, w_asB, w_no, w_an, w_or, w_tY, w_ean, w_eor, w_eno, w_eif, w_nil, w_cons, w_consO, w_tup, w_lst, w_pOf, w_pSl, w_slLv, w_slLo, w_rd, w_rd2, w_trd, w_atd, w_atl, w_atv, w_ato, w_pNo, w_asI, w_pSo, w_sl, w_slL, w_cb, w_put, w_mt, w_m1, w_asS, w_seqI, w_rng1, w_rng2, w_range, w_call, w_nx, w_seq, w_asg, w_gN, w_asgO, w_asgH, w_par, w_drop, w_ret, w_retN, w_if, w_brk, w_ct, w_set, w_for, List.getElem?_cons_zero, List.getElem?_cons_succ, List.set_cons_zero, List.set_cons_succ, List.map_cons, List.map_nil, List.cons_append, List.nil_append, List.replicate_succ, List.replicate_zero, setAll, dr_int, dr_str, dr_bl, dr_non, dr_tup, dr_lst, dr_scr, dr_dK, dr_h0, put_sl, put_h, put_own, put_vh, k_add, k_sub, k_mul, k_div, k_mod, k_pow, k_abs, k_neg, k_lt, k_le, k_gt, k_ge, k_cat, k_catT, k_catL, k_lenL, k_lenT, k_lenF, k_lenS, k_listL, k_listT, k_listF, k_tupL, k_tupT, k_slL, k_slT, k_slF, k_slS, sq_l, sq_t, sq_f, k_min, k_max, ok_app, isL_l, k_isB, k_isnB, k_eqI, k_neI, k_eqB, k_neB, k_eqS, k_neS, sq_tS, sq_lS, dr_tS, dr_lS, wi_nil, wi_cons, no_eq, no_1, no_2, k_lenT', k_lenL', List.all_cons, List.all_nil, Bool.and_true, Bool.and_self, k_inT, k_ninT, k_inL, k_ninL, List.length_cons, List.length_nil, sizeLine_eq, Nat.reduceAdd, Nat.reduceLeDiff, Nat.reduceLT, if_true, if_false, Bool.false_eq_true, Bool.not_true, Bool.not_false, ite_self, implies_true, k_all, k_any, filter_true, true_and, and_true, decide_eq_true_eq, re_nil, re_cons, List.getD_cons_zero, List.getD_cons_succ, k_neS, decide_true]
  rw [ht]
  simp -dsimp only [po_nx, po_rt, po_bk, po_ct, fr_env, fr_st, w_ok, w_bind, w_of, w_some, w_var, w_slv, w_slo, w_c, w_op, w_un, w_cmp2, w_cmpP, w_ecmpP, w_inP, w_einP, w_ecmp, w_val, w_asB, w_no, w_an, w_or, w_tY, w_ean, w_eor, w_eno, w_eif, w_nil, w_cons, w_consO, w_tup, w_lst, w_pOf, w_pSl, w_slLv, w_slLo, w_rd, w_rd2, w_trd, w_atd, w_atl, w_atv, w_ato, w_pNo, w_asI, w_pSo, w_sl, w_slL, w_cb, w_put, w_mt, w_m1, w_asS, w_seqI, w_rng1, w_rng2, w_range, w_call, w_nx, w_seq, w_asg, w_gN, w_asgO, w_asgH, w_par, w_drop, w_ret, w_retN, w_if, w_brk, w_ct, w_set, w_for, List.getElem?_cons_zero, List.getElem?_cons_succ, List.set_cons_zero, List.set_cons_succ, List.map_cons, List.map_nil, List.cons_append, List.nil_append, List.replicate_succ, List.replicate_zero, setAll, dr_int, dr_str, dr_bl, dr_non, dr_tup, dr_lst, dr_scr, dr_dK, dr_h0, put_sl, put_h, put_own, put_vh, k_add, k_sub, k_mul, k_div, k_mod, k_pow, k_abs, k_neg, k_lt, k_le, k_gt, k_ge, k_cat, k_catT, k_catL, k_lenL, k_lenT, k_lenF, k_lenS, k_listL, k_listT, k_listF, k_tupL, k_tupT, k_slL, k_slT, k_slF, k_slS, sq_l, sq_t, sq_f, k_min, k_max, ok_app, isL_l, k_isB, k_isnB, k_eqI, k_neI, k_eqB, k_neB, k_eqS, k_neS, sq_tS, sq_lS, dr_tS, dr_lS, wi_nil, wi_cons, no_eq, no_1, no_2, k_lenT', k_lenL', List.all_cons, List.all_nil, Bool.and_true, Bool.and_self, k_inT, k_ninT, k_inL, k_ninL, List.length_cons, List.length_nil, sizeLine_eq, Nat.reduceAdd, Nat.reduceLeDiff, Nat.reduceLT, if_true, if_false, Bool.false_eq_true, Bool.not_true, Bool.not_false, ite_self, implies_true, k_all, k_any, filter_true, true_and, and_true, decide_eq_true_eq, re_nil, re_cons, List.getD_cons_zero, List.getD_cons_succ, k_neS, decide_true]
  exact hF _ _
theorem law_ok {cs : List Int} (h : cs.length ≤ 63) : OkG (G_law [.scr (cs.map .int)] []) fun d st' => d = .bl true := by
  refine g_mk rfl ?_
  unfold F_law
  simp -dsimp only [po_nx, po_rt, po_bk, po_ct, fr_env, fr_st, w_ok, w_bind, w_of, w_some, w_var, w_slv, w_slo, w_c, w_op, w_un, w_cmp2, w_cmpP, w_ecmpP, w_inP, w_einP, w_ecmp, w_val, w_asB, w_no, w_an, w_or, w_tY, w_ean, w_eor, w_eno, w_eif, w_nil, w_cons, w_consO, w_tup, w_lst, w_pOf, w_pSl, w_slLv, w_slLo, w_rd, w_rd2, w_trd, w_atd, w_atl, w_atv, w_ato, w_pNo, w_asI, w_pSo, w_sl, w_slL, w_cb, w_put, w_mt, w_m1, w_asS, w_seqI, w_rng1, w_rng2, w_range, w_call, w_nx, w_seq, w_asg, w_gN, w_asgO, w_asgH, w_par, w_drop, w_ret, w_retN, w_if, w_brk, w_ct, w_set, w_for, List.getElem?_cons_zero, List.getElem?_cons_succ, List.set_cons_zero, List.set_cons_succ, List.map_cons, List.map_nil, List.cons_append, List.nil_append, List.replicate_succ, List.replicate_zero, setAll, dr_int, dr_str, dr_bl, dr_non, dr_tup, dr_lst, dr_scr, dr_dK, dr_h0, put_sl, put_h, put_own, put_vh, k_add, k_sub, k_mul, k_div, k_mod, k_pow, k_abs, k_neg, k_lt, k_le, k_gt, k_ge, k_cat, k_catT, k_catL, k_lenL, k_lenT, k_lenF, k_lenS, k_listL, k_listT, k_listF, k_tupL, k_tupT, k_slL, k_slT, k_slF, k_slS, sq_l, sq_t, sq_f, k_min, k_max, ok_app, isL_l, k_isB, k_isnB, k_eqI, k_neI, k_eqB, k_neB, k_eqS, k_neS, sq_tS, sq_lS, dr_tS, dr_lS, wi_nil, wi_cons, no_eq, no_1, no_2, k_lenT', k_lenL', List.all_cons, List.all_nil, Bool.and_true, Bool.and_self, k_inT, k_ninT, k_inL, k_ninL, List.length_cons, List.length_nil, sizeLine_eq, Nat.reduceAdd, Nat.reduceLeDiff, Nat.reduceLT, if_true, if_false, Bool.false_eq_true, Bool.not_true, Bool.not_false, ite_self, implies_true, k_all, k_any, filter_true, true_and, and_true, decide_eq_true_eq, re_nil, re_cons, List.getD_cons_zero, List.getD_cons_succ]
  refine (pen_is h).mono ?_
  rintro _ _ ⟨rfl, rfl⟩
  try simp -dsimp only [po_nx, po_rt, po_bk, po_ct, fr_env, fr_st, w_ok, w_bind, w_of, w_some, w_var, w_slv, w_slo, w_c, w_op, w_un, w_cmp2, w_cmpP, w_ecmpP, w_inP, w_einP, w_ecmp, w_val, w_asB, w_no, w_an, w_or, w_tY, w_ean, w_eor, w_eno, w_eif, w_nil, w_cons, w_consO, w_tup, w_lst, w_pOf, w_pSl, w_slLv, w_slLo, w_rd, w_rd2, w_trd, w_atd, w_atl, w_atv, w_ato, w_pNo, w_asI, w_pSo, w_sl, w_slL, w_cb, w_put, w_mt, w_m1, w_asS, w_seqI, w_rng1, w_rng2, w_range, w_call, w_nx, w_seq, w_asg, w_gN, w_asgO, w_asgH, w_par, w_drop, w_ret, w_retN, w_if, w_brk, w_ct, w_set, w_for, List.getElem?_cons_zero, List.getElem?_cons_succ, List.set_cons_zero, List.set_cons_succ, List.map_cons, List.map_nil, List.cons_append, List.nil_append, List.replicate_succ, List.replicate_zero, setAll, dr_int, dr_str, dr_bl, dr_non, dr_tup, dr_lst, dr_scr, dr_dK, dr_h0, put_sl, put_h, put_own, put_vh, k_add, k_sub, k_mul, k_div, k_mod, k_pow, k_abs, k_neg, k_lt, k_le, k_gt, k_ge, k_cat, k_catT, k_catL, k_lenL, k_lenT, k_lenF, k_lenS, k_listL, k_listT, k_listF, k_tupL, k_tupT, k_slL, k_slT, k_slF, k_slS, sq_l, sq_t, sq_f, k_min, k_max, ok_app, isL_l, k_isB, k_isnB, k_eqI, k_neI, k_eqB, k_neB, k_eqS, k_neS, sq_tS, sq_lS, dr_tS, dr_lS, wi_nil, wi_cons, no_eq, no_1, no_2, k_lenT', k_lenL', List.all_cons, List.all_nil, Bool.and_true, Bool.and_self, k_inT, k_ninT, k_inL, k_ninL, List.length_cons, List.length_nil, sizeLine_eq, Nat.reduceAdd, Nat.reduceLeDiff, Nat.reduceLT, if_true, if_false, Bool.false_eq_true, Bool.not_true, Bool.not_false, ite_self, implies_true, k_all, k_any, filter_true, true_and, and_true, decide_eq_true_eq, re_nil, re_cons, List.getD_cons_zero, List.getD_cons_succ]
  rw [List.length_map]
  refine ⟨by omega, by omega, ?_⟩
  refine for_inv (fun i s => ∃ (st : List D) (s2 s3 s4 s5 s6 s7 s8 s9 : VL.Slot), s = ⟨[.val (.scr (cs.map .int)), .val (.h 0), s2, s3, s4, s5, s6, s7, s8, s9], st⟩ ∧ Pen (300 * i) st) ⟨_, _, _, _, _, _, _, _, _, rfl, cs, 0, 0, rfl, by omega, by omega, by omega⟩ ?_ ?_
  · rintro i d s hd ⟨st, s2, s3, s4, s5, s6, s7, s8, s9, rfl, hp⟩
    obtain ⟨hi, rfl⟩ := rng_get hd
    have hi : i < 8 := by omega
    simp -dsimp only [po_nx, po_rt, po_bk, po_ct, fr_env, fr_st, w_ok, w_bind, w_of, w_some, w_var, w_slv, w_slo, w_c, w_op, w_un, w_cmp2, w_cmpP, w_ecmpP, w_inP, w_einP, w_ecmp, w_val, w_asB, w_no, w_an, w_or, w_tY, w_ean, w_eor, w_eno, w_eif, w_nil, w_cons, w_consO, w_tup, w_lst, w_pOf, w_pSl, w_slLv, w_slLo, w_rd, w_rd2, w_trd, w_atd, w_atl, w_atv, w_ato, w_pNo, w_asI, w_pSo, w_sl, w_slL, w_cb, w_put, w_mt, w_m1, w_asS, w_seqI, w_rng1, w_rng2, w_range, w_call, w_nx, w_seq, w_asg, w_gN, w_asgO, w_asgH, w_par, w_drop, w_ret, w_retN, w_if, w_brk, w_ct, w_set, w_for, List.getElem?_cons_zero, List.getElem?_cons_succ, List.set_cons_zero, List.set_cons_succ, List.map_cons, List.map_nil, List.cons_append, List.nil_append, List.replicate_succ, List.replicate_zero, setAll, dr_int, dr_str, dr_bl, dr_non, dr_tup, dr_lst, dr_scr, dr_dK, dr_h0, put_sl, put_h, put_own, put_vh, k_add, k_sub, k_mul, k_div, k_mod, k_pow, k_abs, k_neg, k_lt, k_le, k_gt, k_ge, k_cat, k_catT, k_catL, k_lenL, k_lenT, k_lenF, k_lenS, k_listL, k_listT, k_listF, k_tupL, k_tupT, k_slL, k_slT, k_slF, k_slS, sq_l, sq_t, sq_f, k_min, k_max, ok_app, isL_l, k_isB, k_isnB, k_eqI, k_neI, k_eqB, k_neB, k_eqS, k_neS, sq_tS, sq_lS, dr_tS, dr_lS, wi_nil, wi_cons, no_eq, no_1, no_2, k_lenT', k_lenL', List.all_cons, List.all_nil, Bool.and_true, Bool.and_self, k_inT, k_ninT, k_inL, k_ninL, List.length_cons, List.length_nil, sizeLine_eq, Nat.reduceAdd, Nat.reduceLeDiff, Nat.reduceLT, if_true, if_false, Bool.false_eq_true, Bool.not_true, Bool.not_false, ite_self, implies_true, k_all, k_any, filter_true, true_and, and_true, decide_eq_true_eq, re_nil, re_cons, List.getD_cons_zero, List.getD_cons_succ]
    refine (draw hp (by omega) (by omega) (by omega)).mono ?_
    rintro _ st1 ⟨n, rfl, n1, n2, h1⟩
    try simp -dsimp only [po_nx, po_rt, po_bk, po_ct, fr_env, fr_st, w_ok, w_bind, w_of, w_some, w_var, w_slv, w_slo, w_c, w_op, w_un, w_cmp2, w_cmpP, w_ecmpP, w_inP, w_einP, w_ecmp, w_val, w_asB, w_no, w_an, w_or, w_tY, w_ean, w_eor, w_eno, w_eif, w_nil, w_cons, w_consO, w_tup, w_lst, w_pOf, w_pSl, w_slLv, w_slLo, w_rd, w_rd2, w_trd, w_atd, w_atl, w_atv, w_ato, w_pNo, w_asI, w_pSo, w_sl, w_slL, w_cb, w_put, w_mt, w_m1, w_asS, w_seqI, w_rng1, w_rng2, w_range, w_call, w_nx, w_seq, w_asg, w_gN, w_asgO, w_asgH, w_par, w_drop, w_ret, w_retN, w_if, w_brk, w_ct, w_set, w_for, List.getElem?_cons_zero, List.getElem?_cons_succ, List.set_cons_zero, List.set_cons_succ, List.map_cons, List.map_nil, List.cons_append, List.nil_append, List.replicate_succ, List.replicate_zero, setAll, dr_int, dr_str, dr_bl, dr_non, dr_tup, dr_lst, dr_scr, dr_dK, dr_h0, put_sl, put_h, put_own, put_vh, k_add, k_sub, k_mul, k_div, k_mod, k_pow, k_abs, k_neg, k_lt, k_le, k_gt, k_ge, k_cat, k_catT, k_catL, k_lenL, k_lenT, k_lenF, k_lenS, k_listL, k_listT, k_listF, k_tupL, k_tupT, k_slL, k_slT, k_slF, k_slS, sq_l, sq_t, sq_f, k_min, k_max, ok_app, isL_l, k_isB, k_isnB, k_eqI, k_neI, k_eqB, k_neB, k_eqS, k_neS, sq_tS, sq_lS, dr_tS, dr_lS, wi_nil, wi_cons, no_eq, no_1, no_2, k_lenT', k_lenL', List.all_cons, List.all_nil, Bool.and_true, Bool.and_self, k_inT, k_ninT, k_inL, k_ninL, List.length_cons, List.length_nil, sizeLine_eq, Nat.reduceAdd, Nat.reduceLeDiff, Nat.reduceLT, if_true, if_false, Bool.false_eq_true, Bool.not_true, Bool.not_false, ite_self, implies_true, k_all, k_any, filter_true, true_and, and_true, decide_eq_true_eq, re_nil, re_cons, List.getD_cons_zero, List.getD_cons_succ]
    refine (fresh h1 (by omega) (by omega) (by omega)).mono ?_
    rintro _ st2 ⟨fs, rfl, nd0, lf, nm0, h2⟩
    try simp -dsimp only [po_nx, po_rt, po_bk, po_ct, fr_env, fr_st, w_ok, w_bind, w_of, w_some, w_var, w_slv, w_slo, w_c, w_op, w_un, w_cmp2, w_cmpP, w_ecmpP, w_inP, w_einP, w_ecmp, w_val, w_asB, w_no, w_an, w_or, w_tY, w_ean, w_eor, w_eno, w_eif, w_nil, w_cons, w_consO, w_tup, w_lst, w_pOf, w_pSl, w_slLv, w_slLo, w_rd, w_rd2, w_trd, w_atd, w_atl, w_atv, w_ato, w_pNo, w_asI, w_pSo, w_sl, w_slL, w_cb, w_put, w_mt, w_m1, w_asS, w_seqI, w_rng1, w_rng2, w_range, w_call, w_nx, w_seq, w_asg, w_gN, w_asgO, w_asgH, w_par, w_drop, w_ret, w_retN, w_if, w_brk, w_ct, w_set, w_for, List.getElem?_cons_zero, List.getElem?_cons_succ, List.set_cons_zero, List.set_cons_succ, List.map_cons, List.map_nil, List.cons_append, List.nil_append, List.replicate_succ, List.replicate_zero, setAll, dr_int, dr_str, dr_bl, dr_non, dr_tup, dr_lst, dr_scr, dr_dK, dr_h0, put_sl, put_h, put_own, put_vh, k_add, k_sub, k_mul, k_div, k_mod, k_pow, k_abs, k_neg, k_lt, k_le, k_gt, k_ge, k_cat, k_catT, k_catL, k_lenL, k_lenT, k_lenF, k_lenS, k_listL, k_listT, k_listF, k_tupL, k_tupT, k_slL, k_slT, k_slF, k_slS, sq_l, sq_t, sq_f, k_min, k_max, ok_app, isL_l, k_isB, k_isnB, k_eqI, k_neI, k_eqB, k_neB, k_eqS, k_neS, sq_tS, sq_lS, dr_tS, dr_lS, wi_nil, wi_cons, no_eq, no_1, no_2, k_lenT', k_lenL', List.all_cons, List.all_nil, Bool.and_true, Bool.and_self, k_inT, k_ninT, k_inL, k_ninL, List.length_cons, List.length_nil, sizeLine_eq, Nat.reduceAdd, Nat.reduceLeDiff, Nat.reduceLT, if_true, if_false, Bool.false_eq_true, Bool.not_true, Bool.not_false, ite_self, implies_true, k_all, k_any, filter_true, true_and, and_true, decide_eq_true_eq, re_nil, re_cons, List.getD_cons_zero, List.getD_cons_succ]
    rw [k_sortL (by rw [sizeLine_eq]; omega)]
    have nd : (sortS fs).Nodup := (List.mergeSort_perm _ _).nodup_iff.mpr nd0
    have nm : ∀ x ∈ sortS fs, Nm x := fun x hx => nm0 x (sortS_mem.mp hx)
    have ln : (sortS fs).length ≤ 6 := by rw [sortS_len]; omega
    generalize sortS fs = ns at nd nm ln
    have kn : Oks ns := Nms.ok nm
    try simp -dsimp only [po_nx, po_rt, po_bk, po_ct, fr_env, fr_st, w_ok, w_bind, w_of, w_some, w_var, w_slv, w_slo, w_c, w_op, w_un, w_cmp2, w_cmpP, w_ecmpP, w_inP, w_einP, w_ecmp, w_val, w_asB, w_no, w_an, w_or, w_tY, w_ean, w_eor, w_eno, w_eif, w_nil, w_cons, w_consO, w_tup, w_lst, w_pOf, w_pSl, w_slLv, w_slLo, w_rd, w_rd2, w_trd, w_atd, w_atl, w_atv, w_ato, w_pNo, w_asI, w_pSo, w_sl, w_slL, w_cb, w_put, w_mt, w_m1, w_asS, w_seqI, w_rng1, w_rng2, w_range, w_call, w_nx, w_seq, w_asg, w_gN, w_asgO, w_asgH, w_par, w_drop, w_ret, w_retN, w_if, w_brk, w_ct, w_set, w_for, List.getElem?_cons_zero, List.getElem?_cons_succ, List.set_cons_zero, List.set_cons_succ, List.map_cons, List.map_nil, List.cons_append, List.nil_append, List.replicate_succ, List.replicate_zero, setAll, dr_int, dr_str, dr_bl, dr_non, dr_tup, dr_lst, dr_scr, dr_dK, dr_h0, put_sl, put_h, put_own, put_vh, k_add, k_sub, k_mul, k_div, k_mod, k_pow, k_abs, k_neg, k_lt, k_le, k_gt, k_ge, k_cat, k_catT, k_catL, k_lenL, k_lenT, k_lenF, k_lenS, k_listL, k_listT, k_listF, k_tupL, k_tupT, k_slL, k_slT, k_slF, k_slS, sq_l, sq_t, sq_f, k_min, k_max, ok_app, isL_l, k_isB, k_isnB, k_eqI, k_neI, k_eqB, k_neB, k_eqS, k_neS, sq_tS, sq_lS, dr_tS, dr_lS, wi_nil, wi_cons, no_eq, no_1, no_2, k_lenT', k_lenL', List.all_cons, List.all_nil, Bool.and_true, Bool.and_self, k_inT, k_ninT, k_inL, k_ninL, List.length_cons, List.length_nil, sizeLine_eq, Nat.reduceAdd, Nat.reduceLeDiff, Nat.reduceLT, if_true, if_false, Bool.false_eq_true, Bool.not_true, Bool.not_false, ite_self, implies_true, k_all, k_any, filter_true, true_and, and_true, decide_eq_true_eq, re_nil, re_cons, List.getD_cons_zero, List.getD_cons_succ]
    refine (family h2 (by omega) ln kn nd).mono ?_
    rintro _ st3 ⟨B, O, rfl, hdec, rB, rO, h3⟩
    try simp -dsimp only [po_nx, po_rt, po_bk, po_ct, fr_env, fr_st, w_ok, w_bind, w_of, w_some, w_var, w_slv, w_slo, w_c, w_op, w_un, w_cmp2, w_cmpP, w_ecmpP, w_inP, w_einP, w_ecmp, w_val, w_asB, w_no, w_an, w_or, w_tY, w_ean, w_eor, w_eno, w_eif, w_nil, w_cons, w_consO, w_tup, w_lst, w_pOf, w_pSl, w_slLv, w_slLo, w_rd, w_rd2, w_trd, w_atd, w_atl, w_atv, w_ato, w_pNo, w_asI, w_pSo, w_sl, w_slL, w_cb, w_put, w_mt, w_m1, w_asS, w_seqI, w_rng1, w_rng2, w_range, w_call, w_nx, w_seq, w_asg, w_gN, w_asgO, w_asgH, w_par, w_drop, w_ret, w_retN, w_if, w_brk, w_ct, w_set, w_for, List.getElem?_cons_zero, List.getElem?_cons_succ, List.set_cons_zero, List.set_cons_succ, List.map_cons, List.map_nil, List.cons_append, List.nil_append, List.replicate_succ, List.replicate_zero, setAll, dr_int, dr_str, dr_bl, dr_non, dr_tup, dr_lst, dr_scr, dr_dK, dr_h0, put_sl, put_h, put_own, put_vh, k_add, k_sub, k_mul, k_div, k_mod, k_pow, k_abs, k_neg, k_lt, k_le, k_gt, k_ge, k_cat, k_catT, k_catL, k_lenL, k_lenT, k_lenF, k_lenS, k_listL, k_listT, k_listF, k_tupL, k_tupT, k_slL, k_slT, k_slF, k_slS, sq_l, sq_t, sq_f, k_min, k_max, ok_app, isL_l, k_isB, k_isnB, k_eqI, k_neI, k_eqB, k_neB, k_eqS, k_neS, sq_tS, sq_lS, dr_tS, dr_lS, wi_nil, wi_cons, no_eq, no_1, no_2, k_lenT', k_lenL', List.all_cons, List.all_nil, Bool.and_true, Bool.and_self, k_inT, k_ninT, k_inL, k_ninL, List.length_cons, List.length_nil, sizeLine_eq, Nat.reduceAdd, Nat.reduceLeDiff, Nat.reduceLT, if_true, if_false, Bool.false_eq_true, Bool.not_true, Bool.not_false, ite_self, implies_true, k_all, k_any, filter_true, true_and, and_true, decide_eq_true_eq, re_nil, re_cons, List.getD_cons_zero, List.getD_cons_succ]
    refine (shuffled h3 (by omega) kn (by omega)).mono ?_
    rintro _ st4 ⟨p, rfl, pm, h4⟩
    try simp -dsimp only [po_nx, po_rt, po_bk, po_ct, fr_env, fr_st, w_ok, w_bind, w_of, w_some, w_var, w_slv, w_slo, w_c, w_op, w_un, w_cmp2, w_cmpP, w_ecmpP, w_inP, w_einP, w_ecmp, w_val, w_asB, w_no, w_an, w_or, w_tY, w_ean, w_eor, w_eno, w_eif, w_nil, w_cons, w_consO, w_tup, w_lst, w_pOf, w_pSl, w_slLv, w_slLo, w_rd, w_rd2, w_trd, w_atd, w_atl, w_atv, w_ato, w_pNo, w_asI, w_pSo, w_sl, w_slL, w_cb, w_put, w_mt, w_m1, w_asS, w_seqI, w_rng1, w_rng2, w_range, w_call, w_nx, w_seq, w_asg, w_gN, w_asgO, w_asgH, w_par, w_drop, w_ret, w_retN, w_if, w_brk, w_ct, w_set, w_for, List.getElem?_cons_zero, List.getElem?_cons_succ, List.set_cons_zero, List.set_cons_succ, List.map_cons, List.map_nil, List.cons_append, List.nil_append, List.replicate_succ, List.replicate_zero, setAll, dr_int, dr_str, dr_bl, dr_non, dr_tup, dr_lst, dr_scr, dr_dK, dr_h0, put_sl, put_h, put_own, put_vh, k_add, k_sub, k_mul, k_div, k_mod, k_pow, k_abs, k_neg, k_lt, k_le, k_gt, k_ge, k_cat, k_catT, k_catL, k_lenL, k_lenT, k_lenF, k_lenS, k_listL, k_listT, k_listF, k_tupL, k_tupT, k_slL, k_slT, k_slF, k_slS, sq_l, sq_t, sq_f, k_min, k_max, ok_app, isL_l, k_isB, k_isnB, k_eqI, k_neI, k_eqB, k_neB, k_eqS, k_neS, sq_tS, sq_lS, dr_tS, dr_lS, wi_nil, wi_cons, no_eq, no_1, no_2, k_lenT', k_lenL', List.all_cons, List.all_nil, Bool.and_true, Bool.and_self, k_inT, k_ninT, k_inL, k_ninL, List.length_cons, List.length_nil, sizeLine_eq, Nat.reduceAdd, Nat.reduceLeDiff, Nat.reduceLT, if_true, if_false, Bool.false_eq_true, Bool.not_true, Bool.not_false, ite_self, implies_true, k_all, k_any, filter_true, true_and, and_true, decide_eq_true_eq, re_nil, re_cons, List.getD_cons_zero, List.getD_cons_succ]
    rw [ix0]
    simp -dsimp only [po_nx, po_rt, po_bk, po_ct, fr_env, fr_st, w_ok, w_bind, w_of, w_some, w_var, w_slv, w_slo, w_c, w_op, w_un, w_cmp2, w_cmpP, w_ecmpP, w_inP, w_einP, w_ecmp, w_val, w_asB, w_no, w_an, w_or, w_tY, w_ean, w_eor, w_eno, w_eif, w_nil, w_cons, w_consO, w_tup, w_lst, w_pOf, w_pSl, w_slLv, w_slLo, w_rd, w_rd2, w_trd, w_atd, w_atl, w_atv, w_ato, w_pNo, w_asI, w_pSo, w_sl, w_slL, w_cb, w_put, w_mt, w_m1, w_asS, w_seqI, w_rng1, w_rng2, w_range, w_call, w_nx, w_seq, w_asg, w_gN, w_asgO, w_asgH, w_par, w_drop, w_ret, w_retN, w_if, w_brk, w_ct, w_set, w_for, List.getElem?_cons_zero, List.getElem?_cons_succ, List.set_cons_zero, List.set_cons_succ, List.map_cons, List.map_nil, List.cons_append, List.nil_append, List.replicate_succ, List.replicate_zero, setAll, dr_int, dr_str, dr_bl, dr_non, dr_tup, dr_lst, dr_scr, dr_dK, dr_h0, put_sl, put_h, put_own, put_vh, k_add, k_sub, k_mul, k_div, k_mod, k_pow, k_abs, k_neg, k_lt, k_le, k_gt, k_ge, k_cat, k_catT, k_catL, k_lenL, k_lenT, k_lenF, k_lenS, k_listL, k_listT, k_listF, k_tupL, k_tupT, k_slL, k_slT, k_slF, k_slS, sq_l, sq_t, sq_f, k_min, k_max, ok_app, isL_l, k_isB, k_isnB, k_eqI, k_neI, k_eqB, k_neB, k_eqS, k_neS, sq_tS, sq_lS, dr_tS, dr_lS, wi_nil, wi_cons, no_eq, no_1, no_2, k_lenT', k_lenL', List.all_cons, List.all_nil, Bool.and_true, Bool.and_self, k_inT, k_ninT, k_inL, k_ninL, List.length_cons, List.length_nil, sizeLine_eq, Nat.reduceAdd, Nat.reduceLeDiff, Nat.reduceLT, if_true, if_false, Bool.false_eq_true, Bool.not_true, Bool.not_false, ite_self, implies_true, k_all, k_any, filter_true, true_and, and_true, decide_eq_true_eq, re_nil, re_cons, List.getD_cons_zero, List.getD_cons_succ]
    rw [ix1]
    simp -dsimp only [po_nx, po_rt, po_bk, po_ct, fr_env, fr_st, w_ok, w_bind, w_of, w_some, w_var, w_slv, w_slo, w_c, w_op, w_un, w_cmp2, w_cmpP, w_ecmpP, w_inP, w_einP, w_ecmp, w_val, w_asB, w_no, w_an, w_or, w_tY, w_ean, w_eor, w_eno, w_eif, w_nil, w_cons, w_consO, w_tup, w_lst, w_pOf, w_pSl, w_slLv, w_slLo, w_rd, w_rd2, w_trd, w_atd, w_atl, w_atv, w_ato, w_pNo, w_asI, w_pSo, w_sl, w_slL, w_cb, w_put, w_mt, w_m1, w_asS, w_seqI, w_rng1, w_rng2, w_range, w_call, w_nx, w_seq, w_asg, w_gN, w_asgO, w_asgH, w_par, w_drop, w_ret, w_retN, w_if, w_brk, w_ct, w_set, w_for, List.getElem?_cons_zero, List.getElem?_cons_succ, List.set_cons_zero, List.set_cons_succ, List.map_cons, List.map_nil, List.cons_append, List.nil_append, List.replicate_succ, List.replicate_zero, setAll, dr_int, dr_str, dr_bl, dr_non, dr_tup, dr_lst, dr_scr, dr_dK, dr_h0, put_sl, put_h, put_own, put_vh, k_add, k_sub, k_mul, k_div, k_mod, k_pow, k_abs, k_neg, k_lt, k_le, k_gt, k_ge, k_cat, k_catT, k_catL, k_lenL, k_lenT, k_lenF, k_lenS, k_listL, k_listT, k_listF, k_tupL, k_tupT, k_slL, k_slT, k_slF, k_slS, sq_l, sq_t, sq_f, k_min, k_max, ok_app, isL_l, k_isB, k_isnB, k_eqI, k_neI, k_eqB, k_neB, k_eqS, k_neS, sq_tS, sq_lS, dr_tS, dr_lS, wi_nil, wi_cons, no_eq, no_1, no_2, k_lenT', k_lenL', List.all_cons, List.all_nil, Bool.and_true, Bool.and_self, k_inT, k_ninT, k_inL, k_ninL, List.length_cons, List.length_nil, sizeLine_eq, Nat.reduceAdd, Nat.reduceLeDiff, Nat.reduceLT, if_true, if_false, Bool.false_eq_true, Bool.not_true, Bool.not_false, ite_self, implies_true, k_all, k_any, filter_true, true_and, and_true, decide_eq_true_eq, re_nil, re_cons, List.getD_cons_zero, List.getD_cons_succ]
    refine (decides_is (.inl rfl) (by have := pm.length_eq; omega) (rB.to2.short kn) (rO.to2.short kn)).mono ?_
    rintro _ _ ⟨rfl, rfl⟩
    rw [dec_perm pm, hdec]
    simp -dsimp only [po_nx, po_rt, po_bk, po_ct, fr_env, fr_st, w_ok, w_bind, w_of, w_some, w_var, w_slv, w_slo, w_c, w_op, w_un, w_cmp2, w_cmpP, w_ecmpP, w_inP, w_einP, w_ecmp, w_val, w_asB, w_no, w_an, w_or, w_tY, w_ean, w_eor, w_eno, w_eif, w_nil, w_cons, w_consO, w_tup, w_lst, w_pOf, w_pSl, w_slLv, w_slLo, w_rd, w_rd2, w_trd, w_atd, w_atl, w_atv, w_ato, w_pNo, w_asI, w_pSo, w_sl, w_slL, w_cb, w_put, w_mt, w_m1, w_asS, w_seqI, w_rng1, w_rng2, w_range, w_call, w_nx, w_seq, w_asg, w_gN, w_asgO, w_asgH, w_par, w_drop, w_ret, w_retN, w_if, w_brk, w_ct, w_set, w_for, List.getElem?_cons_zero, List.getElem?_cons_succ, List.set_cons_zero, List.set_cons_succ, List.map_cons, List.map_nil, List.cons_append, List.nil_append, List.replicate_succ, List.replicate_zero, setAll, dr_int, dr_str, dr_bl, dr_non, dr_tup, dr_lst, dr_scr, dr_dK, dr_h0, put_sl, put_h, put_own, put_vh, k_add, k_sub, k_mul, k_div, k_mod, k_pow, k_abs, k_neg, k_lt, k_le, k_gt, k_ge, k_cat, k_catT, k_catL, k_lenL, k_lenT, k_lenF, k_lenS, k_listL, k_listT, k_listF, k_tupL, k_tupT, k_slL, k_slT, k_slF, k_slS, sq_l, sq_t, sq_f, k_min, k_max, ok_app, isL_l, k_isB, k_isnB, k_eqI, k_neI, k_eqB, k_neB, k_eqS, k_neS, sq_tS, sq_lS, dr_tS, dr_lS, wi_nil, wi_cons, no_eq, no_1, no_2, k_lenT', k_lenL', List.all_cons, List.all_nil, Bool.and_true, Bool.and_self, k_inT, k_ninT, k_inL, k_ninL, List.length_cons, List.length_nil, sizeLine_eq, Nat.reduceAdd, Nat.reduceLeDiff, Nat.reduceLT, if_true, if_false, Bool.false_eq_true, Bool.not_true, Bool.not_false, ite_self, implies_true, k_all, k_any, filter_true, true_and, and_true, decide_eq_true_eq, re_nil, re_cons, List.getD_cons_zero, List.getD_cons_succ]
    refine ⟨by decide, by decide, ?_⟩
    refine for_inv (fun j s => ∃ (st : List D) (s5 s6 s7 s8 s9 : VL.Slot), s = ⟨[.val (.scr (cs.map .int)), .val (.h 0), .val (.int (0 + i)), .val (lS ns), .val (.tup [.lst (B.map tS), .lst (O.map tS)]), s5, s6, s7, s8, s9], st⟩ ∧ Pen (300 * i + 237 + 6 * j) st) ⟨_, _, _, _, _, _, rfl, h4.mono (by omega)⟩ ?_ ?_
    · rintro j d s hd ⟨st5, t5, t6, t7, t8, t9, rfl, h5⟩
      obtain ⟨hj, rfl⟩ := rng_get hd
      have hj : j < 6 := by simpa using hj
      simp -dsimp only [po_nx, po_rt, po_bk, po_ct, fr_env, fr_st, w_ok, w_bind, w_of, w_some, w_var, w_slv, w_slo, w_c, w_op, w_un, w_cmp2, w_cmpP, w_ecmpP, w_inP, w_einP, w_ecmp, w_val, w_asB, w_no, w_an, w_or, w_tY, w_ean, w_eor, w_eno, w_eif, w_nil, w_cons, w_consO, w_tup, w_lst, w_pOf, w_pSl, w_slLv, w_slLo, w_rd, w_rd2, w_trd, w_atd, w_atl, w_atv, w_ato, w_pNo, w_asI, w_pSo, w_sl, w_slL, w_cb, w_put, w_mt, w_m1, w_asS, w_seqI, w_rng1, w_rng2, w_range, w_call, w_nx, w_seq, w_asg, w_gN, w_asgO, w_asgH, w_par, w_drop, w_ret, w_retN, w_if, w_brk, w_ct, w_set, w_for, List.getElem?_cons_zero, List.getElem?_cons_succ, List.set_cons_zero, List.set_cons_succ, List.map_cons, List.map_nil, List.cons_append, List.nil_append, List.replicate_succ, List.replicate_zero, setAll, dr_int, dr_str, dr_bl, dr_non, dr_tup, dr_lst, dr_scr, dr_dK, dr_h0, put_sl, put_h, put_own, put_vh, k_add, k_sub, k_mul, k_div, k_mod, k_pow, k_abs, k_neg, k_lt, k_le, k_gt, k_ge, k_cat, k_catT, k_catL, k_lenL, k_lenT, k_lenF, k_lenS, k_listL, k_listT, k_listF, k_tupL, k_tupT, k_slL, k_slT, k_slF, k_slS, sq_l, sq_t, sq_f, k_min, k_max, ok_app, isL_l, k_isB, k_isnB, k_eqI, k_neI, k_eqB, k_neB, k_eqS, k_neS, sq_tS, sq_lS, dr_tS, dr_lS, wi_nil, wi_cons, no_eq, no_1, no_2, k_lenT', k_lenL', List.all_cons, List.all_nil, Bool.and_true, Bool.and_self, k_inT, k_ninT, k_inL, k_ninL, List.length_cons, List.length_nil, sizeLine_eq, Nat.reduceAdd, Nat.reduceLeDiff, Nat.reduceLT, if_true, if_false, Bool.false_eq_true, Bool.not_true, Bool.not_false, ite_self, implies_true, k_all, k_any, filter_true, true_and, and_true, decide_eq_true_eq, re_nil, re_cons, List.getD_cons_zero, List.getD_cons_succ]
      rw [gt2]
      simp -dsimp only [po_nx, po_rt, po_bk, po_ct, fr_env, fr_st, w_ok, w_bind, w_of, w_some, w_var, w_slv, w_slo, w_c, w_op, w_un, w_cmp2, w_cmpP, w_ecmpP, w_inP, w_einP, w_ecmp, w_val, w_asB, w_no, w_an, w_or, w_tY, w_ean, w_eor, w_eno, w_eif, w_nil, w_cons, w_consO, w_tup, w_lst, w_pOf, w_pSl, w_slLv, w_slLo, w_rd, w_rd2, w_trd, w_atd, w_atl, w_atv, w_ato, w_pNo, w_asI, w_pSo, w_sl, w_slL, w_cb, w_put, w_mt, w_m1, w_asS, w_seqI, w_rng1, w_rng2, w_range, w_call, w_nx, w_seq, w_asg, w_gN, w_asgO, w_asgH, w_par, w_drop, w_ret, w_retN, w_if, w_brk, w_ct, w_set, w_for, List.getElem?_cons_zero, List.getElem?_cons_succ, List.set_cons_zero, List.set_cons_succ, List.map_cons, List.map_nil, List.cons_append, List.nil_append, List.replicate_succ, List.replicate_zero, setAll, dr_int, dr_str, dr_bl, dr_non, dr_tup, dr_lst, dr_scr, dr_dK, dr_h0, put_sl, put_h, put_own, put_vh, k_add, k_sub, k_mul, k_div, k_mod, k_pow, k_abs, k_neg, k_lt, k_le, k_gt, k_ge, k_cat, k_catT, k_catL, k_lenL, k_lenT, k_lenF, k_lenS, k_listL, k_listT, k_listF, k_tupL, k_tupT, k_slL, k_slT, k_slF, k_slS, sq_l, sq_t, sq_f, k_min, k_max, ok_app, isL_l, k_isB, k_isnB, k_eqI, k_neI, k_eqB, k_neB, k_eqS, k_neS, sq_tS, sq_lS, dr_tS, dr_lS, wi_nil, wi_cons, no_eq, no_1, no_2, k_lenT', k_lenL', List.all_cons, List.all_nil, Bool.and_true, Bool.and_self, k_inT, k_ninT, k_inL, k_ninL, List.length_cons, List.length_nil, sizeLine_eq, Nat.reduceAdd, Nat.reduceLeDiff, Nat.reduceLT, if_true, if_false, Bool.false_eq_true, Bool.not_true, Bool.not_false, ite_self, implies_true, k_all, k_any, filter_true, true_and, and_true, decide_eq_true_eq, re_nil, re_cons, List.getD_cons_zero, List.getD_cons_succ]
      refine (draw h5 (by omega) (by omega) (by omega)).mono ?_
      rintro _ st6 ⟨c, rfl, c1, c2, h6⟩
      try simp -dsimp only [po_nx, po_rt, po_bk, po_ct, fr_env, fr_st, w_ok, w_bind, w_of, w_some, w_var, w_slv, w_slo, w_c, w_op, w_un, w_cmp2, w_cmpP, w_ecmpP, w_inP, w_einP, w_ecmp, w_val, w_asB, w_no, w_an, w_or, w_tY, w_ean, w_eor, w_eno, w_eif, w_nil, w_cons, w_consO, w_tup, w_lst, w_pOf, w_pSl, w_slLv, w_slLo, w_rd, w_rd2, w_trd, w_atd, w_atl, w_atv, w_ato, w_pNo, w_asI, w_pSo, w_sl, w_slL, w_cb, w_put, w_mt, w_m1, w_asS, w_seqI, w_rng1, w_rng2, w_range, w_call, w_nx, w_seq, w_asg, w_gN, w_asgO, w_asgH, w_par, w_drop, w_ret, w_retN, w_if, w_brk, w_ct, w_set, w_for, List.getElem?_cons_zero, List.getElem?_cons_succ, List.set_cons_zero, List.set_cons_succ, List.map_cons, List.map_nil, List.cons_append, List.nil_append, List.replicate_succ, List.replicate_zero, setAll, dr_int, dr_str, dr_bl, dr_non, dr_tup, dr_lst, dr_scr, dr_dK, dr_h0, put_sl, put_h, put_own, put_vh, k_add, k_sub, k_mul, k_div, k_mod, k_pow, k_abs, k_neg, k_lt, k_le, k_gt, k_ge, k_cat, k_catT, k_catL, k_lenL, k_lenT, k_lenF, k_lenS, k_listL, k_listT, k_listF, k_tupL, k_tupT, k_slL, k_slT, k_slF, k_slS, sq_l, sq_t, sq_f, k_min, k_max, ok_app, isL_l, k_isB, k_isnB, k_eqI, k_neI, k_eqB, k_neB, k_eqS, k_neS, sq_tS, sq_lS, dr_tS, dr_lS, wi_nil, wi_cons, no_eq, no_1, no_2, k_lenT', k_lenL', List.all_cons, List.all_nil, Bool.and_true, Bool.and_self, k_inT, k_ninT, k_inL, k_ninL, List.length_cons, List.length_nil, sizeLine_eq, Nat.reduceAdd, Nat.reduceLeDiff, Nat.reduceLT, if_true, if_false, Bool.false_eq_true, Bool.not_true, Bool.not_false, ite_self, implies_true, k_all, k_any, filter_true, true_and, and_true, decide_eq_true_eq, re_nil, re_cons, List.getD_cons_zero, List.getD_cons_succ]
      split
      · refine (changed h6 (by omega) ln rB).mono ?_
        rintro _ st7 ⟨L, rfl, hL, h7⟩
        exact turn_end (by omega) nm hL rO.to2 fun r p => ⟨_, _, _, _, _, _, rfl, h7.mono (by omega)⟩
      · refine (changed h6 (by omega) ln rO).mono ?_
        rintro _ st7 ⟨L, rfl, hL, h7⟩
        exact turn_end (by omega) nm rB.to2 hL fun r p => ⟨_, _, _, _, _, _, rfl, h7.mono (by omega)⟩
    · rintro s ⟨st5, t5, t6, t7, t8, t9, rfl, h5⟩
      try simp -dsimp only [po_nx, po_rt, po_bk, po_ct, fr_env, fr_st, w_ok, w_bind, w_of, w_some, w_var, w_slv, w_slo, w_c, w_op, w_un, w_cmp2, w_cmpP, w_ecmpP, w_inP, w_einP, w_ecmp, w_val, w_asB, w_no, w_an, w_or, w_tY, w_ean, w_eor, w_eno, w_eif, w_nil, w_cons, w_consO, w_tup, w_lst, w_pOf, w_pSl, w_slLv, w_slLo, w_rd, w_rd2, w_trd, w_atd, w_atl, w_atv, w_ato, w_pNo, w_asI, w_pSo, w_sl, w_slL, w_cb, w_put, w_mt, w_m1, w_asS, w_seqI, w_rng1, w_rng2, w_range, w_call, w_nx, w_seq, w_asg, w_gN, w_asgO, w_asgH, w_par, w_drop, w_ret, w_retN, w_if, w_brk, w_ct, w_set, w_for, List.getElem?_cons_zero, List.getElem?_cons_succ, List.set_cons_zero, List.set_cons_succ, List.map_cons, List.map_nil, List.cons_append, List.nil_append, List.replicate_succ, List.replicate_zero, setAll, dr_int, dr_str, dr_bl, dr_non, dr_tup, dr_lst, dr_scr, dr_dK, dr_h0, put_sl, put_h, put_own, put_vh, k_add, k_sub, k_mul, k_div, k_mod, k_pow, k_abs, k_neg, k_lt, k_le, k_gt, k_ge, k_cat, k_catT, k_catL, k_lenL, k_lenT, k_lenF, k_lenS, k_listL, k_listT, k_listF, k_tupL, k_tupT, k_slL, k_slT, k_slF, k_slS, sq_l, sq_t, sq_f, k_min, k_max, ok_app, isL_l, k_isB, k_isnB, k_eqI, k_neI, k_eqB, k_neB, k_eqS, k_neS, sq_tS, sq_lS, dr_tS, dr_lS, wi_nil, wi_cons, no_eq, no_1, no_2, k_lenT', k_lenL', List.all_cons, List.all_nil, Bool.and_true, Bool.and_self, k_inT, k_ninT, k_inL, k_ninL, List.length_cons, List.length_nil, sizeLine_eq, Nat.reduceAdd, Nat.reduceLeDiff, Nat.reduceLT, if_true, if_false, Bool.false_eq_true, Bool.not_true, Bool.not_false, ite_self, implies_true, k_all, k_any, filter_true, true_and, and_true, decide_eq_true_eq, re_nil, re_cons, List.getD_cons_zero, List.getD_cons_succ]
      exact ⟨_, _, _, _, _, _, _, _, _, rfl, h5.mono (by rw [rng_len]; show _ + 6 * 6 ≤ _; omega)⟩
  · rintro s ⟨st, s2, s3, s4, s5, s6, s7, s8, s9, rfl, hp⟩
    try simp -dsimp only [po_nx, po_rt, po_bk, po_ct, fr_env, fr_st, w_ok, w_bind, w_of, w_some, w_var, w_slv, w_slo, w_c, w_op, w_un, w_cmp2, w_cmpP, w_ecmpP, w_inP, w_einP, w_ecmp, w_val, w_asB, w_no, w_an, w_or, w_tY, w_ean, w_eor, w_eno, w_eif, w_nil, w_cons, w_consO, w_tup, w_lst, w_pOf, w_pSl, w_slLv, w_slLo, w_rd, w_rd2, w_trd, w_atd, w_atl, w_atv, w_ato, w_pNo, w_asI, w_pSo, w_sl, w_slL, w_cb, w_put, w_mt, w_m1, w_asS, w_seqI, w_rng1, w_rng2, w_range, w_call, w_nx, w_seq, w_asg, w_gN, w_asgO, w_asgH, w_par, w_drop, w_ret, w_retN, w_if, w_brk, w_ct, w_set, w_for, List.getElem?_cons_zero, List.getElem?_cons_succ, List.set_cons_zero, List.set_cons_succ, List.map_cons, List.map_nil, List.cons_append, List.nil_append, List.replicate_succ, List.replicate_zero, setAll, dr_int, dr_str, dr_bl, dr_non, dr_tup, dr_lst, dr_scr, dr_dK, dr_h0, put_sl, put_h, put_own, put_vh, k_add, k_sub, k_mul, k_div, k_mod, k_pow, k_abs, k_neg, k_lt, k_le, k_gt, k_ge, k_cat, k_catT, k_catL, k_lenL, k_lenT, k_lenF, k_lenS, k_listL, k_listT, k_listF, k_tupL, k_tupT, k_slL, k_slT, k_slF, k_slS, sq_l, sq_t, sq_f, k_min, k_max, ok_app, isL_l, k_isB, k_isnB, k_eqI, k_neI, k_eqB, k_neB, k_eqS, k_neS, sq_tS, sq_lS, dr_tS, dr_lS, wi_nil, wi_cons, no_eq, no_1, no_2, k_lenT', k_lenL', List.all_cons, List.all_nil, Bool.and_true, Bool.and_self, k_inT, k_ninT, k_inL, k_ninL, List.length_cons, List.length_nil, sizeLine_eq, Nat.reduceAdd, Nat.reduceLeDiff, Nat.reduceLT, if_true, if_false, Bool.false_eq_true, Bool.not_true, Bool.not_false, ite_self, implies_true, k_all, k_any, filter_true, true_and, and_true, decide_eq_true_eq, re_nil, re_cons, List.getD_cons_zero, List.getD_cons_succ]
end K81
set_option Elab.async false
set_option linter.all false
set_option maxRecDepth 100000
set_option maxHeartbeats 4000000
namespace VL
open PySem L2
theorem DefAt.of {K : PySem.W.Frag} {mg : Str → Option Value} {x : Str} {st : Stmt} {f : Addr} {fd : FuncData} (F : FunD K x x (defArgs st) (defBody st) (defScope st) [] [] f fd) (h : mg x = some (.ref f)) : DefAt K mg x st := by
  refine ⟨f, fd, ⟨?_, F.kp⟩, h⟩
  obtain ⟨oc, od, dV, kV, doc, pm, an, cdv, ct, osl, e, l, c, d, k⟩ := F.ex
  rcases d with ⟨_, rfl⟩ | ⟨n, _⟩
  · exact ⟨oc, od, kV, doc, pm, an, cdv, ct, osl, e, l, c⟩
  · exact (n rfl).elim
/-- the law's def for the end -/
theorem Cal.last {K : PySem.W.Frag} {mg : Str → Option Value} {P : Program} {w : World} {ca : Str → Addr} {CX : CXT} {k : Nat} {x y : Str} {G : Fn} {fa : Addr} {fd : FuncData} {base : Heap} (C : Cal P w K mg base ca CX k x [y] false G) (h : mg x = some (.ref fa)) (L : HasFn K fa fd) :
    FnG P w K mg base CX k fa fd [y] (spF ⟨K, ca⟩ false G) := by
  obtain ⟨f, fd', F, hm, hk, hb, l⟩ := C.ex
  rw [h] at hm
  cases hm
  cases L.one l
  exact F
/-- nothing is tracked but the script -/
theorem only_good {Γ : Gm} {H : Hp} : Good Γ (fun _ => False) [] [] [] H ⟨[], []⟩ :=
  ⟨List.nodup_nil, (fun _ h => nomatch h), (fun _ h => nomatch h), (fun a h => (h.elim (fun z => z) fun z => z.elim (fun z => nomatch z) fun z => nomatch z : False).elim), rfl, rfl, rfl, (fun i j a h => by simp at h), (fun i d h => by simp at h), (fun i d h => by simp at h), fun i d h => by simp at h⟩
theorem ints_rps {Γ : Gm} {η : List Addr} {L : Addr → Prop} {H : Hp} : ∀ ns : List Int, Rps Γ η L H (ns.map V.int) (ns.map D.int)
  | [] => .nil
  | n :: ns => .cons (.int n) (ints_rps ns)
/-- the law's promise from its function -/
def Keeps (G : Fn) : Prop := ∀ ns : List Int, ns.length ≤ 63 → ∃ s, G [.scr (ns.map .int)] [] = .ok (.bl true) s
theorem keeps_sp {K : PySem.W.Frag} {ca : Str → Addr} {G : Fn} (h : Keeps G) {H : Hp} {a : Addr} {ns : List Int} (hl : ns.length ≤ 63) (hO : Only H) (hS : SqL K H a (ns.map V.int)) : spF ⟨K, ca⟩ false G [.ref a] H (fun v _ => v = .bl true) fun _ _ _ => False := by
  obtain ⟨s, e⟩ := h ns hl
  refine ⟨fun _ => False, [], [.scr (ns.map .int)], [], only_good, .cons (.scr ?_ (ints_rps ns)) .nil, ?_⟩
  · rcases hS with (z | ⟨o, z⟩) | z
    · rcases hO a with q | ⟨o, xs, q⟩
      · rw [q] at z; cases z
      · rw [q] at z; cases z
    · exact .inl ⟨o, z, fun q => q.elim (fun z => z) fun z => z.elim (fun z => nomatch z) fun z => nomatch z⟩
    · exact .inr (.inr z)
  · rw [e]
    rintro v H' ⟨η', p, g, st, r⟩
    cases r
    rfl
/-! ### the law's call at the heap behind the top -/
section
variable {P : Program} {w : World} {K : PySem.W.Frag} {mg mb : Str → Option Value} {CX : CXT} {k : Nat} {fa a : Addr} {fd : FuncData} {x : Str} {sp : Sp} {s : Shared} {vs : List Value} {ns : List Int}
def LawBack (s : Shared) (r : Result) (s' : Shared) : Prop := r = .ok (.ret (.bool true)) ∧ OldK s.heap s'.heap ∧ s'.os = s.os ∧ PyProof.Rows.AllBare s'.gens
/-- from any abstract heap that holds at most the script -/
theorem law_at (inK : K.In s.heap) (glob : s.heap.Ns mainGlobals mg) (hb : s.heap.Ns builtinsNs mb) (bb : ∀ x : Str, x ≠ "__name__" → mb x = bootBuiltins x) (lim : s.heap.NoLimit) (ng : s.gens = #[])
    (ha : s.heap.get? a = some { cls := .type "list", data := .seq vs.toArray }) (room : RoomG k callerA) (F : ∀ base : Heap, K.In base → base.Ns mainGlobals mg → FnG P w K mg base CX k fa fd [x] sp) (bnd : ∀ (s : Shared) (u : Value), BindsTo s fd ⟨[u], []⟩ [(x, u)])
    (noX : ∀ H e s', CX [] H s (fun _ _ _ => False) e s' → False) {H : Hp} (only : Only H) (hok : HOk P w H s.heap) (here : ∀ b, H b ≠ none → b = a) (out : H a ≠ none → K.lookup a = none) (hsp : sp [.ref a] H (fun v _ => v = .bl true) fun _ _ _ => False) :
    codeAny (model P w) callerA (.call (.ref fa) ⟨[.ref a], []⟩) (LawBack s) s := by
  have isA : ∀ {b : Addr} {u : HO}, H b = some u → b = a := fun e => here _ (by rw [e]; simp)
  have up : ∀ {b : Addr} {o : Obj}, s.heap.get? b = some o → H b = none → (hidT s.heap H).get? b = some o := fun e n => hidT_get e n
  have nodict : ∀ {b : Addr} {o : Obj} {es : Array DictEntry} {ep : Nat}, s.heap.get? b = some o → o.data = .dict es ep → H b = none := by
    intro b o es ep e d
    cases q : H b with
    | none => rfl
    | some u =>
      obtain rfl := isA q
      rw [ha] at e
      cases e
      exact nomatch d
  have ns' : ∀ {b : Addr} {m : Str → Option Value}, s.heap.Ns b m → (hidT s.heap H).Ns b m := by
    rintro b m ⟨o, es, ep, e, d, r⟩
    exact ⟨o, es, ep, up e (nodict e d), d, r⟩
  have inB : K.In (hidT s.heap H) := by
    intro b o e
    refine up (inK b o e) ?_
    cases q : H b with
    | none => rfl
    | some u =>
      have := out (by rw [← isA q, q]; simp)
      rw [← isA q, e] at this
      exact nomatch this
  have md : Mod K mg (hidT s.heap H) := ⟨inB, ns' glob, ⟨mb, ns' hb, bb⟩, (let ⟨mc, h1, h2⟩ := lim; ⟨mc, ns' h1, h2⟩)⟩
  have e0 : Env0 P w K mg (hidT s.heap H) callerA [] s H := ⟨rfl, md, fun b o e => of_hidT e, Nat.le_of_eq (hidT_size _ _), trivial, (fun b z => nomatch z), hok, .of_eq ng⟩
  refine codeAny_mono ((F _ inB (ns' glob)).run (us := [.ref a]) (vs := [.ref a]) room e0 (bnd s (.ref a)) (.cons rfl .nil) hsp) ?_
  rintro (err | (_ | _ | _ | u)) s' z
  · exact (noX H err s' z).elim
  case ok.next | ok.brk | ok.cont => exact z.elim
  obtain ⟨v, H', os, bare, un, hok', rv, q⟩ := z
  obtain rfl : v = .bl true := q
  obtain rfl : u = Value.bool true := rv
  refine ⟨rfl, OldK.of_keep fun b o e => ?_, os, bare⟩
  cases q : H b with
  | none => exact un.keep b o e q (fun z => nomatch z) (by simp)
  | some u =>
    rcases only b with z | ⟨ob, xs, z⟩
    · rw [q] at z; exact nomatch z
    · have e1 := (hok b _ z).1
      have e2 := (hok' b _ (un.frzs b ob _ z)).1
      rw [e] at e1
      cases e1
      exact e2
theorem law_run (inK : K.In s.heap) (glob : s.heap.Ns mainGlobals mg) (hb : s.heap.Ns builtinsNs mb) (bb : ∀ x : Str, x ≠ "__name__" → mb x = bootBuiltins x) (lim : s.heap.NoLimit) (ng : s.gens = #[])
    (ha : s.heap.get? a = some { cls := .type "list", data := .seq vs.toArray }) (hi : PyProof.Rows.IntsAre vs ns) (hl : ns.length ≤ sizeLine) (room : RoomG k callerA) (F : ∀ base : Heap, K.In base → base.Ns mainGlobals mg → FnG P w K mg base CX k fa fd [x] sp) (bnd : ∀ (s : Shared) (u : Value), BindsTo s fd ⟨[u], []⟩ [(x, u)])
    (noX : ∀ H e s', CX [] H s (fun _ _ _ => False) e s' → False) (hsp : ∀ H : Hp, Only H → SqL K H a (ns.map V.int) → sp [.ref a] H (fun v _ => v = .bl true) fun _ _ _ => False) :
    codeAny (model P w) callerA (.call (.ref fa) ⟨[.ref a], []⟩) (LawBack s) s := by
  have rv := vals_ints hi
  cases lk : K.lookup a with
  | some o =>
    have e := inK a o lk
    rw [ha] at e
    cases e
    exact law_at inK glob hb bb lim ng ha room F bnd noX (H := fun _ => none) (fun _ => .inl rfl) (fun b u z => nomatch (show (none : Option HO) = some u from z)) (fun b z => absurd rfl z) (fun z => absurd rfl z)
      (hsp _ (fun _ => .inl rfl) (.inr ⟨_, vs.toArray, _, lk, rfl, rfl, rfl, by rw [List.size_toArray, hi.length]; exact hl, by simpa using rv⟩))
  | none =>
    have is : ∀ {b : Addr} {u : HO}, (if b = a then some (HO.frz { cls := .type "list", data := .seq vs.toArray } (.lst (ns.map V.int))) else none) = some u → b = a ∧ u = HO.frz { cls := .type "list", data := .seq vs.toArray } (.lst (ns.map V.int)) := by
      intro b u z
      split at z
      · rename_i e; exact ⟨e, (Option.some.inj z).symm⟩
      · exact nomatch z
    have on : Only (fun b => if b = a then some (HO.frz { cls := .type "list", data := .seq vs.toArray } (.lst (ns.map V.int))) else none) := fun b => by
      by_cases e : b = a
      · exact .inr ⟨_, _, if_pos e⟩
      · exact .inl (if_neg e)
    refine law_at inK glob hb bb lim ng ha room F bnd noX on (fun b u z => ?_) (fun b z => ?_) (fun _ => lk) (hsp _ on (.inl (.inr ⟨_, if_pos rfl⟩)))
    · obtain ⟨rfl, rfl⟩ := is z
      exact ⟨ha, by rw [List.length_map]; exact hl, vs, _, rv, ha⟩
    · cases q : (if b = a then some (HO.frz { cls := .type "list", data := .seq vs.toArray } (.lst (ns.map V.int))) else none) with
      | none => exact (z q).elim
      | some u => exact (is q).1
end
theorem walk_ofG {l : PySem.W.OpenLaw} {n k : Nat} {q : Program} {loose : List Str} {XP : (Str → Option Value) → Heap → Prop} {YP : World → Heap → Prop} {d : DefRec} {CX : CXT} {x : Str} (hn : l.most = some n) (hn2 : n ≤ sizeLine) (hdf : d.params.defaults = []) (room : RoomG k callerA)
    (F : ∀ (w : World) (mg : Str → Option Value) (fa : Addr) (h : Heap), YP w h → h.Ns mainGlobals mg → mg d.name = some (.ref fa) →
      ∃ (K : PySem.W.Frag) (fd : FuncData) (sp : Sp), K.In h ∧ (∀ (s : Shared) (u : Value), BindsTo s fd ⟨[u], []⟩ [(x, u)]) ∧
        (∀ (H : Hp) (a : Addr) (ns : List Int), ns.length ≤ n → Only H → SqL K H a (ns.map V.int) → sp [.ref a] H (fun v _ => v = .bl true) fun _ _ _ => False) ∧
        ∀ base : Heap, K.In base → base.Ns mainGlobals mg → FnG l.prog w K mg base CX k fa fd [x] sp)
    (noX : ∀ (H : Hp) (s : Shared) (e : Value) (s' : Shared), CX [] H s (fun _ _ _ => False) e s' → False) : PySem.W.WalkO q loose XP YP l.row.toRowW d [] (fun f vs => PySem.call f vs) := by
  refine Att.attach_call hn hdf fun w s0 s1 mg mb fa o pm cd doc a vs ns G Y ho hd hcd hmg hobj hints hlen hg => ?_
  obtain ⟨K, fd, sp, inK, bnd, hsp, hF⟩ := F w mg fa _ Y G.T.g hmg
  exact law_run inK G.T.g G.T.b G.T.builtins G.T.nolimit hg hobj hints (Nat.le_trans hlen hn2) room hF bnd (fun H e s' => noX H s1 e s') fun H => hsp H a ns hlen
theorem roomG_caller : RoomG 40 callerA := ⟨⟨rfl, by decide, by decide⟩, rfl⟩
end VL
set_option Elab.async false
set_option linter.all false
set_option maxRecDepth 100000
set_option maxHeartbeats 0
namespace K81
open PySem L2 VL
abbrev RR : PySem.W.OpenRow := PySem.W.OpenLaw.row PySem.Challenge.rw_affinewalk_k81_lists_that_decide
def d_subsets : He.DefD := ⟨("subsets", none), "subsets", "subsets", defArgs s_subsets, defBody s_subsets, defScope s_subsets, [], []⟩
def d_is_within : He.DefD := ⟨("is_within", none), "is_within", "is_within", defArgs s_is_within, defBody s_is_within, defScope s_is_within, [], []⟩
def d_decides : He.DefD := ⟨("decides", none), "decides", "decides", defArgs s_decides, defBody s_decides, defScope s_decides, [], []⟩
def d_law_pen : He.DefD := ⟨("_law_pen", none), "_law_pen", "_law_pen", defArgs s_law_pen, defBody s_law_pen, defScope s_law_pen, [], []⟩
def d_law_draw : He.DefD := ⟨("_law_draw", none), "_law_draw", "_law_draw", defArgs s_law_draw, defBody s_law_draw, defScope s_law_draw, [], []⟩
def d_law_pick : He.DefD := ⟨("_law_pick", none), "_law_pick", "_law_pick", defArgs s_law_pick, defBody s_law_pick, defScope s_law_pick, [], []⟩
def d_law_shuffled : He.DefD := ⟨("_law_shuffled", none), "_law_shuffled", "_law_shuffled", defArgs s_law_shuffled, defBody s_law_shuffled, defScope s_law_shuffled, [], []⟩
def d_law_names : He.DefD := ⟨("_law_names", none), "_law_names", "_law_names", defArgs s_law_names, defBody s_law_names, defScope s_law_names, [], []⟩
def d_law_fresh : He.DefD := ⟨("_law_fresh", none), "_law_fresh", "_law_fresh", defArgs s_law_fresh, defBody s_law_fresh, defScope s_law_fresh, [], []⟩
def d_law_sets : He.DefD := ⟨("_law_sets", none), "_law_sets", "_law_sets", defArgs s_law_sets, defBody s_law_sets, defScope s_law_sets, [], []⟩
def d_law_lies_in : He.DefD := ⟨("_law_lies_in", none), "_law_lies_in", "_law_lies_in", defArgs s_law_lies_in, defBody s_law_lies_in, defScope s_law_lies_in, [], []⟩
def d_law_has_less : He.DefD := ⟨("_law_has_less", none), "_law_has_less", "_law_has_less", defArgs s_law_has_less, defBody s_law_has_less, defScope s_law_has_less, [], []⟩
def d_law_has_more : He.DefD := ⟨("_law_has_more", none), "_law_has_more", "_law_has_more", defArgs s_law_has_more, defBody s_law_has_more, defScope s_law_has_more, [], []⟩
def d_law_is_decided : He.DefD := ⟨("_law_is_decided", none), "_law_is_decided", "_law_is_decided", defArgs s_law_is_decided, defBody s_law_is_decided, defScope s_law_is_decided, [], []⟩
def d_law_family : He.DefD := ⟨("_law_family", none), "_law_family", "_law_family", defArgs s_law_family, defBody s_law_family, defScope s_law_family, [], []⟩
def d_law_changed : He.DefD := ⟨("_law_changed", none), "_law_changed", "_law_changed", defArgs s_law_changed, defBody s_law_changed, defScope s_law_changed, [], []⟩
def d_law : He.DefD := ⟨("law", none), "law", "law", defArgs s_law, defBody s_law, defScope s_law, [], []⟩
def FN : List He.DefD := [d_subsets, d_is_within, d_decides, d_law_pen, d_law_draw, d_law_pick, d_law_shuffled, d_law_names, d_law_fresh, d_law_sets, d_law_lies_in, d_law_has_less, d_law_has_more, d_law_is_decided, d_law_family, d_law_changed, d_law]
def FA : List He.Fa := [.glo "subsets", .glo "is_within", .glo "decides", .glo "_law_pen", .glo "_law_draw", .glo "_law_pick", .glo "_law_shuffled", .glo "_law_names", .glo "_law_fresh", .glo "_law_sets", .glo "_law_lies_in", .glo "_law_has_less", .glo "_law_has_more", .glo "_law_is_decided", .glo "_law_family", .glo "_law_changed", .glo "law", .free "abs", .free "all", .free "any", .free "len", .free "list", .free "min", .free "range", .free "repr", .free "set", .free "sorted", .free "tuple"]
abbrev HK : PySem.W.Hook := He.hookD 4 FA FN
def OB (s : PySem.W.SharedT) : He.AlD := He.obsDG 4 FA FN (HandSHeadRun.getT s)
theorem OB_eq (s : PySem.W.SharedT) : OB s = HK.obs s.abs := He.obsDG_eq (HandSHeadRun.getT_eq s)
def LO : List PySem.Str := ["subsets", "is_within", "decides", "_law_pen", "_law_draw", "_law_pick", "_law_shuffled", "_law_names", "_law_fresh", "_law_sets", "_law_lies_in", "_law_has_less", "_law_has_more", "_law_is_decided", "_law_family", "_law_changed"]
theorem RUN (w : World) : HandSHeadRun.RunEq RR (PySem.W.view RR.prog [18]) HK OB 2000 LO w := by
  intro os
  kernel_rfl
theorem facts {P : Program} {w : World} {K : PySem.W.Frag} {h : Heap} {mg : Str → Option Value} (X : K.In h) (G : h.Ns mainGlobals mg) (c : He.SaysD FA FN K) (base : Heap) (ca : Str → Addr) : Cal P w K mg base ca CX0 5 "law" P_law false G_law := by
  have T : Txt mg := ⟨He.free_ok X G (c.fact 17 (f := .free "abs") rfl), He.free_ok X G (c.fact 18 (f := .free "all") rfl), He.free_ok X G (c.fact 19 (f := .free "any") rfl), He.free_ok X G (c.fact 20 (f := .free "len") rfl), He.free_ok X G (c.fact 21 (f := .free "list") rfl), He.free_ok X G (c.fact 22 (f := .free "min") rfl), He.free_ok X G (c.fact 23 (f := .free "range") rfl), He.free_ok X G (c.fact 24 (f := .free "repr") rfl), He.free_ok X G (c.fact 25 (f := .free "set") rfl), He.free_ok X G (c.fact 26 (f := .free "sorted") rfl), He.free_ok X G (c.fact 27 (f := .free "tuple") rfl)⟩
  obtain ⟨_, D_subsets⟩ := c.def_ 0 (d := d_subsets) rfl
  have C_subsets := cal_subsets (P := P) (w := w) (base := base) (ca := ca) (DefAt.of D_subsets (He.glo_ok X G (c.fact 0 (f := .glo "subsets") rfl))) T 
  obtain ⟨_, D_is_within⟩ := c.def_ 1 (d := d_is_within) rfl
  have C_is_within := cal_is_within (P := P) (w := w) (base := base) (ca := ca) (DefAt.of D_is_within (He.glo_ok X G (c.fact 1 (f := .glo "is_within") rfl))) T 
  obtain ⟨_, D_decides⟩ := c.def_ 2 (d := d_decides) rfl
  have C_decides := cal_decides (P := P) (w := w) (base := base) (ca := ca) (DefAt.of D_decides (He.glo_ok X G (c.fact 2 (f := .glo "decides") rfl))) T C_subsets C_is_within
  obtain ⟨_, D_law_pen⟩ := c.def_ 3 (d := d_law_pen) rfl
  have C_law_pen := cal_law_pen (P := P) (w := w) (base := base) (ca := ca) (DefAt.of D_law_pen (He.glo_ok X G (c.fact 3 (f := .glo "_law_pen") rfl))) T 
  obtain ⟨_, D_law_draw⟩ := c.def_ 4 (d := d_law_draw) rfl
  have C_law_draw := cal_law_draw (P := P) (w := w) (base := base) (ca := ca) (DefAt.of D_law_draw (He.glo_ok X G (c.fact 4 (f := .glo "_law_draw") rfl))) T 
  obtain ⟨_, D_law_pick⟩ := c.def_ 5 (d := d_law_pick) rfl
  have C_law_pick := cal_law_pick (P := P) (w := w) (base := base) (ca := ca) (DefAt.of D_law_pick (He.glo_ok X G (c.fact 5 (f := .glo "_law_pick") rfl))) T C_law_draw
  obtain ⟨_, D_law_shuffled⟩ := c.def_ 6 (d := d_law_shuffled) rfl
  have C_law_shuffled := cal_law_shuffled (P := P) (w := w) (base := base) (ca := ca) (DefAt.of D_law_shuffled (He.glo_ok X G (c.fact 6 (f := .glo "_law_shuffled") rfl))) T C_law_draw
  obtain ⟨_, D_law_names⟩ := c.def_ 7 (d := d_law_names) rfl
  have C_law_names := cal_law_names (P := P) (w := w) (base := base) (ca := ca) (DefAt.of D_law_names (He.glo_ok X G (c.fact 7 (f := .glo "_law_names") rfl))) T C_law_draw C_law_pick
  obtain ⟨_, D_law_fresh⟩ := c.def_ 8 (d := d_law_fresh) rfl
  have C_law_fresh := cal_law_fresh (P := P) (w := w) (base := base) (ca := ca) (DefAt.of D_law_fresh (He.glo_ok X G (c.fact 8 (f := .glo "_law_fresh") rfl))) T C_law_names
  obtain ⟨_, D_law_sets⟩ := c.def_ 9 (d := d_law_sets) rfl
  have C_law_sets := cal_law_sets (P := P) (w := w) (base := base) (ca := ca) (DefAt.of D_law_sets (He.glo_ok X G (c.fact 9 (f := .glo "_law_sets") rfl))) T 
  obtain ⟨_, D_law_lies_in⟩ := c.def_ 10 (d := d_law_lies_in) rfl
  have C_law_lies_in := cal_law_lies_in (P := P) (w := w) (base := base) (ca := ca) (DefAt.of D_law_lies_in (He.glo_ok X G (c.fact 10 (f := .glo "_law_lies_in") rfl))) T 
  obtain ⟨_, D_law_has_less⟩ := c.def_ 11 (d := d_law_has_less) rfl
  have C_law_has_less := cal_law_has_less (P := P) (w := w) (base := base) (ca := ca) (DefAt.of D_law_has_less (He.glo_ok X G (c.fact 11 (f := .glo "_law_has_less") rfl))) T C_law_lies_in
  obtain ⟨_, D_law_has_more⟩ := c.def_ 12 (d := d_law_has_more) rfl
  have C_law_has_more := cal_law_has_more (P := P) (w := w) (base := base) (ca := ca) (DefAt.of D_law_has_more (He.glo_ok X G (c.fact 12 (f := .glo "_law_has_more") rfl))) T C_law_lies_in
  obtain ⟨_, D_law_is_decided⟩ := c.def_ 13 (d := d_law_is_decided) rfl
  have C_law_is_decided := cal_law_is_decided (P := P) (w := w) (base := base) (ca := ca) (DefAt.of D_law_is_decided (He.glo_ok X G (c.fact 13 (f := .glo "_law_is_decided") rfl))) T C_law_sets C_law_lies_in
  obtain ⟨_, D_law_family⟩ := c.def_ 14 (d := d_law_family) rfl
  have C_law_family := cal_law_family (P := P) (w := w) (base := base) (ca := ca) (DefAt.of D_law_family (He.glo_ok X G (c.fact 14 (f := .glo "_law_family") rfl))) T C_law_draw C_law_pick C_law_sets C_law_lies_in C_law_has_less C_law_has_more
  obtain ⟨_, D_law_changed⟩ := c.def_ 15 (d := d_law_changed) rfl
  have C_law_changed := cal_law_changed (P := P) (w := w) (base := base) (ca := ca) (DefAt.of D_law_changed (He.glo_ok X G (c.fact 15 (f := .glo "_law_changed") rfl))) T C_law_draw C_law_pick C_law_sets
  obtain ⟨_, D_law⟩ := c.def_ 16 (d := d_law) rfl
  have C_law := cal_law (P := P) (w := w) (base := base) (ca := ca) (DefAt.of D_law (He.glo_ok X G (c.fact 16 (f := .glo "law") rfl))) T C_decides C_law_pen C_law_draw C_law_shuffled C_law_fresh C_law_is_decided C_law_family C_law_changed
  exact C_law
theorem ends (keeps : Keeps G_law) : PySem.Challenge.rw_affinewalk_k81_lists_that_decide.Holds := by
  w_on; o_law
  refine HandSHeadRun.head_any (r := RR) (q := PySem.W.view RR.prog [18]) (H := HK) (ob := OB) (M := 2000) (loose := LO) (d := HandSHeadRun.topDef RR.prog 18) (kwd := []) OB_eq
    (by kernel_rfl) (fun s => by kernel_rfl) RUN (by kernel_rfl) (by kernel_rfl) (by kernel_rfl) (by rfl) (by first | assumption | decide +kernel) (by decide +kernel) ⟨rfl, rfl, rfl, rfl, rfl, by decide +kernel⟩ ?hw ?hc
  case hw => w_witness2
  case hc =>
    refine VL.walk_ofG (l := PySem.Challenge.rw_affinewalk_k81_lists_that_decide) (n := 63) (k := 5) (x := "script") (CX := L2.CX0) rfl (by decide) (by kernel_rfl) (roomG_caller.mono (by decide)) ?F (fun _ _ _ _ z => z)
    intro w mg fa h Y G hmg0
    obtain ⟨K, KX, c⟩ := Y
    have hmg : mg ("law" : PySem.Str) = some (.ref fa) := by
      have e : (HandSHeadRun.topDef RR.prog 18).name = ("law" : PySem.Str) := by kernel_rfl
      rw [← e]
      exact hmg0
    obtain ⟨fd, D⟩ := c.def_ 16 (d := d_law) rfl
    have ea := hmg.symm.trans (He.glo_ok KX G (c.fact 16 (f := .glo "law") rfl))
    cases ea
    have b := FunD.bindsA (ps := ["script"]) D fun _ _ _ _ _ _ us hl => match us, hl with | [_], _ => rfl
    exact ⟨K, fd, spF ⟨K, fun _ => 0⟩ false G_law, KX, (fun s v => b s [v] rfl), (fun H a ns hl hO hS => keeps_sp keeps hl hO hS), fun base _ _ => (facts KX G c base (fun _ => 0)).last (He.glo_ok KX G (c.fact 16 (f := .glo "law") rfl)) (let ⟨oc, od, _, _, _, _, _, _, _, osl, _, l, _⟩ := D.ex; ⟨oc, od, osl, l⟩)⟩
end K81
set_option Elab.async false
set_option linter.all false
set_option maxRecDepth 100000
theorem K81.keeps : VL.Keeps K81.G_law := fun ns h => by
  obtain ⟨d, s, e, q⟩ := (K81.law_ok h).get
  exact ⟨s, by rw [e, q]⟩
open PySem PySem.W PyProof.Rows
theorem PySem.Challenge.cw_affinewalk_k81_lists_that_decide_holds : PySem.Challenge.rw_affinewalk_k81_lists_that_decide.Holds := by
  exact K81.ends K81.keeps
