import PyProof.Rows.All
import Wide.All
import OpenK.AllK
import Wide.FinOn
import HandS.ForMost
import HandS.HeadHook2
import HandS.HeadEnd
import HandS.Head2
import HandS.WordsExc
import HandS.CallSlots
import HandS.WideMore
import HandS.TupAny
import HandS.IsInst
import HandS.HeadWalk
import HandS.Flow
import PySem.Challenge.RW_rosenames_k01_turns_reckoned
set_option Elab.async false
set_option linter.all false
set_option maxRecDepth 100000
set_option maxHeartbeats 4000000
/-! DL: a heapless layer over HandS. Data as trees (D), a small store of what changes (MO), and how both lie in the abstract heap. -/
namespace DL
open PySem L2

/-- what never changes: data as a tree -/
inductive D where
  | non | bl (b : Bool) | int (i : Int) | str (x : Str) | ty (n : String) | glo (k : Nat)
  | tup (ds : List D) | obj (c : Nat) (ds : List D) | lst (ds : List D) | dct (ks : List Key) (ds : List D) | exc (c : Nat) (ds : List D)
/-- a value: data, or the i-th thing of the store -/
inductive W where
  | p (d : D) | m (i : Nat)
/-- a thing that changes -/
inductive MO where
  | lst (ds : List D) | dk (ks : List Key) (ds : List D) | dt (ks : List (List Key)) (ds : List D) | ins (c : Nat) (ns : List Nat) (ws : List D)
abbrev Env := List (Option W)
abbrev Sto := List (Option MO)

/-- what the module's text gives: K, the classes' addresses and attributes (by numbers), the attributes' names, the defs' and classes' addresses -/
structure Ctx where
  K : PySem.W.Frag
  cA : Nat → Addr
  cF : Nat → List Nat
  fN : Nat → Str
  fA : Nat → Addr
  cok : Nat → Bool

/-- an exception's object: its class, its own dict's address -/
def excAt (a C : Addr) (d : Option Addr) : HO := .ext fun h => ∃ oe vs, h.get? a = some oe ∧ oe.cls = .ref C ∧ oe.dict = d ∧ oe.data = .fields vs

def TupAt (K : PySem.W.Frag) (F : Addr → Prop) (H : Hp) (a : Addr) (vs : List V) : Prop :=
  (F a ∧ H a = some (.tup vs)) ∨ ((∃ (o : Obj) (its : Array Value) (n : Nat), K.lookup a = some o ∧ o.cls = .type "tuple" ∧ o.data = .seq its n ∧ its.size ≤ sizeLine ∧ Vals vs its.toList))

def LstAt (K : PySem.W.Frag) (F : Addr → Prop) (H : Hp) (a : Addr) (vs : List V) : Prop :=
  (F a ∧ Rd H a (.lst vs)) ∨
    ∃ (o : Obj) (its : Array Value) (n : Nat), K.lookup a = some o ∧ o.cls = .type "list" ∧ o.dict = none ∧ o.data = .seq its n ∧ its.size ≤ sizeLine ∧ Vals vs its.toList

mutual
def Rep (Z : Ctx) (F : Addr → Prop) (H : Hp) (d : D) (v : V) : Prop := match d with
  | .non => v = .non
  | .bl b => v = .bl b
  | .int i => v = .int i
  | .str x => v = .str x
  | .ty n => v = .ty n
  | .glo k => v = .ref (Z.fA k)
  | .tup ds => ∃ a vs, v = .ref a ∧ TupAt Z.K F H a vs ∧ Reps Z F H ds vs
  | .obj c ds => ∃ a dx vs, v = .ref a ∧ Z.cok c = true ∧ F a ∧ H a = some (.ins (Z.cA c) dx (((Z.cF c).map Z.fN).zip vs)) ∧ (Z.cF c).length = vs.length ∧ Reps Z F H ds vs
  | .lst ds => ∃ a vs, v = .ref a ∧ LstAt Z.K F H a vs ∧ Reps Z F H ds vs
  | .dct ks ds => ∃ a vs, v = .ref a ∧ F a ∧ H a = some (.dK (ks.zip vs)) ∧ ks.length = vs.length ∧ Reps Z F H ds vs
  | .exc c ds => ∃ a dx vs, v = .ref a ∧ Z.cok c = true ∧ F a ∧ H a = some (excAt a (Z.cA c) (some dx)) ∧ F dx ∧ H dx = some (.xd (((Z.cF c).map Z.fN).zip vs)) ∧ (Z.cF c).length = vs.length ∧ Reps Z F H ds vs
def Reps (Z : Ctx) (F : Addr → Prop) (H : Hp) (ds : List D) (vs : List V) : Prop := match ds with
  | [] => vs = []
  | d :: ds => ∃ v r, vs = v :: r ∧ Rep Z F H d v ∧ Reps Z F H ds r
end

section
variable {Z : Ctx} {F F' F1 : Addr → Prop} {H H' H1 : Hp}
theorem TupAt.mono {K : PySem.W.Frag} {a : Addr} {vs : List V} (x : TupAt K F H a vs) (hF : ∀ a, F a → F' a) (hH : ∀ a o, F a → H a = some o → H' a = some o) : TupAt K F' H' a vs := by
  rcases x with ⟨f, h⟩ | h
  · exact .inl ⟨hF a f, hH a _ f h⟩
  · exact .inr h
theorem TupAt.sq {K : PySem.W.Frag} {a : Addr} {vs : List V} (x : TupAt K F H a vs) : SqT K H a vs := by
  rcases x with ⟨_, h⟩ | h
  · exact SqT.of h
  · exact .inr h
theorem LstAt.mono {K : PySem.W.Frag} {a : Addr} {vs : List V} (x : LstAt K F H a vs) (hF : ∀ a, F a → F' a) (hH : ∀ a o, F a → H a = some o → H' a = some o) : LstAt K F' H' a vs := by
  rcases x with ⟨f, h | ⟨o, h⟩⟩ | h
  · exact .inl ⟨hF a f, .inl (hH a _ f h)⟩
  · exact .inl ⟨hF a f, .inr ⟨o, hH a _ f h⟩⟩
  · exact .inr h
theorem LstAt.sq {K : PySem.W.Frag} {a : Addr} {vs : List V} (x : LstAt K F H a vs) : SqL K H a vs := by
  rcases x with ⟨_, h⟩ | h
  · exact .inl h
  · exact .inr h
mutual
theorem Rep.mono (hF : ∀ a, F a → F' a) (hH : ∀ a o, F a → H a = some o → H' a = some o) : ∀ (d : D) (v : V), Rep Z F H d v → Rep Z F' H' d v := fun d v h => match d, h with
  | .non, h => h
  | .bl _, h => h
  | .int _, h => h
  | .str _, h => h
  | .ty _, h => h
  | .glo _, h => h
  | .tup ds, ⟨a, vs, e, t, r⟩ => ⟨a, vs, e, t.mono hF hH, Reps.mono hF hH ds vs r⟩
  | .obj c ds, ⟨a, dx, vs, e, k, f, t, l, r⟩ => ⟨a, dx, vs, e, k, hF a f, hH a _ f t, l, Reps.mono hF hH ds vs r⟩
  | .lst ds, ⟨a, vs, e, t, r⟩ => ⟨a, vs, e, t.mono hF hH, Reps.mono hF hH ds vs r⟩
  | .dct ks ds, ⟨a, vs, e, f, t, l, r⟩ => ⟨a, vs, e, hF a f, hH a _ f t, l, Reps.mono hF hH ds vs r⟩
  | .exc c ds, ⟨a, dx, vs, e, k, f, t, f', t', l, r⟩ => ⟨a, dx, vs, e, k, hF a f, hH a _ f t, hF dx f', hH dx _ f' t', l, Reps.mono hF hH ds vs r⟩
theorem Reps.mono (hF : ∀ a, F a → F' a) (hH : ∀ a o, F a → H a = some o → H' a = some o) : ∀ (ds : List D) (vs : List V), Reps Z F H ds vs → Reps Z F' H' ds vs := fun ds vs h => match ds, h with
  | [], h => h
  | d :: ds, ⟨v, r, e, h1, h2⟩ => ⟨v, r, e, Rep.mono hF hH d v h1, Reps.mono hF hH ds r h2⟩
end
theorem Reps.length : ∀ {ds : List D} {vs : List V}, Reps Z F H ds vs → vs.length = ds.length
  | [], _, h => by cases h; rfl
  | d :: ds, _, ⟨v, r, e, _, h⟩ => by subst e; simp [Reps.length h]
theorem Reps.get : ∀ {ds : List D} {vs : List V} {i : Nat} {d : D}, Reps Z F H ds vs → ds[i]? = some d → ∃ v, vs[i]? = some v ∧ Rep Z F H d v
  | [], _, i, d, _, e => by simp at e
  | x :: ds, _, 0, d, ⟨v, r, e, h1, _⟩, h => by subst e; simp at h; subst h; exact ⟨v, rfl, h1⟩
  | x :: ds, _, i + 1, d, ⟨v, r, e, _, h2⟩, h => by
    subst e
    obtain ⟨u, h3, h4⟩ := Reps.get (i := i) h2 (by simpa using h)
    exact ⟨u, by simpa using h3, h4⟩
theorem Reps.getV : ∀ {ds : List D} {vs : List V} {i : Nat} {v : V}, Reps Z F H ds vs → vs[i]? = some v → ∃ d, ds[i]? = some d ∧ Rep Z F H d v := fun {ds vs i v} h e => by
  have hl := h.length
  have hi : i < ds.length := by rw [← hl]; exact (List.getElem?_eq_some_iff.mp e).1
  obtain ⟨u, h1, h2⟩ := h.get (List.getElem?_eq_getElem hi)
  rw [e] at h1; cases h1
  exact ⟨_, List.getElem?_eq_getElem hi, h2⟩
theorem Reps.append : ∀ {ds es : List D} {vs us : List V}, Reps Z F H ds vs → Reps Z F H es us → Reps Z F H (ds ++ es) (vs ++ us)
  | [], _, _, _, h, k => by cases h; exact k
  | d :: ds, _, _, _, ⟨v, r, e, h1, h2⟩, k => by subst e; exact ⟨v, _, rfl, h1, Reps.append h2 k⟩
theorem Reps.one {d : D} {v : V} (h : Rep Z F H d v) : Reps Z F H [d] [v] := ⟨v, [], rfl, h, rfl⟩
theorem Reps.set : ∀ {ds : List D} {vs : List V} {i : Nat} {d : D} {v : V}, Reps Z F H ds vs → Rep Z F H d v → Reps Z F H (ds.set i d) (vs.set i v)
  | [], _, _, _, _, h, _ => by cases h; exact rfl
  | x :: ds, _, 0, _, _, ⟨v, r, e, _, h2⟩, k => by subst e; exact ⟨_, r, rfl, k, h2⟩
  | x :: ds, _, i + 1, _, _, ⟨v, r, e, h1, h2⟩, k => by subst e; exact ⟨v, _, rfl, h1, Reps.set h2 k⟩
theorem Reps.take : ∀ {ds : List D} {vs : List V} (n : Nat), Reps Z F H ds vs → Reps Z F H (ds.take n) (vs.take n)
  | _, _, 0, _ => rfl
  | [], _, n + 1, h => by cases h; exact rfl
  | x :: ds, _, n + 1, ⟨v, r, e, h1, h2⟩ => by subst e; exact ⟨v, _, rfl, h1, Reps.take n h2⟩
theorem Reps.drop : ∀ {ds : List D} {vs : List V} (n : Nat), Reps Z F H ds vs → Reps Z F H (ds.drop n) (vs.drop n)
  | _, _, 0, h => h
  | [], _, n + 1, h => by cases h; exact rfl
  | x :: ds, _, n + 1, ⟨v, r, e, h1, h2⟩ => by subst e; exact Reps.drop n h2
theorem Reps.ints : ∀ {ns : List Int} {vs : List V}, Reps Z F H (ns.map D.int) vs → vs = ns.map V.int
  | [], _, h => h
  | n :: ns, _, ⟨v, r, e, h1, h2⟩ => by
    subst e
    have e1 : v = .int n := h1
    rw [e1, Reps.ints h2]; rfl
theorem Reps.of_ints : ∀ {ns : List Int}, Reps Z F H (ns.map D.int) (ns.map V.int)
  | [] => rfl
  | n :: ns => ⟨_, _, rfl, rfl, Reps.of_ints⟩
theorem Reps.strs : ∀ {ns : List Str} {vs : List V}, Reps Z F H (ns.map D.str) vs → vs = ns.map V.str
  | [], _, h => h
  | n :: ns, _, ⟨v, r, e, h1, h2⟩ => by
    subst e
    have e1 : v = .str n := h1
    rw [e1, Reps.strs h2]; rfl
theorem Reps.of_strs : ∀ {ns : List Str}, Reps Z F H (ns.map D.str) (ns.map V.str)
  | [] => rfl
  | n :: ns => ⟨_, _, rfl, rfl, Reps.of_strs⟩
theorem Reps.bls : ∀ {ns : List Bool} {vs : List V}, Reps Z F H (ns.map D.bl) vs → vs = ns.map V.bl
  | [], _, h => h
  | n :: ns, _, ⟨v, r, e, h1, h2⟩ => by
    subst e
    have e1 : v = .bl n := h1
    rw [e1, Reps.bls h2]; rfl

/-! ### values and the store -/
def RepW (Z : Ctx) (F : Addr → Prop) (α : List Addr) (H : Hp) (w : W) (v : V) : Prop := match w with
  | .p d => Rep Z F H d v
  | .m i => ∃ a, α[i]? = some a ∧ v = .ref a
def RepWs (Z : Ctx) (F : Addr → Prop) (α : List Addr) (H : Hp) (ws : List W) (vs : List V) : Prop := match ws with
  | [] => vs = []
  | w :: ws => ∃ v r, vs = v :: r ∧ RepW Z F α H w v ∧ RepWs Z F α H ws r
def RepM (Z : Ctx) (F : Addr → Prop) (H : Hp) (a : Addr) (m : MO) : Prop := match m with
  | .lst ds => ∃ vs, H a = some (.lst vs) ∧ Reps Z F H ds vs
  | .dk ks ds => ∃ vs, H a = some (.dK (ks.zip vs)) ∧ ks.length = vs.length ∧ Reps Z F H ds vs
  | .dt ks ds => ∃ vs, H a = some (.dT (ks.zip vs)) ∧ ks.length = vs.length ∧ Reps Z F H ds vs
  | .ins c ns ws => Z.cok c = true ∧ ∃ dx vs, H a = some (.ins (Z.cA c) dx ((ns.map Z.fN).zip vs)) ∧ ns.length = vs.length ∧ Reps Z F H ws vs
theorem RepM.mono {a : Addr} {m : MO} (x : RepM Z F H a m) (hF : ∀ a, F a → F' a) (hH : ∀ a o, F a → H a = some o → H' a = some o) (ha : ∀ o, H a = some o → H' a = some o) : RepM Z F' H' a m := by
  cases m with
  | lst ds => obtain ⟨vs, h, r⟩ := x; exact ⟨vs, ha _ h, Reps.mono hF hH _ _ r⟩
  | dk ks ds => obtain ⟨vs, h, l, r⟩ := x; exact ⟨vs, ha _ h, l, Reps.mono hF hH _ _ r⟩
  | dt ks ds => obtain ⟨vs, h, l, r⟩ := x; exact ⟨vs, ha _ h, l, Reps.mono hF hH _ _ r⟩
  | ins c ns ws => obtain ⟨k, dx, vs, h, l, r⟩ := x; exact ⟨k, dx, vs, ha _ h, l, Reps.mono hF hH _ _ r⟩

/-- the store stands at the addresses α -/
structure StoOk (Z : Ctx) (F : Addr → Prop) (α : List Addr) (H : Hp) (μ : Sto) : Prop where
  len : α.length = μ.length
  nd : α.Nodup
  fz : ∀ a, F a → ∃ o, H a = some o
  al : ∀ a ∈ α, ∃ o, H a = some o
  at_ : ∀ (i : Nat) (m : MO), μ[i]? = some (some m) → ∃ a, α[i]? = some a ∧ ¬ F a ∧ RepM Z F H a m

/-- from one state of the heap to a later one -/
structure Ext (F : Addr → Prop) (α : List Addr) (H : Hp) (F' : Addr → Prop) (α' : List Addr) (H' : Hp) : Prop where
  sub : ∀ a, F a → F' a
  keep : ∀ a o, H a = some o → (F a ∨ a ∉ α) → H' a = some o
  pre : ∃ β, α' = α ++ β ∧ ∀ b ∈ β, H b = none
  new : ∀ a, F' a → F a ∨ a ∈ α ∨ H a = none
  there : ∀ a o, H a = some o → ∃ o', H' a = some o'
theorem Ext.refl (F : Addr → Prop) (α : List Addr) (H : Hp) : Ext F α H F α H := ⟨fun _ h => h, fun _ _ h _ => h, ⟨[], by simp⟩, fun _ h => .inl h, fun _ o h => ⟨o, h⟩⟩
theorem Ext.back {α α1 : List Addr} (x : Ext F α H F1 α1 H1) {a : Addr} (e : H1 a = none) : H a = none := by
  cases q : H a with
  | none => rfl
  | some o => obtain ⟨o', z⟩ := x.there a o q; rw [e] at z; cases z
theorem Ext.trans {α α1 α' : List Addr} (x : Ext F α H F1 α1 H1) (y : Ext F1 α1 H1 F' α' H') : Ext F α H F' α' H' := by
  obtain ⟨β, rfl, hβ⟩ := x.pre
  obtain ⟨γ, rfl, hγ⟩ := y.pre
  refine ⟨fun a h => y.sub a (x.sub a h), fun a o e h => ?_, ⟨β ++ γ, by simp, fun b hb => ?_⟩, fun a h => ?_, fun a o e => ?_⟩
  · refine y.keep a o (x.keep a o e h) ?_
    rcases h with h | h
    · exact .inl (x.sub a h)
    · refine .inr fun z => ?_
      rcases List.mem_append.mp z with z | z
      · exact h z
      · rw [hβ a z] at e; cases e
  · rcases List.mem_append.mp hb with hb | hb
    · exact hβ b hb
    · exact x.back (hγ b hb)
  · rcases y.new a h with h | h | h
    · exact x.new a h
    · rcases List.mem_append.mp h with h | h
      · exact .inr (.inl h)
      · exact .inr (.inr (hβ a h))
    · exact .inr (.inr (x.back h))
  · obtain ⟨o1, e1⟩ := x.there a o e
    exact y.there a o1 e1
theorem Ext.hH {α α' : List Addr} (x : Ext F α H F' α' H') : ∀ a o, F a → H a = some o → H' a = some o := fun a o f e => x.keep a o e (.inl f)
theorem Ext.rep {α α' : List Addr} {d : D} {v : V} (x : Ext F α H F' α' H') (r : Rep Z F H d v) : Rep Z F' H' d v := Rep.mono x.sub x.hH d v r
theorem Ext.reps {α α' : List Addr} {d : List D} {v : List V} (x : Ext F α H F' α' H') (r : Reps Z F H d v) : Reps Z F' H' d v := Reps.mono x.sub x.hH d v r
theorem Ext.repW {α α' : List Addr} {w : W} {v : V} (x : Ext F α H F' α' H') (r : RepW Z F α H w v) : RepW Z F' α' H' w v := by
  cases w with
  | p d => exact x.rep r
  | m i =>
    obtain ⟨a, h, e⟩ := r
    obtain ⟨β, rfl, _⟩ := x.pre
    exact ⟨a, by rw [List.getElem?_append_left (List.getElem?_eq_some_iff.mp h).1]; exact h, e⟩
theorem Ext.repWs {α α' : List Addr} (x : Ext F α H F' α' H') : ∀ {ws : List W} {vs : List V}, RepWs Z F α H ws vs → RepWs Z F' α' H' ws vs
  | [], _, h => h
  | w :: ws, _, ⟨v, r, e, h1, h2⟩ => ⟨v, r, e, x.repW h1, Ext.repWs x h2⟩
/-- the frame's names -/
def Loc (Z : Ctx) (F : Addr → Prop) (α : List Addr) (H : Hp) (ρ : Env) (σ : St) : Prop :=
  σ.length = ρ.length ∧ ∀ (i : Nat) (w : W), ρ[i]? = some (some w) → ∃ v, σ[i]? = some (some v) ∧ RepW Z F α H w v
theorem Ext.loc {α α' : List Addr} {ρ : Env} {σ : St} (x : Ext F α H F' α' H') (l : Loc Z F α H ρ σ) : Loc Z F' α' H' ρ σ :=
  ⟨l.1, fun i w e => let ⟨v, e1, r⟩ := l.2 i w e; ⟨v, e1, x.repW r⟩⟩
theorem Loc.set {α : List Addr} {ρ : Env} {σ : St} {w : W} {v : V} (l : Loc Z F α H ρ σ) (i : Nat) (r : RepW Z F α H w v) : Loc Z F α H (ρ.set i (some w)) (σ.set i (some v)) := by
  refine ⟨by simp [l.1], fun j u e => ?_⟩
  by_cases hj : i = j
  · subst hj
    have hi : i < ρ.length := by
      have := (List.getElem?_eq_some_iff.mp e).1
      simpa using this
    rw [List.getElem?_set_self hi] at e
    cases e
    exact ⟨v, by rw [List.getElem?_set_self (by rw [l.1]; exact hi)], r⟩
  · rw [List.getElem?_set_ne hj] at e
    obtain ⟨x, e1, r1⟩ := l.2 j u e
    exact ⟨x, by rw [List.getElem?_set_ne hj]; exact e1, r1⟩
theorem Loc.drop {α : List Addr} {ρ : Env} {σ : St} (l : Loc Z F α H ρ σ) (i : Nat) (z : Option V) : Loc Z F α H (ρ.set i none) (σ.set i z) := by
  refine ⟨by simp [l.1], fun j u e => ?_⟩
  by_cases hj : i = j
  · subst hj
    have hi : i < ρ.length := by
      have := (List.getElem?_eq_some_iff.mp e).1
      simpa using this
    rw [List.getElem?_set_self hi] at e
    cases e
  · rw [List.getElem?_set_ne hj] at e
    obtain ⟨x, e1, r1⟩ := l.2 j u e
    exact ⟨x, by rw [List.getElem?_set_ne hj]; exact e1, r1⟩

/-! ### steps of the heap -/
/-- a new thing that never changes: F grows by its address -/
def addF (F : Addr → Prop) (p : Addr) : Addr → Prop := fun a => F a ∨ a = p
theorem Ext.newF {α : List Addr} {p : Addr} {o : HO} (hp : H p = none) : Ext F α H (addF F p) α (upd H p o) :=
  ⟨fun _ h => .inl h, fun a _ e _ => by rw [upd_ne (ne_of_none e hp)]; exact e, ⟨[], by simp⟩, fun a h => h.elim .inl fun e => .inr (.inr (by rw [e]; exact hp)), fun a o' e => ⟨o', by rw [upd_ne (ne_of_none e hp)]; exact e⟩⟩
theorem Ext.newM {α : List Addr} {p : Addr} {o : HO} (hp : H p = none) : Ext F α H F (α ++ [p]) (upd H p o) :=
  ⟨fun _ h => h, fun a _ e _ => by rw [upd_ne (ne_of_none e hp)]; exact e, ⟨[p], rfl, fun b hb => by rw [List.mem_singleton.mp hb]; exact hp⟩, fun a h => .inl h, fun a o' e => ⟨o', by rw [upd_ne (ne_of_none e hp)]; exact e⟩⟩
theorem Ext.put {α : List Addr} {p : Addr} {o : HO} (hp : p ∈ α) (hf : ¬ F p) : Ext F α H F α (upd H p o) :=
  ⟨fun _ h => h, fun a _ e h => by
    have ne : a ≠ p := by
      rintro rfl
      rcases h with h | h
      · exact hf h
      · exact h hp
    rw [upd_ne ne]; exact e, ⟨[], by simp⟩, fun a h => .inl h, fun a o' e => by
    by_cases z : a = p
    · subst z; exact ⟨o, upd_same⟩
    · exact ⟨o', by rw [upd_ne z]; exact e⟩⟩
/-- a thing of the store is told to stay as it is -/
theorem Ext.freeze {α : List Addr} {p : Addr} (hp : p ∈ α) : Ext F α H (addF F p) α H :=
  ⟨fun _ h => .inl h, fun a _ e _ => e, ⟨[], by simp⟩, fun a h => h.elim .inl fun e => .inr (.inl (by rw [e]; exact hp)), fun a o' e => ⟨o', e⟩⟩

theorem StoOk.newF {α : List Addr} {μ : Sto} {p : Addr} {o : HO} (s : StoOk Z F α H μ) (hp : H p = none) : StoOk Z (addF F p) α (upd H p o) μ := by
  have x : Ext F α H (addF F p) α (upd H p o) := Ext.newF hp
  refine ⟨s.len, s.nd, fun a h => ?_, fun a ha => ?_, fun i m e => ?_⟩
  · rcases h with h | h
    · obtain ⟨o', e⟩ := s.fz a h; exact x.there a o' e
    · exact ⟨o, by rw [h, upd_same]⟩
  · obtain ⟨o', e⟩ := s.al a ha; exact x.there a o' e
  · obtain ⟨a, e1, nf, r⟩ := s.at_ i m e
    obtain ⟨o', e2⟩ := s.al a (List.mem_of_getElem? e1)
    have ne : a ≠ p := ne_of_none e2 hp
    exact ⟨a, e1, fun h => h.elim nf ne, r.mono x.sub x.hH fun o h => by rw [upd_ne ne]; exact h⟩
theorem StoOk.newM {α : List Addr} {μ : Sto} {p : Addr} {o : HO} {m : MO} (s : StoOk Z F α H μ) (hp : H p = none) (hm : RepM Z F (upd H p o) p m) : StoOk Z F (α ++ [p]) (upd H p o) (μ ++ [some m]) := by
  have x : Ext F α H F (α ++ [p]) (upd H p o) := Ext.newM hp
  have pn : p ∉ α := fun h => by obtain ⟨o', e⟩ := s.al p h; rw [hp] at e; cases e
  refine ⟨by simp [s.len], List.nodup_append.mpr ⟨s.nd, by simp, fun a ha b hb => by rw [List.mem_singleton.mp hb]; rintro rfl; exact pn ha⟩, fun a h => ?_, fun a ha => ?_, fun i m' e => ?_⟩
  · obtain ⟨o', e⟩ := s.fz a h; exact x.there a o' e
  · rcases List.mem_append.mp ha with ha | ha
    · obtain ⟨o', e⟩ := s.al a ha; exact x.there a o' e
    · exact ⟨o, by rw [List.mem_singleton.mp ha, upd_same]⟩
  · by_cases hi : i < μ.length
    · rw [List.getElem?_append_left hi] at e
      obtain ⟨a, e1, nf, r⟩ := s.at_ i m' e
      obtain ⟨o', e2⟩ := s.al a (List.mem_of_getElem? e1)
      have ne : a ≠ p := ne_of_none e2 hp
      exact ⟨a, by rw [List.getElem?_append_left (by rw [s.len]; exact hi)]; exact e1, nf, r.mono x.sub x.hH fun o h => by rw [upd_ne ne]; exact h⟩
    · have hi' : i = μ.length := by
        have := (List.getElem?_eq_some_iff.mp e).1
        simp at this; omega
      subst hi'
      rw [List.getElem?_append_right (Nat.le_refl _)] at e
      simp at e
      subst e
      exact ⟨p, by rw [List.getElem?_append_right (by rw [s.len]; exact Nat.le_refl _)]; simp [s.len], (fun h => by obtain ⟨o', e⟩ := s.fz p h; rw [hp] at e; cases e), hm⟩
theorem StoOk.put {α : List Addr} {μ : Sto} {p : Addr} {o : HO} {m : MO} {i : Nat} (s : StoOk Z F α H μ) (hi : α[i]? = some p) (hf : ¬ F p) (hm : RepM Z F (upd H p o) p m) : StoOk Z F α (upd H p o) (μ.set i (some m)) := by
  have hp := List.mem_of_getElem? hi
  have x : Ext F α H F α (upd H p o) := Ext.put hp hf
  refine ⟨by simp [s.len], s.nd, fun a h => ?_, fun a ha => ?_, fun j m' e => ?_⟩
  · obtain ⟨o', e⟩ := s.fz a h; exact x.there a o' e
  · obtain ⟨o', e⟩ := s.al a ha; exact x.there a o' e
  · by_cases hj : i = j
    · subst hj
      have hl : i < μ.length := by rw [← s.len]; exact (List.getElem?_eq_some_iff.mp hi).1
      rw [List.getElem?_set_self hl] at e
      cases e
      exact ⟨p, hi, hf, hm⟩
    · rw [List.getElem?_set_ne hj] at e
      obtain ⟨a, e1, nf, r⟩ := s.at_ j m' e
      have ne : a ≠ p := by
        rintro rfl
        have h1 := (List.getElem?_eq_some_iff.mp hi)
        have h2 := (List.getElem?_eq_some_iff.mp e1)
        exact hj ((List.getElem_inj s.nd).mp (h1.2.trans h2.2.symm))
      exact ⟨a, e1, nf, r.mono x.sub x.hH fun o h => by rw [upd_ne ne]; exact h⟩
theorem StoOk.freeze {α : List Addr} {μ : Sto} {p : Addr} {i : Nat} (s : StoOk Z F α H μ) (hi : α[i]? = some p) : StoOk Z (addF F p) α H (μ.set i none) := by
  have hp := List.mem_of_getElem? hi
  refine ⟨by simp [s.len], s.nd, fun a h => ?_, s.al, fun j m' e => ?_⟩
  · rcases h with h | h
    · exact s.fz a h
    · rw [h]; exact s.al p hp
  · by_cases hj : i = j
    · subst hj
      have hl : i < μ.length := by rw [← s.len]; exact (List.getElem?_eq_some_iff.mp hi).1
      rw [List.getElem?_set_self hl] at e
      cases e
    · rw [List.getElem?_set_ne hj] at e
      obtain ⟨a, e1, nf, r⟩ := s.at_ j m' e
      have ne : a ≠ p := by
        rintro rfl
        have h1 := (List.getElem?_eq_some_iff.mp hi)
        have h2 := (List.getElem?_eq_some_iff.mp e1)
        exact hj ((List.getElem_inj s.nd).mp (h1.2.trans h2.2.symm))
      exact ⟨a, e1, fun h => h.elim nf ne, r.mono (fun _ h => .inl h) (fun _ _ _ h => h) fun o h => h⟩
/-- forgetting -/
theorem StoOk.forget {α : List Addr} {μ : Sto} {i : Nat} (s : StoOk Z F α H μ) : StoOk Z F α H (μ.set i none) := by
  refine ⟨by simp [s.len], s.nd, s.fz, s.al, fun j m' e => ?_⟩
  by_cases hj : i = j
  · subst hj
    have hl : i < μ.length := by
      have := (List.getElem?_eq_some_iff.mp e).1
      simpa using this
    rw [List.getElem?_set_self hl] at e
    cases e
  · rw [List.getElem?_set_ne hj] at e
    exact s.at_ j m' e
end
end DL
set_option Elab.async false
set_option linter.all false
set_option maxRecDepth 100000
set_option maxHeartbeats 4000000
/-! DL: the core language and what it asks -/
namespace DL
open PySem L2 PyProof.Rows

/-- a type that isinstance asks for -/
inductive TR where
  | b (n : String) | c (k : Nat)
  deriving DecidableEq
/-- where a parameter's value comes from -/
inductive Src where
  | pos (i : Nat) | kw (i : Nat) | dfl (d : D)
inductive Bt where
  | abs | max2 | min2 | len | divmod | int1 | strI | sum | all | any | maxL | minL | bool1 | reprI | listOf | tupleOf | sorted
  deriving DecidableEq
/-- expressions, names resolved: var i the i-th name of the def; glo x d the module's constant x; fld by the attribute's number; callF, callC, callM: by the number of the call's shape, site -/
inductive CE where
  | var (i : Nat) | c (d : D) | glo (x : Str) (d : D)
  | bin (op : Operator) (a b : CE) | neg (a : CE) | not (a : CE) | bop (op : BoolOp) (es : List CE)
  | cmp (op : CmpOp) (a b : CE) | chain (op op' : CmpOp) (a b c : CE) | ife (t a b : CE)
  | fld (a : CE) (k : Nat) | idx (a b : CE) | slc (a : CE) (lo hi : Option CE)
  | tup (es : List CE) | lst (es : List CE)
  | isi (a : CE) (ts : List TR)
  | callF (s : Nat) (es kws : List CE)
  | callC (c s : Nat) (es kws : List CE)
  | callM (o : CE) (s : Nat) (es kws : List CE)
  | blt (b : Bt) (es : List CE)

/-- an exception: its class, its fields -/
structure Exc where
  c : Nat
  ds : List D
/-- both ways of a test; what is asked beside; something that is there -/
structure Br (b : Bool) (A B : Prop) : Prop where
  t : b = true → A
  f : b = false → B
structure Sd (A B : Prop) : Prop where
  p : A
  q : B
structure Gt {α : Type} (o : Option α) (Q : α → Prop) : Prop where
  ex : ∃ x, o = some x ∧ Q x
theorem Gt.of {α : Type} {o : Option α} {Q : α → Prop} {x : α} (e : o = some x) (q : Q x) : Gt o Q := ⟨x, e, q⟩
abbrev EQ := W → Sto → Prop
abbrev XQ := Exc → Sto → Prop
abbrev DSp := List W → Sto → EQ → XQ → Prop

/-- the defs' promises, the classes' attributes, the calls' shapes (which def, where its parameters come from), the methods (by the site's number s: name and shape of the call), what stands under what -/
structure Gam where
  fn : Nat → DSp
  cF : Nat → List Nat
  plan : Nat → Nat × List Src
  meth : Nat → Nat → Option (Nat × List Src)
  sub : Nat → TR → Bool

def nmem (i : Nat) : List Nat → Bool
  | [] => false
  | j :: r => match Nat.beq i j with
    | true => true
    | false => nmem i r
/-- the things of the store that are handed over -/
def roots : List W → List Nat
  | [] => []
  | .p _ :: r => roots r
  | .m i :: r => match nmem i (roots r) with
    | true => roots r
    | false => i :: roots r
def ixOf (i : Nat) : List Nat → Nat
  | [] => 0
  | j :: r => match Nat.beq i j with
    | true => 0
    | false => ixOf i r + 1
def renW (is : List Nat) : W → W
  | .p d => .p d
  | .m i => .m (ixOf i is)
def getM (μ : Sto) (i : Nat) : Option MO := match μ[i]? with
  | some o => o
  | none => none
/-- back into the caller's store of length n -/
def backW (is : List Nat) (n : Nat) : W → W
  | .p d => .p d
  | .m j => match is[j]? with
    | some i => .m i
    | none => .m (n + (j - is.length))
def mergeS : Sto → List Nat → Sto → Sto
  | μ, [], r => μ ++ r
  | μ, i :: is, o :: r => mergeS (μ.set i o) is r
  | μ, _ :: _, [] => μ
/-! rows and values are reckoned out before one goes on (else each look at them reckons them anew) -/
def fN : Nat → (Nat → Prop) → Prop
  | 0, k => k 0
  | n + 1, k => fN n fun m => k (m + 1)
def fS : Sto → (Sto → Prop) → Prop
  | [], k => k []
  | none :: r, k => fS r fun r' => k (none :: r')
  | some o :: r, k => fS r fun r' => k (some o :: r')
def fW : W → (W → Prop) → Prop
  | .p d, k => k (.p d)
  | .m i, k => fN i fun j => k (.m j)
def fE : Env → (Env → Prop) → Prop
  | [], k => k []
  | o :: r, k => fE r fun r' => k (o :: r')
def fWs : List W → (List W → Prop) → Prop
  | [], k => k []
  | w :: r, k => fW w fun w' => fWs r fun r' => k (w' :: r')
def fR : List Nat → (List Nat → Prop) → Prop
  | [], k => k []
  | n :: r, k => fN n fun m => fR r fun r' => k (m :: r')
theorem fN_eq : ∀ (n : Nat) (k : Nat → Prop), fN n k = k n
  | 0, k => rfl
  | n + 1, k => by rw [fN, fN_eq n]
theorem fS_eq : ∀ (n : Sto) (k : Sto → Prop), fS n k = k n
  | [], k => rfl
  | none :: r, k => by rw [fS, fS_eq r]
  | some o :: r, k => by rw [fS, fS_eq r]
theorem fW_eq : ∀ (n : W) (k : W → Prop), fW n k = k n
  | .p d, k => rfl
  | .m i, k => by rw [fW, fN_eq i]
theorem fE_eq : ∀ (n : Env) (k : Env → Prop), fE n k = k n
  | [], k => rfl
  | o :: r, k => by rw [fE, fE_eq r]
theorem fWs_eq : ∀ (n : List W) (k : List W → Prop), fWs n k = k n
  | [], k => rfl
  | o :: r, k => by rw [fWs, fW_eq o, fWs_eq r]
theorem fR_eq : ∀ (n : List Nat) (k : List Nat → Prop), fR n k = k n
  | [], k => rfl
  | o :: r, k => by rw [fR, fN_eq o, fR_eq r]
def callD (sp : DSp) (ws : List W) (μ : Sto) (Q : EQ) (X : XQ) : Prop :=
  fR (roots ws) fun rs => fWs (ws.map (renW rs)) fun vs => fS (rs.map (getM μ)) fun μ0 => sp vs μ0 (fun w μ' => fW (backW rs μ.length w) fun w2 => fS (mergeS μ rs μ') fun μ2 => Q w2 μ2) (fun e μ' => X e (mergeS μ rs μ'))
theorem callD_eq (sp : DSp) (ws : List W) (μ : Sto) (Q : EQ) (X : XQ) : callD sp ws μ Q X =
  sp (ws.map (renW (roots ws))) ((roots ws).map (getM μ)) (fun w μ' => Q (backW (roots ws) μ.length w) (mergeS μ (roots ws) μ')) (fun e μ' => X e (mergeS μ (roots ws) μ')) := by
  unfold callD
  rw [fR_eq, fWs_eq, fS_eq]
  congr 1
  funext w μ'
  rw [fW_eq, fS_eq]

def srcW (vs ks : List W) : Src → Option W
  | .pos i => vs[i]?
  | .kw i => ks[i]?
  | .dfl d => some (.p d)
def planW (vs ks : List W) : List Src → Option (List W)
  | [] => some []
  | s :: r => match srcW vs ks s, planW vs ks r with
    | some w, some ws => some (w :: ws)
    | _, _ => none

/-- data of a value; a thing of the store is told to stay as it is -/
def lstOf (μ : Sto) : W → Option (List D)
  | .p (.lst ds) => some ds
  | .m i => match getM μ i with
    | some (.lst ds) => some ds
    | _ => none
  | _ => none
def seqOf (μ : Sto) : W → Option (List D)
  | .p (.tup ds) => some ds
  | w => lstOf μ w
/-- with the rows' lengths looked at -/
def planN (n m : Nat) (vs ks : List W) (pl : List Src) : Option (List W) := match Nat.beq vs.length n, Nat.beq ks.length m with
  | true, true => planW vs ks pl
  | _, _ => none
def frzW (μ : Sto) : W → Option (D × Sto)
  | .p d => some (d, μ)
  | .m i => match getM μ i with
    | some (.lst ds) => some (.lst ds, μ.set i none)
    | some (.dk ks ds) => some (.dct ks ds, μ.set i none)
    | _ => none
def frzWs (μ : Sto) : List W → Option (List D × Sto)
  | [] => some ([], μ)
  | w :: ws => match frzW μ w with
    | some (d, μ1) => match frzWs μ1 ws with
      | some (ds, μ2) => some (d :: ds, μ2)
      | none => none
    | none => none

/-- what an operator makes of two values -/
def binD (op : Operator) (x y : W) (μ : Sto) (Q : EQ) : Prop := match op, x, y with
  | .Add, .p (.int i), .p (.int j) => Q (.p (.int (i + j))) μ
  | .Sub, .p (.int i), .p (.int j) => Q (.p (.int (i - j))) μ
  | .Mult, .p (.int i), .p (.int j) => Sd (IntMulOk i j) (Q (.p (.int (i * j))) μ)
  | .FloorDiv, .p (.int i), .p (.int j) => Sd (CDivW i j) (Q (.p (.int (i / j))) μ)
  | .Mod, .p (.int i), .p (.int j) => Sd (0 < j) (Q (.p (.int (i % j))) μ)
  | .Pow, .p (.int i), .p (.int j) => Sd (CPow i j) (Q (.p (.int (i ^ j.toNat))) μ)
  | .LShift, .p (.int i), .p (.int j) => Sd (CPow i j) (Q (.p (.int (i * 2 ^ j.toNat))) μ)
  | .RShift, .p (.int i), .p (.int j) => Sd (0 ≤ j) (Q (.p (.int (i / 2 ^ j.toNat))) μ)
  | .BitAnd, .p (.int i), .p (.int j) => Q (.p (.int (Builtin.bitAnd i j))) μ
  | .Add, .p (.str i), .p (.str j) => Sd (i.length + j.length ≤ sizeLine) (Q (.p (.str (i ++ j))) μ)
  | .Add, .p (.tup ds), .p (.tup es) => Sd (ds.length + es.length ≤ sizeLine) (Q (.p (.tup (ds ++ es))) μ)
  | .Add, .m i, .m j => match getM μ i, getM μ j with
    | some (.lst ds), some (.lst es) => Sd (ds.length + es.length ≤ sizeLine) (Q (.m μ.length) (μ ++ [some (.lst (ds ++ es))]))
    | _, _ => False
  | _, _, _ => False

/-- op= of a name -/
def augD (op : Operator) (x y : W) (μ : Sto) (Q : EQ) : Prop := match op, x, y with
  | .Add, .p (.int i), .p (.int j) => Q (.p (.int (i + j))) μ
  | .Sub, .p (.int i), .p (.int j) => Q (.p (.int (i - j))) μ
  | .Mult, .p (.int i), .p (.int j) => Sd (IntMulOk i j) (Q (.p (.int (i * j))) μ)
  | .FloorDiv, .p (.int i), .p (.int j) => Sd (CDivW i j) (Q (.p (.int (i / j))) μ)
  | .Mod, .p (.int i), .p (.int j) => Sd (0 < j) (Q (.p (.int (i % j))) μ)
  | .LShift, .p (.int i), .p (.int j) => Sd (CPow i j) (Q (.p (.int (i * 2 ^ j.toNat))) μ)
  | .RShift, .p (.int i), .p (.int j) => Sd (0 ≤ j) (Q (.p (.int (i / 2 ^ j.toNat))) μ)
  | .BitAnd, .p (.int i), .p (.int j) => Q (.p (.int (Builtin.bitAnd i j))) μ
  | .Add, .p (.str i), .p (.str j) => Sd (i.length + j.length ≤ sizeLine) (Q (.p (.str (i ++ j))) μ)
  | _, _, _ => False
mutual
/-- data as PyData, for == -/
def pd (d : D) : Option PyData := match d with
  | .non => some .none
  | .bl b => some (.bool b)
  | .int i => some (.int i)
  | .str x => some (.str x)
  | .tup ds => match pds ds with
    | some xs => some (.tuple xs)
    | none => none
  | .lst ds => match pds ds with
    | some xs => some (.list xs)
    | none => none
  | .ty _ => none
  | .glo _ => none
  | .obj _ _ => none
  | .dct _ _ => none
  | .exc _ _ => none
def pds (ds : List D) : Option (List PyData) := match ds with
  | [] => some []
  | d :: ds => match pd d, pds ds with
    | some x, some xs => some (x :: xs)
    | _, _ => none
end
def pdW (μ : Sto) : W → Option PyData
  | .p d => pd d
  | .m i => match getM μ i with
    | some (.lst ds) => pd (.lst ds)
    | _ => none
def isNon : D → Bool
  | .non => true
  | _ => false
def cmpD (op : CmpOp) (x y : W) (μ : Sto) (Q : Bool → Prop) : Prop := match op, x, y with
  | .Lt, .p (.int i), .p (.int j) => Q (decide (i < j))
  | .LtE, .p (.int i), .p (.int j) => Q (decide (i ≤ j))
  | .Gt, .p (.int i), .p (.int j) => Q (decide (j < i))
  | .GtE, .p (.int i), .p (.int j) => Q (decide (j ≤ i))
  | .Is, .p x, .p .non => Q (isNon x)
  | .IsNot, .p x, .p .non => Q (!isNon x)
  | .Eq, .p (.int i), .p (.int j) => Q (decide (i = j))
  | .NotEq, .p (.int i), .p (.int j) => Q (!decide (i = j))
  | .Eq, .p (.str i), .p (.str j) => Q (decide (i = j))
  | .NotEq, .p (.str i), .p (.str j) => Q (!decide (i = j))
  | .Eq, x, y => Gt (pdW μ x) fun a => Gt (pdW μ y) fun b => Sd (SeqAt.shaped a = true ∧ SeqAt.shaped b = true) (Q (PyData.eqv a b))
  | .NotEq, x, y => Gt (pdW μ x) fun a => Gt (pdW μ y) fun b => Sd (SeqAt.shaped a = true ∧ SeqAt.shaped b = true) (Q (!PyData.eqv a b))
  | _, _, _ => False

/-- is a value of the built-in type n of the type t -/
def isiN (n : String) : TR → Bool
  | .b m => n == m || (n == "bool" && m == "int")
  | .c _ => false
def isiW (Γ : Gam) (μ : Sto) (w : W) (t : TR) : Option Bool := match w with
  | .p d => match d with
    | .non => some (isiN "NoneType" t)
    | .bl _ => some (isiN "bool" t)
    | .int _ => some (isiN "int" t)
    | .str _ => some (isiN "str" t)
    | .tup _ => some (isiN "tuple" t)
    | .lst _ => some (isiN "list" t)
    | .dct _ _ => some (isiN "dict" t)
    | .obj c _ => some (Γ.sub c t)
    | _ => none
  | .m i => match getM μ i with
    | some (.lst _) => some (isiN "list" t)
    | some (.dk _ _) => some (isiN "dict" t)
    | some (.ins c _ _) => some (Γ.sub c t)
    | _ => none
def isiAny (Γ : Gam) (μ : Sto) (w : W) : List TR → Option Bool
  | [] => some false
  | [t] => isiW Γ μ w t
  | t :: ts => match isiW Γ μ w t, isiAny Γ μ w ts with
    | some a, some b => some (a || b)
    | _, _ => none

/-- a value's truth -/
def truD (w : W) (μ : Sto) (Q : Bool → Prop) : Prop := match w with
  | .p d => match d with
    | .non => Q false
    | .bl b => Q b
    | .int i => Q (i != 0)
    | .str x => Sd (x.length ≤ sizeLine) (Q ((x.length : Int) != 0))
    | .tup ds => Q (!ds.isEmpty)
    | .lst ds => Q (!ds.isEmpty)
    | _ => False
  | .m i => match getM μ i with
    | some (.lst ds) => Q (!ds.isEmpty)
    | some (.dk ks _) => Q (!ks.isEmpty)
    | _ => False

def bltD (b : Bt) (ws : List W) (μ : Sto) (Q : EQ) : Prop := match b, ws with
  | .abs, [.p (.int i)] => Q (.p (.int (if i < 0 then -i else i))) μ
  | .max2, [.p (.int i), .p (.int j)] => Q (.p (.int (if j > i then j else i))) μ
  | .min2, [.p (.int i), .p (.int j)] => Q (.p (.int (if j < i then j else i))) μ
  | .len, [.p (.str x)] => Sd (x.length ≤ sizeLine) (Q (.p (.int (x.length : Nat))) μ)
  | .len, [w] => match seqOf μ w with
    | some ds => Q (.p (.int (ds.length : Nat))) μ
    | none => False
  | .divmod, [.p (.int i), .p (.int j)] => Sd (CDiv i j) (Q (.p (.tup [.int (i / j), .int (i % j)])) μ)
  | .int1, [.p (.int i)] => Q (.p (.int i)) μ
  | .int1, [.p (.bl k)] => Q (.p (.int (if k then 1 else 0))) μ
  | .bool1, [.p (.bl k)] => Q (.p (.bl k)) μ
  | .bool1, [.p (.int i)] => Q (.p (.bl (i != 0))) μ
  | .strI, [.p (.int i)] => Sd (i.natAbs.log2 < 1920) (Q (.p (.str (toString i : String))) μ)
  | _, _ => False



def posOf (k : Nat) : List Nat → Option Nat
  | [] => none
  | j :: r => match Nat.beq k j with
    | true => some 0
    | false => match posOf k r with
      | some i => some (i + 1)
      | none => none
/-- an attribute is stored -/
def putN (k : Nat) (d : D) : List Nat → List D → List Nat × List D
  | j :: ns, x :: ds => match Nat.beq k j with
    | true => (j :: ns, d :: ds)
    | false => (j :: (putN k d ns ds).1, x :: (putN k d ns ds).2)
  | _, _ => ([k], [d])
def fldD (Γ : Gam) (k : Nat) (w : W) (μ : Sto) (Q : EQ) : Prop := match w with
  | .p (.obj c ds) => match posOf k (Γ.cF c) with
    | some i => match ds[i]? with
      | some d => Q (.p d) μ
      | none => False
    | none => False
  | .m i => match getM μ i with
    | some (.ins c ns ds) => match nmem k (Γ.cF c), posOf k ns with
      | true, some i => match ds[i]? with
        | some d => Q (.p d) μ
        | none => False
      | _, _ => False
    | _ => False
  | _ => False
def idxD (x y : W) (μ : Sto) (Q : EQ) : Prop := match x, y with
  | .p (.str z), .p (.int i) => Sd (z.length ≤ sizeLine) (Gt (atI (z.cps.toList) i) fun c => Q (.p (.str ⟨#[c]⟩)) μ)
  | x, .p (.int i) => match seqOf μ x with
    | some ds => Gt (atI ds i) fun d => Q (.p d) μ
    | none => False
  | _, _ => False
def cutD (ds : List D) (lo hi : Option Int) : List D := (ds.drop (HT.sIx ds.length 0 lo)).take (HT.sIx ds.length ds.length hi - HT.sIx ds.length 0 lo)
def slcD (x : W) (lo hi : Option Int) (μ : Sto) (Q : EQ) : Prop := match lstOf μ x with
  | some ds => Q (.m μ.length) (μ ++ [some (.lst (cutD ds lo hi))])
  | none => match x with
    | .p (.str z) => Sd (z.length ≤ sizeLine) (Q (.p (.str (cutS z lo hi))) μ)
    | _ => False
/-- a new instance, its __init__'s promise at it; behind it it never changes -/
def newI (Γ : Gam) (c : Nat) (sp : DSp) (ws : List W) (μ : Sto) (Q : EQ) (X : XQ) : Prop :=
  callD sp ws (μ ++ [some (.ins c [] [])]) (fun w μ1 => match w with
    | .p .non => match getM μ1 μ.length with
      | some (.ins c' ns ds) => Sd (c' = c ∧ ns = Γ.cF c) (fS (μ1.set μ.length none) fun μ2 => Q (.p (.obj c ds)) μ2)
      | _ => False
    | _ => False) X

/-- a method of a value, by the call's site -/
def mOf (Γ : Gam) (s : Nat) (w : W) : Option (Nat × List Src) := match w with
  | .p (.obj c _) => Γ.meth c s
  | _ => none
/-- what is asked of an expression -/
abbrev DE := Env → Sto → EQ → XQ → Prop
def wpL (f : CE → DE) : List CE → Env → Sto → (List W → Sto → Prop) → XQ → Prop
  | [], _, μ, Q, _ => Q [] μ
  | e :: es, ρ, μ, Q, X => f e ρ μ (fun w μ1 => wpL f es ρ μ1 (fun ws μ2 => Q (w :: ws) μ2) X) X
def wpO (f : CE → DE) : Option CE → Env → Sto → (Option Int → Sto → Prop) → XQ → Prop
  | none, _, μ, Q, _ => Q none μ
  | some e, ρ, μ, Q, X => f e ρ μ (fun w μ1 => match w with
    | .p (.int i) => Q (some i) μ1
    | _ => False) X
/-- a row of and, or as values: all but the last are truths -/
def wpV (f : CE → DE) (op : BoolOp) : List CE → DE
  | [], _, _, _, _ => False
  | [e], ρ, μ, Q, X => f e ρ μ Q X
  | e :: es, ρ, μ, Q, X => f e ρ μ (fun w μ1 => match w with
    | .p (.bl b) => match op with
      | .And => Br b (wpV f op es ρ μ1 Q X) (Q (.p (.bl false)) μ1)
      | .Or => Br b (Q (.p (.bl true)) μ1) (wpV f op es ρ μ1 Q X)
    | _ => False) X
abbrev DT := Env → Sto → (Bool → Sto → Prop) → XQ → Prop
def wpB (f : CE → DT) (op : BoolOp) : List CE → DT
  | [], _, _, _, _ => False
  | [e], ρ, μ, Q, X => f e ρ μ Q X
  | e :: es, ρ, μ, Q, X => f e ρ μ (fun b μ1 => match op with
      | .And => Br b (wpB f op es ρ μ1 Q X) (Q false μ1)
      | .Or => Br b (Q true μ1) (wpB f op es ρ μ1 Q X)) X
/-- an expression as a test -/
def stepT (ih : CE → DE) (it : CE → DT) (ee : CE → DE) : CE → DT := fun e ρ μ Q X => match e with
  | .not a => it a ρ μ (fun b μ1 => Q (!b) μ1) X
  | .bop op es => wpB it op es ρ μ Q X
  | .cmp op a b => ih a ρ μ (fun x μ1 => ih b ρ μ1 (fun y μ2 => cmpD op x y μ2 fun k => Q k μ2) X) X
  | .chain op op' a b c => ih a ρ μ (fun x μ1 => ih b ρ μ1 (fun y μ2 => cmpD op x y μ2 fun k => Br k (ih c ρ μ2 (fun z μ3 => cmpD op' y z μ3 fun k' => Q k' μ3) X) (Q false μ2)) X) X
  | .ife t a b => it t ρ μ (fun k μ1 => Br k (it a ρ μ1 Q X) (it b ρ μ1 Q X)) X
  | e => ee e ρ μ (fun w μ1 => truD w μ1 fun b => Q b μ1) X
def stepE (Γ : Gam) (ih : CE → DE) (it : CE → DT) : CE → DE := fun e ρ μ Q X => match e with
  | .var i => match ρ[i]? with
    | some (some w) => Q w μ
    | _ => False
  | .c d => Q (.p d) μ
  | .glo _ d => Q (.p d) μ
  | .bin op a b => ih a ρ μ (fun x μ1 => ih b ρ μ1 (fun y μ2 => binD op x y μ2 Q) X) X
  | .neg a => ih a ρ μ (fun x μ1 => match x with
    | .p (.int i) => Q (.p (.int (-i))) μ1
    | _ => False) X
  | .not a => ih a ρ μ (fun x μ1 => match x with
    | .p (.bl b) => Q (.p (.bl (!b))) μ1
    | _ => False) X
  | .bop op es => wpV ih op es ρ μ Q X
  | .cmp op a b => ih a ρ μ (fun x μ1 => ih b ρ μ1 (fun y μ2 => cmpD op x y μ2 fun k => Q (.p (.bl k)) μ2) X) X
  | .chain op op' a b c => ih a ρ μ (fun x μ1 => ih b ρ μ1 (fun y μ2 => cmpD op x y μ2 fun k => Br k (ih c ρ μ2 (fun z μ3 => cmpD op' y z μ3 fun k' => Q (.p (.bl k')) μ3) X) (Q (.p (.bl false)) μ2)) X) X
  | .ife t a b => it t ρ μ (fun k μ1 => Br k (ih a ρ μ1 Q X) (ih b ρ μ1 Q X)) X
  | .fld a k => ih a ρ μ (fun w μ1 => fldD Γ k w μ1 Q) X
  | .idx a b => ih a ρ μ (fun x μ1 => ih b ρ μ1 (fun y μ2 => idxD x y μ2 Q) X) X
  | .slc a lo hi => ih a ρ μ (fun x μ1 => wpO ih lo ρ μ1 (fun l μ2 => wpO ih hi ρ μ2 (fun h μ3 => slcD x l h μ3 Q) X) X) X
  | .tup es => wpL ih es ρ μ (fun ws μ1 => match frzWs μ1 ws with
    | some (ds, μ2) => match Nat.ble ds.length 1000 with
      | true => Q (.p (.tup ds)) μ2
      | false => False
    | none => False) X
  | .lst es => wpL ih es ρ μ (fun ws μ1 => match frzWs μ1 ws with
    | some (ds, μ2) => match Nat.ble ds.length 1000 with
      | true => Q (.m μ2.length) (μ2 ++ [some (.lst ds)])
      | false => False
    | none => False) X
  | .isi a ts => ih a ρ μ (fun w μ1 => match isiAny Γ μ1 w ts with
    | some b => Q (.p (.bl b)) μ1
    | none => False) X
  | .callF s es ks => wpL ih es ρ μ (fun vs μ1 => wpL ih ks ρ μ1 (fun us μ2 => match planN es.length ks.length vs us (Γ.plan s).2 with
    | some ws => callD (Γ.fn (Γ.plan s).1) ws μ2 Q X
    | none => False) X) X
  | .callC c s es ks => wpL ih es ρ μ (fun vs μ1 => wpL ih ks ρ μ1 (fun us μ2 => match planN (es.length + 1) ks.length (.m μ2.length :: vs) us (Γ.plan s).2 with
    | some ws => newI Γ c (Γ.fn (Γ.plan s).1) ws μ2 Q X
    | none => False) X) X
  | .callM o s es ks => ih o ρ μ (fun w μ0 => match mOf Γ s w with
    | some (f, pl) => wpL ih es ρ μ0 (fun vs μ1 => wpL ih ks ρ μ1 (fun us μ2 => match planN (es.length + 1) ks.length (w :: vs) us pl with
      | some ws => callD (Γ.fn f) ws μ2 Q X
      | none => False) X) X
    | none => False) X
  | .blt b es => wpL ih es ρ μ (fun ws μ1 => bltD b ws μ1 Q) X
def wpET (Γ : Gam) : Nat → (CE → DE) × (CE → DT)
  | 0 => (fun _ _ _ _ _ => False, fun _ _ _ _ _ => False)
  | n + 1 => (stepE Γ (wpET Γ n).1 (wpET Γ n).2, stepT (wpET Γ n).1 (wpET Γ n).2 (stepE Γ (wpET Γ n).1 (wpET Γ n).2))
/-- how deep expressions stand in one another -/
def deep : Nat := 24
def wpE (Γ : Gam) (e : CE) : DE := (wpET Γ deep).1 e
def wpT (Γ : Gam) (e : CE) : DT := (wpET Γ deep).2 e

/-! ### statements -/
inductive CT where
  | name (i : Nat) | sub (o i : CE) | fld (o : CE) (k : Nat) | tup (ts : List CT)
inductive CI where
  | rng (es : List CE) | seq (e : CE)
inductive CS where
  | asg (t : CT) (e : CE) | par (is : List Nat) (es : List CE) | aug (i : Nat) (op : Operator) (e : CE)
  | ex (e : CE) | ret (e : CE) | retN | ifs (t : CE) (a b : List CS) | whl (t : CE) (b : List CS) | fors (t : CT) (it : CI) (b : List CS)
  | never | pas | brk | cont
/-- what is wanted behind a statement -/
structure DEnds where
  nx : Env → Sto → Prop
  rt : W → Sto → Prop
  bk : Env → Sto → Prop
  ct : Env → Sto → Prop
abbrev XS := Exc → Env → Sto → Prop
abbrev DG := W → Env → Sto → (Env → Sto → Prop) → XQ → Prop
def setD (o i : W) (v : W) (μ : Sto) (Q : Sto → Prop) : Prop := match o, i with
  | .m j, .p (.int k) => match frzW μ v with
    | some (d, μ1) => match getM μ1 j with
      | some (.lst ds) => Gt (ixN ds.length k) fun n => Q (μ1.set j (some (.lst (ds.set n d))))
      | _ => False
    | none => False
  | _, _ => False
def sfldD (Γ : Gam) (k : Nat) (o v : W) (μ : Sto) (Q : Sto → Prop) : Prop := match o with
  | .m j => match frzW μ v with
    | some (d, μ1) => match getM μ1 j with
      | some (.ins c ns ds) => match nmem k (Γ.cF c) with
        | true => Sd (ns.length ≤ 900) (Q (μ1.set j (some (.ins c (putN k d ns ds).1 (putN k d ns ds).2))))
        | false => False
      | _ => False
    | none => False
  | _ => False
/-- several targets, one after another -/
def wpGl (f : CT → W → Env → Sto → (Env → Sto → Prop) → XS → Prop) : List CT → List D → Env → Sto → (Env → Sto → Prop) → XS → Prop
  | [], [], ρ, μ, Q, _ => Q ρ μ
  | t :: ts, d :: ds, ρ, μ, Q, X => f t (.p d) ρ μ (fun ρ1 μ1 => wpGl f ts ds ρ1 μ1 Q X) X
  | _, _, _, _, _, _ => False
def wpG (Γ : Gam) : Nat → CT → W → Env → Sto → (Env → Sto → Prop) → XS → Prop
  | 0, _, _, _, _, _, _ => False
  | n + 1, t, w, ρ, μ, Q, X => match t with
    | .name i => match Nat.blt i ρ.length with
      | true => Q (ρ.set i (some w)) μ
      | false => False
    | .sub o i => wpE Γ o ρ μ (fun x μ1 => wpE Γ i ρ μ1 (fun y μ2 => setD x y w μ2 fun μ3 => Q ρ μ3) fun e μ' => X e ρ μ') fun e μ' => X e ρ μ'
    | .fld o k => wpE Γ o ρ μ (fun x μ1 => sfldD Γ k x w μ1 fun μ2 => Q ρ μ2) fun e μ' => X e ρ μ'
    | .tup ts => match w with
      | .p (.tup ds) => match Nat.beq ds.length ts.length with
        | true => wpGl (wpG Γ n) ts ds ρ μ Q X
        | false => False
      | _ => False

def newer (k0 : Nat) : Env → List Nat
  | [] => []
  | some (.m i) :: r => match Nat.ble k0 i, nmem i (newer k0 r) with
    | true, false => i :: newer k0 r
    | _, _ => newer k0 r
  | _ :: r => newer k0 r
def renE (k0 : Nat) (js : List Nat) : Option W → Option W
  | some (.m i) => match Nat.ble k0 i with
    | true => some (.m (k0 + ixOf i js))
    | false => some (.m i)
  | o => o
/-- what no name tells any longer is let go -/
def tidy (k0 : Nat) (ρ : Env) (μ : Sto) (Q : Env → Sto → Prop) : Prop :=
  Q (ρ.map (renE k0 (newer k0 ρ))) (μ.take k0 ++ (newer k0 ρ).map (getM μ))
def tidyR (k0 : Nat) (w : W) (μ : Sto) (Q : W → Sto → Prop) : Prop := match w with
  | .p d => Q (.p d) (μ.take k0)
  | .m i => match Nat.ble k0 i with
    | true => Q (.m k0) (μ.take k0 ++ [getM μ i])
    | false => Q (.m i) (μ.take k0)
/-- a loop over items -/
def loopD (k0 : Nat) (live : Sto → Prop) (turn : D → Env → Sto → (Env → Sto → Prop) → Prop) (done : Env → Sto → Prop) : List D → Env → Sto → Prop
  | [], ρ, μ => Sd (live μ) (done ρ μ)
  | d :: ds, ρ, μ => Sd (live μ) (turn d ρ μ fun ρ1 μ1 => tidy k0 ρ1 μ1 fun ρ2 μ2 => loopD k0 live turn done ds ρ2 μ2)
def rngD (lo : Int) : Nat → List D
  | 0 => []
  | n + 1 => .int lo :: rngD (lo + 1) n
def rngOf : Nat → List W → Option (Int × Int)
  | 1, [.p (.int j)] => some (0, j)
  | 2, [.p (.int i), .p (.int j)] => some (i, j)
  | _, _ => none
def itD (Γ : Gam) (it : CI) (ρ : Env) (μ : Sto) (Q : List D → (Sto → Prop) → Sto → Prop) (X : XQ) : Prop := match it with
  | .rng es => wpL (wpE Γ) es ρ μ (fun ws μ1 => match rngOf es.length ws with
    | some (i, j) => Sd (-(2 ^ 62) ≤ i ∧ i < 2 ^ 62 ∧ -(2 ^ 62) ≤ j ∧ j < 2 ^ 62) (Q (rngD i (j - i).toNat) (fun _ => True) μ1)
    | none => False) X
  | .seq e => wpE Γ e ρ μ (fun w μ1 => match w with
    | .p (.tup ds) => Q ds (fun _ => True) μ1
    | .p (.lst ds) => Q ds (fun _ => True) μ1
    | .m i => match getM μ1 i with
      | some (.lst ds) => Q ds (fun μ2 => getM μ2 i = some (.lst ds)) μ1
      | _ => False
    | _ => False) X
/-- a while: a word I with its measure -/
structure Whl (k0 : Nat) (test : Env → Sto → (Bool → Sto → Prop) → Prop) (turn : Env → Sto → (Env → Sto → Prop) → Prop) (done : Env → Sto → Prop) (ρ : Env) (μ : Sto) : Prop where
  ex : ∃ I : Nat → Env → Sto → Prop, (∃ n, I n ρ μ) ∧ ∀ n ρ1 μ1, I n ρ1 μ1 → test ρ1 μ1 fun k μ2 => Br k
    (turn ρ1 μ2 fun ρ2 μ3 => tidy k0 ρ2 μ3 fun ρ3 μ4 => ∃ m, m < n ∧ I m ρ3 μ4) (done ρ1 μ2)
def wpSs (f : CS → DEnds → XS → Env → Sto → Prop) : List CS → DEnds → XS → Env → Sto → Prop
  | [], E, _, ρ, μ => E.nx ρ μ
  | [s], E, X, ρ, μ => f s E X ρ μ
  | s :: ss, E, X, ρ, μ => f s { E with nx := wpSs f ss E X } X ρ μ
def setAll : List Nat → List W → Env → Option Env
  | [], [], ρ => some ρ
  | i :: is, w :: ws, ρ => match Nat.blt i ρ.length with
    | true => setAll is ws (ρ.set i (some w))
    | false => none
  | _, _, _ => none
def stepS (Γ : Gam) (ih : List CS → DEnds → XS → Env → Sto → Prop) : CS → DEnds → XS → Env → Sto → Prop := fun s E X ρ μ => match s with
  | .asg t e => wpE Γ e ρ μ (fun w μ1 => wpG Γ 4 t w ρ μ1 E.nx X) fun e μ' => X e ρ μ'
  | .par is es => wpL (wpE Γ) es ρ μ (fun ws μ1 => match setAll is ws ρ with
    | some ρ1 => E.nx ρ1 μ1
    | none => False) fun e μ' => X e ρ μ'
  | .aug i op e => match ρ[i]? with
    | some (some w) => wpE Γ e ρ μ (fun v μ1 => augD op w v μ1 fun u μ2 => E.nx (ρ.set i (some u)) μ2) fun e μ' => X e ρ μ'
    | _ => False
  | .ex e => wpE Γ e ρ μ (fun _ μ1 => E.nx ρ μ1) fun e μ' => X e ρ μ'
  | .ret e => wpE Γ e ρ μ E.rt fun e μ' => X e ρ μ'
  | .retN => E.rt (.p .non) μ
  | .ifs t a b => wpT Γ t ρ μ (fun k μ1 => Br k (ih a E X ρ μ1) (ih b E X ρ μ1)) fun e μ' => X e ρ μ'
  | .whl t b => Whl μ.length (fun ρ1 μ1 Q => wpT Γ t ρ1 μ1 Q fun e μ' => X e ρ1 μ') (fun ρ1 μ1 Q => ih b { E with nx := Q, ct := Q, bk := E.nx } X ρ1 μ1) E.nx ρ μ
  | .fors t it b => itD Γ it ρ μ (fun ds live μ1 => loopD μ1.length live (fun d ρ1 μ2 Q => wpG Γ 4 t (.p d) ρ1 μ2 (fun ρ2 μ3 => ih b { E with nx := Q, ct := Q, bk := E.nx } X ρ2 μ3) X) E.nx ds ρ μ1) fun e μ' => X e ρ μ'
  | .never => False
  | .pas => E.nx ρ μ
  | .brk => E.bk ρ μ
  | .cont => E.ct ρ μ
def wpSn (Γ : Gam) : Nat → List CS → DEnds → XS → Env → Sto → Prop
  | 0 => fun _ _ _ _ _ => False
  | n + 1 => wpSs fun s E X ρ μ => fE ρ fun ρ1 => fS μ fun μ1 => stepS Γ (wpSn Γ n) s E X ρ1 μ1
theorem wpSn_succ (Γ : Gam) (n : Nat) : wpSn Γ (n + 1) = wpSs (stepS Γ (wpSn Γ n)) := by
  rw [wpSn]
  congr 1
  funext s E X ρ μ
  rw [fE_eq, fS_eq]
def deepS : Nat := 12
/-- a def's body: what it asks of its arguments -/
def wpDef (Γ : Gam) (n : Nat) (body : List CS) : DSp := fun ws μ Q X =>
  wpSn Γ deepS body { nx := fun _ μ1 => tidyR μ.length (.p .non) μ1 Q, rt := fun w μ1 => tidyR μ.length w μ1 Q, bk := fun _ _ => False, ct := fun _ _ => False } (fun e _ μ1 => X e (μ1.take μ.length)) (ws.map some ++ List.replicate n none) μ
end DL
set_option Elab.async false
set_option linter.all false
set_option maxRecDepth 100000
set_option maxHeartbeats 4000000
/-! DL: what the core language asks is what the text does: expressions -/
namespace DL
open PySem PySem.Spec L2 PyProof.Rows

/-- an exception that leaves -/
def RepX (Z : Ctx) (F : Addr → Prop) (H : Hp) (e : Exc) (cls : Value) (d : Option Addr) : Prop :=
  cls = .ref (Z.cA e.c) ∧ Z.cok e.c = true ∧ ((e.ds = [] ∧ Z.cF e.c = []) ∨
    ∃ dx vs, d = some dx ∧ F dx ∧ H dx = some (.xd (((Z.cF e.c).map Z.fN).zip vs)) ∧ (Z.cF e.c).length = vs.length ∧ Reps Z F H e.ds vs)
/-- a def's promise over the abstract heap -/
def spV (Z : Ctx) (n : Nat) (sp : DSp) : Sp := fun vs H Q E => ∃ F α ws μ Qd Xd, ws.length = n ∧ StoOk Z F α H μ ∧ RepWs Z F α H ws vs ∧ sp ws μ Qd Xd ∧
  (∀ w μ', Qd w μ' → ∀ v H' F' α', Ext F α H F' α' H' → StoOk Z F' α' H' μ' → RepW Z F' α' H' w v → Q v H') ∧
  (∀ e μ', Xd e μ' → ∀ cls d H' F' α', Ext F α H F' α' H' → StoOk Z F' α' H' μ' → RepX Z F' H' e cls d → E cls d H')

/-- the text's tables: names of defs, classes, attributes; the calls' shapes (a def's, a class's name, how many arguments, which keywords), the sites of method calls; which are there -/
structure Sta where
  fN : Nat → Str
  fok : Nat → Bool
  shape : Nat → Str × Nat × List Str
  sok : Nat → Bool
  mok : Nat → Nat → Bool
  tok : Nat → Bool
  cok : Nat → Bool
  cnm : Nat → Str
  site : Nat → Str × Nat × List Str
  trs : List TR
  con : Str → D → Bool
  blt : Str → Bool

def trV (Z : Ctx) : TR → Value
  | .b n => .type n
  | .c k => .ref (Z.cA k)
def trW (Z : Ctx) : TR → V
  | .b n => .ty n
  | .c k => .ref (Z.cA k)
def dV : D → V
  | .bl b => .bl b
  | .int i => .int i
  | .str x => .str x
  | _ => .non
/-- how a call of the shape binds -/
def BindOk (K : PySem.W.Frag) (fd : FuncData) (ps : List Str) (n : Nat) (ks : List Str) (pl : List Src) : Prop :=
  pl.length = ps.length ∧ ∀ (us ws : List Value), us.length = n → ws.length = ks.length →
    ∃ zs : List Value, (∀ s : Shared, K.In s.heap → BindsTo s fd ⟨us, ks.zip ws⟩ (ps.zip zs)) ∧ zs.length = pl.length ∧
      ∀ (i : Nat) (z : Value), zs[i]? = some z → (∃ j, pl[i]? = some (.pos j) ∧ us[j]? = some z) ∨ (∃ j, pl[i]? = some (.kw j) ∧ ws[j]? = some z) ∨ (∃ d, pl[i]? = some (.dfl d) ∧ (d = .non ∨ (∃ b, d = .bl b) ∨ (∃ b, d = .int b) ∨ ∃ b, d = .str b) ∧ RelV (dV d) z)

/-- what is known of a def that is called in a shape: which one, how it binds -/
def CallOk (P : Program) (w : World) (K : PySem.W.Frag) (mg : Str → Option Value) (base : Heap) (Γ : Gam) (Z : Ctx) (k f n : Nat) (ks : List Str) (pl : List Src) : Prop :=
  ∃ fd ps, FnOk P w K mg base (L2.CX P w) k (Z.fA f) fd ps (spV Z ps.length (Γ.fn f)) ∧ BindOk K fd ps n ks pl ∧ PySem.W.keepIn K (.ref (Z.fA f)) = true
/-- what is known of the module -/
structure Lib (P : Program) (w : World) (K : PySem.W.Frag) (mg : Str → Option Value) (base : Heap) (Γ : Gam) (Z : Ctx) (G : Sta) (k : Nat) : Prop where
  zK : Z.K = K
  zF : Z.cF = Γ.cF
  zN : Z.fN = G.fN
  inj : ∀ a b, G.fN a = G.fN b → a = b
  zok : Z.cok = G.cok
  fn : ∀ s, G.sok s = true → CallOk P w K mg base Γ Z k (Γ.plan s).1 (G.shape s).2.1 (G.shape s).2.2 (Γ.plan s).2 ∧ mg (G.shape s).1 = some (.ref (Z.fA (Γ.plan s).1))
  mke : ∀ c s, G.mok c s = true → G.cok c = true ∧ (∃ j, j + 1 ≤ k ∧ CallOk P w K mg base Γ Z j (Γ.plan s).1 ((G.shape s).2.1 + 1) (G.shape s).2.2 (Γ.plan s).2) ∧
    mg (G.shape s).1 = some (.ref (Z.cA c)) ∧ Mk K (Z.cA c) (Z.fA (Γ.plan s).1)
  meth : ∀ c s f pl, G.cok c = true → G.tok s = true → Γ.meth c s = some (f, pl) → CallOk P w K mg base Γ Z k f ((G.site s).2.1 + 1) (G.site s).2.2 pl ∧ Meth K (Z.cA c) (G.site s).1 (Z.fA f) ∧ ∀ j ∈ Γ.cF c, G.fN j ≠ (G.site s).1
  cls : ∀ c, G.cok c = true → Cls K (Z.cA c) ∧ PySem.W.findIn K (.ref (Z.cA c)) "__class__" = some (some (.builtin "object.__class__")) ∧
    PySem.W.specialIn K (.builtin "object.__class__") "__get__" = some (some (.builtin "getset_descriptor.__get__")) ∧ PySem.W.takesIn K (.builtin "object.__class__") = some true ∧ PySem.W.mroIn K (Z.cA c) (.type "object") = some true
  noat : ∀ c j, G.cok c = true → j ∈ Γ.cF c → NoAttr K (Z.cA c) (G.fN j)
  kit : ∀ c t, G.cok c = true → t ∈ G.trs → PySem.W.kitOne K (.ref (Z.cA c)) (trV Z t) = some (Γ.sub c t)
  kitB : ∀ n t, n ∈ ["NoneType", "bool", "int", "str", "tuple", "list", "dict"] → t ∈ G.trs → PySem.W.kitOne K (.type n) (trV Z t) = some (isiN n t)
  trc : ∀ c, .c c ∈ G.trs → mg (G.cnm c) = some (.ref (Z.cA c))
  free : ∀ x, G.blt x = true → mg x = none
  con : ∀ x d, G.con x d = true → ∃ u v, mg x = some u ∧ RelV v u ∧ ∀ F H, Rep Z F H d v

/-! ### readings over the heap -/
/-- where one stands: the tables, the state at the def's entry, what is wanted of an exception -/
structure Dc where
  Z : Ctx
  F0 : Addr → Prop
  α0 : List Addr
  H0 : Hp
  Xc : XS
def tD (δ : Dc) (f : DE) : TE := fun σ H Q => ∃ F α ρ μ Qd Xd, Ext δ.F0 δ.α0 δ.H0 F α H ∧ StoOk δ.Z F α H μ ∧ Loc δ.Z F α H ρ σ ∧ f ρ μ Qd Xd ∧
  (∀ w μ', Qd w μ' → ∀ v H' F' α', Ext F α H F' α' H' → StoOk δ.Z F' α' H' μ' → RepW δ.Z F' α' H' w v → Q v H') ∧ (∀ e μ', Xd e μ' → δ.Xc e ρ μ')
def tDT (δ : Dc) (f : DT) : TT := fun σ H Q => ∃ F α ρ μ Qd Xd, Ext δ.F0 δ.α0 δ.H0 F α H ∧ StoOk δ.Z F α H μ ∧ Loc δ.Z F α H ρ σ ∧ f ρ μ Qd Xd ∧
  (∀ b μ', Qd b μ' → ∀ H' F' α', Ext F α H F' α' H' → StoOk δ.Z F' α' H' μ' → Q b H') ∧ (∀ e μ', Xd e μ' → δ.Xc e ρ μ')
abbrev DL := Env → Sto → (List W → Sto → Prop) → XQ → Prop
def tDA (δ : Dc) (f : DL) : TA := fun σ H Q => ∃ F α ρ μ Qd Xd, Ext δ.F0 δ.α0 δ.H0 F α H ∧ StoOk δ.Z F α H μ ∧ Loc δ.Z F α H ρ σ ∧ f ρ μ Qd Xd ∧
  (∀ ws μ', Qd ws μ' → ∀ vs H' F' α', Ext F α H F' α' H' → StoOk δ.Z F' α' H' μ' → RepWs δ.Z F' α' H' ws vs → Q vs H') ∧ (∀ e μ', Xd e μ' → δ.Xc e ρ μ')
def wX (δ : Dc) : WX := fun cls d σ H => ∃ e F α ρ μ, Ext δ.F0 δ.α0 δ.H0 F α H ∧ StoOk δ.Z F α H μ ∧ Loc δ.Z F α H ρ σ ∧ RepX δ.Z F H e cls d ∧ δ.Xc e ρ μ
structure XOk (Γ : Gam) (δ : Dc) (G : Sta) (N : List Str) (sc : Scope) (k : Nat) (X : Cx) : Prop where
  lib : Lib X.prog X.w X.K X.mg X.base Γ δ.Z G k
  sc : X.env.scope = sc
  nN : X.N = N
  nd : N.Nodup
  calm : X.calm = true
  room : Room k X.A
  tk : Takes X (wX δ)

theorem PE.imp {X : Cx} {e : Expr} {t u : TE} (h : PE X e t) (hi : ∀ σ H Q, u σ H Q → t σ H Q) : PE X e u := ⟨fun pins s σ H Q I q => h.run pins s σ H Q I (hi _ _ _ q)⟩
theorem PT.imp {X : Cx} {e : Expr} {t u : TT} (h : PT X e t) (hi : ∀ σ H Q, u σ H Q → t σ H Q) : PT X e u := ⟨fun pins s σ H Q I q => h.run pins s σ H Q I (hi _ _ _ q)⟩
theorem PS.imp {X : Cx} {e : Stmt} {t u : TS} (h : PS X e t) (hi : ∀ D σ H, u D σ H → t D σ H) : PS X e u := ⟨fun pins s σ H D I q => h.run pins s σ H D I (hi _ _ _ q)⟩

/-! ### the check of a text against the core language -/
def visB (sc : Scope) (x : Str) : Bool := match sc.names.lookup x with
  | some .local => true
  | some .cell => true
  | some .free => true
  | _ => false
def glB (sc : Scope) (x : Str) : Bool := (match sc.names.lookup x with
  | some .globalImplicit => true
  | _ => false) && !(x == ("__debug__" : Str)) && !(x == ("__name__" : Str))
def conB : D → Const → Bool
  | .non, .none => true
  | .bl b, .bool c => b == c
  | .int i, .int j => decide (i = j)
  | .str x, .str y => decide (x = y)
  | _, _ => false
/-- no call of super() without arguments -/
def noSup : Expr → Bool
  | .Call (.Name id _) [] [] _ => !(id == ("super" : Str))
  | _ => true
def plainE : Expr → Bool
  | .Slice .. => false
  | .Starred .. => false
  | .Set .. => false
  | .ListComp .. => false
  | .SetComp .. => false
  | .DictComp .. => false
  | _ => true
def allB {α β : Type} (f : α → β → Bool) : List α → List β → Bool
  | [], [] => true
  | a :: as, b :: bs => f a b && allB f as bs
  | _, _ => false
def kwB (f : CE → Expr → Bool) : List CE → List Str → List Keyword → Bool
  | [], [], [] => true
  | a :: as, x :: xs, ⟨some y, e, _⟩ :: ks => (x == y) && f a e && kwB f as xs ks
  | _, _, _ => false
def optB (f : CE → Expr → Bool) : Option CE → Option Expr → Bool
  | none, none => true
  | some a, some e => f a e
  | _, _ => false
def btN : Bt → String
  | .abs => "abs" | .max2 => "max" | .min2 => "min" | .len => "len" | .divmod => "divmod" | .int1 => "int" | .strI => "str" | .sum => "sum" | .all => "all" | .any => "any" | .maxL => "max" | .minL => "min" | .bool1 => "bool" | .reprI => "repr" | .listOf => "list" | .tupleOf => "tuple" | .sorted => "sorted"
def trB (G : Sta) : TR → Expr → Bool
  | .b n, .Name x _ => x == Str.ofString n
  | .c k, .Name x _ => x == G.cnm k
  | _, _ => false
end DL
set_option Elab.async false
set_option linter.all false
set_option maxRecDepth 100000
set_option maxHeartbeats 4000000
/-! DL: operators -/
namespace DL
open PySem PySem.Spec L2 PyProof.Rows

section
variable {X : Cx}
/-- an operator's rule, of the layer below -/
def rBin (K : PySem.W.Frag) (op : Operator) : R2 := fun x y H Q => match op with
  | .Add => rI0 (fun i j => .int (i + j)) x y H Q ∨ (∃ i j, x = .str i ∧ y = .str j ∧ i.length + j.length ≤ sizeLine ∧ Q (.str (i ++ j)) H) ∨ rCatA K x y H Q ∨ rCat x y H Q
  | .Sub => rI0 (fun i j => .int (i - j)) x y H Q
  | .Mult => rI IntMulOk (fun i j => .int (i * j)) x y H Q
  | .FloorDiv => rI CDivW (fun i j => .int (i / j)) x y H Q
  | .Mod => rI (fun _ j => 0 < j) (fun i j => .int (i % j)) x y H Q
  | .Pow => rI CPow (fun i j => .int (i ^ j.toNat)) x y H Q
  | .LShift => rI CPow (fun i j => .int (i * 2 ^ j.toNat)) x y H Q
  | .RShift => rI (fun _ j => 0 ≤ j) (fun i j => .int (i / 2 ^ j.toNat)) x y H Q
  | .BitAnd => rI0 (fun i j => .int (Builtin.bitAnd i j)) x y H Q
  | _ => False
theorem op_mulM : OpR X (binaryOp .Mult) (rI IntMulOk fun i j => .int (i * j)) := opI fun _ _ _ _ _ _ _ hc q => mul_int q hc
theorem op_no {f : Value → Value → Sem Value} : OpR X f (fun _ _ _ _ => False) := fun _ _ _ _ _ _ _ _ _ _ _ _ h => h.elim
theorem op_bin (op : Operator) : OpR X (binaryOp op) (rBin X.K op) := by
  cases op with
  | Add => exact OpR.or op_add (OpR.or op_add_str (OpR.or op_catA op_cat))
  | Sub => exact op_sub
  | Mult => exact op_mulM
  | FloorDiv => exact op_fdivW
  | Mod => exact op_mod
  | Pow => exact op_pow
  | LShift => exact op_shl
  | RShift => exact op_shr
  | BitAnd => exact op_and
  | MatMult => exact op_no
  | Div => exact op_no
  | BitOr => exact op_no
  | BitXor => exact op_no
end

section
variable {Z : Ctx} {F : Addr → Prop} {α : List Addr} {H : Hp} {μ : Sto}
theorem StoOk.get {i : Nat} {m : MO} (s : StoOk Z F α H μ) (h : getM μ i = some m) : ∃ a, α[i]? = some a ∧ ¬ F a ∧ RepM Z F H a m := by
  unfold getM at h
  cases e : μ[i]? with
  | none => rw [e] at h; cases h
  | some o => rw [e] at h; exact s.at_ i m (by rw [e]; exact congrArg some h)
theorem StoOk.lst {i : Nat} {ds : List D} {v : V} (s : StoOk Z F α H μ) (h : getM μ i = some (.lst ds)) (r : RepW Z F α H (.m i) v) : ∃ a vs, v = .ref a ∧ α[i]? = some a ∧ ¬ F a ∧ H a = some (.lst vs) ∧ Reps Z F H ds vs := by
  obtain ⟨a, e, nf, vs, h1, h2⟩ := s.get h
  obtain ⟨b, e', rfl⟩ := r
  rw [e] at e'; cases e'
  exact ⟨a, vs, rfl, e, nf, h1, h2⟩
/-- the post of an expression, from the state at hand -/
def Post (Z : Ctx) (F : Addr → Prop) (α : List Addr) (H : Hp) (Qd : EQ) (Q : VK) : Prop :=
  ∀ w μ', Qd w μ' → ∀ v H' F' α', Ext F α H F' α' H' → StoOk Z F' α' H' μ' → RepW Z F' α' H' w v → Q v H'
theorem Post.here {Qd : EQ} {Q : VK} {w : W} {v : V} (p : Post Z F α H Qd Q) (s : StoOk Z F α H μ) (h : Qd w μ) (r : RepW Z F α H w v) : Q v H := p w μ h v H F α (Ext.refl _ _ _) s r
theorem Post.newF {Qd : EQ} {Q : VK} {d : D} {p : Addr} {o : HO} (q : Post Z F α H Qd Q) (s : StoOk Z F α H μ) (h : Qd (.p d) μ) (hp : H p = none) (r : Rep Z (addF F p) (upd H p o) d (.ref p)) : Q (.ref p) (upd H p o) :=
  q _ μ h (.ref p) (upd H p o) (addF F p) α (Ext.newF hp) (s.newF hp) r
theorem Post.newM {Qd : EQ} {Q : VK} {m : MO} {p : Addr} {o : HO} (q : Post Z F α H Qd Q) (s : StoOk Z F α H μ) (h : Qd (.m μ.length) (μ ++ [some m])) (hp : H p = none) (r : RepM Z F (upd H p o) p m) : Q (.ref p) (upd H p o) :=
  q _ _ h (.ref p) (upd H p o) F (α ++ [p]) (Ext.newM hp) (s.newM hp r) ⟨p, by rw [List.getElem?_append_right (by rw [s.len]; exact Nat.le_refl _)]; simp [s.len], rfl⟩

theorem reps_new {p : Addr} {o : HO} {ds : List D} {vs : List V} (hp : H p = none) (r : Reps Z F H ds vs) : Reps Z F (upd H p o) ds vs :=
  Reps.mono (fun _ h => h) (fun a o' _ e => by rw [upd_ne (ne_of_none e hp)]; exact e) ds vs r
theorem reps_newF {p : Addr} {o : HO} {ds : List D} {vs : List V} (hp : H p = none) (r : Reps Z F H ds vs) : Reps Z (addF F p) (upd H p o) ds vs :=
  Reps.mono (fun _ h => .inl h) (fun a o' _ e => by rw [upd_ne (ne_of_none e hp)]; exact e) ds vs r

theorem bin_sound {op : Operator} {x y : W} {u v : V} {Qd : EQ} {Q : VK} (s : StoOk Z F α H μ) (ru : RepW Z F α H x u) (rv : RepW Z F α H y v) (h : binD op x y μ Qd) (p : Post Z F α H Qd Q) : rBin Z.K op u v H Q := by
  have inz : ∀ {i j : Int}, x = .p (.int i) → y = .p (.int j) → u = .int i ∧ v = .int j := fun e1 e2 => by
    subst e1 e2; exact ⟨ru, rv⟩
  unfold binD at h
  split at h
  · obtain ⟨rfl, rfl⟩ := inz rfl rfl; exact .inl ⟨_, _, rfl, rfl, p.here s h rfl⟩
  · obtain ⟨rfl, rfl⟩ := inz rfl rfl; exact ⟨_, _, rfl, rfl, p.here s h rfl⟩
  · obtain ⟨rfl, rfl⟩ := inz rfl rfl; exact ⟨_, _, rfl, rfl, h.p, p.here s h.q rfl⟩
  · obtain ⟨rfl, rfl⟩ := inz rfl rfl; exact ⟨_, _, rfl, rfl, h.p, p.here s h.q rfl⟩
  · obtain ⟨rfl, rfl⟩ := inz rfl rfl; exact ⟨_, _, rfl, rfl, h.p, p.here s h.q rfl⟩
  · obtain ⟨rfl, rfl⟩ := inz rfl rfl; exact ⟨_, _, rfl, rfl, h.p, p.here s h.q rfl⟩
  · obtain ⟨rfl, rfl⟩ := inz rfl rfl; exact ⟨_, _, rfl, rfl, h.p, p.here s h.q rfl⟩
  · obtain ⟨rfl, rfl⟩ := inz rfl rfl; exact ⟨_, _, rfl, rfl, h.p, p.here s h.q rfl⟩
  · obtain ⟨rfl, rfl⟩ := inz rfl rfl; exact ⟨_, _, rfl, rfl, p.here s h rfl⟩
  · cases (show u = _ from ru); cases (show v = _ from rv)
    exact .inr (.inl ⟨_, _, rfl, rfl, h.p, p.here s h.q rfl⟩)
  · rename_i ds es
    obtain ⟨a, vs, rfl, t1, r1⟩ := ru
    obtain ⟨b, us, rfl, t2, r2⟩ := rv
    obtain ⟨hl, q⟩ := h
    have l1 := r1.length
    have l2 := r2.length
    refine .inr (.inr (.inl ⟨a, b, vs, us, rfl, rfl, t1.sq, t2.sq, by omega, fun z => ?_, fun z1 z2 => ?_, fun _ _ q' hq' => ?_⟩))
    · subst z
      have e : ds = [] := List.length_eq_zero_iff.mp (by rw [← l1]; rfl)
      subst e
      exact p.here s q ⟨b, us, rfl, t2, r2⟩
    · subst z2
      have e : es = [] := List.length_eq_zero_iff.mp (by rw [← l2]; rfl)
      subst e
      exact p.here s q ⟨a, vs, rfl, t1, by rw [List.append_nil]; exact r1⟩
    · exact p.newF s q hq' ⟨q', vs ++ us, rfl, .inl ⟨.inr rfl, upd_same⟩, (reps_newF hq' r1).append (reps_newF hq' r2)⟩
  · split at h
    · rename_i e1 e2
      obtain ⟨a, vs, rfl, _, _, t1, r1⟩ := s.lst e1 ru
      obtain ⟨b, us, rfl, _, _, t2, r2⟩ := s.lst e2 rv
      have l1 := r1.length
      have l2 := r2.length
      refine .inr (.inr (.inr ⟨a, b, vs, us, rfl, rfl, t1, t2, by have := h.p; omega, fun q' hq' => ?_⟩))
      exact p.newM s h.q hq' ⟨vs ++ us, upd_same, (reps_new hq' r1).append (reps_new hq' r2)⟩
    · exact h.elim
  · exact h.elim

theorem dec_intD {i j : Int} : decide (V.int i = V.int j) = decide (i = j) := by rw [dec_int, Bool.beq_eq_decide_eq]
theorem dec_strD {i j : Str} : decide (V.str i = V.str j) = decide (i = j) := by
  by_cases h : i = j
  · subst h; simp
  · simp [h]
/-- comparisons -/
def rCmp (K : PySem.W.Frag) (op : CmpOp) : R2 := fun x y H Q => match op with
  | .Lt => rI0 (fun i j => .bl (decide (i < j))) x y H Q
  | .LtE => rI0 (fun i j => .bl (decide (i ≤ j))) x y H Q
  | .Gt => rI0 (fun i j => .bl (decide (j < i))) x y H Q
  | .GtE => rI0 (fun i j => .bl (decide (j ≤ i))) x y H Q
  | .Eq => rEq x y H Q ∨ rEqD K x y H Q
  | .NotEq => rNe x y H Q ∨ rNeD K x y H Q
  | .Is => y = .non ∧ Q (.bl (decide (x = .non))) H
  | .IsNot => y = .non ∧ Q (.bl (!decide (x = .non))) H
  | _ => False
theorem op_cmp {X : Cx} (hu : X.A.units + 64 < cLine) (op : CmpOp) : OpR X (compareOp op) (rCmp X.K op) := by
  cases op with
  | Lt => exact op_lt
  | LtE => exact op_le
  | Gt => exact op_gt
  | GtE => exact op_ge
  | Eq => exact OpR.or op_eq (op_eqD hu)
  | NotEq => exact OpR.or op_ne (op_neD hu)
  | Is => exact op_isN
  | IsNot => exact op_notN
  | In => exact op_no
  | NotIn => exact op_no
mutual
theorem dp_of : ∀ (d : D) (x : PyData) (v : V), pd d = some x → Rep Z F H d v → Dp Z.K H v x := fun d x v e r => match d, e, r with
  | .non, e, r => by cases e; cases (show v = _ from r); exact .non
  | .bl b, e, r => by cases e; cases (show v = _ from r); exact .bl b
  | .int b, e, r => by cases e; cases (show v = _ from r); exact .int b
  | .str b, e, r => by cases e; cases (show v = _ from r); exact .str b
  | .tup ds, e, ⟨a, vs, e2, t, r'⟩ => by
    unfold pd at e
    cases q : pds ds with
    | none => rw [q] at e; cases e
    | some xs =>
      rw [q] at e
      cases e
      subst e2
      exact .tup t.sq (dps_of ds xs vs q r')
  | .lst ds, e, ⟨a, vs, e2, t, r'⟩ => by
    unfold pd at e
    cases q : pds ds with
    | none => rw [q] at e; cases e
    | some xs =>
      rw [q] at e
      cases e
      subst e2
      exact .lst t.sq (dps_of ds xs vs q r')
theorem dps_of : ∀ (ds : List D) (xs : List PyData) (vs : List V), pds ds = some xs → Reps Z F H ds vs → DpAll Z.K H vs xs := fun ds xs vs e r => match ds, e, r with
  | [], e, r => by cases e; cases (show vs = _ from r); exact .nil
  | d :: ds, e, ⟨v, us, e2, r1, r2⟩ => by
    unfold pds at e
    cases q : pd d with
    | none => rw [q] at e; cases e
    | some x =>
      cases q2 : pds ds with
      | none => rw [q, q2] at e; cases e
      | some ys =>
        rw [q, q2] at e
        cases e
        subst e2
        exact .cons (dp_of d x v q r1) (dps_of ds ys us q2 r2)
end
theorem dp_w {w : W} {x : PyData} {v : V} (s : StoOk Z F α H μ) (e : pdW μ w = some x) (r : RepW Z F α H w v) : Dp Z.K H v x := by
  cases w with
  | p d => exact dp_of d x v e r
  | m i =>
    unfold pdW at e
    split at e
    · cases ‹W.m i = W.p _›
    · rename_i j hj
      cases hj
      split at e
      · rename_i ds q
        obtain ⟨a, vs, rfl, _, _, t1, r1⟩ := s.lst q r
        unfold pd at e
        cases q : pds ds with
        | none => rw [q] at e; cases e
        | some xs =>
          rw [q] at e
          cases e
          exact .lst (SqL.of t1) (dps_of ds xs vs q r1)
      · cases e
theorem isNon_eq {d : D} {u : V} (ru : Rep Z F H d u) : decide (u = V.non) = isNon d := by
  cases d with
  | non => cases (show u = _ from ru); rfl
  | bl _ => cases (show u = _ from ru); rfl
  | int _ => cases (show u = _ from ru); rfl
  | str _ => cases (show u = _ from ru); rfl
  | ty _ => cases (show u = _ from ru); rfl
  | glo _ => cases (show u = _ from ru); rfl
  | tup _ => obtain ⟨a, _, rfl, _⟩ := ru; rfl
  | obj _ _ => obtain ⟨a, _, _, rfl, _⟩ := ru; rfl
  | lst _ => obtain ⟨a, _, rfl, _⟩ := ru; rfl
  | dct _ _ => obtain ⟨a, _, rfl, _⟩ := ru; rfl
  | exc _ _ => obtain ⟨a, _, _, rfl, _⟩ := ru; rfl
theorem cmp_sound {op : CmpOp} {x y : W} {u v : V} {Qd : Bool → Prop} {Q : VK} (s : StoOk Z F α H μ) (ru : RepW Z F α H x u) (rv : RepW Z F α H y v) (h : cmpD op x y μ Qd) (p : ∀ b, Qd b → Q (.bl b) H) : rCmp Z.K op u v H Q := by
  have inz : ∀ {i j : Int}, x = .p (.int i) → y = .p (.int j) → u = .int i ∧ v = .int j := fun e1 e2 => by
    subst e1 e2; exact ⟨ru, rv⟩
  unfold cmpD at h
  split at h
  · obtain ⟨rfl, rfl⟩ := inz rfl rfl; exact ⟨_, _, rfl, rfl, p _ h⟩
  · obtain ⟨rfl, rfl⟩ := inz rfl rfl; exact ⟨_, _, rfl, rfl, p _ h⟩
  · obtain ⟨rfl, rfl⟩ := inz rfl rfl; exact ⟨_, _, rfl, rfl, p _ h⟩
  · obtain ⟨rfl, rfl⟩ := inz rfl rfl; exact ⟨_, _, rfl, rfl, p _ h⟩
  · exact ⟨rv, by rw [isNon_eq ru]; exact p _ h⟩
  · exact ⟨rv, by rw [isNon_eq ru]; exact p _ h⟩
  · obtain ⟨rfl, rfl⟩ := inz rfl rfl
    refine .inl ⟨rfl, ?_⟩
    rw [dec_intD]; exact p _ h
  · obtain ⟨rfl, rfl⟩ := inz rfl rfl
    refine .inl ⟨rfl, ?_⟩
    rw [dec_intD]; exact p _ h
  · cases (show u = _ from ru); cases (show v = _ from rv)
    refine .inl ⟨rfl, ?_⟩
    rw [dec_strD]; exact p _ h
  · cases (show u = _ from ru); cases (show v = _ from rv)
    refine .inl ⟨rfl, ?_⟩
    rw [dec_strD]; exact p _ h
  · obtain ⟨⟨a, e1, ⟨⟨b, e2, ⟨⟨s1, s2⟩, q⟩⟩⟩⟩⟩ := h
    exact .inr ⟨a, b, dp_w s e1 ru, dp_w s e2 rv, s1, s2, p _ q⟩
  · obtain ⟨⟨a, e1, ⟨⟨b, e2, ⟨⟨s1, s2⟩, q⟩⟩⟩⟩⟩ := h
    exact .inr ⟨a, b, dp_w s e1 ru, dp_w s e2 rv, s1, s2, p _ q⟩
  · exact h.elim
end
end DL
set_option Elab.async false
set_option linter.all false
set_option maxRecDepth 100000
set_option maxHeartbeats 4000000
/-! DL: subscripts, displays, built-ins, attributes, isinstance, over values -/
namespace DL
open PySem PySem.Spec L2 PyProof.Rows
section
variable {Z : Ctx} {F : Addr → Prop} {α : List Addr} {H : Hp} {μ : Sto} {Γ : Gam}

theorem lstOf_sound {w : W} {v : V} {ds : List D} (s : StoOk Z F α H μ) (e : lstOf μ w = some ds) (r : RepW Z F α H w v) : ∃ a vs, v = .ref a ∧ SqL Z.K H a vs ∧ Reps Z F H ds vs := by
  unfold lstOf at e
  split at e
  · cases e
    obtain ⟨a, vs, rfl, t, r⟩ := r
    exact ⟨a, vs, rfl, t.sq, r⟩
  · split at e
    · rename_i q
      cases e
      obtain ⟨a, vs, rfl, _, _, t, r⟩ := s.lst q r
      exact ⟨a, vs, rfl, SqL.of t, r⟩
    · cases e
  · cases e
theorem seqOf_sound {w : W} {v : V} {ds : List D} (s : StoOk Z F α H μ) (e : seqOf μ w = some ds) (r : RepW Z F α H w v) : ∃ a vs, v = .ref a ∧ (SqL Z.K H a vs ∨ SqT Z.K H a vs) ∧ Reps Z F H ds vs := by
  unfold seqOf at e
  split at e
  · cases e
    obtain ⟨a, vs, rfl, t, r⟩ := r
    exact ⟨a, vs, rfl, .inr t.sq, r⟩
  · obtain ⟨a, vs, e1, h1, h2⟩ := lstOf_sound s e r
    exact ⟨a, vs, e1, .inl h1, h2⟩
theorem atI_reps {ds : List D} {vs : List V} {i : Int} {d : D} (r : Reps Z F H ds vs) (e : atI ds i = some d) : ∃ v, atI vs i = some v ∧ Rep Z F H d v := by
  unfold atI at e ⊢
  rw [← r.length] at e
  cases q : ixN vs.length i with
  | none => rw [q] at e; cases e
  | some j =>
    rw [q] at e
    exact r.get e
/-- x[y] -/
def rIx (K : PySem.W.Frag) : R2 := fun x y H Q => rIxL K x y H Q ∨ rIxT K x y H Q ∨ rIxS x y H Q
theorem IxR.or {X : Cx} {r r' : R2} (h : IxR X r) (h' : IxR X r') : IxR X (fun x y H Q => r x y H Q ∨ r' x y H Q) := by
  intro value slice pins s σ H x y v u Q I rx ry q
  rcases q with q | q
  · exact h value slice pins s σ H x y v u Q I rx ry q
  · exact h' value slice pins s σ H x y v u Q I rx ry q
theorem ix_any {X : Cx} : IxR X (rIx X.K) := IxR.or ix_list (IxR.or ix_tup ix_str)
theorem idx_sound {x y : W} {u v : V} {Qd : EQ} {Q : VK} (s : StoOk Z F α H μ) (ru : RepW Z F α H x u) (rv : RepW Z F α H y v) (h : idxD x y μ Qd) (p : Post Z F α H Qd Q) : rIx Z.K u v H Q := by
  unfold idxD at h
  split at h
  · cases (show u = _ from ru); cases (show v = _ from rv)
    obtain ⟨hl, ⟨c, e, q⟩⟩ := h
    exact .inr (.inr ⟨_, _, c, rfl, rfl, hl, e, p.here s q rfl⟩)
  · cases (show v = _ from rv)
    split at h
    · rename_i ds q
      obtain ⟨⟨d, e, hq⟩⟩ := h
      obtain ⟨a, vs, rfl, t, r⟩ := seqOf_sound s q ru
      obtain ⟨z, e1, r1⟩ := atI_reps r e
      rcases t with t | t
      · exact .inl ⟨a, vs, _, z, rfl, rfl, t, e1, p.here s hq r1⟩
      · exact .inr (.inl ⟨a, vs, _, z, rfl, rfl, t, e1, p.here s hq r1⟩)
    · exact h.elim
  · exact h.elim
/-- x[lo:hi] -/
def rSl (K : PySem.W.Frag) : V → Option Int → Option Int → Hp → VK → Prop := fun x lo hi H Q => rSlL K x lo hi H Q ∨ rSlS x lo hi H Q
theorem sl_any {X : Cx} : SlR X (rSl X.K) := SlR.or sl_list sl_str
theorem cut_reps {ds : List D} {vs : List V} {lo hi : Option Int} (r : Reps Z F H ds vs) : Reps Z F H (cutD ds lo hi) (cutV vs lo hi) := by
  unfold cutD cutV
  rw [r.length]
  exact (r.drop _).take _
theorem slc_sound {x : W} {u : V} {lo hi : Option Int} {Qd : EQ} {Q : VK} (s : StoOk Z F α H μ) (ru : RepW Z F α H x u) (h : slcD x lo hi μ Qd) (p : Post Z F α H Qd Q) : rSl Z.K u lo hi H Q := by
  unfold slcD at h
  split at h
  · rename_i ds q
    obtain ⟨a, vs, rfl, t, r⟩ := lstOf_sound s q ru
    exact .inl ⟨a, vs, rfl, t, fun q' hq' => p.newM s h hq' ⟨_, upd_same, reps_new hq' (cut_reps r)⟩⟩
  · split at h
    · cases (show u = _ from ru)
      exact .inr ⟨_, rfl, h.p, p.here s h.q rfl⟩
    · exact h.elim

/-- things of the store that are put into data -/
theorem frz_sound {w : W} {v : V} {d : D} {μ2 : Sto} (s : StoOk Z F α H μ) (r : RepW Z F α H w v) (e : frzW μ w = some (d, μ2)) : ∃ F', Ext F α H F' α H ∧ StoOk Z F' α H μ2 ∧ Rep Z F' H d v := by
  unfold frzW at e
  split at e
  · cases e
    exact ⟨F, Ext.refl _ _ _, s, r⟩
  · split at e
    · rename_i ds q
      cases e
      obtain ⟨a, vs, rfl, ha, nf, t, r1⟩ := s.lst q r
      have x : Ext F α H (addF F a) α H := Ext.freeze (List.mem_of_getElem? ha)
      exact ⟨addF F a, x, s.freeze ha, a, vs, rfl, .inl ⟨.inr rfl, .inl t⟩, x.reps r1⟩
    · rename_i ks ds q
      cases e
      obtain ⟨a, ha, nf, vs, t, l, r1⟩ := s.get q
      obtain ⟨b, e', rfl⟩ := r
      rw [ha] at e'; cases e'
      have x : Ext F α H (addF F a) α H := Ext.freeze (List.mem_of_getElem? ha)
      exact ⟨addF F a, x, s.freeze ha, a, vs, rfl, .inr rfl, t, l, x.reps r1⟩
    · cases e
theorem frzs_sound : ∀ {ws : List W} {vs : List V} {ds : List D} {F : Addr → Prop} {μ μ2 : Sto}, StoOk Z F α H μ → RepWs Z F α H ws vs → frzWs μ ws = some (ds, μ2) → ∃ F', Ext F α H F' α H ∧ StoOk Z F' α H μ2 ∧ Reps Z F' H ds vs
  | [], _, _, F, _, _, s, r, e => by cases e; exact ⟨F, Ext.refl _ _ _, s, r⟩
  | w :: ws, _, ds, F, μ, μ2, s, ⟨v, us, e1, r1, r2⟩, e => by
    subst e1
    unfold frzWs at e
    split at e
    · rename_i d μ1 q
      split at e
      · rename_i ds' μ2' q2
        cases e
        obtain ⟨F1, x1, s1, p1⟩ := frz_sound s r1 q
        obtain ⟨F2, x2, s2, p2⟩ := frzs_sound s1 (x1.repWs r2) q2
        exact ⟨F2, x1.trans x2, s2, v, us, rfl, x2.rep p1, p2⟩
      · cases e
    · cases e

/-! ### built-ins -/
def btV : Bt → Value
  | .abs => .builtin "abs" | .max2 => .builtin "max" | .min2 => .builtin "min" | .len => .builtin "len" | .divmod => .builtin "divmod"
  | .int1 => .type "int" | .strI => .type "str" | .bool1 => .type "bool"
  | _ => .none
def rBt (K : PySem.W.Frag) (b : Bt) : List V → Hp → VK → Prop := fun xs H Q => match b with
  | .abs => ∃ i, xs = [.int i] ∧ Q (.int (if i < 0 then -i else i)) H
  | .max2 => ∃ i j, xs = [.int i, .int j] ∧ Q (.int (if j > i then j else i)) H
  | .min2 => ∃ i j, xs = [.int i, .int j] ∧ Q (.int (if j < i then j else i)) H
  | .len => (∃ x n, xs = [x] ∧ LenV K x H n ∧ Q (.int n) H)
  | .divmod => ∃ i j, xs = [.int i, .int j] ∧ CDiv i j ∧ ∀ p, H p = none → Q (.ref p) (upd H p (.tup [.int (i / j), .int (i % j)]))
  | .int1 => (∃ i, xs = [.int i] ∧ Q (.int i) H) ∨ ∃ k, xs = [.bl k] ∧ Q (.int (if k then 1 else 0)) H
  | .strI => ∃ i, xs = [.int i] ∧ i.natAbs.log2 < 1920 ∧ Q (.str (toString i)) H
  | .bool1 => (∃ i, xs = [.int i] ∧ Q (.bl (i != 0)) H) ∨ ∃ k, xs = [.bl k] ∧ Q (.bl k) H
  | _ => False
theorem no_call {X : Cx} {f : Value} : CallR X f (fun _ _ _ => False) := fun _ _ _ _ _ _ _ _ _ h => h.elim
theorem call_bt {X : Cx} (hc : X.calm = true) (b : Bt) : CallR X (btV b) (rBt X.K b) := by
  cases b with
  | abs => exact call_abs
  | max2 => exact call_max2 hc
  | min2 => exact call_min2 hc
  | len => exact call_len
  | divmod => exact call_divmod
  | int1 => exact call_int1
  | strI => exact call_str_int
  | bool1 => exact call_bool1
  | sum => exact no_call
  | all => exact no_call
  | any => exact no_call
  | maxL => exact no_call
  | minL => exact no_call
  | reprI => exact no_call
  | listOf => exact no_call
  | tupleOf => exact no_call
  | sorted => exact no_call
theorem RepWs.nil {vs : List V} (r : RepWs Z F α H [] vs) : vs = [] := r
theorem RepWs.one {w : W} {vs : List V} (r : RepWs Z F α H [w] vs) : ∃ v, vs = [v] ∧ RepW Z F α H w v := by
  obtain ⟨v, us, rfl, h1, h2⟩ := r
  cases (show us = [] from h2)
  exact ⟨v, rfl, h1⟩
theorem RepWs.two {w x : W} {vs : List V} (r : RepWs Z F α H [w, x] vs) : ∃ v u, vs = [v, u] ∧ RepW Z F α H w v ∧ RepW Z F α H x u := by
  obtain ⟨v, us, rfl, h1, h2⟩ := r
  obtain ⟨u, rfl, h3⟩ := RepWs.one h2
  exact ⟨v, u, rfl, h1, h3⟩
theorem blt_sound {b : Bt} {ws : List W} {vs : List V} {Qd : EQ} {Q : VK} (s : StoOk Z F α H μ) (r : RepWs Z F α H ws vs) (h : bltD b ws μ Qd) (p : Post Z F α H Qd Q) : rBt Z.K b vs H Q := by
  unfold bltD at h
  split at h
  · obtain ⟨v, rfl, r1⟩ := r.one
    cases (show v = _ from r1)
    exact ⟨_, rfl, p.here s h rfl⟩
  · obtain ⟨v, u, rfl, r1, r2⟩ := r.two
    cases (show v = _ from r1); cases (show u = _ from r2)
    exact ⟨_, _, rfl, p.here s h rfl⟩
  · obtain ⟨v, u, rfl, r1, r2⟩ := r.two
    cases (show v = _ from r1); cases (show u = _ from r2)
    exact ⟨_, _, rfl, p.here s h rfl⟩
  · obtain ⟨v, rfl, r1⟩ := r.one
    cases (show v = _ from r1)
    exact ⟨_, _, rfl, ⟨h.p, rfl⟩, p.here s h.q rfl⟩
  · obtain ⟨v, rfl, r1⟩ := r.one
    split at h
    · rename_i ds q
      obtain ⟨a, us, rfl, t, r2⟩ := seqOf_sound s q r1
      refine ⟨_, ds.length, rfl, ?_, p.here s h rfl⟩
      rw [← r2.length]
      rcases t with t | t
      · exact .inl ⟨us, t, rfl⟩
      · exact .inr ⟨us, t, rfl⟩
    · exact h.elim
  · obtain ⟨v, u, rfl, r1, r2⟩ := r.two
    cases (show v = _ from r1); cases (show u = _ from r2)
    exact ⟨_, _, rfl, h.p, fun q hq => p.newF s h.q hq ⟨q, [.int _, .int _], rfl, .inl ⟨.inr rfl, upd_same⟩, ⟨_, _, rfl, rfl, _, _, rfl, rfl, rfl⟩⟩⟩
  · obtain ⟨v, rfl, r1⟩ := r.one
    cases (show v = _ from r1)
    exact .inl ⟨_, rfl, p.here s h rfl⟩
  · obtain ⟨v, rfl, r1⟩ := r.one
    cases (show v = _ from r1)
    exact .inr ⟨_, rfl, p.here s h rfl⟩
  · obtain ⟨v, rfl, r1⟩ := r.one
    cases (show v = _ from r1)
    exact .inr ⟨_, rfl, p.here s h rfl⟩
  · obtain ⟨v, rfl, r1⟩ := r.one
    cases (show v = _ from r1)
    exact .inl ⟨_, rfl, p.here s h rfl⟩
  · obtain ⟨v, rfl, r1⟩ := r.one
    cases (show v = _ from r1)
    exact ⟨_, rfl, h.p, p.here s h.q rfl⟩
  · exact h.elim
end
end DL
set_option Elab.async false
set_option linter.all false
set_option maxRecDepth 100000
set_option maxHeartbeats 4000000
/-! DL: calls -/
namespace DL
open PySem PySem.Spec L2 PyProof.Rows

theorem nmem_iff {i : Nat} : ∀ {l : List Nat}, nmem i l = true ↔ i ∈ l
  | [] => by simp [nmem]
  | j :: r => by
    unfold nmem
    cases e : Nat.beq i j with
    | true =>
      have : i = j := Nat.eq_of_beq_eq_true e
      simp [this]
    | false =>
      have : i ≠ j := Nat.ne_of_beq_eq_false e
      simp [this, nmem_iff (l := r)]
theorem ixOf_get {i : Nat} : ∀ {l : List Nat}, i ∈ l → l[ixOf i l]? = some i
  | [], h => by simp at h
  | j :: r, h => by
    unfold ixOf
    cases e : Nat.beq i j with
    | true =>
      have : i = j := Nat.eq_of_beq_eq_true e
      simp [this]
    | false =>
      have ne : i ≠ j := Nat.ne_of_beq_eq_false e
      have h' : i ∈ r := by
        rcases List.mem_cons.mp h with h | h
        · exact absurd h ne
        · exact h
      simpa using ixOf_get h'
theorem roots_nd : ∀ ws : List W, (roots ws).Nodup
  | [] => List.nodup_nil
  | .p _ :: r => roots_nd r
  | .m i :: r => by
    unfold roots
    cases e : nmem i (roots r) with
    | true => exact roots_nd r
    | false =>
      refine List.nodup_cons.mpr ⟨fun h => ?_, roots_nd r⟩
      rw [nmem_iff.mpr h] at e
      cases e
theorem roots_mem {i : Nat} : ∀ {ws : List W}, W.m i ∈ ws → i ∈ roots ws
  | [], h => by simp at h
  | .p d :: r, h => by
    have h' : W.m i ∈ r := by
      rcases List.mem_cons.mp h with h | h
      · cases h
      · exact h
    show i ∈ roots r
    exact roots_mem h'
  | .m j :: r, h => by
    unfold roots
    cases e : nmem j (roots r) with
    | true =>
      rcases List.mem_cons.mp h with h | h
      · cases h; exact nmem_iff.mp e
      · exact roots_mem h
    | false =>
      rcases List.mem_cons.mp h with h | h
      · cases h; exact List.mem_cons_self
      · exact List.mem_cons_of_mem _ (roots_mem h)
theorem mem_roots {i : Nat} : ∀ {ws : List W}, i ∈ roots ws → W.m i ∈ ws
  | [], h => by simp [roots] at h
  | .p d :: r, h => List.mem_cons_of_mem _ (mem_roots (ws := r) h)
  | .m j :: r, h => by
    unfold roots at h
    cases e : nmem j (roots r) with
    | true => rw [e] at h; exact List.mem_cons_of_mem _ (mem_roots h)
    | false =>
      rw [e] at h
      rcases List.mem_cons.mp h with h | h
      · rw [h]; exact List.mem_cons_self
      · exact List.mem_cons_of_mem _ (mem_roots h)
theorem getM_some {μ : Sto} {i : Nat} {m : MO} : getM μ i = some m ↔ μ[i]? = some (some m) := by
  unfold getM
  cases e : μ[i]? with
  | none => simp
  | some o => simp
theorem mergeS_length : ∀ (is : List Nat) (μ r : Sto), is.length ≤ r.length → (mergeS μ is r).length = μ.length + (r.length - is.length)
  | [], μ, r, _ => by simp [mergeS]
  | i :: is, μ, [], h => by simp at h
  | i :: is, μ, o :: r, h => by
    unfold mergeS
    rw [mergeS_length is _ r (by simpa using h)]
    simp
theorem mergeS_get : ∀ (is : List Nat) (μ r : Sto), is.length ≤ r.length → is.Nodup → (∀ i ∈ is, i < μ.length) → ∀ (k : Nat) (o : Option MO), (mergeS μ is r)[k]? = some o →
    (∃ j : Nat, is[j]? = some k ∧ r[j]? = some o) ∨ (k ∉ is ∧ μ[k]? = some o) ∨ (μ.length ≤ k ∧ r[is.length + (k - μ.length)]? = some o)
  | [], μ, r, _, _, _, k, o, e => by
    unfold mergeS at e
    by_cases hk : k < μ.length
    · rw [List.getElem?_append_left hk] at e
      exact .inr (.inl ⟨by simp, e⟩)
    · rw [List.getElem?_append_right (by omega)] at e
      exact .inr (.inr ⟨by omega, by simpa using e⟩)
  | i :: is, μ, [], h, _, _, _, _, _ => by simp at h
  | i :: is, μ, o' :: r, h, nd, hb, k, o, e => by
    unfold mergeS at e
    obtain ⟨n1, n2⟩ := List.nodup_cons.mp nd
    have hi : i < μ.length := hb i List.mem_cons_self
    rcases mergeS_get is (μ.set i o') r (by simpa using h) n2 (fun j hj => by simpa using hb j (List.mem_cons_of_mem _ hj)) k o e with ⟨j, e1, e2⟩ | ⟨hk, e1⟩ | ⟨hk, e1⟩
    · exact .inl ⟨j + 1, by simpa using e1, by simpa using e2⟩
    · by_cases hki : i = k
      · subst hki
        rw [List.getElem?_set_self hi] at e1
        cases e1
        exact .inl ⟨0, rfl, rfl⟩
      · rw [List.getElem?_set_ne hki] at e1
        exact .inr (.inl ⟨fun z => (List.mem_cons.mp z).elim (fun z => hki z.symm) hk, e1⟩)
    · rw [List.length_set] at hk e1
      refine .inr (.inr ⟨hk, ?_⟩)
      rw [show (i :: is).length + (k - μ.length) = is.length + (k - μ.length) + 1 from by simp; omega]
      simpa using e1

section
variable {Z : Ctx} {F : Addr → Prop} {α : List Addr} {H : Hp} {μ : Sto}
theorem RepWs.mem : ∀ {ws : List W} {vs : List V} {w : W}, RepWs Z F α H ws vs → w ∈ ws → ∃ v, RepW Z F α H w v
  | [], _, _, _, h => by simp at h
  | x :: ws, _, w, ⟨v, us, rfl, r1, r2⟩, h => by
    rcases List.mem_cons.mp h with h | h
    · rw [h]; exact ⟨v, r1⟩
    · exact RepWs.mem r2 h
theorem RepWs.length : ∀ {ws : List W} {vs : List V}, RepWs Z F α H ws vs → vs.length = ws.length
  | [], _, h => by cases (show _ = [] from h); rfl
  | _ :: ws, _, ⟨v, us, rfl, _, r2⟩ => by simp [RepWs.length r2]
/-- the part of the addresses that is handed over -/
def subA (α : List Addr) (is : List Nat) : List Addr := is.map fun i => α.getD i 0
theorem subA_get {is : List Nat} {j i : Nat} (h : is[j]? = some i) : (subA α is)[j]? = some (α.getD i 0) := by
  unfold subA; rw [List.getElem?_map, h]; rfl
theorem ren_sound {is : List Nat} : ∀ {ws : List W} {vs : List V}, (∀ i, W.m i ∈ ws → i ∈ is) → RepWs Z F α H ws vs → RepWs Z F (subA α is) H (ws.map (renW is)) vs
  | [], _, _, h => h
  | w :: ws, _, hm, ⟨v, us, e, r1, r2⟩ => by
    refine ⟨v, us, e, ?_, ren_sound (fun i h => hm i (List.mem_cons_of_mem _ h)) r2⟩
    cases w with
    | p d => exact r1
    | m i =>
      obtain ⟨a, e1, e2⟩ := r1
      have hi := ixOf_get (hm i List.mem_cons_self)
      refine ⟨a, ?_, e2⟩
      rw [subA_get hi, List.getD_eq_getElem?_getD, e1]; rfl
theorem call_sound {sp : DSp} {n : Nat} {ws : List W} {vs : List V} {Qd : EQ} {Xd : XQ} {Q : VK} {E : XK} (s : StoOk Z F α H μ) (r : RepWs Z F α H ws vs) (hl : ws.length = n) (h : callD sp ws μ Qd Xd) (p : Post Z F α H Qd Q)
    (px : ∀ e μ', Xd e μ' → ∀ cls d H' F' α', Ext F α H F' α' H' → StoOk Z F' α' H' μ' → RepX Z F' H' e cls d → E cls d H') : spV Z n sp vs H Q E := by
  rw [callD_eq] at h
  have nd := roots_nd ws
  have hin : ∀ i ∈ roots ws, ∃ a, α[i]? = some a := fun i hi => by
    obtain ⟨v, a, e, _⟩ := r.mem (mem_roots hi)
    exact ⟨a, e⟩
  have hlt : ∀ i ∈ roots ws, i < μ.length := fun i hi => by
    obtain ⟨a, e⟩ := hin i hi
    rw [← s.len]; exact (List.getElem?_eq_some_iff.mp e).1
  have hget : ∀ {j i : Nat}, (roots ws)[j]? = some i → ∃ a, α[i]? = some a ∧ (subA α (roots ws))[j]? = some a := fun {j i} e => by
    obtain ⟨a, e1⟩ := hin i (List.mem_of_getElem? e)
    refine ⟨a, e1, ?_⟩
    rw [subA_get e, List.getD_eq_getElem?_getD, e1]; rfl
  have hsub : ∀ a, a ∈ subA α (roots ws) → ∃ i, i ∈ roots ws ∧ α[i]? = some a := fun a ha => by
    obtain ⟨i, hi, e⟩ := List.mem_map.mp ha
    obtain ⟨b, e1⟩ := hin i hi
    rw [List.getD_eq_getElem?_getD, e1] at e
    cases e
    exact ⟨i, hi, e1⟩
  have inj : ∀ {i j : Nat} {a : Addr}, α[i]? = some a → α[j]? = some a → i = j := fun {i j a} e1 e2 => by
    have h1 := List.getElem?_eq_some_iff.mp e1
    have h2 := List.getElem?_eq_some_iff.mp e2
    exact (List.getElem_inj s.nd).mp (h1.2.trans h2.2.symm)
  have sC : StoOk Z F (subA α (roots ws)) H ((roots ws).map (getM μ)) := by
    refine ⟨by simp [subA], ?_, s.fz, fun a ha => ?_, fun j m e => ?_⟩
    · unfold subA
      refine List.pairwise_map.mpr (nd.imp_of_mem fun {x y} hx hy hne z => ?_)
      obtain ⟨a, e1⟩ := hin x hx
      obtain ⟨b, e2⟩ := hin y hy
      rw [List.getD_eq_getElem?_getD, List.getD_eq_getElem?_getD, e1, e2] at z
      cases z
      exact hne (inj e1 e2)
    · obtain ⟨i, _, e⟩ := hsub a ha
      exact s.al a (List.mem_of_getElem? e)
    · rw [List.getElem?_map] at e
      cases q : (roots ws)[j]? with
      | none => rw [q] at e; cases e
      | some i =>
        rw [q] at e
        have e' : getM μ i = some m := Option.some.inj e
        obtain ⟨a, h1, h2, h3⟩ := s.get e'
        obtain ⟨b, g1, g2⟩ := hget q
        rw [h1] at g1; cases g1
        exact ⟨a, g2, h2, h3⟩
  -- back in the caller's store
  have back : ∀ {μ' : Sto} {H' : Hp} {F' : Addr → Prop} {α' : List Addr}, Ext F (subA α (roots ws)) H F' α' H' → StoOk Z F' α' H' μ' →
      ∃ β, α' = subA α (roots ws) ++ β ∧ Ext F α H F' (α ++ β) H' ∧ StoOk Z F' (α ++ β) H' (mergeS μ (roots ws) μ') := fun {μ' H' F' α'} x s' => by
    obtain ⟨β, eβ, hβ⟩ := x.pre
    have l1 : (subA α (roots ws)).length = (roots ws).length := by simp [subA]
    have l2 : (roots ws).length ≤ μ'.length := by rw [← s'.len, eβ, List.length_append, l1]; omega
    have l3 : β.length = μ'.length - (roots ws).length := by rw [← s'.len, eβ, List.length_append, l1]; omega
    have ex : Ext F α H F' (α ++ β) H' := by
      refine ⟨x.sub, fun a o e h => x.keep a o e ?_, ⟨β, rfl, hβ⟩, fun a h => ?_, x.there⟩
      · rcases h with h | h
        · exact .inl h
        · refine .inr fun z => ?_
          obtain ⟨i, _, e⟩ := hsub a z
          exact h (List.mem_of_getElem? e)
      · rcases x.new a h with h | h | h
        · exact .inl h
        · obtain ⟨i, _, e⟩ := hsub a h
          exact .inr (.inl (List.mem_of_getElem? e))
        · exact .inr (.inr h)
    have fresh : ∀ b ∈ β, b ∉ α := fun b hb z => by
      obtain ⟨o, e⟩ := s.al b z
      rw [hβ b hb] at e; cases e
    refine ⟨β, eβ, ex, ?_, ?_, s'.fz, fun a ha => ?_, fun k m e => ?_⟩
    · rw [mergeS_length _ _ _ l2, List.length_append, s.len, l3]
    · have ndβ : β.Nodup := by
        have := s'.nd
        rw [eβ] at this
        exact (List.nodup_append.mp this).2.1
      exact List.nodup_append.mpr ⟨s.nd, ndβ, fun a ha b hb z => fresh b hb (z ▸ ha)⟩
    · rcases List.mem_append.mp ha with ha | ha
      · obtain ⟨o, e⟩ := s.al a ha
        exact x.there a o e
      · exact s'.al a (by rw [eβ]; exact List.mem_append_right _ ha)
    · rcases mergeS_get _ _ _ l2 nd hlt k _ e with ⟨j, e1, e2⟩ | ⟨hk, e1⟩ | ⟨hk, e1⟩
      · obtain ⟨a, g1, g2⟩ := hget e1
        obtain ⟨b, q1, q2, q3⟩ := s'.at_ j m e2
        have e3 : α'[j]? = some a := by
          rw [eβ, List.getElem?_append_left (List.getElem?_eq_some_iff.mp g2).1]; exact g2
        rw [q1] at e3; cases e3
        exact ⟨_, by rw [List.getElem?_append_left (List.getElem?_eq_some_iff.mp g1).1]; exact g1, q2, q3⟩
      · obtain ⟨a, g1, g2, g3⟩ := s.at_ k m e1
        have na : a ∉ subA α (roots ws) := fun z => by
          obtain ⟨i, hi, e⟩ := hsub a z
          exact hk (inj e g1 ▸ hi)
        obtain ⟨o, eo⟩ := s.al a (List.mem_of_getElem? g1)
        refine ⟨a, by rw [List.getElem?_append_left (List.getElem?_eq_some_iff.mp g1).1]; exact g1, fun hf => ?_, g3.mono x.sub x.hH fun o e => x.keep a o e (.inr na)⟩
        rcases x.new a hf with h | h | h
        · exact g2 h
        · exact na h
        · rw [eo] at h; cases h
      · obtain ⟨b, q1, q2, q3⟩ := s'.at_ _ m e1
        rw [eβ, List.getElem?_append_right (by rw [l1]; omega), l1, Nat.add_sub_cancel_left] at q1
        exact ⟨b, by rw [List.getElem?_append_right (by rw [s.len]; exact hk), s.len]; exact q1, q2, q3⟩
  refine ⟨F, subA α (roots ws), ws.map (renW (roots ws)), (roots ws).map (getM μ), _, _, by simpa using hl, sC, ren_sound (fun i hi => roots_mem hi) r, h, fun w μ' hw v H' F' α' x s' rv => ?_, fun e μ' he cls d H' F' α' x s' rx => ?_⟩
  · obtain ⟨β, eβ, ex, sm⟩ := back x s'
    refine p _ _ hw v H' F' (α ++ β) ex sm ?_
    cases w with
    | p d => exact rv
    | m j =>
      obtain ⟨a, e1, e2⟩ := rv
      have l1 : (subA α (roots ws)).length = (roots ws).length := by simp [subA]
      have bs : ∀ i, (roots ws)[j]? = some i → backW (roots ws) μ.length (.m j) = .m i := fun i q => by simp only [backW, q]
      have bn : (roots ws)[j]? = none → backW (roots ws) μ.length (.m j) = .m (μ.length + (j - (roots ws).length)) := fun q => by simp only [backW, q]
      cases q : (roots ws)[j]? with
      | some i =>
        rw [bs i q]
        obtain ⟨b, g1, g2⟩ := hget q
        rw [eβ, List.getElem?_append_left (List.getElem?_eq_some_iff.mp g2).1, g2] at e1
        cases e1
        exact ⟨a, by rw [List.getElem?_append_left (List.getElem?_eq_some_iff.mp g1).1]; exact g1, e2⟩
      | none =>
        rw [bn q]
        have hj : (roots ws).length ≤ j := List.getElem?_eq_none_iff.mp q
        rw [eβ, List.getElem?_append_right (by rw [l1]; exact hj), l1] at e1
        refine ⟨a, ?_, e2⟩
        rw [List.getElem?_append_right (by rw [s.len]; omega), s.len, Nat.add_sub_cancel_left]
        exact e1
  · obtain ⟨β, eβ, ex, sm⟩ := back x s'
    exact px _ _ he cls d H' F' (α ++ β) ex sm rx
end
end DL
set_option Elab.async false
set_option linter.all false
set_option maxRecDepth 100000
set_option maxHeartbeats 4000000
/-! DL: expressions of the text, one construct each -/
namespace DL
open PySem PySem.Spec L2 PyProof.Rows
section
variable {F : Addr → Prop} {α : List Addr} {H : Hp} {μ : Sto} {Γ : Gam} {G : Sta} {δ : Dc} {N : List Str} {sc : Scope} {k : Nat} {X : Cx}
theorem tD_two {fa fb : DE} {g : W → W → Sto → EQ → XQ → Prop} {r : R2}
    (hr : ∀ (x y : W) (u v : V) (F : Addr → Prop) (α : List Addr) (H : Hp) (μ : Sto) (Qd : EQ) (Xd : XQ) (Q : VK) (ρ : Env) (σ : L2.St), Ext δ.F0 δ.α0 δ.H0 F α H → StoOk δ.Z F α H μ → Loc δ.Z F α H ρ σ → RepW δ.Z F α H x u → RepW δ.Z F α H y v → g x y μ Qd Xd → Post δ.Z F α H Qd Q → (∀ e μ', Xd e μ' → δ.Xc e ρ μ') → r u v H Q) :
    ∀ σ H Q, tD δ (fun ρ μ Q X => fa ρ μ (fun x μ1 => fb ρ μ1 (fun y μ2 => g x y μ2 Q X) X) X) σ H Q → tOp r (tD δ fa) (tD δ fb) σ H Q := by
  rintro σ H Q ⟨F, α, ρ, μ, Qd, Xd, x0, s, l, h, p, px⟩
  refine ⟨F, α, ρ, μ, _, Xd, x0, s, l, h, fun w μ1 hw v H1 F1 α1 x1 s1 r1 => ?_, px⟩
  refine ⟨F1, α1, ρ, μ1, _, Xd, x0.trans x1, s1, x1.loc l, hw, fun w2 μ2 hw2 v2 H2 F2 α2 x2 s2 r2 => ?_, px⟩
  exact hr w w2 v v2 F2 α2 H2 μ2 Qd Xd Q ρ σ ((x0.trans x1).trans x2) s2 (x2.loc (x1.loc l)) (x2.repW r1) r2 hw2 (fun w' μ' h' v' H' F' α' x' s' r' => p w' μ' h' v' H' F' α' ((x1.trans x2).trans x') s' r') px
theorem tD_one {fa : DE} {g : W → Env → Sto → EQ → XQ → Prop} {r : V → Hp → VK → Prop} {σ : L2.St}
    (hr : ∀ (x : W) (u : V) (F : Addr → Prop) (α : List Addr) (H : Hp) (μ : Sto) (Qd : EQ) (Xd : XQ) (Q : VK) (ρ : Env), Ext δ.F0 δ.α0 δ.H0 F α H → StoOk δ.Z F α H μ → Loc δ.Z F α H ρ σ → RepW δ.Z F α H x u → g x ρ μ Qd Xd → Post δ.Z F α H Qd Q → (∀ e μ', Xd e μ' → δ.Xc e ρ μ') → r u H Q) :
    ∀ H Q, tD δ (fun ρ μ Q X => fa ρ μ (fun x μ1 => g x ρ μ1 Q X) X) σ H Q → tD δ fa σ H fun x H1 => r x H1 Q := by
  rintro H Q ⟨F, α, ρ, μ, Qd, Xd, x0, s, l, h, p, px⟩
  refine ⟨F, α, ρ, μ, _, Xd, x0, s, l, h, fun w μ1 hw v H1 F1 α1 x1 s1 r1 => ?_, px⟩
  exact hr w v F1 α1 H1 μ1 Qd Xd Q ρ (x0.trans x1) s1 (x1.loc l) r1 hw (fun w' μ' h' v' H' F' α' x' s' r' => p w' μ' h' v' H' F' α' (x1.trans x') s' r') px

theorem vis_of {sc : Scope} {x : Str} (h : visB sc x = true) : Vis sc x := by
  unfold visB at h
  unfold Vis
  split at h
  · exact .inl ‹_›
  · exact .inr (.inl ‹_›)
  · exact .inr (.inr ‹_›)
  · cases h
theorem gl_of {x : Str} (O : XOk Γ δ G N sc k X) (h : glB sc x = true) : Gl X x ∧ (x == ("__debug__" : Str)) = false ∧ x ≠ "__name__" := by
  unfold glB at h
  simp only [Bool.and_eq_true, Bool.not_eq_true'] at h
  obtain ⟨⟨h1, h2⟩, h3⟩ := h
  refine ⟨?_, h2, fun z => by rw [z] at h3; exact absurd h3 (by decide +kernel)⟩
  show X.env.scope.names.lookup x = _
  rw [O.sc]
  split at h1
  · assumption
  · cases h1

theorem snd_var {i : Nat} {x : Str} {pos : Pos} (O : XOk Γ δ G N sc k X) (h1 : N[i]? = some x) (h2 : visB sc x = true) (h3 : (x == ("__debug__" : Str)) = false) (h4 : (x == ("__classdict__" : Str)) = false) :
    PE X (.Name x pos) (tD δ fun ρ μ Q _ => match ρ[i]? with | some (some w) => Q w μ | _ => False) := by
  refine PE.imp (pe_var (i := i) (by rw [O.nN]; exact h1) (by rw [O.sc]; exact vis_of h2) h3 h4) ?_
  rintro σ H Q ⟨F, α, ρ, μ, Qd, Xd, x0, s, l, h, p, px⟩
  split at h
  · rename_i w e
    obtain ⟨v, e1, r⟩ := l.2 i w e
    exact ⟨v, e1, p _ _ h v H F α (Ext.refl _ _ _) s r⟩
  · exact h.elim
theorem snd_c {d : D} {c : Const} {j : Nat} {pos : Pos} (h1 : conB d c = true) : PE X (.Constant c j pos) (tD δ fun _ μ Q _ => Q (.p d) μ) := by
  have fin : ∀ {v : V}, (∀ F H, Rep δ.Z F H d v) → ∀ σ H Q, tD δ (fun _ μ Q _ => Q (.p d) μ) σ H Q → tC v σ H Q := fun {v} hv σ H Q ⟨F, α, ρ, μ, Qd, Xd, x0, s, l, h, p, px⟩ => p _ _ h v H F α (Ext.refl _ _ _) s (hv F H)
  unfold conB at h1
  split at h1
  · exact PE.imp pe_non (fin fun _ _ => rfl)
  · have e := eq_of_beq h1; subst e
    exact PE.imp pe_bl (fin fun _ _ => rfl)
  · have e := of_decide_eq_true h1; subst e
    exact PE.imp pe_int (fin fun _ _ => rfl)
  · have e := of_decide_eq_true h1; subst e
    exact PE.imp pe_str (fin fun _ _ => rfl)
  · cases h1
theorem snd_glo {x : Str} {d : D} {pos : Pos} (O : XOk Γ δ G N sc k X) (h1 : glB sc x = true) (h2 : G.con x d = true) : PE X (.Name x pos) (tD δ fun _ μ Q _ => Q (.p d) μ) := by
  obtain ⟨u, v, e, r, hv⟩ := O.lib.con x d h2
  obtain ⟨g1, g2, g3⟩ := gl_of O h1
  exact PE.imp (pe_glob g1 e r g2) fun σ H Q ⟨F, α, ρ, μ, Qd, Xd, x0, s, l, h, p, px⟩ => p _ _ h v H F α (Ext.refl _ _ _) s (hv F H)
theorem snd_bin {l r : Expr} {op : Operator} {pos : Pos} {fa fb : DE} (O : XOk Γ δ G N sc k X) (ha : PE X l (tD δ fa)) (hb : PE X r (tD δ fb)) :
    PE X (.BinOp l op r pos) (tD δ fun ρ μ Q X => fa ρ μ (fun x μ1 => fb ρ μ1 (fun y μ2 => binD op x y μ2 Q) X) X) := by
  refine PE.imp (pe_op (op_bin op) ha hb) (tD_two (g := fun x y μ Q _ => binD op x y μ Q) fun x y u v F α H μ Qd Xd Q ρ σ x0 s l ru rv h p px => ?_)
  rw [← O.lib.zK]
  exact bin_sound s ru rv h p
theorem snd_idx {a b : Expr} {pos : Pos} {fa fb : DE} (O : XOk Γ δ G N sc k X) (ha : PE X a (tD δ fa)) (hb : PE X b (tD δ fb)) (hp : plainE b = true) :
    PE X (.Subscript a b pos) (tD δ fun ρ μ Q X => fa ρ μ (fun x μ1 => fb ρ μ1 (fun y μ2 => idxD x y μ2 Q) X) X) := by
  have hx : PlainIx b := by
    intro o i
    cases b <;> first | rfl | cases hp
  refine PE.imp (pe_ix ix_any ha hb hx) (tD_two (g := fun x y μ Q _ => idxD x y μ Q) fun x y u v F α H μ Qd Xd Q ρ σ x0 s l ru rv h p px => ?_)
  rw [← O.lib.zK]
  exact idx_sound s ru rv h p
theorem nobeh {op : CmpOp} {e : Expr} (hp : plainE e = true) : behindInMarks op e = false := by
  cases e <;> first | rfl | cases hp
theorem snd_cmp {l r : Expr} {op : CmpOp} {pos : Pos} {fa fb : DE} (O : XOk Γ δ G N sc k X) (ha : PE X l (tD δ fa)) (hb : PE X r (tD δ fb)) (hp : plainE r = true) :
    PE X (.Compare l [op] [r] pos) (tD δ fun ρ μ Q X => fa ρ μ (fun x μ1 => fb ρ μ1 (fun y μ2 => cmpD op x y μ2 fun b => Q (.p (.bl b)) μ2) X) X) := by
  refine PE.imp (pe_cmpR (op_cmp O.room.units op) ha hb (nobeh hp)) (tD_two (g := fun x y μ Q _ => cmpD op x y μ fun b => Q (.p (.bl b)) μ) fun x y u v F α H μ Qd Xd Q ρ σ x0 s l ru rv h p px => ?_)
  rw [← O.lib.zK]
  exact cmp_sound s ru rv h fun b hb => p.here s hb rfl
theorem tDT_two {fa fb : DE} {g : W → W → Sto → (Bool → Sto → Prop) → XQ → Prop} {r : R2}
    (hr : ∀ (x y : W) (u v : V) (F : Addr → Prop) (α : List Addr) (H : Hp) (μ : Sto) (Qd : Bool → Sto → Prop) (Xd : XQ) (Q : Bool → Hp → Prop) (ρ : Env) (σ : L2.St), Ext δ.F0 δ.α0 δ.H0 F α H → StoOk δ.Z F α H μ → Loc δ.Z F α H ρ σ → RepW δ.Z F α H x u → RepW δ.Z F α H y v → g x y μ Qd Xd →
      (∀ b μ', Qd b μ' → ∀ H' F' α', Ext F α H F' α' H' → StoOk δ.Z F' α' H' μ' → Q b H') → (∀ e μ', Xd e μ' → δ.Xc e ρ μ') → r u v H fun z H3 => ∃ k, z = .bl k ∧ Q k H3) :
    ∀ σ H Q, tDT δ (fun ρ μ Q X => fa ρ μ (fun x μ1 => fb ρ μ1 (fun y μ2 => g x y μ2 Q X) X) X) σ H Q → tTest (tOp r (tD δ fa) (tD δ fb)) σ H Q := by
  rintro σ H Q ⟨F, α, ρ, μ, Qd, Xd, x0, s, l, h, p, px⟩
  refine ⟨F, α, ρ, μ, _, Xd, x0, s, l, h, fun w μ1 hw v H1 F1 α1 x1 s1 r1 => ?_, px⟩
  refine ⟨F1, α1, ρ, μ1, _, Xd, x0.trans x1, s1, x1.loc l, hw, fun w2 μ2 hw2 v2 H2 F2 α2 x2 s2 r2 => ?_, px⟩
  exact hr w w2 v v2 F2 α2 H2 μ2 Qd Xd Q ρ σ ((x0.trans x1).trans x2) s2 (x2.loc (x1.loc l)) (x2.repW r1) r2 hw2 (fun b' μ' h' H' F' α' x' s' => p b' μ' h' H' F' α' ((x1.trans x2).trans x') s') px
theorem snd_cmpT {l r : Expr} {op : CmpOp} {pos : Pos} {fa fb : DE} (O : XOk Γ δ G N sc k X) (ha : PE X l (tD δ fa)) (hb : PE X r (tD δ fb)) (hp : plainE r = true) :
    PT X (.Compare l [op] [r] pos) (tDT δ fun ρ μ Q X => fa ρ μ (fun x μ1 => fb ρ μ1 (fun y μ2 => cmpD op x y μ2 fun b => Q b μ2) X) X) := by
  refine PT.imp (pt_cmpR (op_cmp O.room.units op) ha hb (nobeh hp)) (tDT_two (g := fun x y μ Q _ => cmpD op x y μ fun b => Q b μ) fun x y u v F α H μ Qd Xd Q ρ σ x0 s l ru rv h p px => ?_)
  rw [← O.lib.zK]
  exact cmp_sound s ru rv h fun b hb => ⟨b, rfl, p b μ hb H F α (Ext.refl _ _ _) s⟩
theorem ite_br {b : Bool} {A B A' B' : Prop} (h : Br b A B) (ha : A → A') (hb : B → B') : if b = true then A' else B' := by
  cases b with
  | true => exact ite_tt (ha (h.t rfl))
  | false => exact ite_ff (hb (h.f rfl))
theorem snd_chain {a b c : Expr} {op op' : CmpOp} {pos : Pos} {fa fb fc : DE} (O : XOk Γ δ G N sc k X) (ha : PE X a (tD δ fa)) (hb : PE X b (tD δ fb)) (hc : PE X c (tD δ fc)) (hp : plainE c = true) :
    PE X (.Compare a [op, op'] [b, c] pos) (tD δ fun ρ μ Q X => fa ρ μ (fun x μ1 => fb ρ μ1 (fun y μ2 => cmpD op x y μ2 fun k => Br k (fc ρ μ2 (fun z μ3 => cmpD op' y z μ3 fun k' => Q (.p (.bl k')) μ3) X) (Q (.p (.bl false)) μ2)) X) X) := by
  have hm : lastMarks [op, op'] [b, c] = false := nobeh hp
  refine PE.imp (pe_chain (op_cmp O.room.units op) (op_cmp O.room.units op') ha hb hc hm) ?_
  rintro σ H Q ⟨F, α, ρ, μ, Qd, Xd, x0, s, l, h, p, px⟩
  refine ⟨F, α, ρ, μ, _, Xd, x0, s, l, h, fun w μ1 hw v H1 F1 α1 x1 s1 r1 => ?_, px⟩
  refine ⟨F1, α1, ρ, μ1, _, Xd, x0.trans x1, s1, x1.loc l, hw, fun w2 μ2 hw2 v2 H2 F2 α2 x2 s2 r2 => ?_, px⟩
  rw [← O.lib.zK]
  refine cmp_sound s2 (x2.repW r1) r2 hw2 fun b hb => ⟨b, rfl, ite_br hb (fun hA => ?_) fun hB => p _ _ hB _ _ _ _ (x1.trans x2) s2 rfl⟩
  refine ⟨F2, α2, ρ, μ2, _, Xd, (x0.trans x1).trans x2, s2, x2.loc (x1.loc l), hA, fun w3 μ3 hw3 v3 H3 F3 α3 x3 s3 r3 => ?_, px⟩
  exact cmp_sound s3 (x3.repW r2) r3 hw3 fun b' hb' => p _ _ hb' _ _ _ _ ((x1.trans x2).trans x3) s3 rfl
theorem snd_chainT {a b c : Expr} {op op' : CmpOp} {pos : Pos} {fa fb fc : DE} (O : XOk Γ δ G N sc k X) (ha : PE X a (tD δ fa)) (hb : PE X b (tD δ fb)) (hc : PE X c (tD δ fc)) (hp : plainE c = true) :
    PT X (.Compare a [op, op'] [b, c] pos) (tDT δ fun ρ μ Q X => fa ρ μ (fun x μ1 => fb ρ μ1 (fun y μ2 => cmpD op x y μ2 fun k => Br k (fc ρ μ2 (fun z μ3 => cmpD op' y z μ3 fun k' => Q k' μ3) X) (Q false μ2)) X) X) := by
  have hm : lastMarks [op, op'] [b, c] = false := nobeh hp
  refine PT.imp (pt_chain (op_cmp O.room.units op) (op_cmp O.room.units op') ha hb hc hm) ?_
  rintro σ H Q ⟨F, α, ρ, μ, Qd, Xd, x0, s, l, h, p, px⟩
  refine ⟨F, α, ρ, μ, _, Xd, x0, s, l, h, fun w μ1 hw v H1 F1 α1 x1 s1 r1 => ?_, px⟩
  refine ⟨F1, α1, ρ, μ1, _, Xd, x0.trans x1, s1, x1.loc l, hw, fun w2 μ2 hw2 v2 H2 F2 α2 x2 s2 r2 => ?_, px⟩
  rw [← O.lib.zK]
  refine cmp_sound s2 (x2.repW r1) r2 hw2 fun b hb => ⟨b, rfl, ite_br hb (fun hA => ?_) fun hB => ⟨false, rfl, p _ _ hB _ _ _ (x1.trans x2) s2⟩⟩
  refine ⟨F2, α2, ρ, μ2, _, Xd, (x0.trans x1).trans x2, s2, x2.loc (x1.loc l), hA, fun w3 μ3 hw3 v3 H3 F3 α3 x3 s3 r3 => ?_, px⟩
  exact cmp_sound s3 (x3.repW r2) r3 hw3 fun b' hb' => ⟨b', rfl, p _ _ hb' _ _ _ ((x1.trans x2).trans x3) s3⟩
theorem snd_neg {a : Expr} {pos : Pos} {fa : DE} (ha : PE X a (tD δ fa)) : PE X (.UnaryOp .USub a pos) (tD δ fun ρ μ Q X => fa ρ μ (fun x μ1 => match x with | .p (.int i) => Q (.p (.int (-i))) μ1 | _ => False) X) := by
  refine PE.imp (pe_un un_neg ha) fun σ => tD_one (g := fun x _ μ Q _ => match x with | .p (.int i) => Q (.p (.int (-i))) μ | _ => False) fun x u F α H μ Qd Xd Q ρ x0 s l ru h p px => ?_
  split at h
  · cases (show u = _ from ru)
    exact ⟨_, rfl, p.here s h rfl⟩
  · exact h.elim
theorem snd_not {a : Expr} {pos : Pos} {fa : DE} (ha : PE X a (tD δ fa)) : PE X (.UnaryOp .Not a pos) (tD δ fun ρ μ Q X => fa ρ μ (fun x μ1 => match x with | .p (.bl b) => Q (.p (.bl (!b))) μ1 | _ => False) X) := by
  refine PE.imp (pe_not ha) fun σ => tD_one (r := fun x H Q => ∃ c, x = .bl c ∧ Q (.bl (!c)) H) (g := fun x _ μ Q _ => match x with | .p (.bl b) => Q (.p (.bl (!b))) μ | _ => False) fun x u F α H μ Qd Xd Q ρ x0 s l ru h p px => ?_
  split at h
  · cases (show u = _ from ru)
    exact ⟨_, rfl, p.here s h rfl⟩
  · exact h.elim
theorem snd_notT {a : Expr} {pos : Pos} {fa : DT} (ha : PT X a (tDT δ fa)) : PT X (.UnaryOp .Not a pos) (tDT δ fun ρ μ Q X => fa ρ μ (fun b μ1 => Q (!b) μ1) X) := by
  refine PT.imp (pt_not ha) ?_
  rintro σ H Q ⟨F, α, ρ, μ, Qd, Xd, x0, s, l, h, p, px⟩
  exact ⟨F, α, ρ, μ, _, Xd, x0, s, l, h, fun b μ1 hw H1 F1 α1 x1 s1 => p _ _ hw _ _ _ x1 s1, px⟩
theorem snd_ife {t a b : Expr} {pos : Pos} {ft : DT} {fa fb : DE} (ht : PT X t (tDT δ ft)) (ha : PE X a (tD δ fa)) (hb : PE X b (tD δ fb)) :
    PE X (.IfExp t a b pos) (tD δ fun ρ μ Q X => ft ρ μ (fun k μ1 => Br k (fa ρ μ1 Q X) (fb ρ μ1 Q X)) X) := by
  refine PE.imp (pe_ifExp ht ha hb) ?_
  rintro σ H Q ⟨F, α, ρ, μ, Qd, Xd, x0, s, l, h, p, px⟩
  refine ⟨F, α, ρ, μ, _, Xd, x0, s, l, h, fun b μ1 hw H1 F1 α1 x1 s1 => ite_br hw (fun hA => ?_) fun hA => ?_, px⟩
  · exact ⟨F1, α1, ρ, μ1, Qd, Xd, x0.trans x1, s1, x1.loc l, hA, fun w' μ' h' v' H' F' α' x' s' r' => p w' μ' h' v' H' F' α' (x1.trans x') s' r', px⟩
  · exact ⟨F1, α1, ρ, μ1, Qd, Xd, x0.trans x1, s1, x1.loc l, hA, fun w' μ' h' v' H' F' α' x' s' r' => p w' μ' h' v' H' F' α' (x1.trans x') s' r', px⟩
end
end DL
set_option Elab.async false
set_option linter.all false
set_option maxRecDepth 100000
set_option maxHeartbeats 4000000
/-! DL: rows of expressions, and, or, truth, attributes, displays, slices, isinstance, calls -/
namespace DL
open PySem PySem.Spec L2 PyProof.Rows
theorem PA.imp {X : Cx} {es : List Expr} {t u : TA} (h : PA X es t) (hi : ∀ σ H Q, u σ H Q → t σ H Q) : PA X es u := ⟨fun pos pins s σ H Q I q => h.run pos pins s σ H Q I (hi _ _ _ q)⟩
theorem PK.imp {X : Cx} {es : List Keyword} {t u : TA} (h : PK X es t) (hi : ∀ σ H Q, u σ H Q → t σ H Q) : PK X es u := ⟨fun pos pins s σ H Q I q => h.run pos pins s σ H Q I (hi _ _ _ q)⟩
theorem star_of {e : Expr} {es : List Expr} {env : PySem.Env} (hp : plainE e = true) : starEach (e :: es) env = (false, eval e env) :: starEach es env := by
  cases e <;> first | rfl | cases hp
theorem star_any {es : List Expr} {env : PySem.Env} {pos : Pos} (hp : es.all plainE = true) : (backTo pos (starEach es env)).any (·.1) = false := by
  induction es with
  | nil => rfl
  | cons e es ih =>
    simp only [List.all_cons, Bool.and_eq_true] at hp
    rw [star_of hp.1]
    exact ih hp.2
section
variable {F : Addr → Prop} {α : List Addr} {H : Hp} {μ : Sto} {Γ : Gam} {G : Sta} {δ : Dc} {N : List Str} {sc : Scope} {k : Nat} {X : Cx}

theorem tDA_cons {fe : DE} {fs : DL} : ∀ σ H Q, tDA δ (fun ρ μ Q X => fe ρ μ (fun w μ1 => fs ρ μ1 (fun ws μ2 => Q (w :: ws) μ2) X) X) σ H Q → tCons (tD δ fe) (tDA δ fs) σ H Q := by
  rintro σ H Q ⟨F, α, ρ, μ, Qd, Xd, x0, s, l, h, p, px⟩
  refine ⟨F, α, ρ, μ, _, Xd, x0, s, l, h, fun w μ1 hw v H1 F1 α1 x1 s1 r1 => ?_, px⟩
  refine ⟨F1, α1, ρ, μ1, _, Xd, x0.trans x1, s1, x1.loc l, hw, fun ws μ2 hw2 vs H2 F2 α2 x2 s2 r2 => ?_, px⟩
  exact p _ _ hw2 _ _ _ _ (x1.trans x2) s2 ⟨_, _, rfl, x2.repW r1, r2⟩
theorem tDA_nil : ∀ σ H Q, tDA δ (fun _ μ Q _ => Q [] μ) σ H Q → tNil σ H Q := by
  rintro σ H Q ⟨F, α, ρ, μ, Qd, Xd, x0, s, l, h, p, px⟩
  exact p _ _ h [] _ _ _ (Ext.refl _ _ _) s rfl
theorem snd_L {f : CE → DE} {ck : CE → Expr → Bool} (hf : ∀ a e, ck a e = true → PE X e (tD δ (f a))) : ∀ {as : List CE} {es : List Expr}, allB ck as es = true → es.all plainE = true → PA X es (tDA δ (wpL f as))
  | [], [], _, _ => PA.imp pa_nil tDA_nil
  | [], _ :: _, h, _ => by cases h
  | _ :: _, [], h, _ => by cases h
  | a :: as, e :: es, h, hp => by
    simp only [allB, Bool.and_eq_true] at h
    simp only [List.all_cons, Bool.and_eq_true] at hp
    exact PA.imp (pa_cons (hf a e h.1) (snd_L hf h.2 hp.2) (star_of hp.1)) (tDA_cons (fe := f a) (fs := wpL f as))
theorem snd_K {f : CE → DE} {ck : CE → Expr → Bool} (hf : ∀ a e, ck a e = true → PE X e (tD δ (f a))) : ∀ {as : List CE} {ks : List Str} {kws : List Keyword}, kwB ck as ks kws = true → PK X kws (tDA δ (wpL f as))
  | [], [], [], _ => PK.imp pk_nil tDA_nil
  | [], [], _ :: _, h => by cases h
  | [], _ :: _, _, h => by cases h
  | _ :: _, [], _, h => by cases h
  | _ :: _, _ :: _, [], h => by cases h
  | _ :: _, _ :: _, ⟨none, _, _⟩ :: _, h => by cases h
  | a :: as, x :: ks, ⟨some y, e, kp⟩ :: kws, h => by
    simp only [kwB, Bool.and_eq_true] at h
    exact PK.imp (pk_cons (hf a e h.1.2) (snd_K hf h.2)) (tDA_cons (fe := f a) (fs := wpL f as))
theorem kw_facts {ck : CE → Expr → Bool} {env : PySem.Env} {pos : Pos} : ∀ {as : List CE} {ks : List Str} {kws : List Keyword}, kwB ck as ks kws = true →
    (backToKw pos (keywordEach kws env)).all (·.1.isSome) = true ∧ (backToKw pos (keywordEach kws env)).filterMap (·.1) = ks ∧ (backToKw pos (keywordEach kws env)).any (·.1.isNone) = false ∧ as.length = ks.length
  | [], [], [], _ => ⟨rfl, rfl, rfl, rfl⟩
  | [], [], _ :: _, h => by cases h
  | [], _ :: _, _, h => by cases h
  | _ :: _, [], _, h => by cases h
  | _ :: _, _ :: _, [], h => by cases h
  | _ :: _, _ :: _, ⟨none, _, _⟩ :: _, h => by cases h
  | a :: as, x :: ks, ⟨some y, e, kp⟩ :: kws, h => by
    simp only [kwB, Bool.and_eq_true] at h
    obtain ⟨h1, h2, h3, h4⟩ := kw_facts (env := env) (pos := pos) h.2
    have e1 : x = y := eq_of_beq h.1.1
    subst e1
    refine ⟨h1, ?_, h3, by simp [h4]⟩
    show x :: (backToKw pos (keywordEach kws env)).filterMap (·.1) = _
    rw [h2]

/-! ### and, or -/
theorem snd_V {f : CE → DE} {ck : CE → Expr → Bool} {op : BoolOp} {pos : Pos} (hf : ∀ a e, ck a e = true → PE X e (tD δ (f a))) : ∀ {as : List CE} {es : List Expr}, as ≠ [] → allB ck as es = true → PE X (.BoolOp op es pos) (tD δ (wpV f op as))
  | [], _, h, _ => absurd rfl h
  | [a], [e], _, h => by
    simp only [allB, Bool.and_eq_true] at h
    exact pe_one (hf a e h.1)
  | [a], [], _, h => by cases h
  | [a], _ :: _ :: _, _, h => by simp [allB] at h
  | a :: b :: as, [], _, h => by cases h
  | a :: b :: as, [e], _, h => by simp [allB] at h
  | a :: b :: as, e :: e' :: es, _, h => by
    have h' : ck a e = true ∧ allB ck (b :: as) (e' :: es) = true := by simpa only [allB, Bool.and_eq_true] using h
    have h1 := hf a e h'.1
    have h2 := snd_V (op := op) (pos := pos) hf (as := b :: as) (es := e' :: es) (by simp) h'.2
    cases op with
    | And =>
      refine PE.imp (pe_and h1 h2) ?_
      refine fun σ => tD_one (r := fun x H1 Q => ∃ c, x = .bl c ∧ if c = true then tD δ (wpV f .And (b :: as)) σ H1 Q else Q (.bl false) H1) (g := fun w ρ μ1 Q X => match w with
        | .p (.bl k) => Br k (wpV f .And (b :: as) ρ μ1 Q X) (Q (.p (.bl false)) μ1)
        | _ => False) fun x u F α H μ Qd Xd Q ρ x0 s l ru h p px => ?_
      split at h
      · cases (show u = _ from ru)
        exact ⟨_, rfl, ite_br h (fun hA => ⟨F, α, ρ, μ, Qd, Xd, x0, s, l, hA, p, px⟩) fun hB => p.here s hB rfl⟩
      · exact h.elim
    | Or =>
      refine PE.imp (pe_or h1 h2) ?_
      refine fun σ => tD_one (r := fun x H1 Q => ∃ c, x = .bl c ∧ if c = true then Q (.bl true) H1 else tD δ (wpV f .Or (b :: as)) σ H1 Q) (g := fun w ρ μ1 Q X => match w with
        | .p (.bl k) => Br k (Q (.p (.bl true)) μ1) (wpV f .Or (b :: as) ρ μ1 Q X)
        | _ => False) fun x u F α H μ Qd Xd Q ρ x0 s l ru h p px => ?_
      split at h
      · cases (show u = _ from ru)
        exact ⟨_, rfl, ite_br h (fun hB => p.here s hB rfl) fun hA => ⟨F, α, ρ, μ, Qd, Xd, x0, s, l, hA, p, px⟩⟩
      · exact h.elim
theorem snd_B {f : CE → DT} {ck : CE → Expr → Bool} {op : BoolOp} {pos : Pos} (hf : ∀ a e, ck a e = true → PT X e (tDT δ (f a))) : ∀ {as : List CE} {es : List Expr}, as ≠ [] → allB ck as es = true → PW X (.BoolOp op es pos) (tDT δ (wpB f op as))
  | [], _, h, _ => absurd rfl h
  | [a], [e], _, h => by
    simp only [allB, Bool.and_eq_true] at h
    cases op with
    | And => exact pw_and1 (hf a e h.1)
    | Or => exact pw_or1 (hf a e h.1)
  | [a], [], _, h => by cases h
  | [a], _ :: _ :: _, _, h => by simp [allB] at h
  | a :: b :: as, [], _, h => by cases h
  | a :: b :: as, [e], _, h => by simp [allB] at h
  | a :: b :: as, e :: e' :: es, _, h => by
    have h' : ck a e = true ∧ allB ck (b :: as) (e' :: es) = true := by simpa only [allB, Bool.and_eq_true] using h
    have h1 := hf a e h'.1
    have h2 := snd_B (op := op) (pos := pos) hf (as := b :: as) (es := e' :: es) (by simp) h'.2
    cases op with
    | And =>
      refine ⟨fun wh pins s σ H Q I q => (pw_and h1 h2).run wh pins s σ H Q I ?_⟩
      obtain ⟨F, α, ρ, μ, Qd, Xd, x0, s, l, h, p, px⟩ := q
      refine ⟨F, α, ρ, μ, _, Xd, x0, s, l, h, fun c μ1 hw H1 F1 α1 x1 s1 => ite_br hw (fun hA => ?_) fun hB => p _ _ hB _ _ _ x1 s1, px⟩
      exact ⟨F1, α1, ρ, μ1, Qd, Xd, x0.trans x1, s1, x1.loc l, hA, fun b' μ' h' H' F' α' x' s' => p b' μ' h' H' F' α' (x1.trans x') s', px⟩
    | Or =>
      refine ⟨fun wh pins s σ H Q I q => (pw_or h1 h2).run wh pins s σ H Q I ?_⟩
      obtain ⟨F, α, ρ, μ, Qd, Xd, x0, s, l, h, p, px⟩ := q
      refine ⟨F, α, ρ, μ, _, Xd, x0, s, l, h, fun c μ1 hw H1 F1 α1 x1 s1 => ite_br hw (fun hB => p _ _ hB _ _ _ x1 s1) fun hA => ?_, px⟩
      exact ⟨F1, α1, ρ, μ1, Qd, Xd, x0.trans x1, s1, x1.loc l, hA, fun b' μ' h' H' F' α' x' s' => p b' μ' h' H' F' α' (x1.trans x') s', px⟩
/-! ### truth -/
theorem emp_reps {Z : Ctx} {ds : List D} {vs : List V} (r : Reps Z F H ds vs) : (!ds.isEmpty) = !vs.isEmpty := by
  cases ds with
  | nil => cases (show vs = [] from r); rfl
  | cons d ds => obtain ⟨v, us, rfl, _, _⟩ := r; rfl
theorem tru_sound {Z : Ctx} {w : W} {v : V} {Qd : Bool → Prop} {Q : Bool → Hp → Prop} (s : StoOk Z F α H μ) (r : RepW Z F α H w v) (h : truD w μ Qd) (p : ∀ b, Qd b → Q b H) : ∃ b, TruV Z.K v H b ∧ Q b H := by
  unfold truD at h
  split at h
  · rename_i d
    split at h
    · cases (show v = _ from r); exact ⟨_, rfl, p _ h⟩
    · cases (show v = _ from r); exact ⟨_, rfl, p _ h⟩
    · cases (show v = _ from r); exact ⟨_, rfl, p _ h⟩
    · cases (show v = _ from r); exact ⟨_, ⟨h.p, rfl⟩, p _ h.q⟩
    · obtain ⟨a, vs, rfl, t, r1⟩ := r
      exact ⟨_, .inr (.inl ⟨vs, t.sq, rfl⟩), by rw [← emp_reps r1]; exact p _ h⟩
    · obtain ⟨a, vs, rfl, t, r1⟩ := r
      exact ⟨_, .inl ⟨vs, t.sq, rfl⟩, by rw [← emp_reps r1]; exact p _ h⟩
    · exact h.elim
  · split at h
    · rename_i q
      obtain ⟨a, vs, rfl, _, _, t, r1⟩ := s.lst q r
      exact ⟨_, .inl ⟨vs, SqL.of t, rfl⟩, by rw [← emp_reps r1]; exact p _ h⟩
    · rename_i ks ds q
      obtain ⟨a, ha, nf, vs, t, l, r1⟩ := s.get q
      obtain ⟨b, e', rfl⟩ := r
      rw [ha] at e'; cases e'
      refine ⟨_, .inr (.inr ⟨_, t, rfl⟩), ?_⟩
      have e : (!(ks.zip vs).isEmpty) = !ks.isEmpty := by
        cases ks with
        | nil => rfl
        | cons a as => cases vs with
          | nil => simp at l
          | cons b bs => rfl
      rw [e]; exact p _ h
    · exact h.elim
/-- neither and, or, not, a comparison, a conditional expression -/
def simpleE : Expr → Bool
  | .BoolOp .. => false
  | .UnaryOp .Not _ _ => false
  | .Compare .. => false
  | .IfExp .. => false
  | _ => true
theorem snd_tru {e : Expr} {f : DE} (O : XOk Γ δ G N sc k X) (h : PE X e (tD δ f)) (hs : simpleE e = true) : PT X e (tDT δ fun ρ μ Q X => f ρ μ (fun w μ1 => truD w μ1 fun b => Q b μ1) X) := by
  have he : ∀ whole, isTrue e X.env whole = (do let v ← whole; standAt e.pos; holding [v] (truthy v)) := by
    intro whole
    cases e with
    | BoolOp => cases hs
    | Compare => cases hs
    | IfExp => cases hs
    | UnaryOp op x p => cases op <;> first | rfl | cases hs
    | _ => rfl
  refine PT.imp (pt_truth h he) ?_
  rintro σ H Q ⟨F, α, ρ, μ, Qd, Xd, x0, s, l, h, p, px⟩
  refine ⟨F, α, ρ, μ, _, Xd, x0, s, l, h, fun w μ1 hw v H1 F1 α1 x1 s1 r1 => ?_, px⟩
  rw [← O.lib.zK]
  exact tru_sound s1 r1 hw fun b hb => p _ _ hb _ _ _ x1 s1
theorem snd_ifeT {t a b : Expr} {pos : Pos} {ft fa fb : DT} (ht : PT X t (tDT δ ft)) (ha : PT X a (tDT δ fa)) (hb : PT X b (tDT δ fb)) :
    PT X (.IfExp t a b pos) (tDT δ fun ρ μ Q X => ft ρ μ (fun k μ1 => Br k (fa ρ μ1 Q X) (fb ρ μ1 Q X)) X) := by
  refine ⟨fun pins s σ H Q I q => ?_⟩
  obtain ⟨F, α, ρ, μ, Qd, Xd, x0, s0, l, h, p, px⟩ := q
  refine isTrue_IfExp (thn (ht.run pins s σ H (fun c H1 => ∃ F1 α1 μ1, Ext F α H F1 α1 H1 ∧ StoOk δ.Z F1 α1 H1 μ1 ∧ Br c (fa ρ μ1 Qd Xd) (fb ρ μ1 Qd Xd)) I ⟨F, α, ρ, μ, _, Xd, x0, s0, l, h, fun c μ1 hw H1 F1 α1 x1 s1 => ⟨F1, α1, μ1, x1, s1, hw⟩, px⟩) fun c s1 ⟨H1, I1, F1, α1, μ1, x1, t1, hb'⟩ => ?_)
  cases c with
  | true => exact ite_tt (ha.run pins s1 σ H1 Q I1 ⟨F1, α1, ρ, μ1, Qd, Xd, x0.trans x1, t1, x1.loc l, hb'.t rfl, fun b' μ' h' H' F' α' x' s' => p b' μ' h' H' F' α' (x1.trans x') s', px⟩)
  | false => exact ite_ff (hb.run pins s1 σ H1 Q I1 ⟨F1, α1, ρ, μ1, Qd, Xd, x0.trans x1, t1, x1.loc l, hb'.f rfl, fun b' μ' h' H' F' α' x' s' => p b' μ' h' H' F' α' (x1.trans x') s', px⟩)
end
end DL
set_option Elab.async false
set_option linter.all false
set_option maxRecDepth 100000
set_option maxHeartbeats 4000000
/-! DL: attributes, displays, slices, isinstance, calls -/
namespace DL
open PySem PySem.Spec L2 PyProof.Rows
theorem attr_base {o : Expr} {f : Str} {env : PySem.Env} {wh : Sem Value} (h : noSup o = true) : attributeBase o f env wh = wh := by
  cases o with
  | Call fn args kws pos =>
    cases fn with
    | Name id p =>
      cases args with
      | nil =>
        cases kws with
        | nil =>
          have e : (id != ("super" : Str)) = true := by
            have h' : (!(id == ("super" : Str))) = true := h
            exact h'
          unfold attributeBase
          simp only [e, Bool.true_or, if_true]
        | cons => rfl
      | cons => rfl
    | _ => rfl
  | _ => rfl
theorem posOf_get {k : Nat} : ∀ {ns : List Nat} {i : Nat}, posOf k ns = some i → ns[i]? = some k
  | [], _, h => by cases h
  | j :: r, i, h => by
    unfold posOf at h
    cases e : Nat.beq k j with
    | true =>
      rw [e] at h
      cases h
      simp [Nat.eq_of_beq_eq_true e]
    | false =>
      rw [e] at h
      cases q : posOf k r with
      | none => rw [q] at h; cases h
      | some i' =>
        rw [q] at h
        cases h
        simpa using posOf_get q
/-- the first place of a name -/
theorem posOf_lookup {fN : Nat → Str} (inj : ∀ a b, fN a = fN b → a = b) {k : Nat} : ∀ {ns : List Nat} {i : Nat} {vs : List V} {v : V}, posOf k ns = some i → vs[i]? = some v → ((ns.map fN).zip vs).lookup (fN k) = some v
  | [], _, _, _, h, _ => by cases h
  | j :: r, i, [], _, h, e => by simp at e
  | j :: r, i, x :: vs, v, h, e => by
    unfold posOf at h
    show (match fN k == fN j with | true => some x | false => ((r.map fN).zip vs).lookup (fN k)) = some v
    cases q : Nat.beq k j with
    | true =>
      rw [q] at h
      cases h
      have ek : k = j := Nat.eq_of_beq_eq_true q
      subst ek
      rw [beq_self_eq_true]
      simpa using e
    | false =>
      rw [q] at h
      have ne : k ≠ j := Nat.ne_of_beq_eq_false q
      have nb : (fN k == fN j) = false := beq_eq_false_iff_ne.mpr fun z => ne (inj _ _ z)
      rw [nb]
      cases q2 : posOf k r with
      | none => rw [q2] at h; cases h
      | some i' =>
        rw [q2] at h
        cases h
        exact posOf_lookup inj q2 (by simpa using e)
theorem lookup_out {fN : Nat → Str} {x : Str} : ∀ {ns : List Nat} {vs : List V}, (∀ j ∈ ns, fN j ≠ x) → ((ns.map fN).zip vs).lookup x = none
  | [], _, _ => rfl
  | j :: r, [], _ => rfl
  | j :: r, v :: vs, h => by
    show (match x == fN j with | true => some v | false => ((r.map fN).zip vs).lookup x) = none
    rw [beq_eq_false_iff_ne.mpr fun z => h j List.mem_cons_self z.symm]
    exact lookup_out fun i hi => h i (List.mem_cons_of_mem _ hi)
section
variable {F : Addr → Prop} {α : List Addr} {H : Hp} {μ : Sto} {Γ : Gam} {G : Sta} {δ : Dc} {N : List Str} {sc : Scope} {k : Nat} {X : Cx}
theorem snd_fld {o : Expr} {f : Str} {j : Nat} {pos : Pos} {fa : DE} (O : XOk Γ δ G N sc k X) (ha : PE X o (tD δ fa)) (hf : f = G.fN j) (hn : noSup o = true) :
    PE X (.Attribute o f pos) (tD δ fun ρ μ Q X => fa ρ μ (fun w μ1 => fldD Γ j w μ1 Q) X) := by
  subst hf
  refine PE.imp (pe_fld ha (attr_base hn)) fun σ => tD_one (r := fun x H1 Q => ∃ a C dx fs v, x = .ref a ∧ H1 a = some (.ins C dx fs) ∧ Cls X.K C ∧ NoAttr X.K C (G.fN j) ∧ fs.lookup (G.fN j) = some v ∧ Q v H1) (g := fun w _ μ Q _ => fldD Γ j w μ Q) fun x u F α H μ Qd Xd Q ρ x0 s l ru h p px => ?_
  have inj : ∀ a b, δ.Z.fN a = δ.Z.fN b → a = b := by rw [O.lib.zN]; exact O.lib.inj
  unfold fldD at h
  split at h
  · rename_i c ds
    obtain ⟨a, dx, vs, rfl, ck, fa', t, hl, r⟩ := ru
    rw [O.lib.zF] at t hl
    rw [O.lib.zok] at ck
    split at h
    · rename_i i hi
      split at h
      · rename_i d hd
        obtain ⟨v, e1, r1⟩ := r.get hd
        have hm : j ∈ Γ.cF c := List.mem_of_getElem? (posOf_get hi)
        refine ⟨a, _, dx, _, v, rfl, t, (O.lib.cls c ck).1, O.lib.noat c j ck hm, ?_, p.here s h r1⟩
        rw [← O.lib.zN]
        exact posOf_lookup inj hi e1
      · exact h.elim
    · exact h.elim
  · split at h
    · rename_i c ns ds q
      obtain ⟨a, e, nf, ck, dx, vs, t, hl, r⟩ := s.get q
      obtain ⟨b, e', rfl⟩ := ru
      rw [e] at e'; cases e'
      rw [O.lib.zok] at ck
      split at h
      · rename_i i hm' hi
        split at h
        · rename_i d hd
          obtain ⟨v, e1, r1⟩ := r.get hd
          have hm : j ∈ Γ.cF c := nmem_iff.mp hm'
          refine ⟨a, _, dx, _, v, rfl, t, (O.lib.cls c ck).1, O.lib.noat c j ck hm, ?_, p.here s h r1⟩
          rw [← O.lib.zN]
          exact posOf_lookup inj hi e1
        · exact h.elim
      · exact h.elim
    · exact h.elim
  · exact h.elim
theorem snd_tup {es : List Expr} {j : Nat} {pos : Pos} {fs : DL} (h : PA X es (tDA δ fs)) : PE X (.Tuple es j pos) (tD δ fun ρ μ Q X => fs ρ μ (fun ws μ1 => match frzWs μ1 ws with
    | some (ds, μ2) => match Nat.ble ds.length 1000 with
      | true => Q (.p (.tup ds)) μ2
      | false => False
    | none => False) X) := by
  refine PE.imp (pe_tup h) ?_
  rintro σ H Q ⟨F, α, ρ, μ, Qd, Xd, x0, s, l, h, p, px⟩
  refine ⟨F, α, ρ, μ, _, Xd, x0, s, l, h, fun ws μ1 hw vs H1 F1 α1 x1 s1 r1 => ?_, px⟩
  split at hw
  · rename_i ds μ2 q
    split at hw
    · rename_i hb
      obtain ⟨F2, x2, s2, r2⟩ := frzs_sound s1 r1 q
      have hl := Nat.le_of_ble_eq_true hb
      refine ⟨by rw [r2.length]; exact Nat.le_trans hl (by decide), fun q' hq' => ?_⟩
      exact p _ _ hw _ _ _ _ ((x1.trans x2).trans (Ext.newF hq')) (s2.newF hq') ⟨q', vs, rfl, .inl ⟨.inr rfl, upd_same⟩, reps_newF hq' r2⟩
    · exact hw.elim
  · exact hw.elim
theorem snd_lst {es : List Expr} {pos : Pos} {fs : DL} (h : PA X es (tDA δ fs)) : PE X (.List es pos) (tD δ fun ρ μ Q X => fs ρ μ (fun ws μ1 => match frzWs μ1 ws with
    | some (ds, μ2) => match Nat.ble ds.length 1000 with
      | true => Q (.m μ2.length) (μ2 ++ [some (.lst ds)])
      | false => False
    | none => False) X) := by
  refine PE.imp (pe_lst h) ?_
  rintro σ H Q ⟨F, α, ρ, μ, Qd, Xd, x0, s, l, h, p, px⟩
  refine ⟨F, α, ρ, μ, _, Xd, x0, s, l, h, fun ws μ1 hw vs H1 F1 α1 x1 s1 r1 => ?_, px⟩
  split at hw
  · rename_i ds μ2 q
    split at hw
    · rename_i hb
      obtain ⟨F2, x2, s2, r2⟩ := frzs_sound s1 r1 q
      have hl := Nat.le_of_ble_eq_true hb
      refine ⟨by rw [r2.length]; exact Nat.le_trans hl (by decide), fun q' hq' => ?_⟩
      exact p _ _ hw _ _ _ _ ((x1.trans x2).trans (Ext.newM hq')) (s2.newM hq' ⟨vs, upd_same, reps_new hq' r2⟩) ⟨q', by rw [List.getElem?_append_right (by rw [s2.len]; exact Nat.le_refl _)]; simp [s2.len], rfl⟩
    · exact hw.elim
  · exact hw.elim
/-! ### slices -/
def tDO (δ : Dc) (f : Env → Sto → (Option Int → Sto → Prop) → XQ → Prop) : TO := fun σ H Q => ∃ F α ρ μ Qd Xd, Ext δ.F0 δ.α0 δ.H0 F α H ∧ StoOk δ.Z F α H μ ∧ Loc δ.Z F α H ρ σ ∧ f ρ μ Qd Xd ∧
  (∀ b μ', Qd b μ' → ∀ H' F' α', Ext F α H F' α' H' → StoOk δ.Z F' α' H' μ' → Q b H') ∧ (∀ e μ', Xd e μ' → δ.Xc e ρ μ')
theorem PO.imp {X : Cx} {e : Option Expr} {t u : TO} (h : PO X e t) (hi : ∀ σ H Q, u σ H Q → t σ H Q) : PO X e u := ⟨fun pins s σ H Q I q => h.run pins s σ H Q I (hi _ _ _ q)⟩
theorem snd_O {f : CE → DE} {ck : CE → Expr → Bool} (hf : ∀ a e, ck a e = true → PE X e (tD δ (f a))) {a : Option CE} {e : Option Expr} (h : optB ck a e = true) : PO X e (tDO δ (wpO f a)) := by
  cases a with
  | none =>
    cases e with
    | none =>
      refine PO.imp po_none ?_
      rintro σ H Q ⟨F, α, ρ, μ, Qd, Xd, x0, s, l, h, p, px⟩
      exact p _ _ h _ _ _ (Ext.refl _ _ _) s
    | some e => cases h
  | some a =>
    cases e with
    | none => cases h
    | some e =>
      refine PO.imp (po_some (hf a e h)) ?_
      rintro σ H Q ⟨F, α, ρ, μ, Qd, Xd, x0, s, l, h, p, px⟩
      refine ⟨F, α, ρ, μ, _, Xd, x0, s, l, h, fun w μ1 hw v H1 F1 α1 x1 s1 r1 => ?_, px⟩
      split at hw
      · cases (show v = _ from r1)
        exact ⟨_, rfl, p _ _ hw _ _ _ x1 s1⟩
      · exact hw.elim
theorem snd_slc {o : Expr} {lo hi : Option Expr} {pos p2 : Pos} {fa : DE} {fl fh : Env → Sto → (Option Int → Sto → Prop) → XQ → Prop} (O : XOk Γ δ G N sc k X) (ha : PE X o (tD δ fa)) (hl : PO X lo (tDO δ fl)) (hh : PO X hi (tDO δ fh)) :
    PE X (.Subscript o (.Slice lo hi none p2) pos) (tD δ fun ρ μ Q X => fa ρ μ (fun x μ1 => fl ρ μ1 (fun l μ2 => fh ρ μ2 (fun h μ3 => slcD x l h μ3 Q) X) X) X) := by
  refine PE.imp (pe_slice sl_any ha hl hh) ?_
  rintro σ H Q ⟨F, α, ρ, μ, Qd, Xd, x0, s, l, h, p, px⟩
  refine ⟨F, α, ρ, μ, _, Xd, x0, s, l, h, fun w μ1 hw v H1 F1 α1 x1 s1 r1 => ?_, px⟩
  refine ⟨F1, α1, ρ, μ1, _, Xd, x0.trans x1, s1, x1.loc l, hw, fun i μ2 hw2 H2 F2 α2 x2 s2 => ?_, px⟩
  refine ⟨F2, α2, ρ, μ2, _, Xd, (x0.trans x1).trans x2, s2, x2.loc (x1.loc l), hw2, fun j μ3 hw3 H3 F3 α3 x3 s3 => ?_, px⟩
  rw [← O.lib.zK]
  exact slc_sound s3 (x3.repW (x2.repW r1)) hw3 fun w' μ' h' v' H' F' α' x' s' r' => p w' μ' h' v' H' F' α' (((x1.trans x2).trans x3).trans x') s' r'
end
end DL
set_option Elab.async false
set_option linter.all false
set_option maxRecDepth 100000
set_option maxHeartbeats 4000000
/-! DL: isinstance, calls of defs, classes, methods, built-ins -/
namespace DL
open PySem PySem.Spec L2 PyProof.Rows
def isTyB (x : Str) (n : String) : Bool := match bootBuiltins x with
  | some (.type m) => m == n
  | _ => false
def isVB (x : Str) (v : Value) : Bool := match bootBuiltins x, v with
  | some (.type m), .type n => m == n
  | some (.builtin m), .builtin n => m == n
  | _, _ => false
theorem isTyB_ok {x : Str} {n : String} (h : isTyB x n = true) : bootBuiltins x = some (.type n) := by
  unfold isTyB at h
  split at h
  · rename_i e; rw [e, eq_of_beq h]
  · cases h
theorem isVB_ok {x : Str} {v : Value} (h : isVB x v = true) : bootBuiltins x = some v := by
  unfold isVB at h
  split at h
  · rename_i e; rw [e, eq_of_beq h]
  · rename_i e; rw [e, eq_of_beq h]
  · cases h
def trChk (G : Sta) (sc : Scope) : TR → Expr → Bool
  | .b n, .Name x _ => glB sc x && G.blt x && isTyB x n && G.trs.contains (.b n)
  | .c c, .Name x _ => glB sc x && decide (x = G.cnm c) && G.trs.contains (.c c)
  | _, _ => false
section
variable {F : Addr → Prop} {α : List Addr} {H : Hp} {μ : Sto} {Γ : Gam} {G : Sta} {δ : Dc} {N : List Str} {sc : Scope} {k : Nat} {X : Cx}
theorem pe_tr {t : TR} {e : Expr} (O : XOk Γ δ G N sc k X) (h : trChk G sc t e = true) : PE X e (tC (trW δ.Z t)) ∧ plainE e = true ∧ t ∈ G.trs ∧ ClsV (trW δ.Z t) (trV δ.Z t) := by
  cases t with
  | b n =>
    cases e with
    | Name x pos =>
      simp only [trChk, Bool.and_eq_true] at h
      obtain ⟨⟨⟨h1, h2⟩, h3⟩, h4⟩ := h
      obtain ⟨g1, g2, g3⟩ := gl_of O h1
      exact ⟨pe_bltn g1 (O.lib.free x h2) (isTyB_ok h3) rfl g3 g2, rfl, List.contains_iff_mem.mp h4, .ty n⟩
    | _ => cases h
  | c c =>
    cases e with
    | Name x pos =>
      simp only [trChk, Bool.and_eq_true] at h
      obtain ⟨⟨h1, h2⟩, h4⟩ := h
      obtain ⟨g1, g2, g3⟩ := gl_of O h1
      have e := of_decide_eq_true h2
      subst e
      have hm := List.contains_iff_mem.mp h4
      exact ⟨pe_glob g1 (O.lib.trc c hm) rfl g2, rfl, hm, .own _⟩
    | _ => cases h
/-- a value's type, and what isinstance tells of it -/
theorem typ_of {w : W} {v : V} {t0 : TR} {b0 : Bool} (O : XOk Γ δ G N sc k X) (s : StoOk δ.Z F α H μ) (r : RepW δ.Z F α H w v) (h0 : isiW Γ μ w t0 = some b0) :
    ∃ tv, TyX X.K H v tv ∧ ∀ t ∈ G.trs, ∀ b, isiW Γ μ w t = some b → PySem.W.kitOne X.K tv (trV δ.Z t) = some b := by
  have kb := O.lib.kitB
  have kc := O.lib.kit
  have insT : ∀ {a c dx : Addr} {n : Nat} {fs : List (Str × V)}, G.cok n = true → c = δ.Z.cA n → H a = some (.ins c dx fs) → TyX X.K H (.ref a) (.ref (δ.Z.cA n)) := fun {a c dx n fs} ck e t => by
    subst e
    obtain ⟨c1, c2, c3, c4, c5⟩ := O.lib.cls n ck
    exact .base (.ins t c1 c2 c3 c4 c5)
  cases w with
  | p d =>
    cases d with
    | non => cases (show v = _ from r); exact ⟨_, .base .non, fun t ht b e => by cases e; exact kb _ t (by simp) ht⟩
    | bl x => cases (show v = _ from r); exact ⟨_, .base (.bl x), fun t ht b e => by cases e; exact kb _ t (by simp) ht⟩
    | int x => cases (show v = _ from r); exact ⟨_, .base (.int x), fun t ht b e => by cases e; exact kb _ t (by simp) ht⟩
    | str x => cases (show v = _ from r); exact ⟨_, .base (.str x), fun t ht b e => by cases e; exact kb _ t (by simp) ht⟩
    | ty n => cases h0
    | glo n => cases h0
    | exc c ds => cases h0
    | tup ds =>
      obtain ⟨a, vs, rfl, t, _⟩ := r
      rw [O.lib.zK] at t
      refine ⟨.type "tuple", ?_, fun t ht b e => by cases e; exact kb _ t (by simp) ht⟩
      rcases t with ⟨_, t⟩ | ⟨o, its, n, e, c, _⟩
      · exact .base (.tup t)
      · exact .kTuple e c
    | lst ds =>
      obtain ⟨a, vs, rfl, t, _⟩ := r
      rw [O.lib.zK] at t
      refine ⟨.type "list", ?_, fun t ht b e => by cases e; exact kb _ t (by simp) ht⟩
      rcases t with ⟨_, t | ⟨o, t⟩⟩ | ⟨o, its, n, e, c, _⟩
      · exact .base (.lst t)
      · exact .base (.frz t)
      · exact .kList e c
    | dct ks ds =>
      obtain ⟨a, vs, rfl, _, t, _⟩ := r
      exact ⟨.type "dict", .base (.dK t), fun t ht b e => by cases e; exact kb _ t (by simp) ht⟩
    | obj c ds =>
      obtain ⟨a, dx, vs, rfl, ck, _, t, _⟩ := r
      rw [O.lib.zok] at ck
      exact ⟨_, insT ck rfl t, fun t ht b e => by cases e; exact kc c t ck ht⟩
  | m i =>
    obtain ⟨a, ha, rfl⟩ := r
    unfold isiW at h0
    split at h0
    · cases ‹W.m i = W.p _›
    · rename_i j hj
      cases hj
      split at h0
      · rename_i ds q
        obtain ⟨a', e', nf, vs, t, r1⟩ := s.get q
        rw [ha] at e'; cases e'
        exact ⟨_, .base (.lst t), fun t ht b e => by simp only [isiW, q] at e; cases e; exact kb _ t (by simp) ht⟩
      · rename_i ds q
        obtain ⟨a', e', nf, vs, t, r1⟩ := s.get q
        rw [ha] at e'; cases e'
        exact ⟨_, .base (.dK t), fun t ht b e => by simp only [isiW, q] at e; cases e; exact kb _ t (by simp) ht⟩
      · rename_i c ns ds q
        obtain ⟨a', e', nf, ck, dx, vs, t, r1⟩ := s.get q
        rw [ha] at e'; cases e'
        rw [O.lib.zok] at ck
        exact ⟨_, insT ck rfl t, fun t ht b e => by simp only [isiW, q] at e; cases e; exact kc c t ck ht⟩
      · cases h0
theorem any_of {w : W} {tv : Value} : ∀ {ts : List TR} {b : Bool}, ts ≠ [] → (∀ t ∈ ts, ∀ b, isiW Γ μ w t = some b → PySem.W.kitOne X.K tv (trV δ.Z t) = some b) → isiAny Γ μ w ts = some b → PySem.W.kitAny X.K tv (ts.map (trV δ.Z)) = some b
  | [], b, h, _, _ => absurd rfl h
  | [t], b, _, h, e => by
    have e' : isiW Γ μ w t = some b := e
    exact kitAny_cons (h t (by simp) b e') (fun z => by rw [z]; exact kitAny_nil) (fun z => z)
  | t :: t' :: ts, b, _, h, e => by
    have e' : (match isiW Γ μ w t, isiAny Γ μ w (t' :: ts) with
      | some a, some b => some (a || b)
      | _, _ => none) = some b := e
    cases q : isiW Γ μ w t with
    | none => rw [q] at e'; cases e'
    | some a =>
      cases q2 : isiAny Γ μ w (t' :: ts) with
      | none => rw [q, q2] at e'; cases e'
      | some c =>
        rw [q, q2] at e'
        have e2 : (a || c) = b := Option.some.inj e'
        subst e2
        have ih := any_of (ts := t' :: ts) (by simp) (fun u hu => h u (List.mem_cons_of_mem _ hu)) q2
        refine kitAny_cons (h t List.mem_cons_self a q) (fun z => by rw [z, Bool.false_or]; exact ih) (fun z => by rw [z]; rfl)
theorem boot_isi : bootBuiltins ("isinstance" : Str) = some (.builtin "isinstance") := by decide +kernel
theorem snd_isi1 {a e : Expr} {t : TR} {p pos : Pos} {fa : DE} (O : XOk Γ δ G N sc k X) (ha : PE X a (tD δ fa)) (hp : plainE a = true) (hg : glB sc ("isinstance" : Str) = true) (hb : G.blt ("isinstance" : Str) = true) (ht : trChk G sc t e = true) :
    PE X (.Call (.Name ("isinstance" : Str) p) [a, e] [] pos) (tD δ fun ρ μ Q X => fa ρ μ (fun w μ1 => match isiAny Γ μ1 w [t] with
      | some b => Q (.p (.bl b)) μ1
      | none => False) X) := by
  obtain ⟨g1, g2, g3⟩ := gl_of O hg
  obtain ⟨t1, t2, t3, t4⟩ := pe_tr O ht
  refine PE.imp (pe_callB call_isi g1 (O.lib.free _ hb) boot_isi (pa_cons ha (pa_cons t1 pa_nil (star_of t2)) (star_of hp)) g3 g2 (star_of hp) (by rw [star_of t2]; rfl)) ?_
  rintro σ H Q ⟨F, α, ρ, μ, Qd, Xd, x0, s, l, h, p, px⟩
  refine ⟨F, α, ρ, μ, _, Xd, x0, s, l, h, fun w μ1 hw v H1 F1 α1 x1 s1 r1 => ?_, px⟩
  split at hw
  · rename_i b q
    have q' : isiW Γ μ1 w t = some b := q
    obtain ⟨tv, y1, y2⟩ := typ_of O s1 r1 q'
    exact ⟨v, _, tv, _, b, rfl, t4, y1, y2 t t3 b q', p _ _ hw _ _ _ _ x1 s1 rfl⟩
  · exact hw.elim
theorem pa_trs (O : XOk Γ δ G N sc k X) : ∀ {ts : List TR} {es : List Expr}, allB (trChk G sc) ts es = true →
    ∃ t, PA X es t ∧ (∀ σ H Q, Q (ts.map (trW δ.Z)) H → t σ H Q) ∧ Paired ClsV (ts.map (trW δ.Z)) (ts.map (trV δ.Z)) ∧ (∀ t ∈ ts, t ∈ G.trs)
  | [], [], _ => ⟨_, pa_nil, fun _ _ _ h => h, .nil, by simp⟩
  | [], _ :: _, h => by cases h
  | _ :: _, [], h => by cases h
  | t :: ts, e :: es, h => by
    simp only [allB, Bool.and_eq_true] at h
    obtain ⟨t1, t2, t3, t4⟩ := pe_tr O h.1
    obtain ⟨u, u1, u2, u3, u4⟩ := pa_trs O h.2
    refine ⟨_, pa_cons t1 u1 (star_of t2), fun σ H Q q => ?_, .cons t4 u3, fun x hx => (List.mem_cons.mp hx).elim (fun z => by rw [z]; exact t3) (u4 x)⟩
    exact u2 σ H _ q
theorem snd_isiN {a : Expr} {es : List Expr} {ts : List TR} {j : Nat} {p p2 pos : Pos} {fa : DE} (O : XOk Γ δ G N sc k X) (ha : PE X a (tD δ fa)) (hp : plainE a = true) (hg : glB sc ("isinstance" : Str) = true) (hb : G.blt ("isinstance" : Str) = true)
    (hn : ts ≠ []) (hl : ts.length ≤ 1000) (ht : allB (trChk G sc) ts es = true) :
    PE X (.Call (.Name ("isinstance" : Str) p) [a, .Tuple es j p2] [] pos) (tD δ fun ρ μ Q X => fa ρ μ (fun w μ1 => match isiAny Γ μ1 w ts with
      | some b => Q (.p (.bl b)) μ1
      | none => False) X) := by
  obtain ⟨g1, g2, g3⟩ := gl_of O hg
  obtain ⟨u, u1, u2, u3, u4⟩ := pa_trs O ht
  refine PE.imp (pe_callB call_isiT g1 (O.lib.free _ hb) boot_isi (pa_cons ha (pa_cons (pe_tup u1) pa_nil (star_of rfl)) (star_of hp)) g3 g2 (star_of hp) (by rw [star_of rfl]; rfl)) ?_
  rintro σ H Q ⟨F, α, ρ, μ, Qd, Xd, x0, s, l, h, p, px⟩
  refine ⟨F, α, ρ, μ, _, Xd, x0, s, l, h, fun w μ1 hw v H1 F1 α1 x1 s1 r1 => ?_, px⟩
  refine u2 σ H1 _ ⟨by rw [List.length_map]; exact Nat.le_trans hl (by decide), fun q hq => ?_⟩
  split at hw
  · rename_i b e
    have x2 : Ext F1 α1 H1 (addF F1 q) α1 (upd H1 q (.tup (ts.map (trW δ.Z)))) := Ext.newF hq
    have s2 := s1.newF (o := .tup (ts.map (trW δ.Z))) hq
    obtain ⟨t, ts', rfl⟩ : ∃ t ts', ts = t :: ts' := by
      cases ts with
      | nil => exact absurd rfl hn
      | cons t ts' => exact ⟨t, ts', rfl⟩
    have h0 : ∃ b0, isiW Γ μ1 w t = some b0 := by
      cases q : isiW Γ μ1 w t with
      | some b0 => exact ⟨b0, rfl⟩
      | none =>
        cases ts' with
        | nil =>
          have e' : isiW Γ μ1 w t = some b := e
          rw [q] at e'; cases e'
        | cons t' ts'' =>
          have e' : (match isiW Γ μ1 w t, isiAny Γ μ1 w (t' :: ts'') with
            | some a, some b => some (a || b)
            | _, _ => none) = some b := e
          rw [q] at e'; cases e'
    obtain ⟨b0, h0⟩ := h0
    obtain ⟨tv, y1, y2⟩ := typ_of O s2 (x2.repW r1) h0
    exact ⟨v, q, _, tv, _, b, rfl, upd_same, u3, y1, any_of (by simp) (fun t ht => y2 t (u4 t ht)) e, p _ _ hw _ _ _ _ (x1.trans x2) s2 rfl⟩
  · exact hw.elim
end
end DL
set_option Elab.async false
set_option linter.all false
set_option maxRecDepth 100000
set_option maxHeartbeats 4000000
/-! DL: calls of defs, classes, methods, built-ins -/
namespace DL
open PySem PySem.Spec L2 PyProof.Rows
section
variable {Z : Ctx} {F : Addr → Prop} {α : List Addr} {H : Hp} {μ : Sto}
theorem RepWs.get : ∀ {ws : List W} {vs : List V} {i : Nat} {w : W}, RepWs Z F α H ws vs → ws[i]? = some w → ∃ v, vs[i]? = some v ∧ RepW Z F α H w v
  | [], _, i, w, _, e => by simp at e
  | x :: ws, _, 0, w, ⟨v, r, e, h1, _⟩, h => by subst e; simp at h; subst h; exact ⟨v, rfl, h1⟩
  | x :: ws, _, i + 1, w, ⟨v, r, e, _, h2⟩, h => by
    subst e
    obtain ⟨u, h3, h4⟩ := RepWs.get (i := i) h2 (by simpa using h)
    exact ⟨u, by simpa using h3, h4⟩
theorem plan_sound {vs us : List W} {xs ys : List V} {xv yv : List Value} (r1 : RepWs Z F α H vs xs) (r2 : RepWs Z F α H us ys) (v1 : Vals xs xv) (v2 : Vals ys yv) : ∀ {pl : List Src} {ws : List W} {zs : List Value}, planW vs us pl = some ws → zs.length = pl.length →
    (∀ (i : Nat) (z : Value), zs[i]? = some z → (∃ j, pl[i]? = some (.pos j) ∧ xv[j]? = some z) ∨ (∃ j, pl[i]? = some (.kw j) ∧ yv[j]? = some z) ∨ (∃ d, pl[i]? = some (.dfl d) ∧ (d = .non ∨ (∃ b, d = .bl b) ∨ (∃ b, d = .int b) ∨ ∃ b, d = .str b) ∧ RelV (dV d) z)) →
    ∃ as, RepWs Z F α H ws as ∧ Vals as zs ∧ ws.length = pl.length
  | [], ws, zs, e, hl, _ => by
    cases e
    have : zs = [] := List.length_eq_zero_iff.mp hl
    subst this
    exact ⟨[], rfl, .nil, rfl⟩
  | c :: pl, ws, [], e, hl, _ => by simp at hl
  | c :: pl, ws, z :: zs, e, hl, h => by
    unfold planW at e
    cases q1 : srcW vs us c with
    | none => rw [q1] at e; cases e
    | some w =>
      cases q2 : planW vs us pl with
      | none => rw [q1, q2] at e; cases e
      | some ws' =>
        rw [q1, q2] at e
        cases e
        obtain ⟨as, a1, a2, a3⟩ := plan_sound r1 r2 v1 v2 (zs := zs) q2 (by simpa using hl) (fun i y hy => by simpa using h (i + 1) y (by simpa using hy))
        have h0 := h 0 z rfl
        have one : ∃ v, RepW Z F α H w v ∧ RelV v z := by
          rcases h0 with ⟨j, e1, e2⟩ | ⟨j, e1, e2⟩ | ⟨d, e1, sc, e2⟩
          · have e1' : c = .pos j := by simpa using e1
            subst e1'
            obtain ⟨v, g1, g2⟩ := r1.get (show vs[j]? = some w from q1)
            obtain ⟨u, k1, k2⟩ := v1.get g1
            rw [e2] at k1; cases k1
            exact ⟨v, g2, k2⟩
          · have e1' : c = .kw j := by simpa using e1
            subst e1'
            obtain ⟨v, g1, g2⟩ := r2.get (show us[j]? = some w from q1)
            obtain ⟨u, k1, k2⟩ := v2.get g1
            rw [e2] at k1; cases k1
            exact ⟨v, g2, k2⟩
          · have e1' : c = .dfl d := by simpa using e1
            subst e1'
            have e3 : W.p d = w := Option.some.inj (show some (W.p d) = some w from q1)
            subst e3
            refine ⟨dV d, ?_, e2⟩
            rcases sc with rfl | ⟨b, rfl⟩ | ⟨b, rfl⟩ | ⟨b, rfl⟩ <;> rfl
        obtain ⟨v, g1, g2⟩ := one
        exact ⟨v :: as, ⟨v, as, rfl, g1, a1⟩, .cons g2 a2, by simp [a3]⟩
end
section
variable {F : Addr → Prop} {α : List Addr} {H : Hp} {μ : Sto} {Γ : Gam} {G : Sta} {δ : Dc} {N : List Str} {sc : Scope} {k : Nat} {X : Cx}
/-- the arguments, then the keywords, then the call -/
theorem callWith_any {es : List Expr} {kws : List Keyword} {ks : List Str} {as : List CE} {ck : CE → Expr → Bool} {ta tk : TA} {f : Value} {first : List Value} {pos : Pos} {pins : List (Addr × Obj)} {s : Shared} {σ : L2.St} {H : Hp} {Q : Value → Shared → Prop} {R : List V → List V → Hp → Prop}
    (I : Inv X pins σ H s) (hk : PySem.W.keepIn X.K f = true) (ha : PA X es ta) (hnil : es = [] → ∀ σ H Q, ta σ H Q → Q [] H) (hkw : PK X kws tk) (hp : es.all plainE = true) (hw : kwB ck as ks kws = true) (h : ta σ H fun xs H1 => tk σ H1 fun ys H2 => R xs ys H2)
    (hc : ∀ s2 H2 us ws xs ys, Inv X pins σ H2 s2 → Vals xs us → Vals ys ws → R xs ys H2 → wpAny (model X.prog X.w) X.A (call f (first ++ us) (ks.zip ws)) Q X.xe s2) :
    wpAny (model X.prog X.w) X.A (callWith pos f first (backTo pos (starEach es X.env)) (backToKw pos (keywordEach kws X.env))) Q X.xe s := by
  obtain ⟨w1, w2, w3, w4⟩ := kw_facts (env := X.env) (pos := pos) hw
  cases es with
  | nil =>
    refine PySem.W.callWith_KW0 (h₀ := X.base) I.ok.mod.kin hk w1 ?_ (by rw [w3]; rfl)
    rw [w2]
    exact thn (hkw.run pos pins s σ H _ I (hnil rfl _ _ _ h)) fun ws s2 ⟨ys, H2, I2, r2, q2⟩ => ⟨I2.kIn, hc s2 H2 [] ws [] ys I2 .nil r2 q2⟩
  | cons e es =>
    have hp' : plainE e = true ∧ es.all plainE = true := by simpa only [List.all_cons, Bool.and_eq_true] using hp
    refine PySem.W.callWith_KW (h₀ := X.base) I.ok.mod.kin hk w1 ?_ (by rw [w3, star_any hp]; rfl) (star_of hp'.1)
    refine thn (ha.run pos pins s σ H _ I h) fun us s1 ⟨xs, H1, I1, r1, q1⟩ => ?_
    rw [w2]
    exact thn (hkw.run pos pins s1 σ H1 _ I1 q1) fun ws s2 ⟨ys, H2, I2, r2, q2⟩ => ⟨I2.kIn, hc s2 H2 us ws xs ys I2 r1 r2 q2⟩

theorem planN_some {n m : Nat} {vs ks ws : List W} {pl : List Src} (h : planN n m vs ks pl = some ws) : vs.length = n ∧ ks.length = m ∧ planW vs ks pl = some ws := by
  unfold planN at h
  split at h
  · rename_i h1 h2
    exact ⟨Nat.eq_of_beq_eq_true h1, Nat.eq_of_beq_eq_true h2, h⟩
  · cases h
theorem allB_length {α β : Type} {f : α → β → Bool} : ∀ {as : List α} {bs : List β}, allB f as bs = true → as.length = bs.length
  | [], [], _ => rfl
  | [], _ :: _, h => by cases h
  | _ :: _, [], h => by cases h
  | a :: as, b :: bs, h => by
    simp only [allB, Bool.and_eq_true] at h
    simp [allB_length h.2]
/-- what a call of one of the defs asks: the state, the arguments, the promise -/
def RCall (δ : Dc) (σ : L2.St) (sp : DSp) (n : Nat) (f : List W → List W → Sto → EQ → XQ → Prop) (Q : VK) (xs ys : List V) (H : Hp) : Prop :=
  ∃ F α ρ μ vs us Qd Xd, Ext δ.F0 δ.α0 δ.H0 F α H ∧ StoOk δ.Z F α H μ ∧ Loc δ.Z F α H ρ σ ∧ RepWs δ.Z F α H vs xs ∧ RepWs δ.Z F α H us ys ∧ f vs us μ Qd Xd ∧ Post δ.Z F α H Qd Q ∧ (∀ e μ', Xd e μ' → δ.Xc e ρ μ')
theorem args_two {fs ks : DL} {g : List W → List W → Sto → EQ → XQ → Prop} {sp : DSp} {n : Nat} : ∀ σ H Q, tD δ (fun ρ μ Q X => fs ρ μ (fun vs μ1 => ks ρ μ1 (fun us μ2 => g vs us μ2 Q X) X) X) σ H Q → tDA δ fs σ H fun xs H1 => tDA δ ks σ H1 fun ys H2 => RCall δ σ sp n g Q xs ys H2 := by
  rintro σ H Q ⟨F, α, ρ, μ, Qd, Xd, x0, s, l, h, p, px⟩
  refine ⟨F, α, ρ, μ, _, Xd, x0, s, l, h, fun vs μ1 hw xs H1 F1 α1 x1 s1 r1 => ?_, px⟩
  refine ⟨F1, α1, ρ, μ1, _, Xd, x0.trans x1, s1, x1.loc l, hw, fun us μ2 hw2 ys H2 F2 α2 x2 s2 r2 => ?_, px⟩
  exact ⟨F2, α2, ρ, μ2, vs, us, Qd, Xd, (x0.trans x1).trans x2, s2, x2.loc (x1.loc l), x2.repWs r1, r2, hw2, fun w' μ' h' v' H' F' α' x' s' r' => p w' μ' h' v' H' F' α' ((x1.trans x2).trans x') s' r', px⟩
/-- a def runs, its arguments bound -/
theorem run_fnX {W : WX} {f : Addr} {fd : FuncData} {ps ks : List Str} {sp : Sp} {us ws zs : List Value} {as : List V} {pins : List (Addr × Obj)} {s : Shared} {σ : L2.St} {H : Hp} {Q : VK} {j : Nat} (F : FnOk X.prog X.w X.K X.mg X.base (L2.CX X.prog X.w) j f fd ps sp) (hr : Room j X.A) (tk : Takes X W) (I : Inv X pins σ H s)
    (hb : BindsTo s fd ⟨us, ks.zip ws⟩ (ps.zip zs)) (r : Vals as zs) (h : sp as H Q fun cls d H' => W cls d σ H') : wpAny (model X.prog X.w) X.A (call (.ref f) us (ks.zip ws)) (EP X pins σ Q) X.xe s := by
  refine wpAny_call (codeAny_mono (F.run X.A X.stack s H ⟨us, ks.zip ws⟩ zs as Q _ hr I.env0 hb r h) fun r s' hq => ?_)
  cases r with
  | error e => exact tk e s' (XE.of_call I (fun _ _ _ h => h) hq)
  | ok fl =>
    cases fl with
    | ret u => exact I.after hq
    | next => exact False.elim hq
    | brk => exact False.elim hq
    | cont => exact False.elim hq
theorem exc_to {F : Addr → Prop} {α : List Addr} {ρ : Env} {σ : L2.St} {Xd : XQ} (x0 : Ext δ.F0 δ.α0 δ.H0 F α H) (l : Loc δ.Z F α H ρ σ) (px : ∀ e μ', Xd e μ' → δ.Xc e ρ μ') :
    ∀ e μ', Xd e μ' → ∀ cls d H' F' α', Ext F α H F' α' H' → StoOk δ.Z F' α' H' μ' → RepX δ.Z F' H' e cls d → wX δ cls d σ H' :=
  fun e μ' he cls d H' F' α' x s r => ⟨e, F', α', ρ, μ', x0.trans x, s, x.loc l, r, px e μ' he⟩
theorem snd_callF {es : List Expr} {kws : List Keyword} {as bs : List CE} {ck : CE → Expr → Bool} {f : CE → DE} {x : Str} {p pos : Pos} {sh : Nat} (O : XOk Γ δ G N sc k X) (hf : ∀ a e, ck a e = true → PE X e (tD δ (f a))) (hs : G.sok sh = true)
    (hx : (G.shape sh).1 = x) (hn : es.length = (G.shape sh).2.1) (hg : glB sc x = true) (ha : allB ck as es = true) (hp : es.all plainE = true) (hk : kwB ck bs (G.shape sh).2.2 kws = true) :
    PE X (.Call (.Name x p) es kws pos) (tD δ fun ρ μ Q X => wpL f as ρ μ (fun vs μ1 => wpL f bs ρ μ1 (fun us μ2 => match planN as.length bs.length vs us (Γ.plan sh).2 with
      | some ws => callD (Γ.fn (Γ.plan sh).1) ws μ2 Q X
      | none => False) X) X) := by
  subst hx
  obtain ⟨⟨fd, ps, F, ⟨hpl, B⟩, hkp⟩, hm⟩ := O.lib.fn sh hs
  obtain ⟨g1, g2, g3⟩ := gl_of O hg
  refine ⟨fun pins s σ H Q I h => ?_⟩
  have h' := args_two (sp := Γ.fn (Γ.plan sh).1) (n := ps.length) (g := fun vs us μ2 Q X => match planN as.length bs.length vs us (Γ.plan sh).2 with
      | some ws => callD (Γ.fn (Γ.plan sh).1) ws μ2 Q X
      | none => False) σ H Q h
  refine wpAny_Call_Name_kw (ld_glob I g1 hm ?_ g2)
  have hlen : ∀ {xs : List V} {us : List Value}, Vals xs us → xs.length = us.length := fun r => r.length
  refine callWith_any (first := []) I hkp (snd_L hf ha hp) (fun e => ?_) (snd_K hf hk) hp hk h' fun s2 H2 us ws xs ys I2 r1 r2 R => ?_
  · subst e
    cases as with
    | nil => exact tDA_nil
    | cons => cases ha
  · obtain ⟨F', α, ρ, μ, vs, vu, Qd, Xd, x0, s0, l, e1, e2, hw, p, px⟩ := R
    split at hw
    · rename_i wl q
      obtain ⟨q1, q2, q⟩ := planN_some q
      have n1 : us.length = (G.shape sh).2.1 := by
        rw [← r1.length, e1.length, ← hn, q1, allB_length ha]
      have n2 : ws.length = (G.shape sh).2.2.length := by
        rw [← r2.length, e2.length, q2, (kw_facts (env := X.env) (pos := pos) hk).2.2.2]
      obtain ⟨zs, b1, b2, b3⟩ := B us ws n1 n2
      obtain ⟨al, a1, a2, a3⟩ := plan_sound e1 e2 r1 r2 q b2 b3
      exact run_fnX F O.room O.tk I2 (b1 s2 I2.kIn) a2 (call_sound s0 a1 (a3.trans hpl) hw p (exc_to x0 l px))
    · exact hw.elim
/-- a new instance, its __init__ run, its arguments bound -/
theorem run_mkX {W : WX} {C f : Addr} {fd : FuncData} {ps ks : List Str} {sp : Sp} {us ws : List Value} {pins : List (Addr × Obj)} {s : Shared} {σ : L2.St} {H : Hp} {Q : VK} {j : Nat} (M : Mk X.K C f) (F : FnOk X.prog X.w X.K X.mg X.base (L2.CX X.prog X.w) j f fd ps sp) (hr : Room (j + 1) X.A) (tk : Takes X W) (I : Inv X pins σ H s)
    (h : ∀ x dx, H x = none → H dx = none → dx ≠ x → ∃ as : List V, ∃ zs : List Value, (∀ s2 : Shared, X.K.In s2.heap → BindsTo s2 fd ⟨.ref x :: us, ks.zip ws⟩ (ps.zip zs)) ∧ Vals as zs ∧
      sp as (upd (upd H dx (.own x)) x (.ins C dx [])) (fun v H2 => v = .non ∧ Q (.ref x) H2) fun cls d H' => W cls d σ H') :
    wpAny (model X.prog X.w) X.A (call (.ref C) us (ks.zip ws)) (EP X pins σ Q) X.xe s := by
  obtain ⟨as, zs, hb, r, hq⟩ := h (s.heap.objs.size + 1) s.heap.objs.size (I.hok.fresh (Nat.le_succ _)) (I.hok.fresh (Nat.le_refl _)) (Nat.ne_of_lt (Nat.lt_succ_self _))
  have I2 := Inv.made (C := C) I
  refine wpAny_call (make_map (f := f) I.kIn M.makes M.init (beq_iff_eq.mp M.fn) (codeAny_mono (F.run _ X.stack _ _ ⟨Value.ref (s.heap.objs.size + 1) :: us, ks.zip ws⟩ zs as _ _ (hr.make C us (ks.zip ws))
    (I2.env0.make C us (ks.zip ws)) (hb _ I2.kIn) r hq) fun r s' hq' => ?_))
  cases r with
  | error e => exact tk e s' (XE.of_call I2 (fun _ _ _ h => h) hq')
  | ok fl =>
    cases fl with
    | ret u =>
      obtain ⟨v, H', I3, rv, ev, q3⟩ := I2.after hq'
      subst ev
      exact ⟨rv, ⟨V.ref (s.heap.objs.size + 1), H', I3, rfl, q3⟩⟩
    | next => exact False.elim hq'
    | brk => exact False.elim hq'
    | cont => exact False.elim hq'
theorem Ext.junk {F : Addr → Prop} {α : List Addr} {H : Hp} {p : Addr} {o : HO} (hp : H p = none) : Ext F α H F α (upd H p o) :=
  ⟨fun _ h => h, fun a _ e _ => by rw [upd_ne (ne_of_none e hp)]; exact e, ⟨[], by simp⟩, fun a h => .inl h, fun a o' e => ⟨o', by rw [upd_ne (ne_of_none e hp)]; exact e⟩⟩
theorem StoOk.junk {Z : Ctx} {F : Addr → Prop} {α : List Addr} {H : Hp} {μ : Sto} {p : Addr} {o : HO} (s : StoOk Z F α H μ) (hp : H p = none) : StoOk Z F α (upd H p o) μ := by
  have x : Ext F α H F α (upd H p o) := Ext.junk hp
  refine ⟨s.len, s.nd, fun a h => ?_, fun a ha => ?_, fun i m e => ?_⟩
  · obtain ⟨o', e⟩ := s.fz a h; exact x.there a o' e
  · obtain ⟨o', e⟩ := s.al a ha; exact x.there a o' e
  · obtain ⟨a, e1, nf, r⟩ := s.at_ i m e
    obtain ⟨o', e2⟩ := s.al a (List.mem_of_getElem? e1)
    have ne : a ≠ p := ne_of_none e2 hp
    exact ⟨a, e1, nf, r.mono x.sub x.hH fun o h => by rw [upd_ne ne]; exact h⟩
theorem snd_callC {es : List Expr} {kws : List Keyword} {as bs : List CE} {ck : CE → Expr → Bool} {f : CE → DE} {x : Str} {p pos : Pos} {c sh : Nat} (O : XOk Γ δ G N sc k X) (hf : ∀ a e, ck a e = true → PE X e (tD δ (f a))) (hs : G.mok c sh = true)
    (hx : (G.shape sh).1 = x) (hn : es.length = (G.shape sh).2.1) (hg : glB sc x = true) (ha : allB ck as es = true) (hp : es.all plainE = true) (hk : kwB ck bs (G.shape sh).2.2 kws = true) :
    PE X (.Call (.Name x p) es kws pos) (tD δ fun ρ μ Q X => wpL f as ρ μ (fun vs μ1 => wpL f bs ρ μ1 (fun us μ2 => match planN (as.length + 1) bs.length (.m μ2.length :: vs) us (Γ.plan sh).2 with
      | some ws => newI Γ c (Γ.fn (Γ.plan sh).1) ws μ2 Q X
      | none => False) X) X) := by
  subst hx
  obtain ⟨ck', ⟨j, hj, fd, ps, F, ⟨hpl, B⟩, hkp⟩, hm, M⟩ := O.lib.mke c sh hs
  obtain ⟨g1, g2, g3⟩ := gl_of O hg
  refine ⟨fun pins s σ H Q I h => ?_⟩
  have h' := args_two (sp := Γ.fn (Γ.plan sh).1) (n := ps.length) (g := fun vs us μ2 Q X => match planN (as.length + 1) bs.length (.m μ2.length :: vs) us (Γ.plan sh).2 with
      | some ws => newI Γ c (Γ.fn (Γ.plan sh).1) ws μ2 Q X
      | none => False) σ H Q h
  refine wpAny_Call_Name_kw (ld_glob I g1 hm ?_ g2)
  refine callWith_any (first := []) I M.kp (snd_L hf ha hp) (fun e => ?_) (snd_K hf hk) hp hk h' fun s2 H2 us ws xs ys I2 r1 r2 R => ?_
  · subst e
    cases as with
    | nil => exact tDA_nil
    | cons => cases ha
  · obtain ⟨F', α, ρ, μ, vs, vu, Qd, Xd, x0, s0, l, e1, e2, hw, p, px⟩ := R
    split at hw
    · rename_i wl q
      obtain ⟨q1, q2, q⟩ := planN_some q
      have n1 : us.length + 1 = (G.shape sh).2.1 + 1 := by
        have q1' : vs.length = as.length := by simpa using q1
        rw [← r1.length, e1.length, ← hn, q1', allB_length ha]
      have n2 : ws.length = (G.shape sh).2.2.length := by
        rw [← r2.length, e2.length, q2, (kw_facts (env := X.env) (pos := pos) hk).2.2.2]
      refine run_mkX M F (O.room.mono hj) O.tk I2 fun nx dx h1 h2 hne => ?_
      have nx1 : upd H2 dx (.own nx) nx = none := by rw [upd_ne hne.symm]; exact h1
      have xx : Ext F' α H2 F' (α ++ [nx]) (upd (upd H2 dx (.own nx)) nx (.ins (δ.Z.cA c) dx [])) := (Ext.junk h2).trans (Ext.newM nx1)
      have ckZ : δ.Z.cok c = true := by rw [O.lib.zok]; exact ck'
      have ss : StoOk δ.Z F' (α ++ [nx]) (upd (upd H2 dx (.own nx)) nx (.ins (δ.Z.cA c) dx [])) (μ ++ [some (.ins c [] [])]) := (s0.junk h2).newM nx1 ⟨ckZ, dx, [], upd_same, rfl, rfl⟩
      have self : RepW δ.Z F' (α ++ [nx]) (upd (upd H2 dx (.own nx)) nx (.ins (δ.Z.cA c) dx [])) (.m μ.length) (.ref nx) := ⟨nx, by rw [List.getElem?_append_right (by rw [s0.len]; exact Nat.le_refl _)]; simp [s0.len], rfl⟩
      have hB : ∃ zs : List Value, (∀ s3 : Shared, X.K.In s3.heap → BindsTo s3 fd ⟨.ref nx :: us, (G.shape sh).2.2.zip ws⟩ (ps.zip zs)) ∧ zs.length = (Γ.plan sh).2.length ∧
          ∀ (i : Nat) (z : Value), zs[i]? = some z → (∃ j, (Γ.plan sh).2[i]? = some (.pos j) ∧ (Value.ref nx :: us)[j]? = some z) ∨ (∃ j, (Γ.plan sh).2[i]? = some (.kw j) ∧ ws[j]? = some z) ∨ (∃ d, (Γ.plan sh).2[i]? = some (.dfl d) ∧ (d = .non ∨ (∃ b, d = .bl b) ∨ (∃ b, d = .int b) ∨ ∃ b, d = .str b) ∧ RelV (dV d) z) := by
        obtain ⟨zs, b1, b2, b3⟩ := B (.ref nx :: us) ws (by simpa using n1) n2
        exact ⟨zs, b1, b2, b3⟩
      obtain ⟨zs, b1, b2, b3⟩ := hB
      obtain ⟨al, a1, a2, a3⟩ := plan_sound (vs := .m μ.length :: vs) (xs := .ref nx :: xs) ⟨_, _, rfl, self, xx.repWs e1⟩ (xx.repWs e2) (.cons rfl r1) r2 q b2 b3
      refine ⟨al, zs, b1, a2, ?_⟩
      refine call_sound ss a1 (a3.trans hpl) hw (fun w μ' h' v H' F2 α' x' s' r' => ?_) (fun e μ' he cls d H' F2 α' x' s' r' => exc_to x0 l px e μ' he cls d H' F2 α' (xx.trans x') s' r')
      split at h'
      · refine ⟨r', ?_⟩
        split at h'
        · rename_i c' ns ds qg
          obtain ⟨⟨rfl, rfl⟩, hq⟩ := h'
          rw [fS_eq] at hq
          obtain ⟨β, eβ, hβ⟩ := x'.pre
          have ha' : α'[μ.length]? = some nx := by
            rw [eβ, List.getElem?_append_left (by simp [s0.len])]
            rw [List.getElem?_append_right (by rw [s0.len]; exact Nat.le_refl _)]; simp [s0.len]
          obtain ⟨a, e, nf, ck2, dx', vs', t, hl, r⟩ := s'.get qg
          rw [ha'] at e
          have ea : nx = a := Option.some.inj e
          subst ea
          have xf : Ext F2 α' H' (addF F2 nx) α' H' := Ext.freeze (List.mem_of_getElem? ha')
          refine p _ _ hq (.ref nx) H' (addF F2 nx) α' ((xx.trans x').trans xf) (s'.freeze ha') ⟨nx, dx', vs', rfl, ck2, .inr rfl, ?_, ?_, xf.reps r⟩
          · rw [O.lib.zF]; exact t
          · rw [O.lib.zF]; exact hl
        · exact h'.elim
      · exact h'.elim
    · exact hw.elim
end
end DL
set_option Elab.async false
set_option linter.all false
set_option maxRecDepth 100000
set_option maxHeartbeats 4000000
/-! DL: calls of methods, of built-ins; every expression -/
namespace DL
open PySem PySem.Spec L2 PyProof.Rows
theorem star_all {es : List Expr} {env : PySem.Env} {pos : Pos} (hp : es.all plainE = true) : (backTo pos (starEach es env)).all (fun x => !x.1) = true := by
  induction es with
  | nil => rfl
  | cons e es ih =>
    simp only [List.all_cons, Bool.and_eq_true] at hp
    rw [star_of hp.1]
    exact ih hp.2
theorem kws_empty {kws : List Keyword} {env : PySem.Env} {pos : Pos} : (backToKw pos (keywordEach kws env)).isEmpty = kws.isEmpty := by
  cases kws with
  | nil => rfl
  | cons a as => obtain ⟨n, v, p⟩ := a; rfl
theorem meth_eval {o : Expr} {m : Str} {apos pos : Pos} {es : List Expr} {kws : List Keyword} {env : PySem.Env} {as : List CE} {ks : List Str} {ck : CE → Expr → Bool} (hn : noSup o = true) (hp : es.all plainE = true) (hk : kwB ck as ks kws = true)
    (hl : (apos.endLine == pos.line) = true) (h30 : es.length + kws.length < 29) :
    eval (.Call (.Attribute o m apos) es kws pos) env = (do
      let ov ← eval o env
      standAt apos.atName
      let (f, first) ← holding [ov] (getMethod ov m (plainOf o env))
      callWith pos f first (backTo pos (starEach es env)) (backToKw pos (keywordEach kws env))) := by
  obtain ⟨w1, w2, w3, w4⟩ := kw_facts (env := env) (pos := pos) hk
  have hf : methodCallForm (es.length + kws.length) (backTo pos (starEach es env)) (backToKw pos (keywordEach kws env)) = true := by
    unfold methodCallForm
    rw [star_all hp, w1]
    simp only [Bool.true_and, decide_eq_true_eq]
    split <;> omega
  show (do
    let ov ← attributeBase o m env (eval o env)
    standAt apos.atName
    methodCall o m apos pos env ov (es.length + kws.length) (backTo pos (starEach es env)) (backToKw pos (keywordEach kws env))) = _
  rw [attr_base hn]
  congr 1
  funext ov
  congr 1
  funext _
  exact mcall_line hf hl
section
variable {F : Addr → Prop} {α : List Addr} {H : Hp} {μ : Sto} {Γ : Gam} {G : Sta} {δ : Dc} {N : List Str} {sc : Scope} {k : Nat} {X : Cx}
theorem snd_callM {o : Expr} {es : List Expr} {kws : List Keyword} {as bs : List CE} {ck : CE → Expr → Bool} {f : CE → DE} {fo : DE} {m : Str} {apos pos : Pos} {st : Nat} (O : XOk Γ δ G N sc k X) (hf : ∀ a e, ck a e = true → PE X e (tD δ (f a))) (ho : PE X o (tD δ fo)) (hs : G.tok st = true)
    (hx : (G.site st).1 = m) (hn : es.length = (G.site st).2.1) (hno : noSup o = true) (ha : allB ck as es = true) (hp : es.all plainE = true) (hk : kwB ck bs (G.site st).2.2 kws = true) (hl : (apos.endLine == pos.line) = true) (h30 : es.length + kws.length < 29) :
    PE X (.Call (.Attribute o m apos) es kws pos) (tD δ fun ρ μ Q X => fo ρ μ (fun w μ0 => match mOf Γ st w with
      | some (g, pl) => wpL f as ρ μ0 (fun vs μ1 => wpL f bs ρ μ1 (fun us μ2 => match planN (as.length + 1) bs.length (w :: vs) us pl with
        | some ws => callD (Γ.fn g) ws μ2 Q X
        | none => False) X) X
      | none => False) X) := by
  subst hx
  refine ⟨fun pins s σ H Q I h => ?_⟩
  obtain ⟨F, α, ρ, μ, Qd, Xd, x0, s0, l, h, p, px⟩ := h
  refine PySem.W.methodCall_KW (thn (ho.run pins s σ H (fun v H1 => ∃ w F1 α1 μ1, Ext F α H F1 α1 H1 ∧ StoOk δ.Z F1 α1 H1 μ1 ∧ RepW δ.Z F1 α1 H1 w v ∧ match mOf Γ st w with
      | some (g, pl) => wpL f as ρ μ1 (fun vs μ1 => wpL f bs ρ μ1 (fun us μ2 => match planN (as.length + 1) bs.length (w :: vs) us pl with
        | some ws => callD (Γ.fn g) ws μ2 Qd Xd
        | none => False) Xd) Xd
      | none => False) I ⟨F, α, ρ, μ, _, Xd, x0, s0, l, h, fun w μ1 hw v H1 F1 α1 x1 s1 r1 => ⟨w, F1, α1, μ1, x1, s1, r1, hw⟩, px⟩) fun u s1 ⟨v, H1, I1, rv, w, F1, α1, μ1, x1, t1, r1, h1⟩ => ?_) (meth_eval hno hp hk hl h30)
  -- the arguments, whatever they come to
  have post1 : Post δ.Z F1 α1 H1 Qd Q := fun w' μ' h' v' H' F' α' x' s' r' => p w' μ' h' v' H' F' α' (x1.trans x') s' r'
  have hnil : es = [] → ∀ σ H Q, tDA δ (wpL f as) σ H Q → Q [] H := fun e => by
    subst e
    cases as with
    | nil => exact tDA_nil
    | cons => cases ha
  cases hm : mOf Γ st w with
  | none =>
    rw [hm] at h1
    exact h1.elim
  | some gp =>
    obtain ⟨g, pl⟩ := gp
    rw [hm] at h1
    replace h1 : wpL f as ρ μ1 (fun vs μ1 => wpL f bs ρ μ1 (fun us μ2 => match planN (as.length + 1) bs.length (w :: vs) us pl with
        | some ws => callD (Γ.fn g) ws μ2 Qd Xd
        | none => False) Xd) Xd := h1
    have hA : tDA δ (wpL f as) σ H1 fun xs H2 => tDA δ (wpL f bs) σ H2 fun ys H3 => ∃ F3 α3 μ3 vs us, Ext F1 α1 H1 F3 α3 H3 ∧ StoOk δ.Z F3 α3 H3 μ3 ∧ RepWs δ.Z F3 α3 H3 vs xs ∧ RepWs δ.Z F3 α3 H3 us ys ∧ (match planN (as.length + 1) bs.length (w :: vs) us pl with
        | some ws => callD (Γ.fn g) ws μ3 Qd Xd
        | none => False) := by
      refine ⟨F1, α1, ρ, μ1, _, Xd, x0.trans x1, t1, x1.loc l, h1, fun vs μ2 hw2 xs H2 F2 α2 x2 s2 r2 => ?_, px⟩
      refine ⟨F2, α2, ρ, μ2, _, Xd, (x0.trans x1).trans x2, s2, x2.loc (x1.loc l), hw2, fun us μ3 hw3 ys H3 F3 α3 x3 s3 r3 => ?_, px⟩
      exact ⟨F3, α3, μ3, vs, us, x2.trans x3, s3, x3.repWs r2, r3, hw3⟩
    unfold mOf at hm
    split at hm
    · rename_i c ds
      obtain ⟨a, dx, fv, rfl, ck', fa, t, hlen, r⟩ := r1
      obtain rfl : u = Value.ref a := rv
      rw [O.lib.zok] at ck'
      rw [O.lib.zF] at t
      obtain ⟨⟨fd, ps, FN, ⟨hpl, B⟩, hkp⟩, M, out⟩ := O.lib.meth c st g pl ck' hs hm
      refine getmeth_ok I1 t (O.lib.cls c ck').1 M ?_ ?_
      · rw [O.lib.zN]; exact lookup_out out
      · refine callWith_any (first := [.ref a]) I1 M.kp (snd_L hf ha hp) hnil (snd_K hf hk) hp hk hA fun s2 H2 us ws xs ys I2 r1' r2' R => ?_
        obtain ⟨F3, α3, μ3, vs, vu, x3, s3, e1, e2, hw⟩ := R
        have hw' := hw
        split at hw'
        · rename_i wl q
          obtain ⟨q1, q2, q⟩ := planN_some q
          have q1' : vs.length = as.length := by simpa using q1
          have n1 : (Value.ref a :: us).length = (G.site st).2.1 + 1 := by
            rw [List.length_cons, ← r1'.length, e1.length, ← hn, q1', allB_length ha]
          have n2 : ws.length = (G.site st).2.2.length := by
            rw [← r2'.length, e2.length, q2, (kw_facts (env := X.env) (pos := pos) hk).2.2.2]
          obtain ⟨zs, b1, b2, b3⟩ := B (.ref a :: us) ws n1 n2
          have self : RepW δ.Z F3 α3 H2 (.p (.obj c ds)) (.ref a) := x3.repW (w := .p (.obj c ds)) ⟨a, dx, fv, rfl, by rw [O.lib.zok]; exact ck', fa, by rw [O.lib.zF]; exact t, hlen, r⟩
          obtain ⟨al, a1, a2, a3⟩ := plan_sound (vs := .p (.obj c ds) :: vs) (xs := .ref a :: xs) ⟨_, _, rfl, self, e1⟩ e2 (.cons rfl r1') r2' q b2 b3
          exact run_fnX FN O.room O.tk I2 (b1 s2 I2.kIn) a2 (call_sound s3 a1 (a3.trans hpl) hw' (fun w' μ' h' v' H' F' α' x' s' r' => post1 w' μ' h' v' H' F' α' (x3.trans x') s' r') (exc_to ((x0.trans x1).trans x3) (x3.loc (x1.loc l)) px))
        · exact hw'.elim
    · cases hm
theorem snd_blt {es : List Expr} {as : List CE} {b : Bt} {ck : CE → Expr → Bool} {f : CE → DE} {x : Str} {p pos : Pos} (O : XOk Γ δ G N sc k X) (hf : ∀ a e, ck a e = true → PE X e (tD δ (f a))) (hx : isVB x (btV b) = true) (hb : G.blt x = true) (hg : glB sc x = true)
    (ha : allB ck as es = true) (hp : es.all plainE = true) (hne : es ≠ []) :
    PE X (.Call (.Name x p) es [] pos) (tD δ fun ρ μ Q X => wpL f as ρ μ (fun ws μ1 => bltD b ws μ1 Q) X) := by
  obtain ⟨g1, g2, g3⟩ := gl_of O hg
  have hv := isVB_ok hx
  have hl := snd_L hf ha hp
  have rd : ∀ σ H Q, tD δ (fun ρ μ Q X => wpL f as ρ μ (fun ws μ1 => bltD b ws μ1 Q) X) σ H Q → tCB (rBt X.K b) (tDA δ (wpL f as)) σ H Q := by
    rintro σ H Q ⟨F, α, ρ, μ, Qd, Xd, x0, s, l, h, p, px⟩
    refine ⟨F, α, ρ, μ, _, Xd, x0, s, l, h, fun ws μ1 hw vs H1 F1 α1 x1 s1 r1 => ?_, px⟩
    rw [← O.lib.zK]
    exact blt_sound s1 r1 hw fun w' μ' h' v' H' F' α' x' s' r' => p w' μ' h' v' H' F' α' (x1.trans x') s' r'
  cases es with
  | nil => exact absurd rfl hne
  | cons e es =>
    have hp' : plainE e = true ∧ es.all plainE = true := by simpa only [List.all_cons, Bool.and_eq_true] using hp
    have cb := call_bt (X := X) O.calm b
    cases b with
    | abs => exact PE.imp (pe_callB cb g1 (O.lib.free _ hb) hv hl g3 g2 (star_of hp'.1) (star_any hp'.2)) rd
    | max2 => exact PE.imp (pe_callB cb g1 (O.lib.free _ hb) hv hl g3 g2 (star_of hp'.1) (star_any hp'.2)) rd
    | min2 => exact PE.imp (pe_callB cb g1 (O.lib.free _ hb) hv hl g3 g2 (star_of hp'.1) (star_any hp'.2)) rd
    | len => exact PE.imp (pe_callB cb g1 (O.lib.free _ hb) hv hl g3 g2 (star_of hp'.1) (star_any hp'.2)) rd
    | divmod => exact PE.imp (pe_callB cb g1 (O.lib.free _ hb) hv hl g3 g2 (star_of hp'.1) (star_any hp'.2)) rd
    | int1 => exact PE.imp (pe_callTy cb g1 (O.lib.free _ hb) hv hl g3 g2 (star_of hp'.1) (star_any hp'.2)) rd
    | strI => exact PE.imp (pe_callTy cb g1 (O.lib.free _ hb) hv hl g3 g2 (star_of hp'.1) (star_any hp'.2)) rd
    | bool1 => exact PE.imp (pe_callTy cb g1 (O.lib.free _ hb) hv hl g3 g2 (star_of hp'.1) (star_any hp'.2)) rd
    | _ =>
      refine ⟨fun pins s σ H Q I h => ?_⟩
      unfold isVB btV at hx
      split at hx <;> first | cases hx | (rename_i e1 e2; cases e2)
end
end DL
set_option Elab.async false
set_option linter.all false
set_option maxRecDepth 100000
set_option maxHeartbeats 4000000
/-! DL: the check of an expression, and that it suffices -/
namespace DL
open PySem PySem.Spec L2 PyProof.Rows
def opB (a b : Operator) : Bool := decide (a = b)
/-- the text's expression is the core language's -/
def stepChk (G : Sta) (N : List Str) (sc : Scope) (ck : CE → Expr → Bool) : CE → Expr → Bool
  | .var i, .Name x _ => decide (N[i]? = some x) && visB sc x && !(x == ("__debug__" : Str)) && !(x == ("__classdict__" : Str))
  | .c d, .Constant c _ _ => conB d c
  | .glo y d, .Name x _ => decide (x = y) && glB sc x && G.con x d
  | .bin op a b, .BinOp l op' r _ => decide (op = op') && ck a l && ck b r
  | .neg a, .UnaryOp .USub x _ => ck a x
  | .not a, .UnaryOp .Not x _ => ck a x
  | .bop op as, .BoolOp op' xs _ => decide (op = op') && !as.isEmpty && allB ck as xs
  | .cmp op a b, .Compare l [op'] [r] _ => decide (op = op') && ck a l && ck b r && plainE r
  | .chain o1 o2 a b c, .Compare l [p1, p2] [r1, r2] _ => decide (o1 = p1) && decide (o2 = p2) && ck a l && ck b r1 && ck c r2 && plainE r2
  | .ife t a b, .IfExp t' a' b' _ => ck t t' && ck a a' && ck b b'
  | .fld a k, .Attribute x f _ => decide (f = G.fN k) && ck a x && noSup x
  | .slc a lo hi, .Subscript x (.Slice l h none _) _ => ck a x && optB ck lo l && optB ck hi h
  | .idx a b, .Subscript x i _ => ck a x && ck b i && plainE i
  | .tup as, .Tuple xs _ _ => allB ck as xs && xs.all plainE
  | .lst as, .List xs _ => allB ck as xs && xs.all plainE
  | .isi a [t], .Call (.Name f _) [x, e] [] _ => decide (f = ("isinstance" : Str)) && ck a x && plainE x && glB sc ("isinstance" : Str) && G.blt ("isinstance" : Str) && trChk G sc t e
  | .isi a ts, .Call (.Name f _) [x, .Tuple es _ _] [] _ => decide (f = ("isinstance" : Str)) && ck a x && plainE x && glB sc ("isinstance" : Str) && G.blt ("isinstance" : Str) && !ts.isEmpty && Nat.ble ts.length 1000 && allB (trChk G sc) ts es
  | .callF s as bs, .Call (.Name f _) xs kws _ => G.sok s && decide ((G.shape s).1 = f) && decide (xs.length = (G.shape s).2.1) && glB sc f && allB ck as xs && xs.all plainE && kwB ck bs (G.shape s).2.2 kws
  | .callC c s as bs, .Call (.Name f _) xs kws _ => G.mok c s && decide ((G.shape s).1 = f) && decide (xs.length = (G.shape s).2.1) && glB sc f && allB ck as xs && xs.all plainE && kwB ck bs (G.shape s).2.2 kws
  | .callM o s as bs, .Call (.Attribute x m ap) xs kws p => ck o x && G.tok s && decide ((G.site s).1 = m) && decide (xs.length = (G.site s).2.1) && noSup x && allB ck as xs && xs.all plainE && kwB ck bs (G.site s).2.2 kws && (ap.endLine == p.line) && Nat.blt (xs.length + kws.length) 29
  | .blt b as, .Call (.Name f _) xs [] _ => isVB f (btV b) && G.blt f && glB sc f && allB ck as xs && xs.all plainE && !xs.isEmpty
  | _, _ => false
def chkE (G : Sta) (N : List Str) (sc : Scope) : Nat → CE → Expr → Bool
  | 0, _, _ => false
  | n + 1, a, e => stepChk G N sc (chkE G N sc n) a e
section
variable {Γ : Gam} {G : Sta} {δ : Dc} {N : List Str} {sc : Scope} {k : Nat} {X : Cx}
theorem step_sound {fe : CE → DE} {ft : CE → DT} {ck : CE → Expr → Bool} (O : XOk Γ δ G N sc k X) (he : ∀ a e, ck a e = true → PE X e (tD δ (fe a))) (ht : ∀ a e, ck a e = true → PT X e (tDT δ (ft a))) (a : CE) (e : Expr)
    (h : stepChk G N sc ck a e = true) : PE X e (tD δ (stepE Γ fe ft a)) := by
  unfold stepChk at h
  split at h
  · simp only [Bool.and_eq_true, decide_eq_true_eq, Bool.not_eq_true'] at h
    exact snd_var O h.1.1.1 h.1.1.2 h.1.2 h.2
  · exact snd_c h
  · simp only [Bool.and_eq_true, decide_eq_true_eq] at h
    exact snd_glo O h.1.2 h.2
  · simp only [Bool.and_eq_true, decide_eq_true_eq] at h
    obtain ⟨⟨rfl, h1⟩, h2⟩ := h
    exact snd_bin O (he _ _ h1) (he _ _ h2)
  · exact snd_neg (he _ _ h)
  · exact snd_not (he _ _ h)
  · simp only [Bool.and_eq_true, decide_eq_true_eq, Bool.not_eq_true'] at h
    obtain ⟨⟨rfl, h1⟩, h2⟩ := h
    exact snd_V he (fun z => by subst z; cases h1) h2
  · simp only [Bool.and_eq_true, decide_eq_true_eq] at h
    obtain ⟨⟨⟨rfl, h1⟩, h2⟩, h3⟩ := h
    exact snd_cmp O (he _ _ h1) (he _ _ h2) h3
  · simp only [Bool.and_eq_true, decide_eq_true_eq] at h
    obtain ⟨⟨⟨⟨⟨rfl, rfl⟩, h1⟩, h2⟩, h3⟩, h4⟩ := h
    exact snd_chain O (he _ _ h1) (he _ _ h2) (he _ _ h3) h4
  · simp only [Bool.and_eq_true] at h
    exact snd_ife (ht _ _ h.1.1) (he _ _ h.1.2) (he _ _ h.2)
  · simp only [Bool.and_eq_true, decide_eq_true_eq] at h
    exact snd_fld O (he _ _ h.1.2) h.1.1 h.2
  · simp only [Bool.and_eq_true] at h
    exact snd_slc O (he _ _ h.1.1) (snd_O he h.1.2) (snd_O he h.2)
  · simp only [Bool.and_eq_true] at h
    exact snd_idx O (he _ _ h.1.1) (he _ _ h.1.2) h.2
  · simp only [Bool.and_eq_true] at h
    exact snd_tup (snd_L he h.1 h.2)
  · simp only [Bool.and_eq_true] at h
    exact snd_lst (snd_L he h.1 h.2)
  · simp only [Bool.and_eq_true, decide_eq_true_eq] at h
    obtain ⟨⟨⟨⟨⟨rfl, h1⟩, h2⟩, h3⟩, h4⟩, h5⟩ := h
    exact snd_isi1 O (he _ _ h1) h2 h3 h4 h5
  · simp only [Bool.and_eq_true, decide_eq_true_eq, Bool.not_eq_true'] at h
    obtain ⟨⟨⟨⟨⟨⟨⟨rfl, h1⟩, h2⟩, h3⟩, h4⟩, h5⟩, h6⟩, h7⟩ := h
    exact snd_isiN O (he _ _ h1) h2 h3 h4 (fun z => by subst z; cases h5) (Nat.le_of_ble_eq_true h6) h7
  · simp only [Bool.and_eq_true, decide_eq_true_eq] at h
    obtain ⟨⟨⟨⟨⟨⟨h1, h2⟩, h3⟩, h4⟩, h5⟩, h6⟩, h7⟩ := h
    exact snd_callF O he h1 h2 h3 h4 h5 h6 h7
  · simp only [Bool.and_eq_true, decide_eq_true_eq] at h
    obtain ⟨⟨⟨⟨⟨⟨h1, h2⟩, h3⟩, h4⟩, h5⟩, h6⟩, h7⟩ := h
    exact snd_callC O he h1 h2 h3 h4 h5 h6 h7
  · simp only [Bool.and_eq_true, decide_eq_true_eq] at h
    obtain ⟨⟨⟨⟨⟨⟨⟨⟨⟨h0, h1⟩, h2⟩, h3⟩, h4⟩, h5⟩, h6⟩, h7⟩, h8⟩, h9⟩ := h
    exact snd_callM O he (he _ _ h0) h1 h2 h3 h4 h5 h6 h7 h8 (Nat.le_of_ble_eq_true h9)
  · simp only [Bool.and_eq_true, Bool.not_eq_true'] at h
    obtain ⟨⟨⟨⟨⟨h1, h2⟩, h3⟩, h4⟩, h5⟩, h6⟩ := h
    exact snd_blt O he h1 h2 h3 h4 h5 (fun z => by subst z; cases h6)
  · cases h
/-- an expression of the core language that is no test of its own -/
theorem simple_of {ck : CE → Expr → Bool} {a : CE} {e : Expr} (h : stepChk G N sc ck a e = true) (h1 : ∀ b, a ≠ .not b) (h2 : ∀ o b, a ≠ .bop o b) (h3 : ∀ o b c, a ≠ .cmp o b c) (h4 : ∀ o p b c d, a ≠ .chain o p b c d) (h5 : ∀ t b c, a ≠ .ife t b c) : simpleE e = true := by
  unfold stepChk at h
  split at h <;> first | rfl | exact absurd rfl (h1 _) | exact absurd rfl (h2 _ _) | exact absurd rfl (h3 _ _ _) | exact absurd rfl (h4 _ _ _ _ _) | exact absurd rfl (h5 _ _ _) | cases h
theorem stepT_sound {fe ee : CE → DE} {ft : CE → DT} {ck : CE → Expr → Bool} (O : XOk Γ δ G N sc k X) (he : ∀ a e, ck a e = true → PE X e (tD δ (fe a))) (ht : ∀ a e, ck a e = true → PT X e (tDT δ (ft a))) (hee : ∀ a e, stepChk G N sc ck a e = true → PE X e (tD δ (ee a))) (a : CE) (e : Expr)
    (h : stepChk G N sc ck a e = true) : PT X e (tDT δ (stepT fe ft ee a)) := by
  have dflt : (∀ b, a ≠ .not b) → (∀ o b, a ≠ .bop o b) → (∀ o b c, a ≠ .cmp o b c) → (∀ o p b c d, a ≠ .chain o p b c d) → (∀ t b c, a ≠ .ife t b c) → PT X e (tDT δ fun ρ μ Q X => ee a ρ μ (fun w μ1 => truD w μ1 fun b => Q b μ1) X) := fun h1 h2 h3 h4 h5 =>
    snd_tru O (hee a e h) (simple_of h h1 h2 h3 h4 h5)
  cases a with
  | not b =>
    unfold stepChk at h
    split at h <;> first | (rename_i q; cases q; done) | skip
    all_goals try cases ‹CE.not _ = _›
    · exact snd_notT (ht _ _ h)
    · cases h
  | bop o bs =>
    unfold stepChk at h
    split at h
    all_goals try cases ‹CE.bop _ _ = _›
    · simp only [Bool.and_eq_true, decide_eq_true_eq, Bool.not_eq_true'] at h
      obtain ⟨⟨rfl, h1⟩, h2⟩ := h
      exact (snd_B ht (fun z => by subst z; cases h1) h2).pt
    · cases h
  | cmp o b c =>
    unfold stepChk at h
    split at h
    all_goals try cases ‹CE.cmp _ _ _ = _›
    · simp only [Bool.and_eq_true, decide_eq_true_eq] at h
      obtain ⟨⟨⟨rfl, h1⟩, h2⟩, h3⟩ := h
      exact snd_cmpT O (he _ _ h1) (he _ _ h2) h3
    · cases h
  | chain o p b c d =>
    unfold stepChk at h
    split at h
    all_goals try cases ‹CE.chain _ _ _ _ _ = _›
    · simp only [Bool.and_eq_true, decide_eq_true_eq] at h
      obtain ⟨⟨⟨⟨⟨rfl, rfl⟩, h1⟩, h2⟩, h3⟩, h4⟩ := h
      exact snd_chainT O (he _ _ h1) (he _ _ h2) (he _ _ h3) h4
    · cases h
  | ife t b c =>
    unfold stepChk at h
    split at h
    all_goals try cases ‹CE.ife _ _ _ = _›
    · simp only [Bool.and_eq_true] at h
      exact snd_ifeT (ht _ _ h.1.1) (ht _ _ h.1.2) (ht _ _ h.2)
    · cases h
  | _ => exact dflt (fun _ z => by cases z) (fun _ _ z => by cases z) (fun _ _ _ z => by cases z) (fun _ _ _ _ _ z => by cases z) (fun _ _ _ z => by cases z)
theorem all_sound (O : XOk Γ δ G N sc k X) : ∀ n, (∀ a e, chkE G N sc n a e = true → PE X e (tD δ ((wpET Γ n).1 a))) ∧ (∀ a e, chkE G N sc n a e = true → PT X e (tDT δ ((wpET Γ n).2 a)))
  | 0 => ⟨(fun _ _ h => absurd h Bool.false_ne_true), fun _ _ h => absurd h Bool.false_ne_true⟩
  | n + 1 => by
    obtain ⟨h1, h2⟩ := all_sound O n
    exact ⟨fun a e h => step_sound O h1 h2 a e h, fun a e h => stepT_sound O h1 h2 (fun a e h => step_sound O h1 h2 a e h) a e h⟩
theorem snd_E (O : XOk Γ δ G N sc k X) {a : CE} {e : Expr} (h : chkE G N sc deep a e = true) : PE X e (tD δ (wpE Γ a)) := (all_sound O deep).1 a e h
theorem snd_T (O : XOk Γ δ G N sc k X) {a : CE} {e : Expr} (h : chkE G N sc deep a e = true) : PT X e (tDT δ (wpT Γ a)) := (all_sound O deep).2 a e h
end
end DL
set_option Elab.async false
set_option linter.all false
set_option maxRecDepth 100000
set_option maxHeartbeats 4000000
/-! DL: targets, statements -/
namespace DL
open PySem PySem.Spec L2 PyProof.Rows
/-! ### what no name tells any longer -/
theorem newer_nd (k0 : Nat) : ∀ ρ : Env, (newer k0 ρ).Nodup
  | [] => List.nodup_nil
  | none :: r => newer_nd k0 r
  | some (.p _) :: r => newer_nd k0 r
  | some (.m i) :: r => by
    unfold newer
    split
    · rename_i h1 h2
      refine List.nodup_cons.mpr ⟨fun h => ?_, newer_nd k0 r⟩
      rw [nmem_iff.mpr h] at h2; cases h2
    · exact newer_nd k0 r
theorem newer_mem {k0 i : Nat} : ∀ {ρ : Env}, some (W.m i) ∈ ρ → k0 ≤ i → i ∈ newer k0 ρ
  | [], h, _ => by simp at h
  | none :: r, h, hk => by
    have h' : some (W.m i) ∈ r := by
      rcases List.mem_cons.mp h with h | h
      · cases h
      · exact h
    exact newer_mem (ρ := r) h' hk
  | some (.p _) :: r, h, hk => by
    have h' : some (W.m i) ∈ r := by
      rcases List.mem_cons.mp h with h | h
      · cases h
      · exact h
    exact newer_mem (ρ := r) h' hk
  | some (.m j) :: r, h, hk => by
    unfold newer
    split
    · rename_i h1 h2
      rcases List.mem_cons.mp h with h | h
      · cases h; exact List.mem_cons_self
      · exact List.mem_cons_of_mem _ (newer_mem h hk)
    · rename_i h1
      rcases List.mem_cons.mp h with h | h
      · cases h
        cases q : nmem i (newer k0 r) with
        | true => exact nmem_iff.mp q
        | false => exact absurd q (by intro z; exact h1 (Nat.ble_eq_true_of_le hk) z)
      · exact newer_mem h hk
theorem mem_newer {k0 i : Nat} : ∀ {ρ : Env}, i ∈ newer k0 ρ → some (W.m i) ∈ ρ ∧ k0 ≤ i
  | [], h => by simp [newer] at h
  | none :: r, h => let ⟨a, b⟩ := mem_newer (ρ := r) h; ⟨List.mem_cons_of_mem _ a, b⟩
  | some (.p _) :: r, h => let ⟨a, b⟩ := mem_newer (ρ := r) h; ⟨List.mem_cons_of_mem _ a, b⟩
  | some (.m j) :: r, h => by
    unfold newer at h
    split at h
    · rename_i h1 h2
      rcases List.mem_cons.mp h with h | h
      · rw [h]; exact ⟨List.mem_cons_self, Nat.le_of_ble_eq_true h1⟩
      · obtain ⟨a, b⟩ := mem_newer h; exact ⟨List.mem_cons_of_mem _ a, b⟩
    · obtain ⟨a, b⟩ := mem_newer h; exact ⟨List.mem_cons_of_mem _ a, b⟩
section
variable {Z : Ctx} {F F0 : Addr → Prop} {α α0 : List Addr} {H H0 : Hp} {μ : Sto}
theorem StoOk.sub {is : List Nat} (s : StoOk Z F α H μ) (nd : is.Nodup) (hin : ∀ i ∈ is, i < α.length) : StoOk Z F (is.map fun i => α.getD i 0) H (is.map (getM μ)) := by
  have hget : ∀ i ∈ is, ∃ a, α[i]? = some a ∧ α.getD i 0 = a := fun i hi => ⟨α[i]'(hin i hi), List.getElem?_eq_getElem (hin i hi), by rw [List.getD_eq_getElem?_getD, List.getElem?_eq_getElem (hin i hi)]; rfl⟩
  refine ⟨by simp, ?_, s.fz, fun a ha => ?_, fun j m e => ?_⟩
  · refine List.pairwise_map.mpr (nd.imp_of_mem fun {x y} hx hy hne z => ?_)
    obtain ⟨a, e1, e1'⟩ := hget x hx
    obtain ⟨b, e2, e2'⟩ := hget y hy
    rw [e1', e2'] at z
    subst z
    have h1 := List.getElem?_eq_some_iff.mp e1
    have h2 := List.getElem?_eq_some_iff.mp e2
    exact hne ((List.getElem_inj s.nd).mp (h1.2.trans h2.2.symm))
  · obtain ⟨i, hi, e⟩ := List.mem_map.mp ha
    obtain ⟨b, e1, e2⟩ := hget i hi
    rw [e2] at e
    subst e
    exact s.al b (List.mem_of_getElem? e1)
  · rw [List.getElem?_map] at e
    cases q : is[j]? with
    | none => rw [q] at e; cases e
    | some i =>
      rw [q] at e
      have e' : getM μ i = some m := Option.some.inj e
      obtain ⟨a, h1, h2, h3⟩ := s.get e'
      obtain ⟨b, g1, g2⟩ := hget i (List.mem_of_getElem? q)
      rw [h1] at g1; cases g1
      exact ⟨a, by rw [List.getElem?_map, q]; exact congrArg some g2, h2, h3⟩
theorem map_range_take {β : Type} (l : List β) (g : Nat → β) (k : Nat) (hg : ∀ i (h : i < l.length), g i = l[i]) : (List.range (min k l.length)).map g = l.take k := by
  apply List.ext_getElem
  · simp
  · intro i h1 h2
    simp only [List.getElem_map, List.getElem_range, List.getElem_take]
    exact hg i (by simp at h1; omega)
/-- the store let go from k0 on, but for the things at js -/
theorem StoOk.keep {k0 : Nat} {js : List Nat} (s : StoOk Z F α H μ) (nd : js.Nodup) (hj : ∀ i ∈ js, k0 ≤ i ∧ i < α.length) : StoOk Z F (α.take k0 ++ js.map fun i => α.getD i 0) H (μ.take k0 ++ js.map (getM μ)) := by
  have h := s.sub (is := List.range (min k0 α.length) ++ js) (List.nodup_append.mpr ⟨List.nodup_range, nd, fun a ha b hb z => by
    subst z
    have h1 := List.mem_range.mp ha
    have h2 := (hj a hb).1
    omega⟩) (fun i hi => by
      rcases List.mem_append.mp hi with hi | hi
      · have := List.mem_range.mp hi; omega
      · exact (hj i hi).2)
  rw [List.map_append, List.map_append] at h
  rw [map_range_take α (fun i => α.getD i 0) k0 (fun i hi => by rw [List.getD_eq_getElem?_getD, List.getElem?_eq_getElem hi]; rfl)] at h
  rw [show min k0 α.length = min k0 μ.length from by rw [s.len], map_range_take μ (getM μ) k0 (fun i hi => by unfold getM; rw [List.getElem?_eq_getElem hi])] at h
  exact h
theorem Ext.keep_take {k0 : Nat} {js : List Nat} (x : Ext F0 α0 H0 F α H) (hk : α0.length ≤ k0) (hj : ∀ i ∈ js, k0 ≤ i ∧ i < α.length) : Ext F0 α0 H0 F (α.take k0 ++ js.map fun i => α.getD i 0) H := by
  obtain ⟨β, e, hβ⟩ := x.pre
  refine ⟨x.sub, x.keep, ⟨β.take (k0 - α0.length) ++ js.map fun i => α.getD i 0, ?_, fun b hb => ?_⟩, x.new, x.there⟩
  · have h1 : α.take k0 = α0 ++ β.take (k0 - α0.length) := by
      rw [e, List.take_append, List.take_of_length_le hk]
    rw [h1, List.append_assoc]
  · rcases List.mem_append.mp hb with hb | hb
    · exact hβ b (List.mem_of_mem_take hb)
    · obtain ⟨i, hi, e'⟩ := List.mem_map.mp hb
      obtain ⟨h1, h2⟩ := hj i hi
      have : α.getD i 0 ∈ β := by
        rw [List.getD_eq_getElem?_getD, List.getElem?_eq_getElem h2]
        have e2 : α[i]? = some (α[i]'h2) := List.getElem?_eq_getElem h2
        have e3 : (α0 ++ β)[i]? = some (α[i]'h2) := by rw [← e]; exact e2
        rw [List.getElem?_append_right (by omega)] at e3
        exact List.mem_of_getElem? e3
      rw [← e']
      exact hβ _ this
theorem tidy_sound {k0 : Nat} {ρ : Env} {σ : L2.St} {Q : Env → Sto → Prop} (x : Ext F0 α0 H0 F α H) (s : StoOk Z F α H μ) (l : Loc Z F α H ρ σ) (hk : α0.length ≤ k0) (h : tidy k0 ρ μ Q) :
    ∃ α' ρ' μ', Ext F0 α0 H0 F α' H ∧ StoOk Z F α' H μ' ∧ Loc Z F α' H ρ' σ ∧ Q ρ' μ' := by
  have hj : ∀ i ∈ newer k0 ρ, k0 ≤ i ∧ i < α.length := fun i hi => by
    obtain ⟨h1, h2⟩ := mem_newer hi
    obtain ⟨n, hn⟩ := List.getElem?_of_mem h1
    obtain ⟨v, _, a, e, _⟩ := l.2 n _ hn
    exact ⟨h2, (List.getElem?_eq_some_iff.mp e).1⟩
  refine ⟨_, _, _, x.keep_take hk hj, s.keep (newer_nd k0 ρ) hj, ⟨by simp [l.1], fun n w e => ?_⟩, h⟩
  rw [List.getElem?_map] at e
  cases q : ρ[n]? with
  | none => rw [q] at e; cases e
  | some o =>
    rw [q] at e
    have e' : renE k0 (newer k0 ρ) o = some w := Option.some.inj e
    cases o with
    | none => cases e'
    | some w0 =>
      obtain ⟨v, e1, r⟩ := l.2 n w0 q
      cases w0 with
      | p d => cases e'; exact ⟨v, e1, r⟩
      | m i =>
        obtain ⟨a, ea, ev⟩ := r
        refine ⟨v, e1, ?_⟩
        have hi := (List.getElem?_eq_some_iff.mp ea).1
        cases qb : Nat.ble k0 i with
        | true =>
          simp only [renE, qb] at e'
          cases e'
          have hk2 := Nat.le_of_ble_eq_true qb
          have hx := ixOf_get (newer_mem (List.mem_of_getElem? q) hk2)
          refine ⟨a, ?_, ev⟩
          rw [List.getElem?_append_right (by rw [List.length_take]; omega), List.length_take, show k0 + ixOf i (newer k0 ρ) - min k0 α.length = ixOf i (newer k0 ρ) from by omega, List.getElem?_map, hx]
          exact congrArg some (by show α.getD i 0 = a; rw [List.getD_eq_getElem?_getD, ea]; rfl)
        | false =>
          simp only [renE, qb] at e'
          cases e'
          have hk2 : i < k0 := by
            have ne : ¬ k0 ≤ i := fun z => by rw [Nat.ble_eq_true_of_le z] at qb; cases qb
            omega
          refine ⟨a, ?_, ev⟩
          rw [List.getElem?_append_left (by rw [List.length_take]; omega), List.getElem?_take_of_lt hk2]
          exact ea
theorem tidyR_sound {w : W} {v : V} {Q : W → Sto → Prop} (x : Ext F0 α0 H0 F α H) (s : StoOk Z F α H μ) (r : RepW Z F α H w v) (h : tidyR α0.length w μ Q) :
    ∃ α' w' μ', Ext F0 α0 H0 F α' H ∧ StoOk Z F α' H μ' ∧ RepW Z F α' H w' v ∧ Q w' μ' := by
  cases w with
  | p d =>
    have s' := s.keep (k0 := α0.length) (js := []) List.nodup_nil (by simp)
    have x' := x.keep_take (k0 := α0.length) (js := []) (Nat.le_refl _) (by simp)
    simp only [List.map_nil, List.append_nil] at s' x'
    exact ⟨_, .p d, _, x', s', r, h⟩
  | m i =>
    obtain ⟨a, ea, ev⟩ := r
    have hi := (List.getElem?_eq_some_iff.mp ea).1
    unfold tidyR at h
    cases qb : Nat.ble α0.length i with
    | true =>
      have h' : Q (.m α0.length) (μ.take α0.length ++ [getM μ i]) := by
        have h2 := h
        simp only [qb] at h2
        exact h2
      have hk2 := Nat.le_of_ble_eq_true qb
      have s' := s.keep (k0 := α0.length) (js := [i]) (by simp) (by intro j hj; rw [List.mem_singleton.mp hj]; exact ⟨hk2, hi⟩)
      have x' := x.keep_take (k0 := α0.length) (js := [i]) (Nat.le_refl _) (by intro j hj; rw [List.mem_singleton.mp hj]; exact ⟨hk2, hi⟩)
      simp only [List.map_cons, List.map_nil] at s' x'
      refine ⟨_, .m α0.length, _, x', s', ⟨a, ?_, ev⟩, h'⟩
      rw [List.getElem?_append_right (by rw [List.length_take]; omega), List.length_take, show α0.length - min α0.length α.length = 0 from by omega]
      exact congrArg some (by rw [List.getD_eq_getElem?_getD, ea]; rfl)
    | false =>
      have h' : Q (.m i) (μ.take α0.length) := by
        have h2 := h
        simp only [qb] at h2
        exact h2
      have s' := s.keep (k0 := α0.length) (js := []) List.nodup_nil (by simp)
      have x' := x.keep_take (k0 := α0.length) (js := []) (Nat.le_refl _) (by simp)
      simp only [List.map_nil, List.append_nil] at s' x'
      have ne : ¬ α0.length ≤ i := fun z => by rw [Nat.ble_eq_true_of_le z] at qb; cases qb
      exact ⟨_, .m i, _, x', s', ⟨a, by rw [List.getElem?_take_of_lt (by omega)]; exact ea, ev⟩, h'⟩
end
end DL
set_option Elab.async false
set_option linter.all false
set_option maxRecDepth 100000
set_option maxHeartbeats 4000000
/-! DL: targets, statements -/
namespace DL
open PySem PySem.Spec L2 PyProof.Rows
def Dc.at (δ : Dc) (F : Addr → Prop) (α : List Addr) (H : Hp) : Dc := ⟨δ.Z, F, α, H, δ.Xc⟩
theorem XOk.at {Γ : Gam} {G : Sta} {δ : Dc} {N : List Str} {sc : Scope} {k : Nat} {X : Cx} {F : Addr → Prop} {α : List Addr} {H : Hp} (O : XOk Γ δ G N sc k X) (x : Ext δ.F0 δ.α0 δ.H0 F α H) : XOk Γ (δ.at F α H) G N sc k X :=
  ⟨O.lib, O.sc, O.nN, O.nd, O.calm, O.room, O.tk.imp fun c d σ H' ⟨e, F', α', ρ, μ, x', r⟩ => ⟨e, F', α', ρ, μ, x.trans x', r⟩⟩
/-- what a def's body has besides -/
structure BOk (X : Cx) : Prop where
  po : PassesOwn (model X.prog X.w) X.A X.env X.xe
  fn : ∀ x, X.fn x = true
  kd : X.env.scope.kind = .function

/-- a target's, a statement's reading -/
def tDG (δ : Dc) (f : W → Env → Sto → (Env → Sto → Prop) → XS → Prop) : TG := fun v σ H Q => ∃ F α ρ μ w Qd, Ext δ.F0 δ.α0 δ.H0 F α H ∧ StoOk δ.Z F α H μ ∧ Loc δ.Z F α H ρ σ ∧ RepW δ.Z F α H w v ∧ f w ρ μ Qd δ.Xc ∧
  (∀ ρ' μ', Qd ρ' μ' → ∀ σ' H' F' α', Ext F α H F' α' H' → StoOk δ.Z F' α' H' μ' → Loc δ.Z F' α' H' ρ' σ' → Q σ' H')
def tDGs (δ : Dc) (f : List D → Env → Sto → (Env → Sto → Prop) → XS → Prop) : TGs := fun vs σ H Q => ∃ F α ρ μ ds Qd, Ext δ.F0 δ.α0 δ.H0 F α H ∧ StoOk δ.Z F α H μ ∧ Loc δ.Z F α H ρ σ ∧ Reps δ.Z F H ds vs ∧ f ds ρ μ Qd δ.Xc ∧
  (∀ ρ' μ', Qd ρ' μ' → ∀ σ' H' F' α', Ext F α H F' α' H' → StoOk δ.Z F' α' H' μ' → Loc δ.Z F' α' H' ρ' σ' → Q σ' H')
structure EndOk (δ : Dc) (E : DEnds) (D : Ends) : Prop where
  nx : ∀ ρ' μ', E.nx ρ' μ' → ∀ σ' H' F' α', Ext δ.F0 δ.α0 δ.H0 F' α' H' → StoOk δ.Z F' α' H' μ' → Loc δ.Z F' α' H' ρ' σ' → D.nx σ' H'
  rt : ∀ w μ', E.rt w μ' → ∀ v H' F' α', Ext δ.F0 δ.α0 δ.H0 F' α' H' → StoOk δ.Z F' α' H' μ' → RepW δ.Z F' α' H' w v → D.rt v H'
  bk : ∀ ρ' μ', E.bk ρ' μ' → ∀ σ' H' F' α', Ext δ.F0 δ.α0 δ.H0 F' α' H' → StoOk δ.Z F' α' H' μ' → Loc δ.Z F' α' H' ρ' σ' → D.bk σ' H'
  ct : ∀ ρ' μ', E.ct ρ' μ' → ∀ σ' H' F' α', Ext δ.F0 δ.α0 δ.H0 F' α' H' → StoOk δ.Z F' α' H' μ' → Loc δ.Z F' α' H' ρ' σ' → D.ct σ' H'
def tDs (δ : Dc) (f : DEnds → XS → Env → Sto → Prop) : TS := fun D σ H => ∃ F α ρ μ E, Ext δ.F0 δ.α0 δ.H0 F α H ∧ StoOk δ.Z F α H μ ∧ Loc δ.Z F α H ρ σ ∧ f E δ.Xc ρ μ ∧ EndOk δ E D

theorem PG.imp {X : Cx} {e : Expr} {t u : TG} (h : PG X e t) (hi : ∀ v σ H Q, u v σ H Q → t v σ H Q) : PG X e u := ⟨fun pins s σ H v x Q I r q => h.run pins s σ H v x Q I r (hi _ _ _ _ q)⟩
theorem PGs.imp {X : Cx} {e : List Expr} {t u : TGs} (h : PGs X e t) (hi : ∀ v σ H Q, u v σ H Q → t v σ H Q) : PGs X e u := ⟨fun pins s σ H v x Q I r q => h.run pins s σ H v x Q I r (hi _ _ _ _ q)⟩
theorem PSs.imp {X : Cx} {e : List Stmt} {t u : TS} (h : PSs X e t) (hi : ∀ D σ H, u D σ H → t D σ H) : PSs X e u := ⟨fun pins s σ H D I q => h.run pins s σ H D I (hi _ _ _ q)⟩

def locB (sc : Scope) (x : Str) : Bool := match sc.names.lookup x with
  | some .local => true
  | some .cell => true
  | _ => false
theorem loc_of {sc : Scope} {x : Str} (h : locB sc x = true) : L2.Loc sc x := by
  unfold locB at h
  unfold L2.Loc
  split at h
  · exact .inl ‹_›
  · exact .inr ‹_›
  · cases h
def notStar : Expr → Bool
  | .Starred .. => false
  | _ => true
theorem each_of {e : Expr} {es : List Expr} {env : PySem.Env} (h : notStar e = true) : assignEach (e :: es) env = (false, assign e env) :: assignEach es env := by
  cases e <;> first | rfl | cases h
section
variable {Γ : Gam} {G : Sta} {δ : Dc} {N : List Str} {sc : Scope} {k : Nat} {X : Cx}
theorem snd_gname {i : Nat} {x : Str} {pos : Pos} (O : XOk Γ δ G N sc k X) (B : BOk X) (h1 : N[i]? = some x) (h2 : locB sc x = true) :
    PG X (.Name x pos) (tDG δ fun w ρ μ Q _ => match Nat.blt i ρ.length with | true => Q (ρ.set i (some w)) μ | false => False) := by
  refine PG.imp (pg_name (i := i) (by rw [O.nN]; exact O.nd) (by rw [O.nN]; exact h1) (by rw [O.sc]; exact loc_of h2) (.inl (B.fn x))) ?_
  rintro v σ H Q ⟨F, α, ρ, μ, w, Qd, x0, s, l, r, h, q⟩
  split at h
  · exact q _ _ h _ _ _ _ (Ext.refl _ _ _) s (l.set i r)
  · exact h.elim
theorem setL_sound {Z : Ctx} {F : Addr → Prop} {α : List Addr} {H : Hp} {μ : Sto} {o i w : W} {ov iv v : V} {Qd : Sto → Prop} {Q : Hp → Prop} (s : StoOk Z F α H μ) (ro : RepW Z F α H o ov) (ri : RepW Z F α H i iv) (rv : RepW Z F α H w v) (h : setD o i w μ Qd)
    (p : ∀ μ', Qd μ' → ∀ H' F', Ext F α H F' α H' → StoOk Z F' α H' μ' → Q H') : rSetL ov iv v H Q := by
  unfold setD at h
  split at h
  · rename_i j kk
    cases (show iv = _ from ri)
    split at h
    · rename_i d μ1 e
      obtain ⟨F1, x1, s1, r1⟩ := frz_sound s rv e
      split at h
      · rename_i ds q
        obtain ⟨⟨n, e1, hq⟩⟩ := h
        obtain ⟨a, vs, rfl, ha, nf, t, r2⟩ := s1.lst q (x1.repW ro)
        refine ⟨a, vs, kk, n, rfl, rfl, t, by rw [r2.length]; exact e1, ?_⟩
        have y : Ext F1 α H F1 α (upd H a (.lst (vs.set n v))) := Ext.put (List.mem_of_getElem? ha) nf
        exact p _ hq _ _ (x1.trans y) (s1.put ha nf ⟨_, upd_same, y.reps (r2.set r1)⟩)
      · exact h.elim
    · exact h.elim
  · exact h.elim
theorem snd_gsub {o i : Expr} {pos : Pos} {fo fi : DE} (O : XOk Γ δ G N sc k X) (ho : PE X o (tD δ fo)) (hi : PE X i (tD δ fi)) (hp : plainE i = true) :
    PG X (.Subscript o i pos) (tDG δ fun w ρ μ Q X => fo ρ μ (fun x μ1 => fi ρ μ1 (fun y μ2 => setD x y w μ2 fun μ3 => Q ρ μ3) fun e μ' => X e ρ μ') fun e μ' => X e ρ μ') := by
  have ha : ∀ v, assign (.Subscript o i pos) X.env v = (do
      let ov ← holding [v] (eval o X.env)
      let iv ← holding [v, ov] (eval i X.env)
      standAt pos
      holding [v, ov, iv] (setItem ov iv v)
      release [v, ov, iv] []) := by
    intro v
    cases i <;> first | rfl | cases hp
  refine PG.imp (pg_sub ho hi set_list ha) ?_
  rintro v σ H Q ⟨F, α, ρ, μ, w, Qd, x0, s, l, r, h, q⟩
  refine ⟨F, α, ρ, μ, _, _, x0, s, l, h, fun x μ1 hx ov H1 F1 α1 x1 s1 r1 => ?_, fun e μ' he => he⟩
  refine ⟨F1, α1, ρ, μ1, _, _, x0.trans x1, s1, x1.loc l, hx, fun y μ2 hy iv H2 F2 α2 x2 s2 r2 => ?_, fun e μ' he => he⟩
  exact setL_sound s2 (x2.repW r1) r2 (x2.repW (x1.repW r)) hy fun μ' hq H' F' x' s' => q _ _ hq _ _ _ _ ((x1.trans x2).trans x') s' (x'.loc (x2.loc (x1.loc l)))
theorem snd_gs {f : CT → W → Env → Sto → (Env → Sto → Prop) → XS → Prop} {ck : CT → Expr → Bool} (hf : ∀ t e, ck t e = true → PG X e (tDG δ (f t))) : ∀ {ts : List CT} {es : List Expr}, allB ck ts es = true → es.all notStar = true → PGs X es (tDGs δ (wpGl f ts))
  | [], [], _, _ => PGs.imp pgs_nil (by
    rintro v σ H Q ⟨F, α, ρ, μ, ds, Qd, x0, s, l, r, h, q⟩
    cases ds with
    | nil => exact ⟨r, q _ _ h _ _ _ _ (Ext.refl _ _ _) s l⟩
    | cons => exact h.elim)
  | [], _ :: _, h, _ => by cases h
  | _ :: _, [], h, _ => by cases h
  | t :: ts, e :: es, h, hp => by
    simp only [allB, Bool.and_eq_true] at h
    simp only [List.all_cons, Bool.and_eq_true] at hp
    refine PGs.imp (pgs_cons (hf t e h.1) (snd_gs hf h.2 hp.2) (by rw [each_of hp.1]; rfl)) ?_
    rintro vs σ H Q ⟨F, α, ρ, μ, ds, Qd, x0, s, l, r, h, q⟩
    cases ds with
    | nil => exact h.elim
    | cons d ds =>
      obtain ⟨v, us, rfl, r1, r2⟩ := r
      refine ⟨v, us, rfl, F, α, ρ, μ, .p d, _, x0, s, l, r1, h, fun ρ1 μ1 h1 σ1 H1 F1 α1 x1 s1 l1 => ?_⟩
      exact ⟨F1, α1, ρ1, μ1, ds, Qd, x0.trans x1, s1, l1, x1.reps r2, h1, fun ρ' μ' h' σ' H' F' α' x' s' l' => q ρ' μ' h' σ' H' F' α' (x1.trans x') s' l'⟩
theorem each_len {es : List Expr} {env : PySem.Env} : es.all notStar = true → (assignEach es env).length = es.length ∧ (assignEach es env).findIdx? (·.1) = none := by
  induction es with
  | nil => exact fun _ => ⟨rfl, rfl⟩
  | cons e es ih =>
    intro h
    simp only [List.all_cons, Bool.and_eq_true] at h
    obtain ⟨h1, h2⟩ := ih h.2
    rw [each_of h.1]
    refine ⟨by simp [h1], ?_⟩
    rw [List.findIdx?_cons, h2]
    rfl
theorem snd_gtup {es : List Expr} {ts : List CT} {j : Nat} {pos : Pos} {f : List D → Env → Sto → (Env → Sto → Prop) → XS → Prop} (O : XOk Γ δ G N sc k X) (h : PGs X es (tDGs δ f)) (hp : es.all notStar = true) (hl : es.length = ts.length) :
    PG X (.Tuple es j pos) (tDG δ fun w ρ μ Q X => match w with
      | .p (.tup ds) => match Nat.beq ds.length ts.length with
        | true => f ds ρ μ Q X
        | false => False
      | _ => False) := by
  obtain ⟨e1, e2⟩ := each_len (env := X.env) hp
  refine PG.imp (pg_tup (n := es.length) O.calm h e1 e2) ?_
  rintro v σ H Q ⟨F, α, ρ, μ, w, Qd, x0, s, l, r, h, q⟩
  split at h
  · rename_i ds
    obtain ⟨a, vs, rfl, t, r⟩ := r
    split at h
    · rename_i hb
      rw [O.lib.zK] at t
      exact ⟨a, vs, rfl, t.sq, by rw [r.length, hl]; exact Nat.eq_of_beq_eq_true hb, F, α, ρ, μ, ds, Qd, x0, s, l, r, h, q⟩
    · exact h.elim
  · exact h.elim
end
end DL
set_option Elab.async false
set_option linter.all false
set_option maxRecDepth 100000
set_option maxHeartbeats 4000000
/-! DL: statements, loops -/
namespace DL
open PySem PySem.Spec L2 PyProof.Rows
theorem swaps_no {e : Expr} {t : Option Expr} {l : Nat} {env : PySem.Env} (h : plainE e = true) : swapsWith e t l env = pure false := by
  cases e <;> first | rfl | cases h
def noSwapB : Expr → Expr → Bool
  | .Tuple .., .Tuple .. => false
  | .List .., .Tuple .. => false
  | _, _ => true
theorem stores_no {t e : Expr} {env : PySem.Env} (h : noSwapB t e = true) : swappedStores [t] e env = pure none := by
  unfold swappedStores
  cases t <;> cases e <;> first | rfl | cases h
section
variable {Γ : Gam} {G : Sta} {δ : Dc} {N : List Str} {sc : Scope} {k : Nat} {X : Cx}
theorem snd_ret {e : Expr} {pos : Pos} {f : DE} (h : PE X e (tD δ f)) : PS X (.Return (some e) pos) (tDs δ fun E X ρ μ => f ρ μ E.rt fun e μ' => X e ρ μ') := by
  refine PS.imp (ps_ret h) ?_
  rintro D σ H ⟨F, α, ρ, μ, E, x0, s, l, h, ok⟩
  exact ⟨F, α, ρ, μ, _, _, x0, s, l, h, fun w μ' hw v H' F' α' x' s' r' => ok.rt w μ' hw v H' F' α' (x0.trans x') s' r', fun e μ' he => he⟩
theorem snd_retN {pos : Pos} : PS X (.Return none pos) (tDs δ fun E _ _ μ => E.rt (.p .non) μ) := by
  refine PS.imp ps_retN ?_
  rintro D σ H ⟨F, α, ρ, μ, E, x0, s, l, h, ok⟩
  exact ok.rt _ _ h _ _ _ _ x0 s rfl
theorem snd_ex {e : Expr} {pos : Pos} {f : DE} (h : PE X e (tD δ f)) (hp : plainE e = true) : PS X (.Expr e pos) (tDs δ fun E X ρ μ => f ρ μ (fun _ μ1 => E.nx ρ μ1) fun e μ' => X e ρ μ') := by
  refine PS.imp (ps_expr h (swaps_no hp)) ?_
  rintro D σ H ⟨F, α, ρ, μ, E, x0, s, l, h, ok⟩
  exact ⟨F, α, ρ, μ, _, _, x0, s, l, h, fun w μ' hw v H' F' α' x' s' r' => ok.nx ρ μ' hw σ H' F' α' (x0.trans x') s' (x'.loc l), fun e μ' he => he⟩
theorem snd_asg {t e : Expr} {pos : Pos} {f : DE} {g : W → Env → Sto → (Env → Sto → Prop) → XS → Prop} (h : PE X e (tD δ f)) (hg : PG X t (tDG δ g)) (hp : plainE e = true) (hs : noSwapB t e = true) (hn : notStar t = true) :
    PS X (.Assign [t] e pos) (tDs δ fun E X ρ μ => f ρ μ (fun w μ1 => g w ρ μ1 E.nx X) fun e μ' => X e ρ μ') := by
  refine PS.imp (ps_asg h hg (swaps_no hp) (stores_no hs) (by rw [each_of hn]; rfl)) ?_
  rintro D σ H ⟨F, α, ρ, μ, E, x0, s, l, h, ok⟩
  refine ⟨F, α, ρ, μ, _, _, x0, s, l, h, fun w μ' hw v H' F' α' x' s' r' => ?_, fun e μ' he => he⟩
  exact ⟨F', α', ρ, μ', w, E.nx, x0.trans x', s', x'.loc l, r', hw, fun ρ2 μ2 h2 σ2 H2 F2 α2 x2 s2 l2 => ok.nx ρ2 μ2 h2 σ2 H2 F2 α2 ((x0.trans x').trans x2) s2 l2⟩
theorem put_sound {Z : Ctx} {F : Addr → Prop} {H : Hp} {fN : Nat → Str} (inj : ∀ a b, fN a = fN b → a = b) {kk : Nat} {d : D} {v : V} (rv : Rep Z F H d v) : ∀ {ns : List Nat} {ds : List D} {vs : List V}, ns.length = vs.length → Reps Z F H ds vs →
    ∃ vs', putF (fN kk) v ((ns.map fN).zip vs) = ((putN kk d ns ds).1.map fN).zip vs' ∧ (putN kk d ns ds).1.length = vs'.length ∧ Reps Z F H (putN kk d ns ds).2 vs'
  | [], ds, vs, hl, r => by
    cases vs with
    | cons => cases hl
    | nil =>
      have e : ds = [] := by
        have := r.length
        exact List.length_eq_zero_iff.mp (by rw [← this]; rfl)
      subst e
      exact ⟨[v], rfl, rfl, Reps.one rv⟩
  | j :: ns, [], vs, hl, r => by
    cases (show vs = [] from r)
    cases hl
  | j :: ns, x :: ds, vs, hl, ⟨u, us, e, r1, r2⟩ => by
    subst e
    have hl' : ns.length = us.length := by simpa using hl
    have hput : putF (fN kk) v ((fN j, u) :: (ns.map fN).zip us) = if fN j = fN kk then (fN j, v) :: (ns.map fN).zip us else (fN j, u) :: putF (fN kk) v ((ns.map fN).zip us) := rfl
    cases q : Nat.beq kk j with
    | true =>
      have ek : kk = j := Nat.eq_of_beq_eq_true q
      subst ek
      have ep : putN kk d (kk :: ns) (x :: ds) = (kk :: ns, d :: ds) := by simp only [putN, q]
      rw [ep]
      refine ⟨v :: us, ?_, by simp [hl'], ⟨v, us, rfl, rv, r2⟩⟩
      show putF (fN kk) v ((fN kk, u) :: (ns.map fN).zip us) = _
      rw [hput, if_pos rfl]
      rfl
    | false =>
      have ne : kk ≠ j := Nat.ne_of_beq_eq_false q
      have ep : putN kk d (j :: ns) (x :: ds) = (j :: (putN kk d ns ds).1, x :: (putN kk d ns ds).2) := by simp only [putN, q]
      rw [ep]
      obtain ⟨vs', h1, h2, h3⟩ := put_sound inj rv (kk := kk) hl' r2
      refine ⟨u :: vs', ?_, by simp [h2], ⟨u, vs', rfl, r1, h3⟩⟩
      show putF (fN kk) v ((fN j, u) :: (ns.map fN).zip us) = _
      rw [hput, if_neg (fun z => ne (inj _ _ z.symm)), h1]
      rfl
theorem snd_asgF {o e : Expr} {f : Str} {j : Nat} {p pos : Pos} {fo fe : DE} (O : XOk Γ δ G N sc k X) (ho : PE X o (tD δ fo)) (he : PE X e (tD δ fe)) (hf : f = G.fN j) (hp : plainE e = true) :
    PS X (.Assign [.Attribute o f p] e pos) (tDs δ fun E X ρ μ => fe ρ μ (fun w μ1 => fo ρ μ1 (fun x μ2 => sfldD Γ j x w μ2 fun μ3 => E.nx ρ μ3) fun e μ' => X e ρ μ') fun e μ' => X e ρ μ') := by
  subst hf
  refine PS.imp (ps_fld ho he (swaps_no hp)) ?_
  rintro D σ H ⟨F, α, ρ, μ, E, x0, s, l, h, ok⟩
  refine ⟨F, α, ρ, μ, _, _, x0, s, l, h, fun w μ1 hw v H1 F1 α1 x1 s1 r1 => ?_, fun e μ' he => he⟩
  refine ⟨F1, α1, ρ, μ1, _, _, x0.trans x1, s1, x1.loc l, hw, fun x μ2 hx u H2 F2 α2 x2 s2 r2 => ?_, fun e μ' he => he⟩
  have inj : ∀ a b, δ.Z.fN a = δ.Z.fN b → a = b := by rw [O.lib.zN]; exact O.lib.inj
  unfold sfldD at hx
  split at hx
  · rename_i i
    split at hx
    · rename_i d μ3 e
      obtain ⟨F3, x3, s3, r3⟩ := frz_sound s2 (x2.repW r1) e
      split at hx
      · rename_i c ns ds q
        split at hx
        · rename_i hm
          obtain ⟨a, ha, nf, ck, dx, vs, t, hl, r4⟩ := s3.get q
          obtain ⟨b, e', rfl⟩ := x3.repW r2
          rw [ha] at e'; cases e'
          have ck' := ck
          rw [O.lib.zok] at ck'
          obtain ⟨vs', h1, h2, h3⟩ := put_sound (kk := j) inj r3 hl r4
          refine ⟨a, _, dx, _, rfl, t, (O.lib.cls c ck').1, O.lib.noat c j ck' (nmem_iff.mp hm), ?_, ?_⟩
          · have : (((ns.map δ.Z.fN).zip vs)).length ≤ 900 := by rw [List.length_zip, List.length_map]; have := hx.p; omega
            omega
          · have y : Ext F3 α2 H2 F3 α2 (upd H2 a (.ins (δ.Z.cA c) dx (putF (G.fN j) v ((ns.map δ.Z.fN).zip vs)))) := Ext.put (List.mem_of_getElem? ha) nf
            refine ok.nx ρ _ hx.q σ _ F3 α2 ((((x0.trans x1).trans x2).trans x3).trans y) (s3.put ha nf ⟨ck, dx, vs', ?_, h2, y.reps h3⟩) (y.loc (x3.loc (x2.loc (x1.loc l))))
            rw [upd_same, ← O.lib.zN, h1]
        · exact hx.elim
      · exact hx.elim
    · exact hx.elim
  · exact hx.elim
/-! ### several names at once -/
theorem setAll_loc {Z : Ctx} {F : Addr → Prop} {α : List Addr} {H : Hp} : ∀ {is : List Nat} {ws : List W} {vs : List V} {ρ ρ' : Env} {σ : L2.St}, setAll is ws ρ = some ρ' → RepWs Z F α H ws vs → Loc Z F α H ρ σ → Loc Z F α H ρ' ((is.zip vs).foldl (fun s p => s.set p.1 (some p.2)) σ)
  | [], [], vs, ρ, ρ', σ, h, r, l => by cases h; exact l
  | [], _ :: _, _, _, _, _, h, _, _ => by cases h
  | _ :: _, [], _, _, _, _, h, _, _ => by cases h
  | i :: is, w :: ws, _, ρ, ρ', σ, h, ⟨v, us, e, r1, r2⟩, l => by
    subst e
    unfold setAll at h
    split at h
    · exact setAll_loc (σ := σ.set i (some v)) h r2 (l.set i r1)
    · cases h
def localB (sc : Scope) (x : Str) : Bool := match sc.names.lookup x with
  | some .local => true
  | _ => false
theorem local_of {sc : Scope} {x : Str} (h : localB sc x = true) : sc.names.lookup x = some .local := by
  unfold localB at h
  split at h
  · assumption
  · cases h
theorem swap2 {x y : Str} {px py pt pt2 : Pos} {kt k2 : Nat} {a b : Expr} {env : PySem.Env} (hk : env.scope.kind = .function) (hx : env.scope.names.lookup x = some .local) (hy : env.scope.names.lookup y = some .local) (hne : x ≠ y) (hl : (py.line == px.line) = true)
    (hf : [a, b].all (foldedForSure 8) = false) (hc : [a, b].all (constantsAlone 8) = false) (ha : notStar a = true) (hb : notStar b = true) :
    swappedStores [.Tuple [.Name x px, .Name y py] kt pt] (.Tuple [a, b] k2 pt2) env = pure (some [x, y]) := by
  have kx : env.kindOf x = some .local := hx
  have ky : env.kindOf y = some .local := hy
  have hb' : env.blockKind = .function := by unfold Env.blockKind; rw [hk]; rfl
  have hn : (y == x) = false := beq_eq_false_iff_ne.mpr fun z => hne z.symm
  have st : ([a, b].any fun | .Starred .. => true | _ => false) = false := by
    cases a <;> first | (cases ha; done) | (cases b <;> first | (cases hb; done) | rfl)
  have ed : [x, y].eraseDups = [x, y] := by
    rw [List.eraseDups_cons]
    simp [hn, List.eraseDups_cons]
  unfold swappedStores
  have hn2 : ([x, y].eraseDups.length != [x, y].length) = false := by
    have e : [x, y].eraseDups = [x, y] := by
      rw [List.eraseDups_cons]
      simp [hn, List.eraseDups_cons]
    rw [e]; rfl
  simp only [hb', kx, ky, hf, hc, st, List.filterMap_cons, List.filterMap_nil, List.head?_cons, Option.map_some, Option.getD_some, Expr.pos, beq_self_eq_true, hl, Bool.and_self, if_true, Bool.and_true]
  simp [hn2]
  rw [if_neg, if_pos]
  · rw [ed]; rfl
  · intro z
    rcases z with z | z
    · cases a <;> first | (cases z; done) | (cases ha; done)
    · cases b <;> first | (cases z; done) | (cases hb; done)
theorem par2_read {i j : Nat} {fs : DL} {ta : TA} (hta : ta = tDA δ fs) : ∀ D σ H, tDs δ (fun E X ρ μ => fs ρ μ (fun ws μ1 => match setAll [i, j] ws ρ with
    | some ρ1 => E.nx ρ1 μ1
    | none => False) fun e μ' => X e ρ μ') D σ H → tPar i j ta D σ H := by
  subst hta
  rintro D σ H ⟨F, α, ρ, μ, E, x0, s, l, h, ok⟩
  refine ⟨F, α, ρ, μ, _, _, x0, s, l, h, fun ws μ1 hw vs H1 F1 α1 x1 s1 r1 => ?_, fun e μ' he => he⟩
  split at hw
  · rename_i ρ1 q
    have l1 := setAll_loc q r1 (x1.loc l)
    match ws, vs, r1, q, l1 with
    | [w1, w2], vs, r1, q, l1 =>
      obtain ⟨v, u, rfl, _, _⟩ := r1.two
      exact ⟨v, u, rfl, ok.nx _ _ hw _ _ _ _ (x0.trans x1) s1 l1⟩
    | [], vs, r1, q, l1 => cases q
    | [w1], vs, r1, q, l1 =>
      simp only [setAll] at q
      split at q <;> cases q
    | w1 :: w2 :: w3 :: ws, vs, r1, q, l1 =>
      simp only [setAll] at q
      split at q
      · split at q <;> cases q
      · cases q
  · exact hw.elim
theorem snd_par2 {i j : Nat} {x y : Str} {a b : Expr} {px py pt pt2 pos : Pos} {kt k2 : Nat} {fs : DL} (O : XOk Γ δ G N sc k X) (B : BOk X) (hi : N[i]? = some x) (hj : N[j]? = some y) (hx : localB sc x = true) (hy : localB sc y = true) (hne : x ≠ y) (hl : (py.line == px.line) = true)
    (hf : [a, b].all (foldedForSure 8) = false) (hc : [a, b].all (constantsAlone 8) = false) (ha : notStar a = true) (hb : notStar b = true) (h : PA X [a, b] (tDA δ fs)) :
    PS X (.Assign [.Tuple [.Name x px, .Name y py] kt pt] (.Tuple [a, b] k2 pt2) pos) (tDs δ fun E X ρ μ => fs ρ μ (fun ws μ1 => match setAll [i, j] ws ρ with
      | some ρ1 => E.nx ρ1 μ1
      | none => False) fun e μ' => X e ρ μ') := by
  have hij : i ≠ j := fun z => by subst z; rw [hi] at hj; exact hne (Option.some.inj hj)
  have hx' : X.env.scope.names.lookup x = some .local := by rw [O.sc]; exact local_of hx
  have hy' : X.env.scope.names.lookup y = some .local := by rw [O.sc]; exact local_of hy
  exact PS.imp (ps_par O.calm (by rw [O.nN]; exact O.nd) (by rw [O.nN]; exact hi) (by rw [O.nN]; exact hj) hij hx' hy' h (swap2 B.kd hx' hy' hne hl hf hc ha hb)) (par2_read rfl)
/-! ### op= -/
def rAug (op : Operator) : R2 := fun x y H Q => match op with
  | .Add => rI0 (fun i j => .int (i + j)) x y H Q ∨ (∃ i j, x = .str i ∧ y = .str j ∧ i.length + j.length ≤ sizeLine ∧ Q (.str (i ++ j)) H)
  | .Sub => rI0 (fun i j => .int (i - j)) x y H Q
  | .Mult => rI IntMulOk (fun i j => .int (i * j)) x y H Q
  | .FloorDiv => rI CDivW (fun i j => .int (i / j)) x y H Q
  | .Mod => rI (fun _ j => 0 < j) (fun i j => .int (i % j)) x y H Q
  | .LShift => rI CPow (fun i j => .int (i * 2 ^ j.toNat)) x y H Q
  | .RShift => rI (fun _ j => 0 ≤ j) (fun i j => .int (i / 2 ^ j.toNat)) x y H Q
  | .BitAnd => rI0 (fun i j => .int (Builtin.bitAnd i j)) x y H Q
  | _ => False
theorem iop_mulM : OpR X (inplaceOp .Mult) (rI IntMulOk fun i j => .int (i * j)) := opI fun _ _ _ _ _ _ _ hc q => imul_int q hc
theorem op_aug (op : Operator) : OpR X (inplaceOp op) (rAug op) := by
  cases op with
  | Add => exact OpR.or iop_add iop_add_str
  | Sub => exact iop_sub
  | Mult => exact iop_mulM
  | FloorDiv => exact iop_fdivW
  | Mod => exact iop_mod
  | LShift => exact iop_shl
  | RShift => exact iop_shr
  | BitAnd => exact iop_and
  | Pow => exact op_no
  | MatMult => exact op_no
  | Div => exact op_no
  | BitOr => exact op_no
  | BitXor => exact op_no
theorem aug_sound {Z : Ctx} {F : Addr → Prop} {α : List Addr} {H : Hp} {μ : Sto} {op : Operator} {x y : W} {u v : V} {Qd : EQ} {Q : VK} (s : StoOk Z F α H μ) (ru : RepW Z F α H x u) (rv : RepW Z F α H y v) (h : augD op x y μ Qd) (p : ∀ w, Qd w μ → ∀ z, RepW Z F α H w z → Q z H) : rAug op u v H Q := by
  have inz : ∀ {i j : Int}, x = .p (.int i) → y = .p (.int j) → u = .int i ∧ v = .int j := fun e1 e2 => by
    subst e1 e2; exact ⟨ru, rv⟩
  unfold augD at h
  split at h
  · obtain ⟨rfl, rfl⟩ := inz rfl rfl; exact .inl ⟨_, _, rfl, rfl, p _ h _ rfl⟩
  · obtain ⟨rfl, rfl⟩ := inz rfl rfl; exact ⟨_, _, rfl, rfl, p _ h _ rfl⟩
  · obtain ⟨rfl, rfl⟩ := inz rfl rfl; exact ⟨_, _, rfl, rfl, h.p, p _ h.q _ rfl⟩
  · obtain ⟨rfl, rfl⟩ := inz rfl rfl; exact ⟨_, _, rfl, rfl, h.p, p _ h.q _ rfl⟩
  · obtain ⟨rfl, rfl⟩ := inz rfl rfl; exact ⟨_, _, rfl, rfl, h.p, p _ h.q _ rfl⟩
  · obtain ⟨rfl, rfl⟩ := inz rfl rfl; exact ⟨_, _, rfl, rfl, h.p, p _ h.q _ rfl⟩
  · obtain ⟨rfl, rfl⟩ := inz rfl rfl; exact ⟨_, _, rfl, rfl, h.p, p _ h.q _ rfl⟩
  · obtain ⟨rfl, rfl⟩ := inz rfl rfl; exact ⟨_, _, rfl, rfl, p _ h _ rfl⟩
  · cases (show u = _ from ru); cases (show v = _ from rv)
    exact .inr ⟨_, _, rfl, rfl, h.p, p _ h.q _ rfl⟩
  · exact h.elim
theorem snd_aug {i : Nat} {x : Str} {e : Expr} {op : Operator} {p pos : Pos} {f : DE} (O : XOk Γ δ G N sc k X) (B : BOk X) (h1 : N[i]? = some x) (h2 : locB sc x = true) (he : PE X e (tD δ f)) :
    PS X (.AugAssign (.Name x p) op e pos) (tDs δ fun E X ρ μ => match ρ[i]? with
      | some (some w) => f ρ μ (fun v μ1 => augD op w v μ1 fun u μ2 => E.nx (ρ.set i (some u)) μ2) fun e μ' => X e ρ μ'
      | _ => False) := by
  refine PS.imp (ps_aug (i := i) (by rw [O.nN]; exact O.nd) (by rw [O.nN]; exact h1) (by rw [O.sc]; exact loc_of h2) he (op_aug op) (.inl (B.fn x))) ?_
  rintro D σ H ⟨F, α, ρ, μ, E, x0, s, l, h, ok⟩
  split at h
  · rename_i w e
    obtain ⟨v, e1, r⟩ := l.2 i w e
    refine ⟨v, e1, F, α, ρ, μ, _, _, x0, s, l, h, fun w2 μ1 hw v2 H1 F1 α1 x1 s1 r1 => ?_, fun e μ' he => he⟩
    exact aug_sound s1 (x1.repW r) r1 hw fun u hu z rz => ok.nx _ _ hu _ _ _ _ (x0.trans x1) s1 ((x1.loc l).set i rz)
  · exact h.elim
theorem snd_ifs {c : Expr} {a b : List Stmt} {pos : Pos} {ft : DT} {fa fb : DEnds → XS → Env → Sto → Prop} (hc : PT X c (tDT δ ft)) (ha : PSs X a (tDs δ fa)) (hb : PSs X b (tDs δ fb)) :
    PS X (.If c a b pos) (tDs δ fun E X ρ μ => ft ρ μ (fun k μ1 => Br k (fa E X ρ μ1) (fb E X ρ μ1)) fun e μ' => X e ρ μ') := by
  refine PS.imp (ps_if hc ha hb) ?_
  rintro D σ H ⟨F, α, ρ, μ, E, x0, s, l, h, ok⟩
  refine ⟨F, α, ρ, μ, _, _, x0, s, l, h, fun b μ1 hw H1 F1 α1 x1 s1 => ite_br hw (fun hA => ?_) fun hB => ?_, fun e μ' he => he⟩
  · exact ⟨F1, α1, ρ, μ1, E, x0.trans x1, s1, x1.loc l, hA, ok⟩
  · exact ⟨F1, α1, ρ, μ1, E, x0.trans x1, s1, x1.loc l, hB, ok⟩
theorem snd_pas {pos : Pos} : PS X (.Pass pos) (tDs δ fun E _ ρ μ => E.nx ρ μ) := PS.imp ps_pass fun D σ H ⟨F, α, ρ, μ, E, x0, s, l, h, ok⟩ => ok.nx _ _ h _ _ _ _ x0 s l
theorem snd_brk {pos : Pos} : PS X (.Break pos) (tDs δ fun E _ ρ μ => E.bk ρ μ) := PS.imp ps_break fun D σ H ⟨F, α, ρ, μ, E, x0, s, l, h, ok⟩ => ok.bk _ _ h _ _ _ _ x0 s l
theorem snd_cont {pos : Pos} : PS X (.Continue pos) (tDs δ fun E _ ρ μ => E.ct ρ μ) := PS.imp ps_continue fun D σ H ⟨F, α, ρ, μ, E, x0, s, l, h, ok⟩ => ok.ct _ _ h _ _ _ _ x0 s l
theorem snd_never {st : Stmt} : PS X st (tDs δ fun _ _ _ _ => False) := PS.imp ps_never fun D σ H ⟨F, α, ρ, μ, E, x0, s, l, h, ok⟩ => h
/-- a block -/
theorem snd_ss {f : CS → DEnds → XS → Env → Sto → Prop} {ck : CS → Stmt → Bool} (hf : ∀ c st, ck c st = true → PS X st (tDs δ (f c))) : ∀ {cs : List CS} {ss : List Stmt}, allB ck cs ss = true → PSs X ss (tDs δ (wpSs f cs))
  | [], [], _ => PSs.imp pss_nil fun D σ H ⟨F, α, ρ, μ, E, x0, s, l, h, ok⟩ => ok.nx _ _ h _ _ _ _ x0 s l
  | [], _ :: _, h => by cases h
  | _ :: _, [], h => by cases h
  | [c], [st], h => by
    simp only [allB, Bool.and_eq_true] at h
    exact pss_one (hf c st h.1)
  | [c], _ :: _ :: _, h => by simp [allB] at h
  | c :: d :: cs, [st], h => by simp [allB] at h
  | c :: d :: cs, st :: tt :: ss, h => by
    have h' : ck c st = true ∧ allB ck (d :: cs) (tt :: ss) = true := by simpa only [allB, Bool.and_eq_true] using h
    refine PSs.imp (pss_cons (hf c st h'.1) (snd_ss hf (cs := d :: cs) (ss := tt :: ss) h'.2)) ?_
    rintro D σ H ⟨F, α, ρ, μ, E, x0, s, l, h, ok⟩
    refine ⟨F, α, ρ, μ, _, x0, s, l, h, ⟨fun ρ1 μ1 h1 σ1 H1 F1 α1 x1 s1 l1 => ?_, ok.rt, ok.bk, ok.ct⟩⟩
    exact ⟨F1, α1, ρ1, μ1, E, x1, s1, l1, h1, ok⟩
end
end DL
set_option Elab.async false
set_option linter.all false
set_option maxRecDepth 100000
set_option maxHeartbeats 4000000
/-! DL: loops; every statement -/
namespace DL
open PySem PySem.Spec L2 PyProof.Rows
/-- what is walked: from a state on (F1 α1 H1), J yields the items ds while the store is as live tells -/
def Yields (Z : Ctx) (J : It) (ds : List D) (live : Sto → Prop) (F1 : Addr → Prop) (α1 : List Addr) (H1 : Hp) : Prop :=
  ∀ (i : Nat) (F : Addr → Prop) (α : List Addr) (H : Hp) (μ : Sto), Ext F1 α1 H1 F α H → StoOk Z F α H μ → live μ →
    (∀ d, ds[i]? = some d → J.go i H ∧ ∀ x H', J.yld i H x H' → ∃ F', Ext F α H F' α H' ∧ StoOk Z F' α H' μ ∧ Rep Z F' H' d x) ∧ (i = ds.length → J.stop i H)
abbrev DI := Env → Sto → (List D → (Sto → Prop) → Sto → Prop) → XQ → Prop
def tDI (δ : Dc) (f : DI) : TI := fun σ H R => ∃ F α ρ μ Qd Xd, Ext δ.F0 δ.α0 δ.H0 F α H ∧ StoOk δ.Z F α H μ ∧ Loc δ.Z F α H ρ σ ∧ f ρ μ Qd Xd ∧
  (∀ ds live μ1, Qd ds live μ1 → ∀ F1 α1 H1 J, Ext F α H F1 α1 H1 → StoOk δ.Z F1 α1 H1 μ1 → Yields δ.Z J ds live F1 α1 H1 → live μ1 → R J H1) ∧ (∀ e μ', Xd e μ' → δ.Xc e ρ μ')
theorem PI.imp {X : Cx} {tg e : Expr} {t u : TI} (h : PI X tg e t) (hi : ∀ σ H R, u σ H R → t σ H R) : PI X tg e u := ⟨fun pins s σ H R I q => h.run pins s σ H R I (hi _ _ _ q)⟩
theorem rngD_get : ∀ (n : Nat) (lo : Int) (i : Nat) (d : D), (rngD lo n)[i]? = some d → i < n ∧ d = .int (lo + i)
  | 0, _, i, d, h => by simp [rngD] at h
  | n + 1, lo, 0, d, h => by
    simp [rngD] at h
    exact ⟨Nat.succ_pos _, by rw [← h]; simp⟩
  | n + 1, lo, i + 1, d, h => by
    have h' : (rngD (lo + 1) n)[i]? = some d := by simpa [rngD] using h
    obtain ⟨h1, h2⟩ := rngD_get n (lo + 1) i d h'
    exact ⟨Nat.succ_lt_succ h1, by rw [h2]; congr 1; push_cast; omega⟩
theorem rngD_length : ∀ (n : Nat) (lo : Int), (rngD lo n).length = n
  | 0, _ => rfl
  | n + 1, lo => by simp [rngD, rngD_length n]
theorem yields_range {Z : Ctx} {lo : Int} {n : Nat} {F1 : Addr → Prop} {α1 : List Addr} {H1 : Hp} : Yields Z (Itr lo n) (rngD lo n) (fun _ => True) F1 α1 H1 := fun i F α H μ x s _ =>
  ⟨fun d hd => by
    obtain ⟨h1, h2⟩ := rngD_get n lo i d hd
    refine ⟨h1, fun y H' hy => ?_⟩
    obtain ⟨e1, e2⟩ := hy
    subst e1 e2 h2
    exact ⟨F, Ext.refl _ _ _, s, rfl⟩, fun e => by rw [rngD_length] at e; exact Nat.le_of_eq e.symm⟩
section
variable {Γ : Gam} {G : Sta} {δ : Dc} {N : List Str} {sc : Scope} {k : Nat} {X : Cx}
theorem src_list {Z : Ctx} {ds : List D} {live : Sto → Prop} {F1 : Addr → Prop} {α1 : List Addr} {H1 : Hp} {a : Addr} (h : ∀ F α H μ, Ext F1 α1 H1 F α H → StoOk Z F α H μ → live μ → ∃ vs, SqL Z.K H a vs ∧ Reps Z F H ds vs)
    (inj : ∀ {H : Hp} {xs ys : List V}, SqL Z.K H a xs → SqL Z.K H a ys → True) : Yields Z (Itl Z.K a) ds live F1 α1 H1 := fun i F α H μ x s hl => by
  obtain ⟨vs, hs, r⟩ := h F α H μ x s hl
  refine ⟨fun d hd => ?_, fun e => ⟨vs, hs, by rw [r.length, e]; exact Nat.le_refl _⟩⟩
  obtain ⟨v, hv, rv⟩ := r.get hd
  refine ⟨⟨vs, v, hs, hv⟩, fun y H' hy => ?_⟩
  obtain ⟨e, hy⟩ := hy
  subst e
  have := hy vs hs
  rw [hv] at this
  cases this
  exact ⟨F, Ext.refl _ _ _, s, rv⟩
theorem src_tup {Z : Ctx} {ds : List D} {live : Sto → Prop} {F1 : Addr → Prop} {α1 : List Addr} {H1 : Hp} {a : Addr} (h : ∀ F α H μ, Ext F1 α1 H1 F α H → StoOk Z F α H μ → live μ → ∃ vs, SqT Z.K H a vs ∧ Reps Z F H ds vs) : Yields Z (Itt Z.K a) ds live F1 α1 H1 := fun i F α H μ x s hl => by
  obtain ⟨vs, hs, r⟩ := h F α H μ x s hl
  refine ⟨fun d hd => ?_, fun e => ⟨vs, hs, by rw [r.length, e]; exact Nat.le_refl _⟩⟩
  obtain ⟨v, hv, rv⟩ := r.get hd
  refine ⟨⟨vs, v, hs, hv⟩, fun y H' hy => ?_⟩
  obtain ⟨e, hy⟩ := hy
  subst e
  have := hy vs hs
  rw [hv] at this
  cases this
  exact ⟨F, Ext.refl _ _ _, s, rv⟩
/-- a list or a tuple, walked -/
def iSeq (K : PySem.W.Frag) (tl : TE) : TI := fun σ H R => tl σ H fun x H1 => ∃ a, x = .ref a ∧ (((∃ xs, SqL K H1 a xs) ∧ R (Itl K a) H1) ∨ ((∃ xs, SqT K H1 a xs) ∧ R (Itt K a) H1))
theorem pi_seq {tg l : Expr} {tl : TE} (hl : PE X l tl) : PI X tg l (iSeq X.K tl) := by
  refine ⟨fun pins s σ H R I h => ?_⟩
  refine thn (hl.run pins s σ H _ I h) fun v s1 ⟨x, H1, I1, r1, q1⟩ => ?_
  obtain ⟨a, e, q⟩ := q1
  subst e
  cases r1
  rcases q with ⟨⟨xs, hq⟩, q⟩ | ⟨⟨xs, hq⟩, q⟩
  · obtain ⟨its, rv, p, hz⟩ := I1.list hq
    refine wpAny_pyIter_list p.isList ?_
    refine ⟨s1.heap.objs.size, [s1.heap.objs.size], _, _, H1, rfl, I1.kept (t' := s1.toks) fun b o e => Heap.get?_push_of_some _ e, turn_list a _, ⟨_, Heap.get?_push_size _ rfl, rfl, rfl⟩, fun b hb => ?_, q⟩
    have e : b = s1.heap.objs.size := by simpa using hb
    subst e
    exact I1.fpOk (Nat.le_refl _) (I1.hok.fresh (Nat.le_refl _))
  · obtain ⟨its, rv, p, hz⟩ := I1.tuple hq
    refine wpAny_pyIter_tuple (show s1.heap.IsTuple a its.toArray from p) ?_
    refine ⟨s1.heap.objs.size, [s1.heap.objs.size], _, _, H1, rfl, I1.kept (t' := s1.toks) fun b o e => Heap.get?_push_of_some _ e, turn_tuple a _, ⟨_, Heap.get?_push_size _ rfl, rfl, rfl⟩, fun b hb => ?_, q⟩
    have e : b = s1.heap.objs.size := by simpa using hb
    subst e
    exact I1.fpOk (Nat.le_refl _) (I1.hok.fresh (Nat.le_refl _))
theorem snd_iseq {tg e : Expr} {f : DE} (O : XOk Γ δ G N sc k X) (h : PE X e (tD δ f)) : PI X tg e (tDI δ fun ρ μ Q X => f ρ μ (fun w μ1 => match w with
    | .p (.tup ds) => Q ds (fun _ => True) μ1
    | .p (.lst ds) => Q ds (fun _ => True) μ1
    | .m i => match getM μ1 i with
      | some (.lst ds) => Q ds (fun μ2 => getM μ2 i = some (.lst ds)) μ1
      | _ => False
    | _ => False) X) := by
  refine PI.imp (pi_seq h) ?_
  rintro σ H R ⟨F, α, ρ, μ, Qd, Xd, x0, s, l, h, p, px⟩
  refine ⟨F, α, ρ, μ, _, _, x0, s, l, h, fun w μ1 hw v H1 F1 α1 x1 s1 r1 => ?_, px⟩
  have eK := O.lib.zK
  split at hw
  · rename_i ds
    obtain ⟨a, vs, rfl, t, r⟩ := r1
    refine ⟨a, rfl, .inr ⟨⟨vs, by rw [← eK]; exact t.sq⟩, p _ _ _ hw F1 α1 H1 _ x1 s1 ?_ trivial⟩⟩
    rw [← eK]
    exact src_tup fun F α H μ x s _ => ⟨vs, (t.mono x.sub x.hH).sq, x.reps r⟩
  · rename_i ds
    obtain ⟨a, vs, rfl, t, r⟩ := r1
    refine ⟨a, rfl, .inl ⟨⟨vs, by rw [← eK]; exact t.sq⟩, p _ _ _ hw F1 α1 H1 _ x1 s1 ?_ trivial⟩⟩
    rw [← eK]
    exact src_list (fun F α H μ x s _ => ⟨vs, (t.mono x.sub x.hH).sq, x.reps r⟩) fun _ _ => trivial
  · rename_i i
    split at hw
    · rename_i ds q
      obtain ⟨a, vs, rfl, ha, nf, t, r⟩ := s1.lst q r1
      refine ⟨a, rfl, .inl ⟨⟨vs, SqL.of t⟩, p _ _ _ hw F1 α1 H1 _ x1 s1 ?_ q⟩⟩
      rw [← eK]
      refine src_list (fun F α H μ x s hl => ?_) fun _ _ => trivial
      have r' : RepW δ.Z F α H (.m i) (.ref a) := x.repW ⟨a, ha, rfl⟩
      obtain ⟨b, us, e, _, _, t', r2⟩ := s.lst hl r'
      cases e
      exact ⟨us, SqL.of t', r2⟩
    · exact hw.elim
  · exact hw.elim
theorem rngOf_some {n : Nat} {ws : List W} {i j : Int} (h : rngOf n ws = some (i, j)) : (n = 1 ∧ ws = [.p (.int j)] ∧ i = 0) ∨ (n = 2 ∧ ws = [.p (.int i), .p (.int j)]) := by
  unfold rngOf at h
  split at h
  · cases h; exact .inl ⟨rfl, rfl, rfl⟩
  · cases h; exact .inr ⟨rfl, rfl⟩
  · cases h
theorem snd_irng {tg : Expr} {es : List Expr} {as : List CE} {ck : CE → Expr → Bool} {f : CE → DE} {x : Str} {p pos : Pos} (O : XOk Γ δ G N sc k X) (hf : ∀ a e, ck a e = true → PE X e (tD δ (f a))) (hx : x = ("range" : Str)) (hb : G.blt ("range" : Str) = true) (hg : glB sc ("range" : Str) = true)
    (ha : allB ck as es = true) (hp : es.all plainE = true) (hn : es.length = 1 ∨ es.length = 2) : PI X tg (.Call (.Name x p) es [] pos) (tDI δ fun ρ μ Q X => wpL f as ρ μ (fun ws μ1 => match rngOf as.length ws with
    | some (i, j) => Sd (-(2 ^ 62) ≤ i ∧ i < 2 ^ 62 ∧ -(2 ^ 62) ≤ j ∧ j < 2 ^ 62) (Q (rngD i (j - i).toNat) (fun _ => True) μ1)
    | none => False) X) := by
  subst hx
  obtain ⟨g1, g2, g3⟩ := gl_of O hg
  have hm := O.lib.free _ hb
  have hl := snd_L hf ha hp
  match es, hl, hp, hn with
  | [e], hl, hp, _ =>
    simp only [List.all_cons, Bool.and_eq_true] at hp
    refine PI.imp (pi_range1 g1 hm hl (by rw [star_of hp.1]; rfl)) ?_
    rintro σ H R ⟨F, α, ρ, μ, Qd, Xd, x0, s, l, h, q, px⟩
    refine ⟨F, α, ρ, μ, _, _, x0, s, l, h, fun ws μ1 hw vs H1 F1 α1 x1 s1 r1 => ?_, px⟩
    have ea : as.length = 1 := by rw [allB_length ha]; rfl
    split at hw
    · rename_i i j e
      obtain ⟨⟨b1, b2, b3, b4⟩, hq⟩ := hw
      rw [ea] at e
      rcases rngOf_some e with ⟨_, rfl, rfl⟩ | ⟨z, _⟩
      · obtain ⟨v, rfl, rv⟩ := r1.one
        cases (show v = _ from rv)
        refine ⟨j, rfl, b3, b4, ?_⟩
        rw [Int.sub_zero] at hq
        exact q _ _ _ hq F1 α1 H1 _ x1 s1 yields_range trivial
      · cases z
    · exact hw.elim
  | [e, e'], hl, hp, _ =>
    simp only [List.all_cons, Bool.and_eq_true] at hp
    refine PI.imp (pi_range2 g1 hm hl (by rw [star_of hp.1, star_of hp.2.1]; rfl) (by rw [star_of hp.2.1]; rfl)) ?_
    rintro σ H R ⟨F, α, ρ, μ, Qd, Xd, x0, s, l, h, q, px⟩
    refine ⟨F, α, ρ, μ, _, _, x0, s, l, h, fun ws μ1 hw vs H1 F1 α1 x1 s1 r1 => ?_, px⟩
    have ea : as.length = 2 := by rw [allB_length ha]; rfl
    split at hw
    · rename_i i j e
      obtain ⟨hb, hq⟩ := hw
      rw [ea] at e
      rcases rngOf_some e with ⟨z, _⟩ | ⟨_, rfl⟩
      · cases z
      · obtain ⟨v, u, rfl, rv, ru⟩ := r1.two
        cases (show v = _ from rv); cases (show u = _ from ru)
        exact ⟨i, j, rfl, hb, q _ _ _ hq F1 α1 H1 _ x1 s1 yields_range trivial⟩
    · exact hw.elim
  | [], _, _, hn => simp at hn
  | _ :: _ :: _ :: _, _, _, hn => simp at hn
/-- a for -/
theorem snd_for {tg iter : Expr} {body : List Stmt} {pos : Pos} {itf : DI} {g : W → Env → Sto → (Env → Sto → Prop) → XS → Prop} {fb : DEnds → XS → Env → Sto → Prop} (O : XOk Γ δ G N sc k X) (B : BOk X) (hi : PI X tg iter (tDI δ itf))
    (hg : ∀ δ', XOk Γ δ' G N sc k X → PG X tg (tDG δ' g)) (hb : ∀ δ', XOk Γ δ' G N sc k X → PSs X body (tDs δ' fb)) (hs : ∀ x, foldedSetIterable iter X.env x = pure x) :
    PS X (.For tg iter body [] pos) (tDs δ fun E X ρ μ => itf ρ μ (fun ds live μ1 => loopD μ1.length live (fun d ρ1 μ2 Q => g (.p d) ρ1 μ2 (fun ρ2 μ3 => fb { E with nx := Q, ct := Q, bk := E.nx } X ρ2 μ3) X) E.nx ds ρ μ1) fun e μ' => X e ρ μ') := by
  have hg' : PG X tg (fun v σ H Q => ∃ F1 α1 H1, Ext δ.F0 δ.α0 δ.H0 F1 α1 H1 ∧ tDG (δ.at F1 α1 H1) g v σ H Q) := ⟨fun pins s σ H v u Q I r ⟨F1, α1, H1, x, q⟩ => (hg _ (O.at x)).run pins s σ H v u Q I r q⟩
  have hb' : PSs X body (fun D σ H => ∃ F1 α1 H1, Ext δ.F0 δ.α0 δ.H0 F1 α1 H1 ∧ tDs (δ.at F1 α1 H1) fb D σ H) := ⟨fun pins s σ H D I ⟨F1, α1, H1, x, q⟩ => (hb _ (O.at x)).run pins s σ H D I q⟩
  refine PS.imp (ps_for B.po O.calm hi hg' hb' hs) ?_
  rintro D σ H ⟨F, α, ρ, μ, E, x0, s, l, h, ok⟩
  refine ⟨F, α, ρ, μ, _, _, x0, s, l, h, fun ds live μ1 hq F1 α1 H1 J x1 s1 src hlive => ?_, fun e μ' he => he⟩
  have x01 := x0.trans x1
  refine ⟨fun i m σ' H' => ∃ F α ρ μ, Ext F1 α1 H1 F α H' ∧ StoOk δ.Z F α H' μ ∧ Loc δ.Z F α H' ρ σ' ∧ i ≤ ds.length ∧ m = ds.length - i ∧
    loopD μ1.length live (fun d ρ1 μ2 Q => g (.p d) ρ1 μ2 (fun ρ2 μ3 => fb { E with nx := Q, ct := Q, bk := E.nx } δ.Xc ρ2 μ3) δ.Xc) E.nx (ds.drop i) ρ μ, ⟨ds.length, F1, α1, ρ, μ1, Ext.refl _ _ _, s1, x1.loc l, Nat.zero_le _, rfl, hq⟩, ?_⟩
  rintro i m σ' H' ⟨F', α', ρ', μ', x', s', l', hile, rfl, hl⟩
  by_cases hlt : i < ds.length
  · have ed : ds.drop i = ds[i] :: ds.drop (i + 1) := List.drop_eq_getElem_cons hlt
    rw [ed] at hl
    obtain ⟨hlv, hturn⟩ := hl
    obtain ⟨src1, _⟩ := src i F' α' H' μ' x' s' hlv
    obtain ⟨go, yl⟩ := src1 ds[i] (List.getElem?_eq_getElem hlt)
    refine .inr ⟨go, fun σ2 H2 => ∃ F α ρ μ, Ext F1 α1 H1 F α H2 ∧ StoOk δ.Z F α H2 μ ∧ Loc δ.Z F α H2 ρ σ2 ∧
      loopD μ1.length live (fun d ρ1 μ2 Q => g (.p d) ρ1 μ2 (fun ρ2 μ3 => fb { E with nx := Q, ct := Q, bk := E.nx } δ.Xc ρ2 μ3) δ.Xc) E.nx (ds.drop (i + 1)) ρ μ, fun σ2 H2 ⟨F2, α2, ρ2, μ2, x2, s2, l2, h2⟩ => ⟨ds.length - (i + 1), by omega, F2, α2, ρ2, μ2, x2, s2, l2, hlt, rfl, h2⟩, fun y H2 hy => ?_⟩
    obtain ⟨F2, x2, s2, r2⟩ := yl y H2 hy
    refine ⟨F1, α1, H1, x01, F2, α', ρ', μ', .p ds[i], _, x'.trans x2, s2, x2.loc l', r2, hturn, fun ρ3 μ3 h3 σ3 H3 F3 α3 x3 s3 l3 => ?_⟩
    refine ⟨F1, α1, H1, x01, F3, α3, ρ3, μ3, _, (x'.trans x2).trans x3, s3, l3, h3, ?_⟩
    have hk : α1.length ≤ μ1.length := Nat.le_of_eq s1.len
    have again : ∀ ρ' μ', tidy μ1.length ρ' μ' (fun ρ2 μ2 => loopD μ1.length live (fun d ρ1 μ2 Q => g (.p d) ρ1 μ2 (fun ρ2 μ3 => fb { E with nx := Q, ct := Q, bk := E.nx } δ.Xc ρ2 μ3) δ.Xc) E.nx (ds.drop (i + 1)) ρ2 μ2) → ∀ σ' H' F' α', Ext F1 α1 H1 F' α' H' → StoOk δ.Z F' α' H' μ' → Loc δ.Z F' α' H' ρ' σ' →
        ∃ F α ρ μ, Ext F1 α1 H1 F α H' ∧ StoOk δ.Z F α H' μ ∧ Loc δ.Z F α H' ρ σ' ∧ loopD μ1.length live (fun d ρ1 μ2 Q => g (.p d) ρ1 μ2 (fun ρ2 μ3 => fb { E with nx := Q, ct := Q, bk := E.nx } δ.Xc ρ2 μ3) δ.Xc) E.nx (ds.drop (i + 1)) ρ μ := fun ρ4 μ4 h4 σ4 H4 F4 α4 x4 s4 l4 => by
      obtain ⟨α5, ρ5, μ5, x5, s5, l5, h5⟩ := tidy_sound x4 s4 l4 hk h4
      exact ⟨F4, α5, ρ5, μ5, x5, s5, l5, h5⟩
    exact ⟨again, fun w μ' hw v H' F' α' x' s' r' => ok.rt w μ' hw v H' F' α' (x01.trans x') s' r', fun ρ' μ' h' σ' H' F' α' x' s' l' => ok.nx ρ' μ' h' σ' H' F' α' (x01.trans x') s' l', again⟩
  · have ei : i = ds.length := by omega
    subst ei
    rw [List.drop_length] at hl
    obtain ⟨hlv, hdone⟩ := hl
    exact .inl ⟨(src _ F' α' H' μ' x' s' hlv).2 rfl, ok.nx _ _ hdone _ _ _ _ (x01.trans x') s' l'⟩
/-- a while -/
theorem snd_whl {c : Expr} {body : List Stmt} {pos : Pos} {ft : DT} {fb : DEnds → XS → Env → Sto → Prop} (O : XOk Γ δ G N sc k X) (B : BOk X) (hc : ∀ δ', XOk Γ δ' G N sc k X → PT X c (tDT δ' ft)) (hb : ∀ δ', XOk Γ δ' G N sc k X → PSs X body (tDs δ' fb)) :
    PS X (.While c body [] pos) (tDs δ fun E X ρ μ => Whl μ.length (fun ρ1 μ1 Q => ft ρ1 μ1 Q fun e μ' => X e ρ1 μ') (fun ρ1 μ1 Q => fb { E with nx := Q, ct := Q, bk := E.nx } X ρ1 μ1) E.nx ρ μ) := by
  have hc' : PT X c (fun σ H Q => ∃ F1 α1 H1, Ext δ.F0 δ.α0 δ.H0 F1 α1 H1 ∧ tDT (δ.at F1 α1 H1) ft σ H Q) := ⟨fun pins s σ H Q I ⟨F1, α1, H1, x, q⟩ => (hc _ (O.at x)).run pins s σ H Q I q⟩
  have hb' : PSs X body (fun D σ H => ∃ F1 α1 H1, Ext δ.F0 δ.α0 δ.H0 F1 α1 H1 ∧ tDs (δ.at F1 α1 H1) fb D σ H) := ⟨fun pins s σ H D I ⟨F1, α1, H1, x, q⟩ => (hb _ (O.at x)).run pins s σ H D I q⟩
  refine PS.imp (ps_while B.po hc' hb') ?_
  rintro D σ H ⟨F0, α0, ρ0, μ0, E, x0, s0, l0, ⟨I, ⟨n0, hI⟩, turn⟩, ok⟩
  refine ⟨fun n σ' H' => ∃ F α ρ μ, Ext F0 α0 H F α H' ∧ StoOk δ.Z F α H' μ ∧ Loc δ.Z F α H' ρ σ' ∧ I n ρ μ, ⟨n0, F0, α0, ρ0, μ0, Ext.refl _ _ _, s0, l0, hI⟩, ?_⟩
  rintro n σ' H' ⟨F', α', ρ', μ', x', s', l', h'⟩
  refine ⟨F0, α0, H, x0, F', α', ρ', μ', _, _, x', s', l', turn n ρ' μ' h', fun b μ2 hbr H2 F2 α2 x2 s2 => ite_br hbr (fun hA => ?_) fun hB => ?_, fun e μ' he => he⟩
  · refine ⟨fun σ3 H3 => ∃ m, m < n ∧ ∃ F α ρ μ, Ext F0 α0 H F α H3 ∧ StoOk δ.Z F α H3 μ ∧ Loc δ.Z F α H3 ρ σ3 ∧ I m ρ μ, fun σ3 H3 h => h, ?_⟩
    refine ⟨F0, α0, H, x0, F2, α2, ρ', μ2, _, x'.trans x2, s2, x2.loc l', hA, ?_⟩
    have hk : α0.length ≤ μ0.length := Nat.le_of_eq s0.len
    have again : ∀ ρ' μ', tidy μ0.length ρ' μ' (fun ρ3 μ4 => ∃ m, m < n ∧ I m ρ3 μ4) → ∀ σ' H' F' α', Ext F0 α0 H F' α' H' → StoOk δ.Z F' α' H' μ' → Loc δ.Z F' α' H' ρ' σ' →
        ∃ m, m < n ∧ ∃ F α ρ μ, Ext F0 α0 H F α H' ∧ StoOk δ.Z F α H' μ ∧ Loc δ.Z F α H' ρ σ' ∧ I m ρ μ := fun ρ4 μ4 h4 σ4 H4 F4 α4 x4 s4 l4 => by
      obtain ⟨α5, ρ5, μ5, x5, s5, l5, m, hm, h5⟩ := tidy_sound x4 s4 l4 hk h4
      exact ⟨m, hm, F4, α5, ρ5, μ5, x5, s5, l5, h5⟩
    exact ⟨again, fun w μ' hw v H' F' α' x' s' r' => ok.rt w μ' hw v H' F' α' (x0.trans x') s' r', fun ρ' μ' h' σ' H' F' α' x' s' l' => ok.nx ρ' μ' h' σ' H' F' α' (x0.trans x') s' l', again⟩
  · exact ok.nx _ _ hB _ _ _ _ ((x0.trans x').trans x2) s2 (x2.loc l')
end
end DL
set_option Elab.async false
set_option linter.all false
set_option maxRecDepth 100000
set_option maxHeartbeats 4000000
/-! DL: the check of a def's body, and that it suffices -/
namespace DL
open PySem PySem.Spec L2 PyProof.Rows
def chkG (G : Sta) (N : List Str) (sc : Scope) : Nat → CT → Expr → Bool
  | 0, _, _ => false
  | n + 1, t, e => match t, e with
    | .name i, .Name x _ => decide (N[i]? = some x) && locB sc x
    | .sub o i, .Subscript o' i' _ => chkE G N sc deep o o' && chkE G N sc deep i i' && plainE i'
    | .tup ts, .Tuple es _ _ => allB (chkG G N sc n) ts es && es.all notStar
    | _, _ => false
def chkI (G : Sta) (N : List Str) (sc : Scope) : CI → Expr → Bool
  | .rng as, .Call (.Name f _) xs [] _ => decide (f = ("range" : Str)) && glB sc ("range" : Str) && G.blt ("range" : Str) && allB (chkE G N sc deep) as xs && xs.all plainE && (Nat.beq xs.length 1 || Nat.beq xs.length 2)
  | .seq a, e => chkE G N sc deep a e && plainE e
  | _, _ => false
def swapOkB (sc : Scope) (x y : Str) (px py : Pos) (a b : Expr) : Bool :=
  localB sc x && localB sc y && !(x == y) && (py.line == px.line) && !([a, b].all (foldedForSure 8)) && !([a, b].all (constantsAlone 8)) && notStar a && notStar b
def stepChkS (G : Sta) (N : List Str) (sc : Scope) (ck : List CS → List Stmt → Bool) : CS → Stmt → Bool
  | .asg (.fld o j) e, .Assign [.Attribute o' f _] v _ => decide (f = G.fN j) && chkE G N sc deep o o' && chkE G N sc deep e v && plainE v
  | .asg t e, .Assign [tg] v _ => chkG G N sc 4 t tg && chkE G N sc deep e v && plainE v && noSwapB tg v && notStar tg
  | .par [i, j] as, .Assign [.Tuple [.Name x px, .Name y py] _ _] (.Tuple [a, b] _ _) _ => decide (N[i]? = some x) && decide (N[j]? = some y) && swapOkB sc x y px py a b && allB (chkE G N sc deep) as [a, b] && plainE a && plainE b
  | .aug i op e, .AugAssign (.Name x _) op' v _ => decide (op = op') && decide (N[i]? = some x) && locB sc x && chkE G N sc deep e v
  | .ex e, .Expr v _ => chkE G N sc deep e v && plainE v
  | .ret e, .Return (some v) _ => chkE G N sc deep e v
  | .retN, .Return none _ => true
  | .ifs t a b, .If c a' b' _ => chkE G N sc deep t c && ck a a' && ck b b'
  | .whl t b, .While c b' [] _ => chkE G N sc deep t c && ck b b'
  | .fors t it b, .For tg i b' [] _ => chkG G N sc 4 t tg && chkI G N sc it i && ck b b'
  | .never, _ => true
  | .pas, .Pass _ => true
  | .brk, .Break _ => true
  | .cont, .Continue _ => true
  | _, _ => false
def chkSs (G : Sta) (N : List Str) (sc : Scope) : Nat → List CS → List Stmt → Bool
  | 0, _, _ => false
  | n + 1, cs, ss => allB (stepChkS G N sc (chkSs G N sc n)) cs ss
section
variable {Γ : Gam} {G : Sta} {δ : Dc} {N : List Str} {sc : Scope} {k : Nat} {X : Cx}
theorem snd_G (O : XOk Γ δ G N sc k X) (B : BOk X) : ∀ n t e, chkG G N sc n t e = true → PG X e (tDG δ (wpG Γ n t))
  | 0, _, _, h => by cases h
  | n + 1, t, e, h => by
    unfold chkG at h
    split at h
    · simp only [Bool.and_eq_true, decide_eq_true_eq] at h
      exact snd_gname O B h.1 h.2
    · simp only [Bool.and_eq_true] at h
      exact snd_gsub O (snd_E O h.1.1) (snd_E O h.1.2) h.2
    · simp only [Bool.and_eq_true] at h
      exact snd_gtup O (snd_gs (fun t e ht => snd_G O B n t e ht) h.1 h.2) h.2 (allB_length h.1).symm
    · cases h
theorem snd_I {tg : Expr} (O : XOk Γ δ G N sc k X) {it : CI} {e : Expr} (h : chkI G N sc it e = true) : PI X tg e (tDI δ (itD Γ it)) := by
  unfold chkI at h
  split at h
  · simp only [Bool.and_eq_true, decide_eq_true_eq, Bool.or_eq_true] at h
    obtain ⟨⟨⟨⟨⟨h1, h2⟩, h3⟩, h4⟩, h5⟩, h6⟩ := h
    exact snd_irng O (fun a e h => snd_E O h) h1 h3 h2 h4 h5 (h6.imp Nat.eq_of_beq_eq_true Nat.eq_of_beq_eq_true)
  · simp only [Bool.and_eq_true] at h
    exact snd_iseq O (snd_E O h.1)
  · cases h
theorem folded_plain {e : Expr} {env : PySem.Env} (h : plainE e = true) : ∀ x, foldedSetIterable e env x = pure x := by
  intro x
  cases e <;> first | rfl | cases h
theorem folded_no {it : CI} {e : Expr} (h : chkI G N sc it e = true) : ∀ x, foldedSetIterable e X.env x = pure x := by
  unfold chkI at h
  split at h
  · intro x; rfl
  · simp only [Bool.and_eq_true] at h
    exact folded_plain h.2
  · cases h
theorem stepS_sound {f : List CS → DEnds → XS → Env → Sto → Prop} {ck : List CS → List Stmt → Bool} (B : BOk X) (hf : ∀ δ', XOk Γ δ' G N sc k X → ∀ cs ss, ck cs ss = true → PSs X ss (tDs δ' (f cs))) (O : XOk Γ δ G N sc k X) (c : CS) (st : Stmt)
    (h : stepChkS G N sc ck c st = true) : PS X st (tDs δ (stepS Γ f c)) := by
  unfold stepChkS at h
  split at h
  · simp only [Bool.and_eq_true, decide_eq_true_eq] at h
    obtain ⟨⟨⟨h1, h2⟩, h3⟩, h4⟩ := h
    exact snd_asgF O (snd_E O h2) (snd_E O h3) h1 h4
  · simp only [Bool.and_eq_true] at h
    obtain ⟨⟨⟨⟨h1, h2⟩, h3⟩, h4⟩, h5⟩ := h
    exact snd_asg (snd_E O h2) (snd_G O B 4 _ _ h1) h3 h4 h5
  · simp only [Bool.and_eq_true, decide_eq_true_eq, swapOkB, Bool.not_eq_true'] at h
    obtain ⟨⟨⟨⟨⟨h1, h2⟩, ⟨⟨⟨⟨⟨⟨s1, s2⟩, s3⟩, s4⟩, s5⟩, s6⟩, s7⟩, s8⟩, h3⟩, h4⟩, h5⟩ := h
    refine snd_par2 O B h1 h2 s1 s2 (fun z => by rw [z] at s3; simp at s3) s4 s5 s6 s7 s8 (snd_L (fun a e h => snd_E O h) h3 ?_)
    simp [h4, h5]
  · simp only [Bool.and_eq_true, decide_eq_true_eq] at h
    obtain ⟨⟨⟨rfl, h1⟩, h2⟩, h3⟩ := h
    exact snd_aug O B h1 h2 (snd_E O h3)
  · simp only [Bool.and_eq_true] at h
    exact snd_ex (snd_E O h.1) h.2
  · exact snd_ret (snd_E O h)
  · exact snd_retN
  · simp only [Bool.and_eq_true] at h
    exact snd_ifs (snd_T O h.1.1) (hf δ O _ _ h.1.2) (hf δ O _ _ h.2)
  · simp only [Bool.and_eq_true] at h
    exact snd_whl O B (fun δ' O' => snd_T O' h.1) (fun δ' O' => hf δ' O' _ _ h.2)
  · simp only [Bool.and_eq_true] at h
    exact snd_for O B (snd_I O h.1.2) (fun δ' O' => snd_G O' B 4 _ _ h.1.1) (fun δ' O' => hf δ' O' _ _ h.2) (folded_no h.1.2)
  · exact snd_never
  · exact snd_pas
  · exact snd_brk
  · exact snd_cont
  · cases h
theorem snd_Ss (B : BOk X) : ∀ n δ, XOk Γ δ G N sc k X → ∀ cs ss, chkSs G N sc n cs ss = true → PSs X ss (tDs δ (wpSn Γ n cs))
  | 0, _, _, _, _, h => by cases h
  | n + 1, δ, O, cs, ss, h => by
    rw [wpSn_succ]
    exact snd_ss (fun c st hc => stepS_sound B (fun δ' O' cs ss hh => snd_Ss B n δ' O' cs ss hh) O c st hc) h
end
/-! ### a def -/
section
variable {P : Program} {w : World} {K : PySem.W.Frag} {mg : Str → Option Value} {base : Heap} {Γ : Gam} {Z : Ctx} {G : Sta} {k : Nat}
theorem start_loc {F : Addr → Prop} {α : List Addr} {H : Hp} {N : List Str} {n : Nat} : ∀ {ws : List W} {vs : List V}, RepWs Z F α H ws vs → N.length - vs.length = n → Loc Z F α H (ws.map some ++ List.replicate n none) (L2.start N vs) := fun {ws vs} r hn => by
  have hl := r.length
  subst hn
  refine ⟨by unfold L2.start; simp [hl], fun i x e => ?_⟩
  unfold L2.start
  by_cases hi : i < ws.length
  · rw [List.getElem?_append_left (by simpa using hi), List.getElem?_map] at e
    cases q : ws[i]? with
    | none => rw [q] at e; cases e
    | some y =>
      rw [q] at e
      cases e
      obtain ⟨v, e1, r1⟩ := r.get q
      exact ⟨v, by rw [List.getElem?_append_left (by rw [List.length_map, hl]; exact hi), List.getElem?_map, e1]; rfl, r1⟩
  · rw [List.getElem?_append_right (by simpa using hi), List.getElem?_replicate] at e
    split at e <;> cases e
theorem def_ok {f : Nat} {x qual : Str} {params : Arguments} {body : List Stmt} {scope : Scope} {dvs : List V} {kws : List (Str × V)} {fd : FuncData} {N ps : List Str} {cs : List CS} {n : Nat} (F : FunD K x qual params body scope dvs kws (Z.fA f) fd) (S : FnScope N ps scope) (L : Lib P w K mg base Γ Z G k)
    (hc : chkSs G N scope deepS cs body = true) (hn : N.length - ps.length = n) (hD : ∀ ws μ Q X, Γ.fn f ws μ Q X → wpDef Γ n cs ws μ Q X) : FnOk P w K mg base (L2.CX P w) (k + 1) (Z.fA f) fd ps (spV Z ps.length (Γ.fn f)) := by
  refine F.ok S (fun vs H Q E h => ?_) (fun cdv A outer s H vs Q E hr h => ?_)
  · obtain ⟨F0, α, ws, μ, Qd, Xd, hl, s, r, _⟩ := h
    rw [r.length, hl]
  · obtain ⟨F0, α0, ws, μ, Qd, Xd, hl, s0, r, hsp, pq, px⟩ := h
    have hl0 : α0.length = μ.length := s0.len
    have O : XOk Γ ⟨Z, F0, α0, H, fun e _ μ' => Xd e (μ'.take μ.length)⟩ G N scope k (cxOf (L2.CX P w) P w K mg base N qual scope (Z.fA f) cdv A outer s H E) := by
      refine ⟨L, rfl, rfl, S.nd, rfl, hr, ?_⟩
      refine Takes.imp (takes_of rfl rfl rfl rfl) ?_
      rintro cls d σ H' ⟨e, F', α', ρ, μ', x', s', l', rx, hX⟩
      have s2 := s'.keep (k0 := μ.length) (js := []) List.nodup_nil (by simp)
      have x2 := x'.keep_take (k0 := μ.length) (js := []) (Nat.le_of_eq hl0) (by simp)
      simp only [List.map_nil, List.append_nil] at s2 x2
      exact px e _ hX cls d H' F' _ x2 s2 rx
    have B : BOk (cxOf (L2.CX P w) P w K mg base N qual scope (Z.fA f) cdv A outer s H E) := ⟨passes_of rfl, fun _ => rfl, S.kind⟩
    refine ⟨_, snd_Ss B deepS _ O cs body hc, ?_⟩
    refine ⟨F0, α0, _, μ, _, Ext.refl _ _ _, s0, start_loc r (by rw [r.length, hl]; exact hn), hD ws μ Qd Xd hsp, ?_⟩
    refine ⟨fun ρ' μ' h σ' H' F' α' x' s' l' => ?_, fun w' μ' h v H' F' α' x' s' r' => ?_, fun ρ' μ' h => h.elim, fun ρ' μ' h => h.elim⟩
    · have h' : tidyR α0.length (.p .non) μ' Qd := by rw [hl0]; exact h
      obtain ⟨α2, w2, μ2, x2, s2, r2, q2⟩ := tidyR_sound (v := V.non) x' s' (show RepW Z F' α' H' (.p .non) .non from rfl) h'
      exact pq w2 μ2 q2 .non H' F' α2 x2 s2 r2
    · have h' : tidyR α0.length w' μ' Qd := by rw [hl0]; exact h
      obtain ⟨α2, w2, μ2, x2, s2, r2, q2⟩ := tidyR_sound x' s' r' h'
      exact pq w2 μ2 q2 v H' F' α2 x2 s2 r2
end
end DL
set_option Elab.async false
set_option linter.all false
set_option maxRecDepth 100000
set_option maxHeartbeats 4000000
/-! DL: how calls bind, the head's facts, the end -/
namespace DL
open PySem PySem.Spec L2 PyProof.Rows
/-! ### binding -/
def scalarD (d : D) : Prop := d = .non ∨ (∃ b, d = .bl b) ∨ (∃ b, d = .int b) ∨ ∃ b, d = .str b
def SrcV (us ws : List Value) (z : Value) : Src → Prop
  | .pos j => us[j]? = some z
  | .kw j => ws[j]? = some z
  | .dfl d => scalarD d ∧ RelV (dV d) z
def PlanV (us ws : List Value) : List Src → List Value → Prop
  | [], [] => True
  | c :: pl, z :: zs => SrcV us ws z c ∧ PlanV us ws pl zs
  | _, _ => False
theorem PlanV.length {us ws : List Value} : ∀ {pl : List Src} {zs : List Value}, PlanV us ws pl zs → zs.length = pl.length
  | [], [], _ => rfl
  | [], _ :: _, h => h.elim
  | _ :: _, [], h => h.elim
  | c :: pl, z :: zs, h => congrArg Nat.succ (PlanV.length h.2)
theorem PlanV.at_ {us ws : List Value} : ∀ {pl : List Src} {zs : List Value}, PlanV us ws pl zs → ∀ (i : Nat) (z : Value), zs[i]? = some z →
    (∃ j, pl[i]? = some (.pos j) ∧ us[j]? = some z) ∨ (∃ j, pl[i]? = some (.kw j) ∧ ws[j]? = some z) ∨ (∃ d, pl[i]? = some (.dfl d) ∧ (d = .non ∨ (∃ b, d = .bl b) ∨ (∃ b, d = .int b) ∨ ∃ b, d = .str b) ∧ RelV (dV d) z)
  | [], [], _, i, z, e => by simp at e
  | [], _ :: _, h, _, _, _ => h.elim
  | _ :: _, [], h, _, _, _ => h.elim
  | c :: pl, y :: zs, h, 0, z, e => by
    have e' : y = z := by simpa using e
    subst e'
    cases c with
    | pos j => exact .inl ⟨j, rfl, h.1⟩
    | kw j => exact .inr (.inl ⟨j, rfl, h.1⟩)
    | dfl d => exact .inr (.inr ⟨d, rfl, h.1.1, h.1.2⟩)
  | c :: pl, y :: zs, h, i + 1, z, e => by
    have e' : zs[i]? = some z := by simpa using e
    simpa using PlanV.at_ h.2 i z e'
section
variable {K : PySem.W.Frag} {x qual : Str} {params : Arguments} {body : List Stmt} {scope : Scope} {dvs : List V} {kws : List (Str × V)} {f : Addr} {fd : FuncData} {ps ks : List Str} {n : Nat} {pl : List Src}
/-- a def without defaults -/
theorem bind_none (F : FunD K x qual params body scope [] kws f fd) (hpl : pl.length = ps.length)
    (h : ∀ (kV doc pm : Value) (an : Option Addr) (cdv ct : Value) (us ws : List Value), us.length = n → ws.length = ks.length → ∃ zs, bindArgs (PySem.W.fnOf x qual params body scope .none kV doc pm an cdv ct) ⟨us, ks.zip ws⟩ = pure (ps.zip zs) ∧ PlanV us ws pl zs) : BindOk K fd ps n ks pl := by
  obtain ⟨oc, od, dV, kV, doc, pm, an, cdv, ct, osl, rfl, lk, hcd, hD, hK⟩ := F.ex
  rcases hD with ⟨_, rfl⟩ | ⟨e, _⟩
  · refine ⟨hpl, fun us ws h1 h2 => ?_⟩
    obtain ⟨zs, e, p⟩ := h kV doc pm an cdv ct us ws h1 h2
    exact ⟨zs, fun s _ => .of_eq e, p.length, p.at_⟩
  · exact absurd rfl e
/-- a def with defaults -/
theorem bind_dfl (F : FunD K x qual params body scope dvs kws f fd) (hd : dvs ≠ []) (hpl : pl.length = ps.length)
    (h : ∀ (T : Addr) (kV doc pm : Value) (an : Option Addr) (cdv ct : Value) (us its ws : List Value), us.length = n → ws.length = ks.length → Vals dvs its → ∃ k zs, bindArgs (PySem.W.fnOf x qual params body scope (.ref T) kV doc pm an cdv ct) ⟨us, ks.zip ws⟩ = seqItems? (.ref T) >>= k ∧ k (some its.toArray) = pure (ps.zip zs) ∧ PlanV us ws pl zs) : BindOk K fd ps n ks pl := by
  obtain ⟨oc, od, dV, kV, doc, pm, an, cdv, ct, osl, rfl, lk, hcd, hD, hK⟩ := F.ex
  rcases hD with ⟨e, _⟩ | ⟨_, T, o, its, m, rfl, lT, oT, rT⟩
  · exact absurd e hd
  · refine ⟨hpl, fun us ws h1 h2 => ?_⟩
    obtain ⟨k, zs, e1, e2, p⟩ := h T kV doc pm an cdv ct us its ws h1 h2 rT
    refine ⟨zs, fun s X => BindsTo.of_looks fun M => ?_, p.length, p.at_⟩
    rw [e1]
    exact looks_items X lT oT (.of_pure e2)
end
/-! ### the head's facts -/
abbrev AlZ : Type := He.AlD × Bool
def obsZ (fa : List He.Fa) (fn : List He.DefD) (ex : PySem.W.Frag → Bool) (K : PySem.W.Frag) : AlZ := (He.obsD fa fn K, ex K)
structure SaysZ (fa : List He.Fa) (fn : List He.DefD) (ex : PySem.W.Frag → Bool) (K : PySem.W.Frag) : Prop where
  d : He.SaysD fa fn K
  x : ex K = true
def obsZG (n : Nat) (fa : List He.Fa) (fn : List He.DefD) (ex : PySem.W.Frag → Bool) (g : Addr → Option Obj) : AlZ := obsZ fa fn ex (He.frG g (He.asD g n))
def hookZ (n : Nat) (fa : List He.Fa) (fn : List He.DefD) (ex : PySem.W.Frag → Bool) : PySem.W.Hook where
  α := AlZ
  obs := fun s => obsZG n fa fn ex s.heap.get?
  val := fun _ => (He.valD fn, true)
  says := fun _ h => ∃ K : PySem.W.Frag, K.In h ∧ SaysZ fa fn ex K
  of := fun _ _ e => ⟨_, He.frG_in, ⟨congrArg Prod.fst e, congrArg Prod.snd e⟩⟩
  keeps := fun _ _ _ ⟨K, hK, c⟩ k => ⟨K, PySem.W.Frag.In.keeps hK k, c⟩
theorem obsZG_eq {n : Nat} {fa : List He.Fa} {fn : List He.DefD} {ex : PySem.W.Frag → Bool} {g : Addr → Option Obj} {s : Shared} (h : ∀ a, g a = s.heap.get? a) : obsZG n fa fn ex g = (hookZ n fa fn ex).obs s := by
  have e : g = s.heap.get? := funext h
  rw [e] <;> rfl
/-- classes: the names by which they stand, what isinstance tells of them -/
def trK (K : PySem.W.Frag) (cnm : Nat → Str) : TR → Value
  | .b n => .type n
  | .c k => .ref (He.ga K (cnm k))
def clsB (cnm : Nat → Str) (cs : List Nat) (K : PySem.W.Frag) : Bool :=
  decide (PySem.W.specialIn K (.builtin "object.__class__") "__get__" = some (some (.builtin "getset_descriptor.__get__"))) && decide (PySem.W.takesIn K (.builtin "object.__class__") = some true) &&
    cs.all fun c => decide (PySem.W.findIn K (.ref (He.ga K (cnm c))) "__class__" = some (some (.builtin "object.__class__"))) && decide (PySem.W.mroIn K (He.ga K (cnm c)) (.type "object") = some true)
def basicTys : List String := ["NoneType", "bool", "int", "str", "tuple", "list", "dict"]
def kitsB (cnm : Nat → Str) (sub : Nat → TR → Bool) (cs : List Nat) (ts : List TR) (K : PySem.W.Frag) : Bool :=
  (cs.all fun c => ts.all fun t => decide (PySem.W.kitOne K (.ref (He.ga K (cnm c))) (trK K cnm t) = some (sub c t))) &&
    basicTys.all fun n => ts.all fun t => decide (PySem.W.kitOne K (.type n) (trK K cnm t) = some (isiN n t))
/-! ### the end -/
theorem law_sp {Z : Ctx} {sp : DSp} {H : Hp} {a : Addr} {ns : List Int} (hS : SqL Z.K H a (ns.map V.int)) (h : sp [.p (.lst (ns.map D.int))] [] (fun w _ => w = .p (.bl true)) (fun _ _ => False)) :
    spV Z 1 sp [.ref a] H (fun v _ => v = .bl true) fun _ _ _ => False := by
  have go : ∀ F : Addr → Prop, (∀ b, F b → ∃ o, H b = some o) → LstAt Z.K F H a (ns.map V.int) → spV Z 1 sp [.ref a] H (fun v _ => v = .bl true) fun _ _ _ => False := fun F hF hL => by
    refine ⟨F, [], [.p (.lst (ns.map D.int))], [], _, _, rfl, ⟨rfl, List.nodup_nil, hF, by simp, fun i m e => by simp at e⟩, ⟨_, _, rfl, ⟨a, _, rfl, hL, Reps.of_ints⟩, rfl⟩, h, fun w μ' hw v H' F' α' x s r => ?_, fun _ _ h => h.elim⟩
    subst hw
    exact r
  rcases hS with (h1 | ⟨o, h1⟩) | h1
  · exact go (fun b => b = a) (fun b e => e ▸ ⟨_, h1⟩) (.inl ⟨rfl, .inl h1⟩)
  · exact go (fun b => b = a) (fun b e => e ▸ ⟨_, h1⟩) (.inl ⟨rfl, .inr ⟨o, h1⟩⟩)
  · exact go (fun _ => False) (fun _ h => h.elim) (.inr h1)
/-- a law's promise: a script of at most 63 ints, True -/
def spLawD : DSp := fun ws μ Q _ => ∃ ns : List Int, ns.length ≤ 63 ∧ ws = [.p (.lst (ns.map D.int))] ∧ μ = [] ∧ Q (.p (.bl true)) []
theorem no_exc {P : Program} {w : World} {H : Hp} {s : Shared} {e : Value} {s' : Shared} (h : L2.CX P w [] H s (fun _ _ _ => False) e s') : False := by
  obtain ⟨_, _, _, _, _, _, _, _, _, _, _, _, z⟩ := h
  exact z
/-- attributes' names: told apart -/
def fNof (l : List Str) (k : Nat) : Str := match l[k]? with
  | some s => s
  | none => ⟨#[0, k]⟩
def fNok (l : List Str) : Bool := (l.all fun s => !(s.cps.toList.head? == some 0)) && decide l.Nodup
theorem fNof_inj {l : List Str} (h : fNok l = true) : ∀ a b, fNof l a = fNof l b → a = b := by
  unfold fNok at h
  simp only [Bool.and_eq_true, List.all_eq_true, decide_eq_true_eq, Bool.not_eq_true'] at h
  obtain ⟨h1, h2⟩ := h
  intro a b e
  unfold fNof at e
  cases qa : l[a]? with
  | some s =>
    cases qb : l[b]? with
    | some t =>
      rw [qa, qb] at e
      have e' : s = t := e
      subst e'
      have ha := List.getElem?_eq_some_iff.mp qa
      have hb := List.getElem?_eq_some_iff.mp qb
      exact (List.getElem_inj h2).mp (ha.2.trans hb.2.symm)
    | none =>
      rw [qa, qb] at e
      have e' : s = ⟨#[0, b]⟩ := e
      have := h1 s (List.mem_of_getElem? qa)
      rw [e'] at this
      simp at this
  | none =>
    cases qb : l[b]? with
    | some t =>
      rw [qa, qb] at e
      have e' : (⟨#[0, a]⟩ : Str) = t := e
      have := h1 t (List.mem_of_getElem? qb)
      rw [← e'] at this
      simp at this
    | none =>
      rw [qa, qb] at e
      have e' : (⟨#[0, a]⟩ : Str) = ⟨#[0, b]⟩ := e
      simpa using e'
end DL
set_option Elab.async false
set_option linter.all false
set_option maxRecDepth 100000
set_option maxHeartbeats 4000000
/-! DL: a law's tables, what the head shows of them, the Lib of each def -/
namespace DL
open PySem PySem.Spec L2 PyProof.Rows
def lkp {α : Type} (d : α) : List (Nat × α) → Nat → α
  | [], _ => d
  | (k, v) :: r, n => match Nat.beq k n with
    | true => v
    | false => lkp d r n
structure Tab where
  fat : List (Nat × (Str × Option Str))
  cnm : List (Nat × Str)
  fN : List Str
  cs : List Nat
  mks : List Nat
  fns : List Nat
  mths : List (Nat × Nat)
  blt : List Str
  trs : List TR
  shape : List (Nat × (Str × Nat × List Str))
  site : List (Nat × (Str × Nat × List Str))
  con : List (Str × D)
def Tab.fa (T : Tab) : Nat → Str × Option Str := lkp (Str.empty, none) T.fat
def Tab.cn (T : Tab) : Nat → Str := lkp Str.empty T.cnm
def Tab.Z (T : Tab) (Γ : Gam) (K : PySem.W.Frag) : Ctx := ⟨K, fun c => He.ga K (T.cn c), Γ.cF, fNof T.fN, fun f => He.fAd K (T.fa f), fun c => nmem c T.cs⟩
def pmem (c s : Nat) : List (Nat × Nat) → Bool
  | [] => false
  | (a, b) :: r => (Nat.beq a c && Nat.beq b s) || pmem c s r
def conOk (K : PySem.W.Frag) (x : Str) : D → Bool
  | .int i => (He.Fa.int x i).ok K
  | .str z => (He.Fa.str x z).ok K
  | _ => false
def eqScal : D → D → Bool
  | .int i, .int j => decide (i = j)
  | .str i, .str j => decide (i = j)
  | _, _ => false
def Tab.G (T : Tab) (ss : List Nat) (ms : List (Nat × Nat)) (ts : List Nat) : Sta where
  fN := fNof T.fN
  fok := fun _ => true
  shape := lkp (Str.empty, 0, []) T.shape
  sok := fun s => nmem s ss
  mok := fun c s => pmem c s ms
  tok := fun s => nmem s ts
  cok := fun c => nmem c T.cs
  cnm := T.cn
  site := lkp (Str.empty, 0, []) T.site
  trs := T.trs
  con := fun x d => T.con.any fun q => decide (q.1 = x) && eqScal q.2 d
  blt := fun x => T.blt.contains x
/-- what the head has to show -/
def Tab.facts (T : Tab) (Γ : Gam) (K : PySem.W.Frag) : Bool :=
  clsB T.cn T.cs K && kitsB T.cn Γ.sub T.cs T.trs K &&
  (T.cs.all fun c => (He.Fa.cls (T.cn c)).ok K && (Γ.cF c).all fun j => (He.Fa.noat (T.cn c) (fNof T.fN j)).ok K) &&
  (T.mks.all fun c => (He.Fa.mkr (T.cn c)).ok K) &&
  (T.mths.all fun q => match (T.fa q.2).2 with
    | some m => decide ((T.fa q.2).1 = T.cn q.1) && (He.Fa.meth (T.cn q.1) m).ok K
    | none => false) &&
  (T.fns.all fun f => match (T.fa f).2 with
    | none => (He.Fa.glo (T.fa f).1).ok K
    | some _ => false) &&
  (T.trs.all fun t => match t with
    | .b _ => true
    | .c c => (He.Fa.glo (T.cn c)).ok K) &&
  (T.mks.all fun c => (He.Fa.glo (T.cn c)).ok K) &&
  (T.blt.all fun x => (He.Fa.free x).ok K) &&
  (T.con.all fun q => conOk K q.1 q.2)
/-- what the tables have to be -/
def Tab.stat (T : Tab) (Γ : Gam) (inits : List (Nat × Nat)) (ss : List Nat) (ms : List (Nat × Nat)) (ts : List Nat) : Bool :=
  fNok T.fN &&
  (ss.all fun s => nmem (Γ.plan s).1 T.fns && decide ((lkp (Str.empty, 0, []) T.shape s).1 = (T.fa (Γ.plan s).1).1)) &&
  (ms.all fun q => nmem q.1 T.cs && nmem q.1 T.mks && decide ((lkp (Str.empty, 0, []) T.shape q.2).1 = T.cn q.1) && decide (T.fa (Γ.plan q.2).1 = (T.cn q.1, some ("__init__" : Str)))) &&
  (ts.all fun s => T.cs.all fun c => match Γ.meth c s with
    | none => true
    | some (f, _) => pmem c f T.mths && decide ((T.fa f).2 = some (lkp (Str.empty, 0, []) T.site s).1) && (Γ.cF c).all fun j => !(fNof T.fN j == (lkp (Str.empty, 0, []) T.site s).1))
theorem pmem_iff {c s : Nat} : ∀ {l : List (Nat × Nat)}, pmem c s l = true ↔ (c, s) ∈ l
  | [] => by simp [pmem]
  | (a, b) :: r => by
    simp only [pmem, Bool.or_eq_true, Bool.and_eq_true, List.mem_cons, Prod.mk.injEq, pmem_iff (l := r)]
    constructor
    · rintro (⟨h1, h2⟩ | h)
      · exact .inl ⟨(Nat.eq_of_beq_eq_true h1).symm, (Nat.eq_of_beq_eq_true h2).symm⟩
      · exact .inr h
    · rintro (⟨rfl, rfl⟩ | h)
      · exact .inl ⟨Nat.beq_refl _, Nat.beq_refl _⟩
      · exact .inr h
theorem lib_mk {P : Program} {w : World} {K : PySem.W.Frag} {mg : Str → Option Value} {base h : Heap} {Γ : Gam} {T : Tab} {k : Nat} {inits : List (Nat × Nat)} {ss : List Nat} {ms : List (Nat × Nat)} {ts : List Nat} (X : K.In h) (N : h.Ns mainGlobals mg) (hf : T.facts Γ K = true) (hs : T.stat Γ inits ss ms ts = true)
    (h1 : ∀ s ∈ ss, CallOk P w K mg base Γ (T.Z Γ K) k (Γ.plan s).1 ((T.G ss ms ts).shape s).2.1 ((T.G ss ms ts).shape s).2.2 (Γ.plan s).2)
    (h2 : ∀ q ∈ ms, ∃ j, j + 1 ≤ k ∧ CallOk P w K mg base Γ (T.Z Γ K) j (Γ.plan q.2).1 (((T.G ss ms ts).shape q.2).2.1 + 1) ((T.G ss ms ts).shape q.2).2.2 (Γ.plan q.2).2)
    (h3 : ∀ s ∈ ts, ∀ c ∈ T.cs, ∀ f pl, Γ.meth c s = some (f, pl) → CallOk P w K mg base Γ (T.Z Γ K) k f (((T.G ss ms ts).site s).2.1 + 1) ((T.G ss ms ts).site s).2.2 pl) : Lib P w K mg base Γ (T.Z Γ K) (T.G ss ms ts) k := by
  unfold Tab.facts at hf
  unfold Tab.stat at hs
  simp only [Bool.and_eq_true, List.all_eq_true] at hf hs
  obtain ⟨⟨⟨⟨⟨⟨⟨⟨⟨f1, f2⟩, f3⟩, f4⟩, f5⟩, f6⟩, f7⟩, f8⟩, f9⟩, f10⟩ := hf
  obtain ⟨⟨⟨s1, s2⟩, s3⟩, s4⟩ := hs
  unfold clsB at f1
  unfold kitsB at f2
  simp only [Bool.and_eq_true, List.all_eq_true, decide_eq_true_eq] at f1 f2
  have trk : ∀ t, trK K T.cn t = trV (T.Z Γ K) t := fun t => by cases t <;> rfl
  refine ⟨rfl, rfl, rfl, fNof_inj s1, rfl, fun s hs => ?_, fun c s hm => ?_, fun c s f pl hc ht hm => ?_, fun c hc => ?_, fun c j hc hj => ?_, fun c t hc ht => ?_, fun n t hn ht => ?_, fun c hc => ?_, fun x hx => ?_, fun x d hx => ?_⟩
  · have hs' := nmem_iff.mp hs
    obtain ⟨a1, a2⟩ := s2 s hs'
    refine ⟨h1 s hs', ?_⟩
    have a3 := f6 _ (nmem_iff.mp a1)
    have a4 : (lkp (Str.empty, 0, []) T.shape s).1 = (T.fa (Γ.plan s).1).1 := of_decide_eq_true a2
    show mg (lkp (Str.empty, 0, []) T.shape s).1 = some (.ref (He.fAd K (T.fa (Γ.plan s).1)))
    rw [a4]
    cases q : (T.fa (Γ.plan s).1).2 with
    | some m => rw [q] at a3; cases a3
    | none =>
      rw [q] at a3
      have e : He.fAd K (T.fa (Γ.plan s).1) = He.ga K (T.fa (Γ.plan s).1).1 := by unfold He.fAd; rw [q]
      rw [e]
      exact He.glo_ok X N a3
  · have hm' := pmem_iff.mp hm
    obtain ⟨⟨⟨a1, a2⟩, a3⟩, a4⟩ := s3 _ hm'
    have a3' : (lkp (Str.empty, 0, []) T.shape s).1 = T.cn c := of_decide_eq_true a3
    have a4' : T.fa (Γ.plan s).1 = (T.cn c, some ("__init__" : Str)) := of_decide_eq_true a4
    refine ⟨a1, h2 _ hm', ?_, ?_⟩
    · show mg (lkp (Str.empty, 0, []) T.shape s).1 = some (.ref (He.ga K (T.cn c)))
      rw [a3']
      exact He.glo_ok X N (f8 c (nmem_iff.mp a2))
    · have := He.mkr_ok (f4 c (nmem_iff.mp a2))
      show Mk K (He.ga K (T.cn c)) (He.fAd K (T.fa (Γ.plan s).1))
      rw [a4']
      exact this
  · have hc' := nmem_iff.mp hc
    have ht' := nmem_iff.mp ht
    have a := s4 s ht' c hc'
    rw [hm] at a
    simp only [Bool.and_eq_true, List.all_eq_true, decide_eq_true_eq, Bool.not_eq_true'] at a
    obtain ⟨⟨a1, a2⟩, a3⟩ := a
    refine ⟨h3 s ht' c hc' f pl hm, ?_, fun j hj z => ?_⟩
    · have b := f5 _ (pmem_iff.mp a1)
      rw [a2] at b
      simp only [Bool.and_eq_true, decide_eq_true_eq] at b
      have b2 := He.meth_ok b.2
      show Meth K (He.ga K (T.cn c)) (lkp (Str.empty, 0, []) T.site s).1 (He.fAd K (T.fa f))
      have e : T.fa f = (T.cn c, some (lkp (Str.empty, 0, []) T.site s).1) := Prod.ext b.1 a2
      rw [e]
      exact b2
    · have := a3 j hj
      rw [beq_eq_false_iff_ne] at this
      exact this z
  · have hc' := nmem_iff.mp hc
    obtain ⟨a1, a2⟩ := f1.2 c hc'
    exact ⟨He.cls_ok (f3 c hc').1, a1, f1.1.1, f1.1.2, a2⟩
  · exact He.noat_ok ((f3 c (nmem_iff.mp hc)).2 j hj)
  · rw [← trk]; exact f2.1 c (nmem_iff.mp hc) t ht
  · rw [← trk]; exact f2.2 n hn t ht
  · exact He.glo_ok X N (f7 _ hc)
  · exact He.free_ok X N (f9 x (List.contains_iff_mem.mp hx))
  · have hx' : (T.con.any fun q => decide (q.1 = x) && eqScal q.2 d) = true := hx
    obtain ⟨q, hq, e⟩ := List.any_eq_true.mp hx'
    simp only [Bool.and_eq_true, decide_eq_true_eq] at e
    obtain ⟨e1, e2⟩ := e
    have b := f10 q hq
    rw [e1] at b
    cases hd : q.2 with
    | int i =>
      rw [hd] at b e2
      cases d with
      | int j =>
        have ej : i = j := of_decide_eq_true e2
        subst ej
        obtain ⟨t, et⟩ := He.int_ok X N (show (He.Fa.int x i).ok K = true from b)
        exact ⟨_, .int i, et, ⟨t, rfl⟩, fun _ _ => rfl⟩
      | _ => cases e2
    | str i =>
      rw [hd] at b e2
      cases d with
      | str j =>
        have ej : i = j := of_decide_eq_true e2
        subst ej
        obtain ⟨t, et⟩ := He.str_ok X N (show (He.Fa.str x i).ok K = true from b)
        exact ⟨_, .str i, et, ⟨t, rfl⟩, fun _ _ => rfl⟩
      | _ => cases e2
    | _ => rw [hd] at b; cases b
/-- a def, as it stands, at its level -/
def FnP (P : Program) (w : World) (K : PySem.W.Frag) (mg : Str → Option Value) (base : Heap) (Γ : Gam) (Z : Ctx) (k f : Nat) (bs : List (Nat × List Str × List Src)) : Prop :=
  ∃ fd ps, FnOk P w K mg base (L2.CX P w) k (Z.fA f) fd ps (spV Z ps.length (Γ.fn f)) ∧ PySem.W.keepIn K (.ref (Z.fA f)) = true ∧ ∀ b ∈ bs, BindOk K fd ps b.1 b.2.1 b.2.2
theorem FnP.call {P : Program} {w : World} {K : PySem.W.Frag} {mg : Str → Option Value} {base : Heap} {Γ : Gam} {Z : Ctx} {j k f n : Nat} {ks : List Str} {pl : List Src} {bs : List (Nat × List Str × List Src)} (F : FnP P w K mg base Γ Z j f bs) (hk : j ≤ k) (hb : (n, ks, pl) ∈ bs) : CallOk P w K mg base Γ Z k f n ks pl := by
  obtain ⟨fd, ps, F1, F2, F3⟩ := F
  exact ⟨fd, ps, F1.mono hk, F3 _ hb, F2⟩
end DL
set_option Elab.async false
set_option linter.all false
set_option maxRecDepth 100000
set_option maxHeartbeats 2000000
/-! DL: a law's end -/
namespace DL
open PySem PySem.Spec PyProof.Rows L2
/-- what the head's facts give of the law's own def: it keeps the law's promise over each base -/
def Given (P : Program) (w : World) (mg : Str → Option Value) (fa : Addr) (h : Heap) (k : Nat) : Prop :=
  ∃ K fd Γ T, PySem.W.Frag.In K h ∧ (∀ s v, BindsTo s fd ⟨[v], []⟩ [("_law_script", v)]) ∧
    ∀ base, K.In base → base.Ns mainGlobals mg → FnOk P w K mg base (L2.CX P w) k fa fd ["_law_script"] (spV (Tab.Z T Γ K) 1 spLawD)
theorem law_end {l : PySem.W.OpenLaw} {q : Program} {k : Nat} {names : List Str} {xp : (Str → Option Value) → Heap → Prop} {yp : World → Heap → Prop} {d : DefRec} (h1 : l.most = some 63) (h2 : d.params.defaults = []) (h3 : Room k callerA)
    (h4 : ∀ w mg fa h, yp w h → h.Ns mainGlobals mg → mg d.name = some (.ref fa) → Given l.prog w mg fa h k) : PySem.W.WalkO q names xp yp l.row.toRowW d [] fun f vs => PySem.call f vs := by
  refine Att.attach_call h1 h2 fun w s₀ s₁ mg mb fa o pm cd doc a vs ns G Y ho hd hcd hmg hobj hints hlen hg => ?_
  obtain ⟨K, fd, Γ, T, i, b, f⟩ := h4 w mg fa _ Y G.T.g hmg
  exact law_call i G.T.g G.T.b G.T.builtins G.T.nolimit hg hobj hints (Nat.le_trans hlen (by decide)) h3 f b
    (fun H _ hS => law_sp (Z := T.Z Γ K) (sp := spLawD) hS ⟨ns, hlen, rfl, rfl, rfl⟩) fun H e s' z => no_exc z
end DL
set_option Elab.async false
set_option linter.all false
set_option maxRecDepth 100000
set_option maxHeartbeats 0
set_option exponentiation.threshold 5000
namespace Ma
/-! Turns: a part of a turn in lowest terms -/
def pT (t b : Int) : Int := (t % b) / (Int.gcd (t % b) b : Int)
def pB (t b : Int) : Int := b / (Int.gcd (t % b) b : Int)
def nT (t b : Int) : Int := if b < 0 then pT (0 - t) (0 - b) else pT t b
def nB (t b : Int) : Int := if b < 0 then pB (0 - t) (0 - b) else pB t b
theorem gcd_pos {t b : Int} (h : 0 < b) : 0 < (Int.gcd t b : Int) := by
  have : 0 < Int.gcd t b := Int.gcd_pos_of_ne_zero_right t (by omega)
  omega
theorem gcd_le {t b : Int} (h : 0 < b) : (Int.gcd t b : Int) ≤ b := Int.le_of_dvd h (Int.gcd_dvd_right t b)
theorem pT_mul {t b : Int} : pT t b * (Int.gcd (t % b) b : Int) = t % b := Int.ediv_mul_cancel (Int.gcd_dvd_left _ _)
theorem pB_mul {t b : Int} : pB t b * (Int.gcd (t % b) b : Int) = b := Int.ediv_mul_cancel (Int.gcd_dvd_right _ _)
theorem pB_pos {t b : Int} (h : 0 < b) : 0 < pB t b := Int.ediv_pos_of_pos_of_dvd h (Int.le_of_lt (gcd_pos h)) (Int.gcd_dvd_right _ _)
theorem pB_le {t b : Int} (h : 0 < b) : pB t b ≤ b := by
  have h1 := gcd_pos (t := t % b) h
  exact Int.ediv_le_self _ (by omega)
theorem pT_nonneg {t b : Int} (h : 0 < b) : 0 ≤ pT t b := Int.ediv_nonneg (Int.emod_nonneg _ (by omega)) (Int.le_of_lt (gcd_pos h))
theorem pT_lt {t b : Int} (h : 0 < b) : pT t b < pB t b := by
  have h1 := gcd_pos (t := t % b) h
  have h2 := Int.emod_lt_of_pos t h
  rw [← pT_mul (t := t) (b := b)] at h2
  conv at h2 => rhs; rw [← pB_mul (t := t) (b := b)]
  exact Int.lt_of_mul_lt_mul_right h2 (Int.le_of_lt h1)
theorem pgcd {t b : Int} (h : 0 < b) : Int.gcd (pT t b) (pB t b) = 1 := by
  have h1 : 0 < Int.gcd (t % b) b := Int.gcd_pos_of_ne_zero_right _ (by omega)
  exact Int.gcd_ediv_gcd_ediv_gcd h1
/-- t / b and the lowest terms are one -/
theorem pcross {t b : Int} (h : 0 < b) : pT t b * b = (t % b) * pB t b := by
  have e1 := pT_mul (t := t) (b := b)
  have e2 := pB_mul (t := t) (b := b)
  generalize (Int.gcd (t % b) b : Int) = g at e1 e2
  grind
theorem dvd_of {x y z : Int} (hg : Int.gcd x y = 1) (h : y ∣ x * z) : y ∣ z := by
  have h1 : y.natAbs ∣ x.natAbs * z.natAbs := by
    rw [← Int.natAbs_mul]
    exact Int.natAbs_dvd_natAbs.mpr h
  have h2 : Nat.Coprime y.natAbs x.natAbs := by
    have : Nat.gcd x.natAbs y.natAbs = 1 := hg
    exact Nat.Coprime.symm this
  exact Int.natAbs_dvd_natAbs.mp (Nat.Coprime.dvd_of_dvd_mul_left h2 h1)
/-- lowest terms are told by the cross product -/
theorem low_uniq {x y x' y' : Int} (hy : 0 < y) (hy' : 0 < y') (g : Int.gcd x y = 1) (g' : Int.gcd x' y' = 1) (h : x * y' = x' * y) : x = x' ∧ y = y' := by
  have d1 : y ∣ y' := dvd_of g ⟨x', by rw [h, Int.mul_comm]⟩
  have d2 : y' ∣ y := dvd_of g' ⟨x, by rw [← h, Int.mul_comm]⟩
  have e : y = y' := Int.le_antisymm (Int.le_of_dvd hy' d1) (Int.le_of_dvd hy d2)
  subst e
  exact ⟨Int.eq_of_mul_eq_mul_right (by omega) h, rfl⟩
/-- two fractions whole turns apart have the same lowest terms -/
theorem p_eq {t b t' b' : Int} (h : 0 < b) (h' : 0 < b') (d : b * b' ∣ t * b' - t' * b) : pT t b = pT t' b' ∧ pB t b = pB t' b' := by
  have e1 := Int.emod_add_mul_ediv t b
  have e2 := Int.emod_add_mul_ediv t' b'
  have l1 := Int.emod_nonneg t (show b ≠ 0 by omega)
  have l2 := Int.emod_lt_of_pos t h
  have l3 := Int.emod_nonneg t' (show b' ≠ 0 by omega)
  have l4 := Int.emod_lt_of_pos t' h'
  have c1 := pcross (t := t) h
  have c2 := pcross (t := t') h'
  generalize ht : t % b = r at *
  generalize ht' : t' % b' = r' at *
  generalize t / b = q at *
  generalize t' / b' = q' at *
  have key : r * b' = r' * b := by
    have e3 : t * b' - t' * b = b * b' * (q - q') + (r * b' - r' * b) := by
      rw [← e1, ← e2]; grind
    rw [e3] at d
    have d2 : b * b' ∣ r * b' - r' * b := (Int.dvd_add_right (Int.dvd_mul_right _ _)).mp d
    obtain ⟨c, hc⟩ := d2
    have pos : 0 < b * b' := Int.mul_pos h h'
    have u1 : r * b' < b * b' := Int.mul_lt_mul_of_pos_right l2 h'
    have u2 : r' * b < b' * b := Int.mul_lt_mul_of_pos_right l4 h
    have u3 : 0 ≤ r * b' := Int.mul_nonneg l1 (by omega)
    have u4 : 0 ≤ r' * b := Int.mul_nonneg l3 (by omega)
    rw [Int.mul_comm b' b] at u2
    have c0 : c = 0 := by
      generalize b * b' = m at *
      have x1 : m * c < m := by omega
      have x2 : -m < m * c := by omega
      have y1 : c < 1 := by
        apply Int.lt_of_not_ge
        intro z
        have := Int.mul_le_mul_of_nonneg_left z (show 0 ≤ m by omega)
        omega
      have y2 : -1 < c := by
        apply Int.lt_of_not_ge
        intro z
        have := Int.mul_le_mul_of_nonneg_left z (show 0 ≤ m by omega)
        have e : m * -1 = -m := by omega
        omega
      omega
    rw [c0, Int.mul_zero] at hc
    omega
  refine low_uniq (pB_pos h) (pB_pos h') (pgcd h) (pgcd h') ?_
  have n : b * b' ≠ 0 := by
    have := Int.mul_pos h h'
    omega
  refine Int.eq_of_mul_eq_mul_right n ?_
  generalize pT t b = x at *
  generalize pB t b = y at *
  generalize pT t' b' = x' at *
  generalize pB t' b' = y' at *
  -- x b = r y, x' b' = r' y', r b' = r' b
  have s1 : x * y' * (b * b') = (x * b) * (y' * b') := by grind
  have s2 : x' * y * (b * b') = (x' * b') * (y * b) := by grind
  rw [s1, s2, c1, c2]
  have s3 : r * y * (y' * b') = (r * b') * (y * y') := by grind
  have s4 : r' * y' * (y * b) = (r' * b) * (y * y') := by grind
  rw [s3, s4, key]
/-- lowest terms stay as they are -/
theorem p_id {a b : Int} (h0 : 0 ≤ a) (h1 : a < b) (g : Int.gcd a b = 1) : pT a b = a ∧ pB a b = b := by
  have e : a % b = a := Int.emod_eq_of_lt h0 h1
  unfold pT pB
  rw [e, g]
  exact ⟨Int.ediv_one a, Int.ediv_one b⟩
theorem gcd_emod_r {a b : Int} : Int.gcd b (a % b) = Int.gcd b a := by
  apply Nat.dvd_antisymm
  · refine Int.dvd_gcd (Int.gcd_dvd_left _ _) ?_
    have h1 := Int.gcd_dvd_left b (a % b)
    have h2 := Int.gcd_dvd_right b (a % b)
    have e := Int.emod_add_mul_ediv a b
    have h3 := Int.dvd_add h2 (Int.dvd_mul_of_dvd_left h1 (c := a / b))
    rw [e] at h3
    exact h3
  · refine Int.dvd_gcd (Int.gcd_dvd_left _ _) ?_
    have h1 := Int.gcd_dvd_left b a
    have h2 := Int.gcd_dvd_right b a
    have e : a % b = a - b * (a / b) := Int.emod_def a b
    rw [e]
    exact Int.dvd_sub h2 (Int.dvd_mul_of_dvd_left h1)
theorem log2_mono {a b : Nat} (h : a ≤ b) : a.log2 ≤ b.log2 := by
  rcases Nat.eq_zero_or_pos a with e | e
  · rw [e]; simp
  · exact (Nat.le_log2 (by omega)).mpr (Nat.le_trans (Nat.log2_self_le (by omega)) h)
theorem nT_pos {t b : Int} (h : 0 < b) : nT t b = pT t b := if_neg (by omega)
theorem nB_pos {t b : Int} (h : 0 < b) : nB t b = pB t b := if_neg (by omega)
theorem nT_neg {t b : Int} (h : b < 0) : nT t b = pT (0 - t) (0 - b) := if_pos h
theorem nB_neg {t b : Int} (h : b < 0) : nB t b = pB (0 - t) (0 - b) := if_pos h
theorem p_zero {b : Int} (h : 0 < b) : pT 0 b = 0 ∧ pB 0 b = 1 := by
  unfold pT pB
  rw [Int.zero_emod, Int.gcd_zero_left]
  have : ((b.natAbs : Nat) : Int) = b := by omega
  rw [this]
  exact ⟨Int.zero_ediv b, Int.ediv_self (by omega)⟩
theorem pT_one {t : Int} : pT t 1 = 0 ∧ pB t 1 = 1 := by
  unfold pT pB
  rw [Int.emod_one, Int.gcd_one_right]
  exact ⟨rfl, rfl⟩
theorem nT_one {t : Int} : nT t 1 = 0 := (nT_pos (by decide)).trans pT_one.1
theorem nB_one {t : Int} : nB t 1 = 1 := (nB_pos (by decide)).trans pT_one.2
/-- a part of a turn in lowest terms -/
structure Low (a b : Int) : Prop where
  n : 0 ≤ a
  l : a < b
  g : Int.gcd a b = 1
theorem Low.p {a b : Int} (h : Low a b) : 0 < b := by have := h.n; have := h.l; omega
theorem Low.of {t b : Int} (h : 0 < b) : Low (pT t b) (pB t b) := ⟨pT_nonneg h, pT_lt h, pgcd h⟩
theorem Low.ofN {t b : Int} (h : b ≠ 0) : Low (nT t b) (nB t b) := by
  by_cases z : b < 0
  · rw [nT_neg z, nB_neg z]; exact .of (by omega)
  · rw [nT_pos (by omega), nB_pos (by omega)]; exact .of (by omega)
theorem nB_le {t b : Int} (h : b ≠ 0) : nB t b ≤ b.natAbs := by
  by_cases z : b < 0
  · rw [nB_neg z]
    have := pB_le (t := 0 - t) (b := 0 - b) (by omega)
    omega
  · rw [nB_pos (by omega)]
    have := pB_le (t := t) (b := b) (by omega)
    omega
/-- lowest terms of x / y, whole turns aside -/
theorem low_mul {x y : Int} (h : 0 < y) : pT x y * y = x * pB x y - (x / y) * y * pB x y := by
  have c := pcross (t := x) h
  have e := Int.emod_def x y
  rw [e] at c
  generalize x / y = q at *
  generalize pT x y = X at *
  generalize pB x y = Y at *
  grind
theorem back1 {a b c d : Int} (h : Low a b) (g : 0 < d) {X Y : Int} (hX : X = pT (a * d + c * b) (b * d)) (hY : Y = pB (a * d + c * b) (b * d)) :
    pT (X * d - c * Y) (Y * d) = a ∧ pB (X * d - c * Y) (Y * d) = b := by
  have hb := h.p
  have hy : 0 < b * d := Int.mul_pos hb g
  have e := low_mul (x := a * d + c * b) hy
  have pY := pB_pos (t := a * d + c * b) hy
  rw [← hX, ← hY] at e
  rw [← hY] at pY
  have z := p_id h.n h.l h.g
  have w := p_eq (t := X * d - c * Y) (b := Y * d) (t' := a) (b' := b) (Int.mul_pos pY g) hb ⟨-((a * d + c * b) / (b * d)), by
    generalize (a * d + c * b) / (b * d) = q at *
    grind⟩
  rw [z.1, z.2] at w
  exact w
theorem half2 {a b : Int} (h : Low a b) {X Y : Int} (hX : X = pT (a * 2 + 1 * b) (b * 2)) (hY : Y = pB (a * 2 + 1 * b) (b * 2)) :
    pT (X * 2 + 1 * Y) (Y * 2) = a ∧ pB (X * 2 + 1 * Y) (Y * 2) = b := by
  have hb := h.p
  have hy : 0 < b * 2 := Int.mul_pos hb (by decide)
  have e := low_mul (x := a * 2 + 1 * b) hy
  have pY := pB_pos (t := a * 2 + 1 * b) hy
  rw [← hX, ← hY] at e
  rw [← hY] at pY
  have z := p_id h.n h.l h.g
  have w := p_eq (t := X * 2 + 1 * Y) (b := Y * 2) (t' := a) (b' := b) (Int.mul_pos pY (by decide)) hb ⟨1 - ((a * 2 + 1 * b) / (b * 2)), by
    generalize (a * 2 + 1 * b) / (b * 2) = q at *
    grind⟩
  rw [z.1, z.2] at w
  exact w

end Ma
namespace Hd
open PySem PySem.Spec PyProof.Rows L2 DL Ma
def top (i : Nat) : Stmt := PySem.Challenge.pw_rosenames_k01_turns_reckoned.main.body.getD i (.Pass ⟨0, 0, 0, 0⟩)
abbrev s_is_whole : Stmt := top 5
def d_is_whole : He.DefD := ⟨("is_whole", none), "is_whole", "is_whole", defArgs s_is_whole, defBody s_is_whole, defScope s_is_whole, [], []⟩
abbrev s_shared : Stmt := top 6
def d_shared : He.DefD := ⟨("shared", none), "shared", "shared", defArgs s_shared, defBody s_shared, defScope s_shared, [], []⟩
abbrev s_Turn_init : Stmt := inClass (top 7) 0
def d_Turn_init : He.DefD := ⟨("Turn", some "__init__"), "__init__", "Turn.__init__", defArgs s_Turn_init, defBody s_Turn_init, defScope s_Turn_init, [.int 1], []⟩
abbrev s_Turn_plus : Stmt := inClass (top 7) 4
def d_Turn_plus : He.DefD := ⟨("Turn", some "plus"), "plus", "Turn.plus", defArgs s_Turn_plus, defBody s_Turn_plus, defScope s_Turn_plus, [], []⟩
abbrev s_Turn_minus : Stmt := inClass (top 7) 5
def d_Turn_minus : He.DefD := ⟨("Turn", some "minus"), "minus", "Turn.minus", defArgs s_Turn_minus, defBody s_Turn_minus, defScope s_Turn_minus, [], []⟩
abbrev s_Turn_times : Stmt := inClass (top 7) 6
def d_Turn_times : He.DefD := ⟨("Turn", some "times"), "times", "Turn.times", defArgs s_Turn_times, defBody s_Turn_times, defScope s_Turn_times, [], []⟩
abbrev s_Turn_opposite : Stmt := inClass (top 7) 7
def d_Turn_opposite : He.DefD := ⟨("Turn", some "opposite"), "opposite", "Turn.opposite", defArgs s_Turn_opposite, defBody s_Turn_opposite, defScope s_Turn_opposite, [], []⟩
abbrev s_check_turn : Stmt := top 8
def d_check_turn : He.DefD := ⟨("check_turn", none), "check_turn", "check_turn", defArgs s_check_turn, defBody s_check_turn, defScope s_check_turn, [], []⟩
abbrev s_l_cell : Stmt := top 10
def d_l_cell : He.DefD := ⟨("_law_cell", none), "_law_cell", "_law_cell", defArgs s_l_cell, defBody s_l_cell, defScope s_l_cell, [], []⟩
abbrev s_l_pool : Stmt := top 11
def d_l_pool : He.DefD := ⟨("_law_pool", none), "_law_pool", "_law_pool", defArgs s_l_pool, defBody s_l_pool, defScope s_l_pool, [], []⟩
abbrev s_l_take : Stmt := top 12
def d_l_take : He.DefD := ⟨("_law_take", none), "_law_take", "_law_take", defArgs s_l_take, defBody s_l_take, defScope s_l_take, [], []⟩
abbrev s_l_low : Stmt := top 13
def d_l_low : He.DefD := ⟨("_law_low", none), "_law_low", "_law_low", defArgs s_l_low, defBody s_l_low, defScope s_l_low, [], []⟩
abbrev s_l_part : Stmt := top 14
def d_l_part : He.DefD := ⟨("_law_part", none), "_law_part", "_law_part", defArgs s_l_part, defBody s_l_part, defScope s_l_part, [], []⟩
abbrev s_l_on : Stmt := top 15
def d_l_on : He.DefD := ⟨("_law_on", none), "_law_on", "_law_on", defArgs s_l_on, defBody s_l_on, defScope s_l_on, [], []⟩
abbrev s_l_off : Stmt := top 16
def d_l_off : He.DefD := ⟨("_law_off", none), "_law_off", "_law_off", defArgs s_l_off, defBody s_l_off, defScope s_l_off, [], []⟩
abbrev s_l_number : Stmt := top 17
def d_l_number : He.DefD := ⟨("_law_number", none), "_law_number", "_law_number", defArgs s_l_number, defBody s_l_number, defScope s_l_number, [], []⟩
abbrev s_l_whole : Stmt := top 18
def d_l_whole : He.DefD := ⟨("_law_whole", none), "_law_whole", "_law_whole", defArgs s_l_whole, defBody s_l_whole, defScope s_l_whole, [], []⟩
abbrev s_l_is : Stmt := top 19
def d_l_is : He.DefD := ⟨("_law_is", none), "_law_is", "_law_is", defArgs s_l_is, defBody s_l_is, defScope s_l_is, [], []⟩
abbrev s_l_signed : Stmt := top 20
def d_l_signed : He.DefD := ⟨("_law_signed", none), "_law_signed", "_law_signed", defArgs s_l_signed, defBody s_l_signed, defScope s_l_signed, [], []⟩
abbrev s_l_two : Stmt := top 21
def d_l_two : He.DefD := ⟨("_law_two", none), "_law_two", "_law_two", defArgs s_l_two, defBody s_l_two, defScope s_l_two, [], []⟩
abbrev s_l_made_right : Stmt := top 22
def d_l_made_right : He.DefD := ⟨("_law_made_right", none), "_law_made_right", "_law_made_right", defArgs s_l_made_right, defBody s_l_made_right, defScope s_l_made_right, [], []⟩
abbrev s_l_right : Stmt := top 23
def d_l_right : He.DefD := ⟨("_law_right", none), "_law_right", "_law_right", defArgs s_l_right, defBody s_l_right, defScope s_l_right, [], []⟩
abbrev s_law : Stmt := top 24
def d_law : He.DefD := ⟨("law", none), "law", "law", defArgs s_law, defBody s_law, defScope s_law, [], []⟩
/-! ### promises -/
def poolM (a b c : Int) : Option MO := some (.lst [.int a, .int b, .int c])
def sm (k : Nat) (i : Int) : Prop := i.natAbs < 2 ^ k
/-- a part of a turn: top from 0 to below the bottom, the bottom of at most k bits -/
def tn (k : Nat) (a b : Int) : Prop := 0 ≤ a ∧ a < b ∧ sm k b
abbrev tob (a b : Int) : W := .p (.obj 2 [.int a, .int b])
abbrev tup2 (a b : Int) : W := .p (.tup [.int a, .int b])
def c_is_whole : DSp := fun ws μ Q _ => ∃ i, ws = [.p (.int i)] ∧ μ = [] ∧ Q (.p (.bl true)) []
def c_shared : DSp := fun ws μ Q _ => ∃ i j : Int, 0 ≤ i ∧ 0 ≤ j ∧ ws = [.p (.int i), .p (.int j)] ∧ μ = [] ∧ Q (.p (.int (Int.gcd i j))) []
def c_Turn_init : DSp := fun ws μ Q _ => ∃ t b : Int, b ≠ 0 ∧ b.natAbs.log2 < 9000 ∧ ws = [.m 0, .p (.int t), .p (.int b)] ∧ μ = [some (.ins 2 [] [])] ∧ Q (.p .non) [some (.ins 2 [1, 2] [.int (nT t b), .int (nB t b)])]
def c_Turn_plus : DSp := fun ws μ Q _ => ∃ a b c d : Int, tn 4000 a b ∧ tn 4000 c d ∧ ws = [tob a b, tob c d] ∧ μ = [] ∧ Q (tob (pT (a * d + c * b) (b * d)) (pB (a * d + c * b) (b * d))) []
def c_Turn_minus : DSp := fun ws μ Q _ => ∃ a b c d : Int, tn 4000 a b ∧ tn 4000 c d ∧ ws = [tob a b, tob c d] ∧ μ = [] ∧ Q (tob (pT (a * d - c * b) (b * d)) (pB (a * d - c * b) (b * d))) []
def c_Turn_times : DSp := fun ws μ Q _ => ∃ a b m : Int, tn 4000 a b ∧ sm 4000 m ∧ ws = [tob a b, .p (.int m)] ∧ μ = [] ∧ Q (tob (pT (a * m) b) (pB (a * m) b)) []
def c_Turn_opposite : DSp := fun ws μ Q _ => ∃ a b : Int, tn 3000 a b ∧ ws = [tob a b] ∧ μ = [] ∧ Q (tob (pT (a * 2 + 1 * b) (b * 2)) (pB (a * 2 + 1 * b) (b * 2))) []
def c_check_turn : DSp := fun ws μ Q _ => ∃ a b : Int, ws = [tob a b] ∧ μ = [] ∧ Q (.p .non) []
def c_l_cell : DSp := fun ws μ Q _ => ∃ (ns : List Int) (k : Int), 0 ≤ k ∧ k < 1000000 ∧ ws = [.p (.lst (ns.map D.int)), .p (.int k)] ∧ μ = [] ∧ ∀ r, Q (.p (.int r)) []
def c_l_pool : DSp := fun ws μ Q _ => ∃ i, ws = [.p (.int i)] ∧ μ = [] ∧ ∀ a b c, 0 ≤ b → Q (.m 0) [poolM a b c]
def c_l_take : DSp := fun ws μ Q _ => ∃ a b c m, ws = [.m 0, .p (.int m)] ∧ μ = [poolM a b c] ∧ 0 ≤ b ∧ 0 < m ∧ m < 1073741824 ∧
  ∀ a' b' c' r, 0 ≤ b' → 0 ≤ r → r < m → Q (.p (.int r)) [poolM a' b' c']
def c_l_low : DSp := fun ws μ Q _ => ∃ t u : Int, 0 ≤ t ∧ 0 < u ∧ u.natAbs.log2 < 9000 ∧ ws = [.p (.int t), .p (.int u)] ∧ μ = [] ∧ Q (.p (.tup [.int (t / Int.gcd t u), .int (u / Int.gcd t u)])) []
def c_l_part : DSp := fun ws μ Q _ => ∃ t u : Int, 0 < u ∧ u.natAbs.log2 < 9000 ∧ ws = [.p (.int t), .p (.int u)] ∧ μ = [] ∧ Q (tup2 (pT t u) (pB t u)) []
def c_l_on : DSp := fun ws μ Q _ => ∃ a b c d : Int, tn 4000 a b ∧ tn 4000 c d ∧ ws = [tup2 a b, tup2 c d] ∧ μ = [] ∧ Q (tup2 (pT (a * d + c * b) (b * d)) (pB (a * d + c * b) (b * d))) []
def c_l_off : DSp := fun ws μ Q _ => ∃ a b c d : Int, tn 4000 a b ∧ tn 4000 c d ∧ ws = [tup2 a b, tup2 c d] ∧ μ = [] ∧ Q (tup2 (pT (a * d - c * b) (b * d)) (pB (a * d - c * b) (b * d))) []
def c_l_number : DSp := fun ws μ Q _ => ∃ a b c, ws = [.m 0] ∧ μ = [poolM a b c] ∧ 0 ≤ b ∧ ∀ a' b' c' r, 0 ≤ b' → sm 82 r → Q (.p (.int r)) [poolM a' b' c']
def c_l_whole : DSp := fun ws μ Q _ => ∃ i, ws = [.p (.int i)] ∧ μ = [] ∧ Q (.p (.bl true)) []
def c_l_is : DSp := fun ws μ Q _ => ∃ a b : Int, ws = [tob a b, tup2 a b] ∧ μ = [] ∧ Q (.p (.bl true)) []
def c_l_signed : DSp := fun ws μ Q _ => ∃ t u : Int, u ≠ 0 ∧ u.natAbs.log2 < 9000 ∧ ws = [.p (.int t), .p (.int u)] ∧ μ = [] ∧ Q (tup2 (nT t u) (nB t u)) []
def c_l_two : DSp := fun ws μ Q _ => ∃ a b c, ws = [.m 0] ∧ μ = [poolM a b c] ∧ 0 ≤ b ∧ ∀ a' b' c' t u, 0 ≤ b' → sm 100 t → sm 100 u → u ≠ 0 → Q (tup2 t u) [poolM a' b' c']
def c_l_made_right : DSp := fun ws μ Q _ => ∃ t u : Int, sm 100 t ∧ sm 100 u ∧ u ≠ 0 ∧ ws = [.p (.int t), .p (.int u)] ∧ μ = [] ∧ Q (.p (.bl true)) []
def c_l_right : DSp := fun ws μ Q _ => ∃ t u t' u' m : Int, sm 100 t ∧ sm 100 u ∧ u ≠ 0 ∧ sm 100 t' ∧ sm 100 u' ∧ u' ≠ 0 ∧ sm 100 m ∧ ws = [tup2 t u, tup2 t' u', .p (.int m)] ∧ μ = [] ∧ Q (.p (.bl true)) []
/-! ### tables -/
def T : Tab where
  fat := [(0, ("is_whole", none)), (1, ("shared", none)), (2, ("Turn", some "__init__")), (18, ("Turn", some "plus")), (19, ("Turn", some "minus")), (20, ("Turn", some "times")), (21, ("Turn", some "opposite")), (22, ("check_turn", none)), (3, ("_law_cell", none)), (4, ("_law_pool", none)), (5, ("_law_take", none)), (6, ("_law_low", none)), (7, ("_law_part", none)), (8, ("_law_on", none)), (9, ("_law_off", none)), (10, ("_law_number", none)), (11, ("_law_whole", none)), (12, ("_law_is", none)), (13, ("_law_signed", none)), (14, ("_law_two", none)), (15, ("_law_made_right", none)), (16, ("_law_right", none)), (17, ("law", none))]
  cnm := [(2, "Turn")]
  fN := ["thing", "top", "bottom"]
  cs := [2]
  mks := [2]
  fns := [0, 1, 22, 3, 4, 5, 6, 7, 8, 9, 10, 11, 12, 13, 14, 15, 16]
  mths := [(2, 18), (2, 19), (2, 20), (2, 21)]
  blt := ["bool", "int", "isinstance", "len", "abs", "divmod", "range", "max", "min"]
  trs := [.b "bool", .b "int", .c 2]
  shape := [(0, ("_law_pool", 1, [])), (1, ("_law_cell", 2, [])), (2, ("_law_two", 1, [])), (3, ("_law_made_right", 2, [])), (4, ("_law_right", 3, [])), (5, ("_law_number", 1, [])), (6, ("_law_take", 2, [])), (7, ("_law_signed", 2, [])), (8, ("_law_is", 2, [])), (9, ("Turn", 2, [])), (10, ("Turn", 1, ["bottom"])), (11, ("Turn", 1, [])), (12, ("_law_on", 2, [])), (13, ("_law_off", 2, [])), (14, ("_law_part", 2, [])), (15, ("_law_whole", 1, [])), (16, ("is_whole", 1, [])), (17, ("shared", 2, [])), (18, ("_law_low", 2, [])), (19, ("check_turn", 1, []))]
  site := [(0, ("plus", 1, [])), (1, ("minus", 1, [])), (2, ("times", 1, [])), (3, ("opposite", 0, []))]
  con := []
def methT : List (Nat × List (Nat × (Nat × List Src))) := [(0, [(2, (18, [.pos 0, .pos 1]))]), (1, [(2, (19, [.pos 0, .pos 1]))]), (2, [(2, (20, [.pos 0, .pos 1]))]), (3, [(2, (21, [.pos 0]))])]
def lkO {α : Type} : List (Nat × α) → Nat → Option α
  | [], _ => none
  | (k, v) :: r, n => match Nat.beq k n with
    | true => some v
    | false => lkO r n
def subT : List (Nat × TR) := [(2, .c 2)]
def trEq : TR → TR → Bool
  | .b m, .b n => m == n
  | .c m, .c n => Nat.beq m n
  | _, _ => false
def Γ : Gam where
  fn := lkp (fun _ _ _ _ => False) [(0, c_is_whole), (1, c_shared), (2, c_Turn_init), (18, c_Turn_plus), (19, c_Turn_minus), (20, c_Turn_times), (21, c_Turn_opposite), (22, c_check_turn), (3, c_l_cell), (4, c_l_pool), (5, c_l_take), (6, c_l_low), (7, c_l_part), (8, c_l_on), (9, c_l_off), (10, c_l_number), (11, c_l_whole), (12, c_l_is), (13, c_l_signed), (14, c_l_two), (15, c_l_made_right), (16, c_l_right), (17, spLawD)]
  cF := lkp [] [(2, [1, 2])]
  plan := lkp (0, []) [(0, (4, [.pos 0])), (1, (3, [.pos 0, .pos 1])), (2, (14, [.pos 0])), (3, (15, [.pos 0, .pos 1])), (4, (16, [.pos 0, .pos 1, .pos 2])), (5, (10, [.pos 0])), (6, (5, [.pos 0, .pos 1])), (7, (13, [.pos 0, .pos 1])), (8, (12, [.pos 0, .pos 1])), (9, (2, [.pos 0, .pos 1, .pos 2])), (10, (2, [.pos 0, .pos 1, .kw 0])), (11, (2, [.pos 0, .pos 1, .dfl (.int 1)])), (12, (8, [.pos 0, .pos 1])), (13, (9, [.pos 0, .pos 1])), (14, (7, [.pos 0, .pos 1])), (15, (11, [.pos 0])), (16, (0, [.pos 0])), (17, (1, [.pos 0, .pos 1])), (18, (6, [.pos 0, .pos 1])), (19, (22, [.pos 0]))]
  meth := fun c s => lkO (lkp [] methT s) c
  sub := fun c t => subT.any fun q => Nat.beq q.1 c && trEq q.2 t
/-! ### the defs -/
/-- is_whole(thing) -/
def b_is_whole : List CS := [(.ret (.bop .And [(.isi (.var 0) [.b "int"]), (.not (.isi (.var 0) [.b "bool"]))]))]
/-- shared(one, other) -/
def b_shared : List CS := [(.whl (.cmp .Gt (.var 1) (.c (.int 0))) [(.par [0, 1] [(.var 1), (.bin .Mod (.var 0) (.var 1))])]), (.ret (.var 0))]
/-- Turn.__init__(self, top, bottom, both) -/
def b_Turn_init : List CS := [(.ifs (.not (.callF 16 [(.var 1)] [])) [.never] []), (.ifs (.bop .Or [(.not (.callF 16 [(.var 2)] [])), (.cmp .Eq (.var 2) (.c (.int 0)))]) [.never] []), (.ifs (.cmp .Lt (.var 2) (.c (.int 0))) [(.par [1, 2] [(.bin .Sub (.c (.int 0)) (.var 1)), (.bin .Sub (.c (.int 0)) (.var 2))])] []), (.aug 1 .Mod (.var 2)), (.asg (.name 3) (.callF 17 [(.var 1), (.var 2)] [])), (.asg (.fld (.var 0) 1) (.bin .FloorDiv (.var 1) (.var 3))), (.asg (.fld (.var 0) 2) (.bin .FloorDiv (.var 2) (.var 3)))]
/-- Turn.plus(self, other) -/
def b_Turn_plus : List CS := [(.ex (.callF 19 [(.var 1)] [])), (.ret (.callC 2 9 [(.bin .Add (.bin .Mult (.fld (.var 0) 1) (.fld (.var 1) 2)) (.bin .Mult (.fld (.var 1) 1) (.fld (.var 0) 2))), (.bin .Mult (.fld (.var 0) 2) (.fld (.var 1) 2))] []))]
/-- Turn.minus(self, other) -/
def b_Turn_minus : List CS := [(.ex (.callF 19 [(.var 1)] [])), (.ret (.callC 2 9 [(.bin .Sub (.bin .Mult (.fld (.var 0) 1) (.fld (.var 1) 2)) (.bin .Mult (.fld (.var 1) 1) (.fld (.var 0) 2))), (.bin .Mult (.fld (.var 0) 2) (.fld (.var 1) 2))] []))]
/-- Turn.times(self, many) -/
def b_Turn_times : List CS := [(.ifs (.not (.callF 16 [(.var 1)] [])) [.never] []), (.ret (.callC 2 9 [(.bin .Mult (.fld (.var 0) 1) (.var 1)), (.fld (.var 0) 2)] []))]
/-- Turn.opposite(self) -/
def b_Turn_opposite : List CS := [(.ret (.callM (.var 0) 0 [(.callC 2 9 [(.c (.int 1)), (.c (.int 2))] [])] []))]
/-- check_turn(thing) -/
def b_check_turn : List CS := [(.ifs (.not (.isi (.var 0) [.c 2])) [.never] [])]
/-- _law_cell(_law_script, _law_k, _law_state, _law_cell_here) -/
def b_l_cell : List CS := [(.ifs (.cmp .Lt (.var 1) (.blt .len [(.var 0)])) [(.ret (.idx (.var 0) (.var 1)))] []), (.asg (.name 2) (.bin .Mod (.bin .Mult (.c (.int 60013)) (.bin .Add (.bin .Add (.bin .Mult (.var 1) (.var 1)) (.bin .Mult (.c (.int 5)) (.var 1))) (.c (.int 3)))) (.c (.int 2147483549)))), (.fors (.name 3) (.seq (.slc (.var 0) none (some (.c (.int 3))))) [(.asg (.name 2) (.bin .Mod (.bin .Add (.bin .Mult (.var 2) (.c (.int 50021))) (.var 3)) (.c (.int 2147483549))))]), (.ret (.var 2))]
/-- _law_pool(_law_cell_here, _law_digits) -/
def b_l_pool : List CS := [(.asg (.name 1) (.c (.int 0))), (.ifs (.bop .Or [(.cmp .Lt (.var 0) (.c (.int 0))), (.cmp .GtE (.var 0) (.bin .Pow (.c (.int 10)) (.c (.int 18))))]) [(.asg (.name 1) (.blt .abs [(.var 0)]))] []), (.ret (.lst [(.bin .Mod (.var 0) (.c (.int 2147483549))), (.var 1), (.c (.int 0))]))]
/-- _law_take(_law_pool_here, _law_many, _law_state, _law_digit) -/
def b_l_take : List CS := [(.asg (.sub (.var 0) (.c (.int 2))) (.bin .Add (.idx (.var 0) (.c (.int 2))) (.c (.int 1)))), (.asg (.name 2) (.idx (.var 0) (.c (.int 0)))), (.asg (.sub (.var 0) (.c (.int 0))) (.bin .Mod (.bin .Add (.bin .Mult (.var 2) (.bin .Add (.bin .Mod (.var 2) (.c (.int 47017))) (.c (.int 31013)))) (.bin .Mult (.c (.int 90001)) (.idx (.var 0) (.c (.int 2))))) (.c (.int 2147483549)))), (.ifs (.cmp .Gt (.idx (.var 0) (.c (.int 1))) (.c (.int 0))) [(.asg (.tup [(.sub (.var 0) (.c (.int 1))), (.name 3)]) (.blt .divmod [(.idx (.var 0) (.c (.int 1))), (.var 1)])), (.ret (.var 3))] []), (.ret (.bin .Mod (.bin .FloorDiv (.idx (.var 0) (.c (.int 0))) (.c (.int 64))) (.var 1)))]
/-- _law_low(_law_top, _law_under, _law_a, _law_b) -/
def b_l_low : List CS := [(.par [2, 3] [(.blt .abs [(.var 0)]), (.var 1)]), (.whl (.cmp .Gt (.var 3) (.c (.int 0))) [(.par [2, 3] [(.var 3), (.bin .Mod (.var 2) (.var 3))])]), (.ret (.tup [(.bin .FloorDiv (.var 0) (.var 2)), (.bin .FloorDiv (.var 1) (.var 2))]))]
/-- _law_part(_law_top, _law_under) -/
def b_l_part : List CS := [(.ret (.callF 18 [(.bin .Mod (.var 0) (.var 1)), (.var 1)] []))]
/-- _law_on(_law_one, _law_other) -/
def b_l_on : List CS := [(.ret (.callF 14 [(.bin .Add (.bin .Mult (.idx (.var 0) (.c (.int 0))) (.idx (.var 1) (.c (.int 1)))) (.bin .Mult (.idx (.var 1) (.c (.int 0))) (.idx (.var 0) (.c (.int 1))))), (.bin .Mult (.idx (.var 0) (.c (.int 1))) (.idx (.var 1) (.c (.int 1))))] []))]
/-- _law_off(_law_one, _law_other) -/
def b_l_off : List CS := [(.ret (.callF 14 [(.bin .Sub (.bin .Mult (.idx (.var 0) (.c (.int 0))) (.idx (.var 1) (.c (.int 1)))) (.bin .Mult (.idx (.var 1) (.c (.int 0))) (.idx (.var 0) (.c (.int 1))))), (.bin .Mult (.idx (.var 0) (.c (.int 1))) (.idx (.var 1) (.c (.int 1))))] []))]
/-- _law_number(_law_pool_here, _law_way, _law_found, _law_turn) -/
def b_l_number : List CS := [(.asg (.name 1) (.callF 6 [(.var 0), (.c (.int 7))] [])), (.asg (.name 2) (.idx (.lst [(.c (.int 0)), (.c (.int 1)), (.callF 6 [(.var 0), (.c (.int 97))] []), (.callF 6 [(.var 0), (.c (.int 13))] [])]) (.bin .Mod (.var 1) (.c (.int 4))))), (.ifs (.cmp .Gt (.var 1) (.c (.int 3))) [(.asg (.name 2) (.c (.int 0))), (.fors (.name 3) (.rng [(.idx (.lst [(.c (.int 1)), (.c (.int 3)), (.c (.int 4))]) (.bin .Sub (.var 1) (.c (.int 4))))]) [(.asg (.name 2) (.bin .Add (.bin .Mult (.var 2) (.c (.int 1000003))) (.callF 6 [(.var 0), (.c (.int 1000003))] [])))])] []), (.ret (.bin .Mult (.var 2) (.idx (.lst [(.c (.int 1)), (.neg (.c (.int 1)))]) (.callF 6 [(.var 0), (.c (.int 2))] []))))]
/-- _law_whole(_law_thing) -/
def b_l_whole : List CS := [(.ret (.bop .And [(.isi (.var 0) [.b "int"]), (.not (.isi (.var 0) [.b "bool"]))]))]
/-- _law_is(_law_found, _law_due) -/
def b_l_is : List CS := [(.ifs (.bop .Or [(.not (.isi (.var 0) [.c 2])), (.not (.callF 15 [(.fld (.var 0) 1)] [])), (.not (.callF 15 [(.fld (.var 0) 2)] []))]) [(.ret (.c (.bl false)))] []), (.ret (.cmp .Eq (.tup [(.fld (.var 0) 1), (.fld (.var 0) 2)]) (.var 1)))]
/-- _law_signed(_law_top, _law_under) -/
def b_l_signed : List CS := [(.ifs (.cmp .Lt (.var 1) (.c (.int 0))) [(.ret (.callF 14 [(.bin .Sub (.c (.int 0)) (.var 0)), (.bin .Sub (.c (.int 0)) (.var 1))] []))] []), (.ret (.callF 14 [(.var 0), (.var 1)] []))]
/-- _law_two(_law_pool_here, _law_top, _law_under) -/
def b_l_two : List CS := [(.par [1, 2] [(.callF 5 [(.var 0)] []), (.callF 5 [(.var 0)] [])]), (.ifs (.cmp .Eq (.var 2) (.c (.int 0))) [(.asg (.name 2) (.idx (.lst [(.c (.int 1)), (.neg (.c (.int 1))), (.c (.int 12))]) (.callF 6 [(.var 0), (.c (.int 3))] [])))] []), (.ifs (.cmp .Eq (.callF 6 [(.var 0), (.c (.int 6))] []) (.c (.int 0))) [(.asg (.name 1) (.bin .Mult (.var 2) (.bin .Sub (.callF 6 [(.var 0), (.c (.int 60))] []) (.c (.int 30)))))] []), (.ret (.tup [(.var 1), (.var 2)]))]
/-- _law_made_right(_law_top, _law_under, _law_due) -/
def b_l_made_right : List CS := [(.asg (.name 2) (.callF 7 [(.var 0), (.var 1)] [])), (.ifs (.bop .Or [(.not (.callF 8 [(.callC 2 9 [(.var 0), (.var 1)] []), (.var 2)] [])), (.not (.callF 8 [(.callC 2 10 [(.var 0)] [(.var 1)]), (.var 2)] []))]) [(.ret (.c (.bl false)))] []), (.ret (.callF 8 [(.callC 2 11 [(.var 0)] []), (.tup [(.c (.int 0)), (.c (.int 1))])] []))]
/-- _law_right(_law_one, _law_other, _law_many, _law_a, _law_b, _law_first, _law_second, _law_both) -/
def b_l_right : List CS := [(.par [3, 4] [(.callF 7 [(.idx (.var 0) (.c (.int 0))), (.idx (.var 0) (.c (.int 1)))] []), (.callF 7 [(.idx (.var 1) (.c (.int 0))), (.idx (.var 1) (.c (.int 1)))] [])]), (.par [5, 6] [(.callC 2 9 [(.idx (.var 0) (.c (.int 0))), (.idx (.var 0) (.c (.int 1)))] []), (.callC 2 9 [(.idx (.var 1) (.c (.int 0))), (.idx (.var 1) (.c (.int 1)))] [])]), (.asg (.name 7) (.callM (.var 5) 0 [(.var 6)] [])), (.ifs (.bop .Or [(.not (.callF 8 [(.var 7), (.callF 12 [(.var 3), (.var 4)] [])] [])), (.not (.callF 8 [(.callM (.var 7) 1 [(.var 6)] []), (.var 3)] [])), (.not (.callF 8 [(.callM (.var 7) 1 [(.var 5)] []), (.var 4)] []))]) [(.ret (.c (.bl false)))] []), (.ifs (.bop .Or [(.not (.callF 8 [(.callM (.var 5) 1 [(.var 6)] []), (.callF 13 [(.var 3), (.var 4)] [])] [])), (.not (.callF 8 [(.callM (.var 5) 1 [(.var 5)] []), (.tup [(.c (.int 0)), (.c (.int 1))])] []))]) [(.ret (.c (.bl false)))] []), (.ifs (.bop .Or [(.not (.callF 8 [(.callM (.var 5) 2 [(.var 2)] []), (.callF 14 [(.bin .Mult (.idx (.var 3) (.c (.int 0))) (.var 2)), (.idx (.var 3) (.c (.int 1)))] [])] [])), (.not (.callF 8 [(.callM (.var 5) 2 [(.c (.int 0))] []), (.tup [(.c (.int 0)), (.c (.int 1))])] []))]) [(.ret (.c (.bl false)))] []), (.ifs (.bop .Or [(.not (.callF 8 [(.callM (.var 5) 3 [] []), (.callF 12 [(.var 3), (.tup [(.c (.int 1)), (.c (.int 2))])] [])] [])), (.not (.callF 8 [(.callM (.callM (.var 5) 3 [] []) 3 [] []), (.var 3)] []))]) [(.ret (.c (.bl false)))] []), (.ifs (.bop .Or [(.not (.callF 8 [(.callM (.var 5) 0 [(.var 5)] []), (.callF 12 [(.var 3), (.var 3)] [])] [])), (.not (.callF 8 [(.callM (.var 5) 0 [(.var 6)] []), (.callF 12 [(.var 3), (.var 4)] [])] []))]) [(.ret (.c (.bl false)))] []), (.ifs (.bop .Or [(.not (.callF 8 [(.callM (.var 5) 0 [(.var 5)] []), (.callF 12 [(.var 3), (.var 3)] [])] [])), (.not (.callF 8 [(.callM (.var 5) 0 [(.var 6)] []), (.callF 12 [(.var 3), (.var 4)] [])] []))]) [(.ret (.c (.bl false)))] []), (.ifs (.bop .Or [(.not (.callF 8 [(.callM (.var 5) 1 [(.var 6)] []), (.callF 13 [(.var 3), (.var 4)] [])] [])), (.not (.callF 8 [(.callM (.var 5) 2 [(.var 2)] []), (.callF 14 [(.bin .Mult (.idx (.var 3) (.c (.int 0))) (.var 2)), (.idx (.var 3) (.c (.int 1)))] [])] []))]) [(.ret (.c (.bl false)))] []), (.ret (.bop .And [(.callF 8 [(.var 5), (.var 3)] []), (.callF 8 [(.var 6), (.var 4)] [])]))]
/-- law(_law_script, _law_k, _law_pool_here, _law_one, _law_other) -/
def b_law : List CS := [(.fors (.name 1) (.rng [(.blt .max2 [(.c (.int 1)), (.blt .min2 [(.blt .len [(.var 0)]), (.c (.int 20))])])]) [(.asg (.name 2) (.callF 0 [(.callF 1 [(.var 0), (.var 1)] [])] [])), (.par [3, 4] [(.callF 2 [(.var 2)] []), (.callF 2 [(.var 2)] [])]), (.ifs (.bop .Or [(.not (.callF 3 [(.idx (.var 3) (.c (.int 0))), (.idx (.var 3) (.c (.int 1)))] [])), (.not (.callF 3 [(.idx (.var 4) (.c (.int 0))), (.idx (.var 4) (.c (.int 1)))] []))]) [(.ret (.c (.bl false)))] []), (.ifs (.bop .Or [(.not (.callF 4 [(.var 3), (.var 4), (.callF 5 [(.var 2)] [])] [])), (.not (.callF 4 [(.var 3), (.var 3), (.neg (.c (.int 1)))] []))]) [(.ret (.c (.bl false)))] [])]), (.ret (.c (.bl true)))]
/-! ### each keeps its promise -/
theorem gt_at {α : Type} {ds : List α} {i : Int} {Q : α → Prop} (h0 : 0 ≤ i) (h1 : i < ds.length) (h : ∀ d ∈ ds, Q d) : Gt (atI ds i) Q := by
  have e : atI ds i = ds[i.toNat]? := by
    unfold atI ixN
    rw [if_pos h0, if_pos h1]
    rfl
  have l : i.toNat < ds.length := by omega
  refine Gt.of (x := ds[i.toNat]) (by rw [e]; exact List.getElem?_eq_getElem l) (h _ (List.getElem_mem l))
theorem mem_rngD {d : D} : ∀ {n : Nat} {lo : Int}, d ∈ rngD lo n → ∃ i, d = .int i ∧ lo ≤ i ∧ i < lo + n
  | 0, _, h => nomatch h
  | n + 1, lo, h => by
    rcases List.mem_cons.mp h with e | e
    · exact ⟨lo, e, by omega, by omega⟩
    · obtain ⟨i, e1, e2, e3⟩ := mem_rngD e
      exact ⟨i, e1, by omega, by omega⟩
theorem mem_cutI {d : D} {ns : List Int} {lo hi : Option Int} (h : d ∈ cutD (ns.map D.int) lo hi) : ∃ x, d = .int x := by
  have h2 := List.mem_of_mem_drop (List.mem_of_mem_take h)
  obtain ⟨x, _, e⟩ := List.mem_map.mp h2
  exact ⟨x, e.symm⟩
/-- a loop over items by a word that each turn keeps -/
theorem loop_inv {k0 : Nat} {live : Sto → Prop} {turn : D → DL.Env → Sto → (DL.Env → Sto → Prop) → Prop} {done : DL.Env → Sto → Prop} (I : DL.Env → Sto → Prop) (hl : ∀ ρ μ, I ρ μ → live μ) (hd : ∀ ρ μ, I ρ μ → done ρ μ) :
    ∀ {ds : List D}, (∀ d ∈ ds, ∀ ρ μ, I ρ μ → ∀ C : DL.Env → Sto → Prop, (∀ ρ' μ', I ρ' μ' → C ρ' μ') → turn d ρ μ fun ρ1 μ1 => tidy k0 ρ1 μ1 C) → ∀ {ρ : DL.Env} {μ : Sto}, I ρ μ → loopD k0 live turn done ds ρ μ
  | [], _, ρ, μ, h => ⟨hl ρ μ h, hd ρ μ h⟩
  | d :: ds, ht, ρ, μ, h => ⟨hl ρ μ h, ht d (List.mem_cons_self ..) ρ μ h _ fun ρ' μ' h' => loop_inv I hl hd (fun d' hd' => ht d' (List.mem_cons_of_mem _ hd')) h'⟩
theorem mul_l {i j : Int} (h1 : -(2 ^ 64) < i) (h2 : i < 2 ^ 64) : IntMulOk i j := CMul.ok (.inl ⟨h1, h2⟩)
theorem mul_r {i j : Int} (h1 : -(2 ^ 64) < j) (h2 : j < 2 ^ 64) : IntMulOk i j := CMul.ok (.inr ⟨h1, h2⟩)
theorem sm_log {k : Nat} {i : Int} (h : sm k i) : i.natAbs.log2 ≤ k := by
  rcases Nat.eq_zero_or_pos i.natAbs with e | e
  · rw [e]; simp
  · exact Nat.le_of_lt ((Nat.log2_lt (by omega)).mpr h)
theorem sm_w {k l : Nat} {i : Int} (hk : k ≤ l) (h : sm k i) : sm l i := Nat.lt_of_lt_of_le h (Nat.pow_le_pow_right (by decide) hk)
theorem sm_mul {k l : Nat} {i j : Int} (h : sm k i) (g : sm l j) : sm (k + l) (i * j) := by
  unfold sm at *
  rw [Int.natAbs_mul, Nat.pow_add]
  exact Nat.mul_lt_mul'' h g
theorem sm_add {k : Nat} {i j : Int} (h : sm k i) (g : sm k j) : sm (k + 1) (i + j) := by
  unfold sm at *
  rw [Nat.pow_succ]
  omega
theorem sm_sub {k : Nat} {i j : Int} (h : sm k i) (g : sm k j) : sm (k + 1) (i - j) := by
  unfold sm at *
  rw [Nat.pow_succ]
  omega
theorem sm_neg {k : Nat} {i : Int} (h : sm k i) : sm k (0 - i) := by
  unfold sm at *
  omega
theorem sm_ge {k : Nat} {i j : Int} (h : sm k j) (h0 : 0 ≤ i) (h1 : i ≤ j) : sm k i := by
  unfold sm at *
  omega
theorem mulOk {k l : Nat} {i j : Int} (h : sm k i) (g : sm l j) (b : k + l < 1000000) : IntMulOk i j := CMulW.ok (by
  have := sm_log h
  have := sm_log g
  show i.natAbs.log2 + j.natAbs.log2 < 1000000
  omega)
theorem divOk {k : Nat} {i j : Int} (p : 0 < j) (g : sm k j) (b : k < 9000) : CDivW i j := ⟨p, by
  have := sm_log g
  omega⟩
theorem br_tt {A B : Prop} (h : A) : Br true A B := ⟨fun _ => h, fun e => by cases e⟩
theorem br_ff {A B : Prop} (h : B) : Br false A B := ⟨fun e => by (cases e), fun _ => h⟩
theorem br_d {p A B : Prop} [Decidable p] (h : p → A) (g : ¬ p → B) : Br (decide p) A B := ⟨fun e => h (of_decide_eq_true e), fun e => g (of_decide_eq_false e)⟩
theorem br_nd {p A B : Prop} [Decidable p] (h : ¬ p → A) (g : p → B) : Br (!decide p) A B := ⟨fun e => h (by intro z; rw [decide_eq_true z] at e; cases e), fun e => g (by
  by_cases z : p
  · exact z
  · rw [decide_eq_false z] at e; cases e)⟩
local macro_rules | `(tactic| walk_at "s") => `(tactic| first | assumption | exact Nat.le_of_ble_eq_true rfl | exact mul_l (by omega) (by omega) | exact mul_r (by omega) (by omega) | omega | exact ⟨by omega, by omega⟩ | exact ⟨by omega, by decide⟩ | exact ⟨by omega, by omega, by omega, by omega⟩ | exact ⟨by decide, by decide, by decide⟩ | exact ⟨by decide, by decide⟩ | exact mulOk (by assumption) (by assumption) (by decide))
local macro_rules | `(tactic| walk_at "w1") => `(tactic| first | refine Gt.of rfl ?_ | refine Sd.mk (by walk_at "s") ?_ | refine Sd.mk ?_ ?_ | refine br_tt ?_ | refine br_ff ?_ | refine br_d (fun _ => ?_) (fun _ => ?_) | refine br_nd (fun _ => ?_) (fun _ => ?_) | refine Br.mk (fun _ => ?_) (fun _ => ?_))
local macro_rules | `(tactic| walk_at "w") => `(tactic| repeat' walk_at "w1")
local macro_rules | `(tactic| walk_at "turn") => `(tactic| (refine Sd.mk trivial ?_; refine Sd.mk (mul_r (by omega) (by omega)) ?_; refine ⟨_, _, _, 1000003, rfl, rfl, by assumption, by decide, by decide, fun _ _ _ _ _ _ _ => ?_⟩))
local macro_rules | `(tactic| walk_at "take") => `(tactic| refine ⟨_, _, _, _, rfl, rfl, by assumption, by decide, by decide, fun _ _ _ _ _ _ _ => ?_⟩)

theorem p_is_whole : ∀ ws μ Q X, c_is_whole ws μ Q X → wpDef Γ 0 b_is_whole ws μ Q X := by
  intro ws μ Q X h
  obtain ⟨i, rfl, rfl, q⟩ := h
  refine Br.mk (fun _ => ?_) (fun e => by cases e)
  exact q
theorem p_shared : ∀ ws μ Q X, c_shared ws μ Q X → wpDef Γ 0 b_shared ws μ Q X := by
  intro ws μ Q X h
  obtain ⟨i, j, hi, hj, rfl, rfl, q⟩ := h
  refine Whl.mk ⟨fun n ρ μ => ∃ a b : Int, 0 ≤ a ∧ 0 ≤ b ∧ n = b.toNat ∧ ρ = [some (.p (.int a)), some (.p (.int b))] ∧ μ = [] ∧ Int.gcd a b = Int.gcd i j, ⟨_, i, j, hi, hj, rfl, rfl, rfl, rfl⟩, ?_⟩
  rintro n ρ1 μ1 ⟨a, b, ha, hb, rfl, rfl, rfl, g⟩
  refine Br.mk (fun t => ?_) (fun t => ?_)
  · have t' : 0 < b := of_decide_eq_true t
    refine Sd.mk t' ?_
    refine ⟨(a % b).toNat, ?_, b, a % b, hb, Int.emod_nonneg _ (by omega), rfl, rfl, rfl, ?_⟩
    · have := Int.emod_lt_of_pos a t'
      omega
    · rw [← g, Int.gcd_comm a b, gcd_emod_r]
  · have t' : ¬ 0 < b := of_decide_eq_false t
    have e : b = 0 := by omega
    subst e
    have e2 : (Int.gcd i j : Int) = a := by
      rw [← g, Int.gcd_zero_right]
      omega
    rw [← e2] at *
    rw [e2] at q
    first | exact q | (rw [← e2] at q; exact q)
theorem p_check_turn : ∀ ws μ Q X, c_check_turn ws μ Q X → wpDef Γ 0 b_check_turn ws μ Q X := by
  intro ws μ Q X h
  obtain ⟨a, b, rfl, rfl, q⟩ := h
  walk_at "w"
  exact q
theorem p_l_cell : ∀ ws μ Q X, c_l_cell ws μ Q X → wpDef Γ 2 b_l_cell ws μ Q X := by
  intro ws μ Q X h
  obtain ⟨ns, k, hk, hk2, rfl, rfl, q⟩ := h
  refine Br.mk (fun t => ?_) (fun t => ?_)
  · have t' : k < ((ns.map D.int).length : Nat) := of_decide_eq_true t
    refine gt_at hk t' fun d hd => ?_
    obtain ⟨x, _, rfl⟩ := List.mem_map.mp hd
    exact q x
  · walk_at "w"
    refine loop_inv (fun ρ μ => ∃ s h, ρ = [some (.p (.lst (ns.map D.int))), some (.p (.int k)), some (.p (.int s)), h] ∧ μ = [some (.lst (cutD (ns.map D.int) none (some 3)))]) ?_ ?_ ?_ ⟨_, _, rfl, rfl⟩
    · rintro ρ μ ⟨s, h, rfl, rfl⟩
      rfl
    · rintro ρ μ ⟨s, h, rfl, rfl⟩
      exact q s
    · rintro d hd ρ μ ⟨s, h, rfl, rfl⟩ C hC
      obtain ⟨x, rfl⟩ := mem_cutI hd
      walk_at "w"
      exact hC _ _ ⟨_, _, rfl, rfl⟩
theorem p_l_pool : ∀ ws μ Q X, c_l_pool ws μ Q X → wpDef Γ 1 b_l_pool ws μ Q X := by
  intro ws μ Q X h
  obtain ⟨i, rfl, rfl, q⟩ := h
  walk_at "w"
  all_goals exact q _ _ _ (by first | omega | (split <;> omega))
theorem p_l_take : ∀ ws μ Q X, c_l_take ws μ Q X → wpDef Γ 2 b_l_take ws μ Q X := by
  intro ws μ Q X h
  obtain ⟨a, b, c, m, rfl, rfl, hb, hm, hm2, q⟩ := h
  walk_at "w"
  · exact q _ _ _ _ (Int.ediv_nonneg hb (by omega)) (Int.emod_nonneg _ (by omega)) (Int.emod_lt_of_pos _ hm)
  · exact q _ _ _ _ hb (Int.emod_nonneg _ (by omega)) (Int.emod_lt_of_pos _ hm)
theorem p_l_low : ∀ ws μ Q X, c_l_low ws μ Q X → wpDef Γ 2 b_l_low ws μ Q X := by
  intro ws μ Q X h
  obtain ⟨i, j, hi, hj, hl, rfl, rfl, q⟩ := h
  refine Whl.mk ⟨fun n ρ μ => ∃ a b : Int, 0 ≤ a ∧ 0 ≤ b ∧ n = b.toNat ∧ ρ = [some (.p (.int i)), some (.p (.int j)), some (.p (.int a)), some (.p (.int b))] ∧ μ = [] ∧ Int.gcd a b = Int.gcd i j, ⟨_, (if i < 0 then -i else i), j, by omega, by omega, rfl, rfl, rfl, ?_⟩, ?_⟩
  · rw [if_neg (by omega)]
  rintro n ρ1 μ1 ⟨a, b, ha, hb, rfl, rfl, rfl, g⟩
  refine Br.mk (fun t => ?_) (fun t => ?_)
  · have t' : 0 < b := of_decide_eq_true t
    refine Sd.mk t' ?_
    refine ⟨(a % b).toNat, ?_, b, a % b, hb, Int.emod_nonneg _ (by omega), rfl, rfl, rfl, ?_⟩
    · have := Int.emod_lt_of_pos a t'
      omega
    · rw [← g, Int.gcd_comm a b, gcd_emod_r]
  · have t' : ¬ 0 < b := of_decide_eq_false t
    have e : b = 0 := by omega
    subst e
    have e2 : a = (Int.gcd i j : Int) := by
      rw [← g, Int.gcd_zero_right]
      omega
    subst e2
    have g1 := gcd_pos (t := i) hj
    have g2 := gcd_le (t := i) hj
    have g3 : CDivW 0 (Int.gcd i j : Int) := ⟨g1, by
      refine Nat.lt_of_le_of_lt ?_ hl
      exact log2_mono (by omega)⟩
    refine Sd.mk g3 ?_
    refine Sd.mk g3 ?_
    exact q
theorem p_l_whole : ∀ ws μ Q X, c_l_whole ws μ Q X → wpDef Γ 0 b_l_whole ws μ Q X := by
  intro ws μ Q X h
  obtain ⟨i, rfl, rfl, q⟩ := h
  refine Br.mk (fun _ => ?_) (fun e => by cases e)
  exact q
theorem p_Turn_init : ∀ ws μ Q X, c_Turn_init ws μ Q X → wpDef Γ 1 b_Turn_init ws μ Q X := by
  intro ws μ Q X h
  obtain ⟨t, b, hb, hl, rfl, rfl, q⟩ := h
  refine ⟨t, rfl, rfl, ?_⟩
  refine br_ff ?_
  refine ⟨b, rfl, rfl, ?_⟩
  refine br_ff ?_
  refine br_d (fun e => absurd e hb) (fun _ => ?_)
  refine br_d (fun e => ?_) (fun e => ?_)
  · have hp : 0 < 0 - b := by omega
    have hl' : (0 - b).natAbs.log2 < 9000 := by
      have : (0 - b).natAbs = b.natAbs := by omega
      rw [this]
      exact hl
    refine Sd.mk hp ?_
    refine ⟨(0 - t) % (0 - b), 0 - b, Int.emod_nonneg _ (by omega), by omega, rfl, rfl, ?_⟩
    have g1 := gcd_pos (t := (0 - t) % (0 - b)) hp
    have g2 := gcd_le (t := (0 - t) % (0 - b)) hp
    have g3 : CDivW 0 (Int.gcd ((0 - t) % (0 - b)) (0 - b) : Int) := ⟨g1, Nat.lt_of_le_of_lt (log2_mono (by omega)) hl'⟩
    refine Sd.mk g3 ?_
    refine Sd.mk (Nat.le_of_ble_eq_true rfl) ?_
    refine Sd.mk g3 ?_
    refine Sd.mk (Nat.le_of_ble_eq_true rfl) ?_
    rw [nT_neg e, nB_neg e] at q
    exact q
  · have hp : 0 < b := by omega
    refine Sd.mk hp ?_
    refine ⟨t % b, b, Int.emod_nonneg _ (by omega), by omega, rfl, rfl, ?_⟩
    have g1 := gcd_pos (t := t % b) hp
    have g2 := gcd_le (t := t % b) hp
    have g3 : CDivW 0 (Int.gcd (t % b) b : Int) := ⟨g1, Nat.lt_of_le_of_lt (log2_mono (by omega)) hl⟩
    refine Sd.mk g3 ?_
    refine Sd.mk (Nat.le_of_ble_eq_true rfl) ?_
    refine Sd.mk g3 ?_
    refine Sd.mk (Nat.le_of_ble_eq_true rfl) ?_
    rw [nT_pos hp, nB_pos hp] at q
    exact q
theorem p_l_part : ∀ ws μ Q X, c_l_part ws μ Q X → wpDef Γ 0 b_l_part ws μ Q X := by
  intro ws μ Q X h
  obtain ⟨t, u, hu, hl, rfl, rfl, q⟩ := h
  refine Sd.mk hu ?_
  exact ⟨t % u, u, Int.emod_nonneg _ (by omega), hu, hl, rfl, rfl, q⟩
theorem p_l_number : ∀ ws μ Q X, c_l_number ws μ Q X → wpDef Γ 3 b_l_number ws μ Q X := by
  intro ws μ Q X h
  obtain ⟨a, b, c, rfl, rfl, hb, q⟩ := h
  refine ⟨a, b, c, 7, rfl, rfl, hb, by decide, by decide, fun a b c way hb w0 w1 => ?_⟩
  refine ⟨a, b, c, 97, rfl, rfl, hb, by decide, by decide, fun a b c r1 hb r0 r1' => ?_⟩
  refine ⟨a, b, c, 13, rfl, rfl, hb, by decide, by decide, fun a b c r2 hb s0 s1' => ?_⟩
  refine Sd.mk (by decide) ?_
  refine gt_at (Int.emod_nonneg _ (by decide)) (by have := Int.emod_lt_of_pos way (show (0 : Int) < 4 by decide); show way % 4 < 4; exact this) fun d hd => ?_
  have hd' : ∃ x : Int, d = .int x ∧ sm 8 x := by
    simp only [List.mem_cons, List.not_mem_nil, or_false] at hd
    rcases hd with rfl | rfl | rfl | rfl
    · exact ⟨_, rfl, by unfold sm; decide⟩
    · exact ⟨_, rfl, by unfold sm; decide⟩
    · exact ⟨_, rfl, by unfold sm; omega⟩
    · exact ⟨_, rfl, by unfold sm; omega⟩
  obtain ⟨x, rfl, hx⟩ := hd'
  clear hd
  have fin : ∀ d ∈ [D.int 1, D.int (-1)], ∃ y, d = .int y ∧ sm 1 y := fun d hd => by
    simp only [List.mem_cons, List.not_mem_nil, or_false] at hd
    rcases hd with rfl | rfl <;> exact ⟨_, rfl, by unfold sm; decide⟩
  refine br_d (fun t => ?_) (fun t => ?_)
  · refine gt_at (by omega) (by show way - 4 < 3; omega) fun d hd => ?_
    simp only [List.mem_cons, List.not_mem_nil, or_false] at hd
    rcases hd with rfl | rfl | rfl
    · refine Sd.mk (by decide) ?_
      walk_at "turn"
      refine Sd.mk trivial ?_
      refine ⟨_, _, _, 2, rfl, rfl, by assumption, by decide, by decide, fun a b c r3 hb t0 t1 => ?_⟩
      refine gt_at t0 (by show r3 < 2; exact t1) fun d hd => ?_
      obtain ⟨y, rfl, hy⟩ := fin d hd
      refine Sd.mk (mulOk (k := 81) (by unfold sm; omega) hy (by decide)) ?_
      exact q _ _ _ _ hb (sm_mul (k := 81) (l := 1) (by unfold sm; omega) hy)
    · refine Sd.mk (by decide) ?_
      walk_at "turn"
      walk_at "turn"
      walk_at "turn"
      refine Sd.mk trivial ?_
      refine ⟨_, _, _, 2, rfl, rfl, by assumption, by decide, by decide, fun a b c r3 hb t0 t1 => ?_⟩
      refine gt_at t0 (by show r3 < 2; exact t1) fun d hd => ?_
      obtain ⟨y, rfl, hy⟩ := fin d hd
      refine Sd.mk (mulOk (k := 81) (by unfold sm; omega) hy (by decide)) ?_
      exact q _ _ _ _ hb (sm_mul (k := 81) (l := 1) (by unfold sm; omega) hy)
    · refine Sd.mk (by decide) ?_
      walk_at "turn"
      walk_at "turn"
      walk_at "turn"
      walk_at "turn"
      refine Sd.mk trivial ?_
      refine ⟨_, _, _, 2, rfl, rfl, by assumption, by decide, by decide, fun a b c r3 hb t0 t1 => ?_⟩
      refine gt_at t0 (by show r3 < 2; exact t1) fun d hd => ?_
      obtain ⟨y, rfl, hy⟩ := fin d hd
      refine Sd.mk (mulOk (k := 81) (by unfold sm; omega) hy (by decide)) ?_
      exact q _ _ _ _ hb (sm_mul (k := 81) (l := 1) (by unfold sm; omega) hy)
  · refine ⟨a, b, c, 2, rfl, rfl, hb, by decide, by decide, fun a b c r3 hb t0 t1 => ?_⟩
    refine gt_at t0 (by show r3 < 2; exact t1) fun d hd => ?_
    obtain ⟨y, rfl, hy⟩ := fin d hd
    refine Sd.mk (mulOk hx hy (by decide)) ?_
    exact q _ _ _ _ hb (sm_w (by decide) (sm_mul hx hy))
theorem p_l_is : ∀ ws μ Q X, c_l_is ws μ Q X → wpDef Γ 0 b_l_is ws μ Q X := by
  intro ws μ Q X h
  obtain ⟨a, b, rfl, rfl, q⟩ := h
  refine br_ff ?_
  refine ⟨a, rfl, rfl, ?_⟩
  refine br_ff ?_
  refine ⟨b, rfl, rfl, ?_⟩
  refine br_ff ?_
  have e : PyData.eqv (.tuple [.int a, .int b]) (.tuple [.int a, .int b]) = true := by simp [PyData.eqv, PyData.eqvAll]
  refine Gt.of rfl ?_
  refine Gt.of rfl ?_
  refine Sd.mk ⟨rfl, rfl⟩ ?_
  rw [e]
  exact q
theorem p_l_on : ∀ ws μ Q X, c_l_on ws μ Q X → wpDef Γ 0 b_l_on ws μ Q X := by
  intro ws μ Q X h
  obtain ⟨a, b, c, d, ⟨a0, ab, hb⟩, ⟨c0, cd, hd⟩, rfl, rfl, q⟩ := h
  have ha := sm_ge hb a0 (by omega)
  have hc := sm_ge hd c0 (by omega)
  walk_at "w"
  exact ⟨_, _, Int.mul_pos (by omega) (by omega), Nat.lt_of_le_of_lt (sm_log (sm_mul hb hd)) (by decide), rfl, rfl, q⟩
theorem p_l_off : ∀ ws μ Q X, c_l_off ws μ Q X → wpDef Γ 0 b_l_off ws μ Q X := by
  intro ws μ Q X h
  obtain ⟨a, b, c, d, ⟨a0, ab, hb⟩, ⟨c0, cd, hd⟩, rfl, rfl, q⟩ := h
  have ha := sm_ge hb a0 (by omega)
  have hc := sm_ge hd c0 (by omega)
  walk_at "w"
  exact ⟨_, _, Int.mul_pos (by omega) (by omega), Nat.lt_of_le_of_lt (sm_log (sm_mul hb hd)) (by decide), rfl, rfl, q⟩
theorem p_l_signed : ∀ ws μ Q X, c_l_signed ws μ Q X → wpDef Γ 0 b_l_signed ws μ Q X := by
  intro ws μ Q X h
  obtain ⟨t, u, hu, hl, rfl, rfl, q⟩ := h
  refine br_d (fun e => ?_) (fun e => ?_)
  · rw [nT_neg e, nB_neg e] at q
    refine ⟨0 - t, 0 - u, by omega, ?_, rfl, rfl, q⟩
    have : (0 - u).natAbs = u.natAbs := by omega
    rw [this]
    exact hl
  · rw [nT_pos (by omega), nB_pos (by omega)] at q
    exact ⟨t, u, by omega, hl, rfl, rfl, q⟩
theorem p_l_two : ∀ ws μ Q X, c_l_two ws μ Q X → wpDef Γ 2 b_l_two ws μ Q X := by
  intro ws μ Q X h
  obtain ⟨a, b, c, rfl, rfl, hb, q⟩ := h
  refine ⟨a, b, c, rfl, rfl, hb, fun a b c t hb ht => ?_⟩
  refine ⟨a, b, c, rfl, rfl, hb, fun a b c u hb hu => ?_⟩
  have key : ∀ v : Int, v ≠ 0 → sm 82 v → ∀ (a b c : Int) (s : Int), 0 ≤ s → s < 60 → IntMulOk v (s - 30) ∧ sm 100 (v * (s - 30)) := fun v _ hv _ _ _ s s0 s1 => by
    have hs : sm 7 (s - 30) := by unfold sm; omega
    exact ⟨mulOk hv hs (by decide), sm_w (by decide) (sm_mul hv hs)⟩
  refine br_d (fun e => ?_) (fun e => ?_)
  · refine ⟨a, b, c, 3, rfl, rfl, hb, by decide, by decide, fun a b c r hb r0 r1 => ?_⟩
    refine gt_at r0 (by show r < 3; exact r1) fun d hd => ?_
    have hd' : ∃ x : Int, d = .int x ∧ sm 82 x ∧ x ≠ 0 := by
      simp only [List.mem_cons, List.not_mem_nil, or_false] at hd
      rcases hd with rfl | rfl | rfl <;> exact ⟨_, rfl, by unfold sm; decide, by decide⟩
    obtain ⟨v, rfl, hv, v0⟩ := hd'
    refine ⟨a, b, c, 6, rfl, rfl, hb, by decide, by decide, fun a b c r hb r0 r1 => ?_⟩
    refine br_d (fun e => ?_) (fun e => ?_)
    · refine ⟨a, b, c, 60, rfl, rfl, hb, by decide, by decide, fun a b c s hb s0 s1 => ?_⟩
      obtain ⟨k1, k2⟩ := key v v0 hv a b c s s0 s1
      refine Sd.mk k1 ?_
      exact q _ _ _ _ _ hb k2 (sm_w (by decide) hv) v0
    · exact q _ _ _ _ _ hb (sm_w (by decide) ht) (sm_w (by decide) hv) v0
  · refine ⟨a, b, c, 6, rfl, rfl, hb, by decide, by decide, fun a b c r hb r0 r1 => ?_⟩
    refine br_d (fun e => ?_) (fun e => ?_)
    · refine ⟨a, b, c, 60, rfl, rfl, hb, by decide, by decide, fun a b c s hb s0 s1 => ?_⟩
      obtain ⟨k1, k2⟩ := key u (by assumption) hu a b c s s0 s1
      refine Sd.mk k1 ?_
      exact q _ _ _ _ _ hb k2 (sm_w (by decide) hu) (by assumption)
    · exact q _ _ _ _ _ hb (sm_w (by decide) ht) (sm_w (by decide) hu) (by assumption)
theorem p_Turn_plus : ∀ ws μ Q X, c_Turn_plus ws μ Q X → wpDef Γ 0 b_Turn_plus ws μ Q X := by
  intro ws μ Q X h
  obtain ⟨a, b, c, d, ⟨a0, ab, hb⟩, ⟨c0, cd, hd⟩, rfl, rfl, q⟩ := h
  have ha := sm_ge hb a0 (by omega)
  have hc := sm_ge hd c0 (by omega)
  have hp : 0 < b * d := Int.mul_pos (by omega) (by omega)
  refine ⟨c, d, rfl, rfl, ?_⟩
  walk_at "w"
  refine ⟨_, _, by omega, Nat.lt_of_le_of_lt (sm_log (sm_mul hb hd)) (by decide), rfl, rfl, ?_⟩
  refine Sd.mk ⟨rfl, rfl⟩ ?_
  rw [nT_pos hp, nB_pos hp]
  exact q
theorem p_Turn_minus : ∀ ws μ Q X, c_Turn_minus ws μ Q X → wpDef Γ 0 b_Turn_minus ws μ Q X := by
  intro ws μ Q X h
  obtain ⟨a, b, c, d, ⟨a0, ab, hb⟩, ⟨c0, cd, hd⟩, rfl, rfl, q⟩ := h
  have ha := sm_ge hb a0 (by omega)
  have hc := sm_ge hd c0 (by omega)
  have hp : 0 < b * d := Int.mul_pos (by omega) (by omega)
  refine ⟨c, d, rfl, rfl, ?_⟩
  walk_at "w"
  refine ⟨_, _, by omega, Nat.lt_of_le_of_lt (sm_log (sm_mul hb hd)) (by decide), rfl, rfl, ?_⟩
  refine Sd.mk ⟨rfl, rfl⟩ ?_
  rw [nT_pos hp, nB_pos hp]
  exact q
theorem p_Turn_times : ∀ ws μ Q X, c_Turn_times ws μ Q X → wpDef Γ 0 b_Turn_times ws μ Q X := by
  intro ws μ Q X h
  obtain ⟨a, b, m, ⟨a0, ab, hb⟩, hm, rfl, rfl, q⟩ := h
  have ha := sm_ge hb a0 (by omega)
  have hp : 0 < b := by omega
  refine ⟨m, rfl, rfl, ?_⟩
  walk_at "w"
  refine ⟨_, _, by omega, Nat.lt_of_le_of_lt (sm_log hb) (by decide), rfl, rfl, ?_⟩
  refine Sd.mk ⟨rfl, rfl⟩ ?_
  rw [nT_pos hp, nB_pos hp]
  exact q
theorem p_l_made_right : ∀ ws μ Q X, c_l_made_right ws μ Q X → wpDef Γ 1 b_l_made_right ws μ Q X := by
  intro ws μ Q X h
  obtain ⟨t, u, ht, hu, u0, rfl, rfl, q⟩ := h
  have hl : u.natAbs.log2 < 9000 := Nat.lt_of_le_of_lt (sm_log hu) (by decide)
  refine ⟨t, u, u0, hl, rfl, rfl, ?_⟩
  refine ⟨t, u, u0, hl, rfl, rfl, ?_⟩
  refine Sd.mk ⟨rfl, rfl⟩ ?_
  refine ⟨_, _, rfl, rfl, ?_⟩
  refine br_ff ?_
  refine ⟨t, u, u0, hl, rfl, rfl, ?_⟩
  refine Sd.mk ⟨rfl, rfl⟩ ?_
  refine ⟨_, _, rfl, rfl, ?_⟩
  refine br_ff ?_
  refine ⟨t, 1, by decide, by decide, rfl, rfl, ?_⟩
  refine Sd.mk ⟨rfl, rfl⟩ ?_
  rw [nT_one, nB_one]
  exact ⟨0, 1, rfl, rfl, q⟩
theorem p_Turn_opposite : ∀ ws μ Q X, c_Turn_opposite ws μ Q X → wpDef Γ 0 b_Turn_opposite ws μ Q X := by
  intro ws μ Q X h
  obtain ⟨a, b, ⟨a0, ab, hb⟩, rfl, rfl, q⟩ := h
  refine ⟨1, 2, by decide, by decide, rfl, rfl, ?_⟩
  refine Sd.mk ⟨rfl, rfl⟩ ?_
  have e1 : nT 1 2 = 1 := by decide
  have e2 : nB 1 2 = 2 := by decide
  rw [e1, e2]
  exact ⟨a, b, 1, 2, ⟨a0, ab, sm_w (by decide) hb⟩, ⟨by decide, by decide, sm_w (k := 2) (by decide) (by unfold sm; decide)⟩, rfl, rfl, q⟩
theorem p_l_right : ∀ ws μ Q X, c_l_right ws μ Q X → wpDef Γ 5 b_l_right ws μ Q X := by
  intro ws μ Q X h
  obtain ⟨t, u, t', u', m, ht, hu, u0, ht', hu', u0', hm, rfl, rfl, q⟩ := h
  have hl : u.natAbs.log2 < 9000 := Nat.lt_of_le_of_lt (sm_log hu) (by decide)
  have hl' : u'.natAbs.log2 < 9000 := Nat.lt_of_le_of_lt (sm_log hu') (by decide)
  walk_at "w"
  refine ⟨t, u, u0, hl, rfl, rfl, ?_⟩
  walk_at "w"
  refine ⟨t', u', u0', hl', rfl, rfl, ?_⟩
  walk_at "w"
  refine ⟨t, u, u0, hl, rfl, rfl, ?_⟩
  refine Sd.mk ⟨rfl, rfl⟩ ?_
  walk_at "w"
  refine ⟨t', u', u0', hl', rfl, rfl, ?_⟩
  refine Sd.mk ⟨rfl, rfl⟩ ?_
  have la : Low (nT t u) (nB t u) := .ofN u0
  have lb : Low (nT t' u') (nB t' u') := .ofN u0'
  have sa : sm 100 (nB t u) := by have := nB_le (t := t) u0; have := la.p; unfold sm at *; omega
  have sb : sm 100 (nB t' u') := by have := nB_le (t := t') u0'; have := lb.p; unfold sm at *; omega
  generalize nT t u = a at *
  generalize nB t u = b at *
  generalize nT t' u' = c at *
  generalize nB t' u' = d at *
  have pa := la.p
  have pb := lb.p
  have pbd : 0 < b * d := Int.mul_pos pa pb
  have ta : tn 100 a b := ⟨la.n, la.l, sa⟩
  have tb : tn 100 c d := ⟨lb.n, lb.l, sb⟩
  have tw : ∀ {k a b}, tn k a b → k ≤ 3000 → tn 4000 a b := fun h hk => ⟨h.1, h.2.1, sm_w (Nat.le_trans hk (by decide)) h.2.2⟩
  have tw3 : ∀ {k a b}, tn k a b → k ≤ 3000 → tn 3000 a b := fun h hk => ⟨h.1, h.2.1, sm_w hk h.2.2⟩
  have Ta := tw ta (by decide)
  have Tb := tw tb (by decide)
  have tp : ∀ {k x y}, 0 < y → sm k y → tn k (pT x y) (pB x y) := fun {k x y} hy hs => ⟨pT_nonneg hy, pT_lt hy, sm_ge hs (Int.le_of_lt (pB_pos hy)) (pB_le hy)⟩
  have tS : tn 200 (pT (a * d + c * b) (b * d)) (pB (a * d + c * b) (b * d)) := tp pbd (sm_mul sa sb)
  have TS := tw tS (by decide)
  have b1 := back1 la pb (c := c) rfl rfl
  have b2 := back1 lb pa (c := a) (X := pT (a * d + c * b) (b * d)) (Y := pB (a * d + c * b) (b * d)) (by rw [Int.mul_comm d b, Int.add_comm]) (by rw [Int.mul_comm d b, Int.add_comm])
  have h2 := half2 la rfl rfl
  have tH : tn 102 (pT (a * 2 + 1 * b) (b * 2)) (pB (a * 2 + 1 * b) (b * 2)) := tp (Int.mul_pos pa (by decide)) (sm_mul (l := 2) sa (by unfold sm; decide))
  have z1 := p_zero (b := b * b) (Int.mul_pos pa pa)
  have z2 := p_zero (b := b) pa
  have hm' : sm 4000 m := sm_w (by decide) hm
  have h12 : tn 4000 1 2 := ⟨by decide, by decide, sm_w (k := 2) (by decide) (by unfold sm; decide)⟩
  -- both = first + second
  refine ⟨a, b, c, d, Ta, Tb, rfl, rfl, ?_⟩
  refine ⟨a, b, c, d, Ta, Tb, rfl, rfl, ?_⟩
  refine ⟨_, _, rfl, rfl, ?_⟩
  refine br_ff ?_
  refine ⟨_, _, c, d, TS, Tb, rfl, rfl, ?_⟩
  rw [b1.1, b1.2]
  refine ⟨a, b, rfl, rfl, ?_⟩
  refine br_ff ?_
  refine ⟨_, _, a, b, TS, Ta, rfl, rfl, ?_⟩
  rw [b2.1, b2.2]
  refine ⟨c, d, rfl, rfl, ?_⟩
  refine br_ff ?_
  -- first - second, first - first
  refine ⟨a, b, c, d, Ta, Tb, rfl, rfl, ?_⟩
  refine ⟨a, b, c, d, Ta, Tb, rfl, rfl, ?_⟩
  refine ⟨_, _, rfl, rfl, ?_⟩
  refine br_ff ?_
  refine ⟨a, b, a, b, Ta, Ta, rfl, rfl, ?_⟩
  rw [Int.sub_self, z1.1, z1.2]
  refine ⟨0, 1, rfl, rfl, ?_⟩
  refine br_ff ?_
  -- times
  refine ⟨a, b, m, Ta, hm', rfl, rfl, ?_⟩
  refine Gt.of rfl ?_
  refine Sd.mk (mulOk (sm_ge sa la.n (Int.le_of_lt la.l)) hm (by decide)) ?_
  refine Gt.of rfl ?_
  refine ⟨_, _, pa, Nat.lt_of_le_of_lt (sm_log sa) (by decide), rfl, rfl, ?_⟩
  refine ⟨_, _, rfl, rfl, ?_⟩
  refine br_ff ?_
  refine ⟨a, b, 0, Ta, by unfold sm; decide, rfl, rfl, ?_⟩
  rw [Int.mul_zero, z2.1, z2.2]
  refine ⟨0, 1, rfl, rfl, ?_⟩
  refine br_ff ?_
  -- opposite
  refine ⟨a, b, tw3 ta (by decide), rfl, rfl, ?_⟩
  refine ⟨a, b, 1, 2, Ta, h12, rfl, rfl, ?_⟩
  refine ⟨_, _, rfl, rfl, ?_⟩
  refine br_ff ?_
  refine ⟨a, b, tw3 ta (by decide), rfl, rfl, ?_⟩
  refine ⟨_, _, tw3 tH (by decide), rfl, rfl, ?_⟩
  rw [h2.1, h2.2]
  refine ⟨a, b, rfl, rfl, ?_⟩
  refine br_ff ?_
  -- again
  iterate 2
    refine ⟨a, b, a, b, Ta, Ta, rfl, rfl, ?_⟩
    refine ⟨a, b, a, b, Ta, Ta, rfl, rfl, ?_⟩
    refine ⟨_, _, rfl, rfl, ?_⟩
    refine br_ff ?_
    refine ⟨a, b, c, d, Ta, Tb, rfl, rfl, ?_⟩
    refine ⟨a, b, c, d, Ta, Tb, rfl, rfl, ?_⟩
    refine ⟨_, _, rfl, rfl, ?_⟩
    refine br_ff ?_
  refine ⟨a, b, c, d, Ta, Tb, rfl, rfl, ?_⟩
  refine ⟨a, b, c, d, Ta, Tb, rfl, rfl, ?_⟩
  refine ⟨_, _, rfl, rfl, ?_⟩
  refine br_ff ?_
  refine ⟨a, b, m, Ta, hm', rfl, rfl, ?_⟩
  refine Gt.of rfl ?_
  refine Sd.mk (mulOk (sm_ge sa la.n (Int.le_of_lt la.l)) hm (by decide)) ?_
  refine Gt.of rfl ?_
  refine ⟨_, _, pa, Nat.lt_of_le_of_lt (sm_log sa) (by decide), rfl, rfl, ?_⟩
  refine ⟨_, _, rfl, rfl, ?_⟩
  refine br_ff ?_
  refine ⟨a, b, rfl, rfl, ?_⟩
  refine br_tt ?_
  refine ⟨c, d, rfl, rfl, ?_⟩
  exact q
theorem p_law : ∀ ws μ Q X, spLawD ws μ Q X → wpDef Γ 4 b_law ws μ Q X := by
  intro ws μ Q X h
  obtain ⟨ns, hn, rfl, rfl, q⟩ := h
  have bnd : 0 ≤ (if (if (20 : Int) < ((ns.map D.int).length : Nat) then 20 else ((ns.map D.int).length : Nat) : Int) > 1 then (if (20 : Int) < ((ns.map D.int).length : Nat) then 20 else ((ns.map D.int).length : Nat) : Int) else 1) ∧ (if (if (20 : Int) < ((ns.map D.int).length : Nat) then 20 else ((ns.map D.int).length : Nat) : Int) > 1 then (if (20 : Int) < ((ns.map D.int).length : Nat) then 20 else ((ns.map D.int).length : Nat) : Int) else 1) ≤ 20 := by
    split <;> split <;> omega
  refine Sd.mk (by omega) ?_
  refine loop_inv (fun ρ μ => (ρ = [some (.p (.lst (ns.map D.int))), none, none, none, none] ∧ μ = []) ∨ ∃ k a b c o1 o2, ρ = [some (.p (.lst (ns.map D.int))), some (.p (.int k)), some (.m 0), some (.p o1), some (.p o2)] ∧ μ = [poolM a b c]) ?_ ?_ ?_ (.inl ⟨rfl, rfl⟩)
  · intro _ _ _
    trivial
  · rintro ρ μ (⟨rfl, rfl⟩ | ⟨k, a, b, c, o1, o2, rfl, rfl⟩) <;> exact q
  · intro d hd
    obtain ⟨k, rfl, k0, k1⟩ := mem_rngD hd
    rintro ρ μ (⟨rfl, rfl⟩ | ⟨_, _, _, _, _, _, rfl, rfl⟩) C hC
    all_goals
      refine ⟨ns, k, k0, by omega, rfl, rfl, fun r => ?_⟩
      refine ⟨r, rfl, rfl, fun a b c hb => ?_⟩
      refine ⟨a, b, c, rfl, rfl, hb, fun a b c t u hb ht hu u0 => ?_⟩
      refine ⟨a, b, c, rfl, rfl, hb, fun a b c t' u' hb ht' hu' u0' => ?_⟩
      walk_at "w"
      refine ⟨t, u, ht, hu, u0, rfl, rfl, ?_⟩
      refine br_ff ?_
      walk_at "w"
      refine ⟨t', u', ht', hu', u0', rfl, rfl, ?_⟩
      refine br_ff ?_
      refine ⟨a, b, c, rfl, rfl, hb, fun a b c m hb hm => ?_⟩
      refine ⟨t, u, t', u', m, ht, hu, u0, ht', hu', u0', sm_w (by decide) hm, rfl, rfl, ?_⟩
      refine br_ff ?_
      refine ⟨t, u, t, u, -1, ht, hu, u0, ht, hu, u0, by unfold sm; decide, rfl, rfl, ?_⟩
      refine br_ff ?_
      exact hC _ _ (.inr ⟨_, _, _, _, _, _, rfl, rfl⟩)
/-! ### the texts are so -/
def N_is_whole : List Str := ["thing"]
def P_is_whole : List Str := ["thing"]
theorem sc_is_whole : FnScope N_is_whole P_is_whole (defScope s_is_whole) := ⟨rfl, rfl, rfl, by decide +kernel, rfl, by decide +kernel, by decide +kernel⟩
theorem k_is_whole : chkSs (T.G [] [] []) N_is_whole (defScope s_is_whole) deepS b_is_whole (defBody s_is_whole) = true := by decide +kernel
theorem t_is_whole : T.stat Γ [] [] [] [] = true := by decide +kernel
def N_shared : List Str := ["one", "other"]
def P_shared : List Str := ["one", "other"]
theorem sc_shared : FnScope N_shared P_shared (defScope s_shared) := ⟨rfl, rfl, rfl, by decide +kernel, rfl, by decide +kernel, by decide +kernel⟩
theorem k_shared : chkSs (T.G [] [] []) N_shared (defScope s_shared) deepS b_shared (defBody s_shared) = true := by decide +kernel
theorem t_shared : T.stat Γ [] [] [] [] = true := by decide +kernel
def N_Turn_init : List Str := ["self", "top", "bottom", "both"]
def P_Turn_init : List Str := ["self", "top", "bottom"]
theorem sc_Turn_init : FnScope N_Turn_init P_Turn_init (defScope s_Turn_init) := ⟨rfl, rfl, rfl, by decide +kernel, rfl, by decide +kernel, by decide +kernel⟩
theorem k_Turn_init : chkSs (T.G [16, 17] [] []) N_Turn_init (defScope s_Turn_init) deepS b_Turn_init (defBody s_Turn_init) = true := by decide +kernel
theorem t_Turn_init : T.stat Γ [] [16, 17] [] [] = true := by decide +kernel
def N_Turn_plus : List Str := ["self", "other"]
def P_Turn_plus : List Str := ["self", "other"]
theorem sc_Turn_plus : FnScope N_Turn_plus P_Turn_plus (defScope s_Turn_plus) := ⟨rfl, rfl, rfl, by decide +kernel, rfl, by decide +kernel, by decide +kernel⟩
theorem k_Turn_plus : chkSs (T.G [19] [(2, 9)] []) N_Turn_plus (defScope s_Turn_plus) deepS b_Turn_plus (defBody s_Turn_plus) = true := by decide +kernel
theorem t_Turn_plus : T.stat Γ [] [19] [(2, 9)] [] = true := by decide +kernel
def N_Turn_minus : List Str := ["self", "other"]
def P_Turn_minus : List Str := ["self", "other"]
theorem sc_Turn_minus : FnScope N_Turn_minus P_Turn_minus (defScope s_Turn_minus) := ⟨rfl, rfl, rfl, by decide +kernel, rfl, by decide +kernel, by decide +kernel⟩
theorem k_Turn_minus : chkSs (T.G [19] [(2, 9)] []) N_Turn_minus (defScope s_Turn_minus) deepS b_Turn_minus (defBody s_Turn_minus) = true := by decide +kernel
theorem t_Turn_minus : T.stat Γ [] [19] [(2, 9)] [] = true := by decide +kernel
def N_Turn_times : List Str := ["self", "many"]
def P_Turn_times : List Str := ["self", "many"]
theorem sc_Turn_times : FnScope N_Turn_times P_Turn_times (defScope s_Turn_times) := ⟨rfl, rfl, rfl, by decide +kernel, rfl, by decide +kernel, by decide +kernel⟩
theorem k_Turn_times : chkSs (T.G [16] [(2, 9)] []) N_Turn_times (defScope s_Turn_times) deepS b_Turn_times (defBody s_Turn_times) = true := by decide +kernel
theorem t_Turn_times : T.stat Γ [] [16] [(2, 9)] [] = true := by decide +kernel
def N_Turn_opposite : List Str := ["self"]
def P_Turn_opposite : List Str := ["self"]
theorem sc_Turn_opposite : FnScope N_Turn_opposite P_Turn_opposite (defScope s_Turn_opposite) := ⟨rfl, rfl, rfl, by decide +kernel, rfl, by decide +kernel, by decide +kernel⟩
theorem k_Turn_opposite : chkSs (T.G [] [(2, 9)] [0]) N_Turn_opposite (defScope s_Turn_opposite) deepS b_Turn_opposite (defBody s_Turn_opposite) = true := by decide +kernel
theorem t_Turn_opposite : T.stat Γ [] [] [(2, 9)] [0] = true := by decide +kernel
def N_check_turn : List Str := ["thing"]
def P_check_turn : List Str := ["thing"]
theorem sc_check_turn : FnScope N_check_turn P_check_turn (defScope s_check_turn) := ⟨rfl, rfl, rfl, by decide +kernel, rfl, by decide +kernel, by decide +kernel⟩
theorem k_check_turn : chkSs (T.G [] [] []) N_check_turn (defScope s_check_turn) deepS b_check_turn (defBody s_check_turn) = true := by decide +kernel
theorem t_check_turn : T.stat Γ [] [] [] [] = true := by decide +kernel
def N_l_cell : List Str := ["_law_script", "_law_k", "_law_state", "_law_cell_here"]
def P_l_cell : List Str := ["_law_script", "_law_k"]
theorem sc_l_cell : FnScope N_l_cell P_l_cell (defScope s_l_cell) := ⟨rfl, rfl, rfl, by decide +kernel, rfl, by decide +kernel, by decide +kernel⟩
theorem k_l_cell : chkSs (T.G [] [] []) N_l_cell (defScope s_l_cell) deepS b_l_cell (defBody s_l_cell) = true := by decide +kernel
theorem t_l_cell : T.stat Γ [] [] [] [] = true := by decide +kernel
def N_l_pool : List Str := ["_law_cell_here", "_law_digits"]
def P_l_pool : List Str := ["_law_cell_here"]
theorem sc_l_pool : FnScope N_l_pool P_l_pool (defScope s_l_pool) := ⟨rfl, rfl, rfl, by decide +kernel, rfl, by decide +kernel, by decide +kernel⟩
theorem k_l_pool : chkSs (T.G [] [] []) N_l_pool (defScope s_l_pool) deepS b_l_pool (defBody s_l_pool) = true := by decide +kernel
theorem t_l_pool : T.stat Γ [] [] [] [] = true := by decide +kernel
def N_l_take : List Str := ["_law_pool_here", "_law_many", "_law_state", "_law_digit"]
def P_l_take : List Str := ["_law_pool_here", "_law_many"]
theorem sc_l_take : FnScope N_l_take P_l_take (defScope s_l_take) := ⟨rfl, rfl, rfl, by decide +kernel, rfl, by decide +kernel, by decide +kernel⟩
theorem k_l_take : chkSs (T.G [] [] []) N_l_take (defScope s_l_take) deepS b_l_take (defBody s_l_take) = true := by decide +kernel
theorem t_l_take : T.stat Γ [] [] [] [] = true := by decide +kernel
def N_l_low : List Str := ["_law_top", "_law_under", "_law_a", "_law_b"]
def P_l_low : List Str := ["_law_top", "_law_under"]
theorem sc_l_low : FnScope N_l_low P_l_low (defScope s_l_low) := ⟨rfl, rfl, rfl, by decide +kernel, rfl, by decide +kernel, by decide +kernel⟩
theorem k_l_low : chkSs (T.G [] [] []) N_l_low (defScope s_l_low) deepS b_l_low (defBody s_l_low) = true := by decide +kernel
theorem t_l_low : T.stat Γ [] [] [] [] = true := by decide +kernel
def N_l_part : List Str := ["_law_top", "_law_under"]
def P_l_part : List Str := ["_law_top", "_law_under"]
theorem sc_l_part : FnScope N_l_part P_l_part (defScope s_l_part) := ⟨rfl, rfl, rfl, by decide +kernel, rfl, by decide +kernel, by decide +kernel⟩
theorem k_l_part : chkSs (T.G [18] [] []) N_l_part (defScope s_l_part) deepS b_l_part (defBody s_l_part) = true := by decide +kernel
theorem t_l_part : T.stat Γ [] [18] [] [] = true := by decide +kernel
def N_l_on : List Str := ["_law_one", "_law_other"]
def P_l_on : List Str := ["_law_one", "_law_other"]
theorem sc_l_on : FnScope N_l_on P_l_on (defScope s_l_on) := ⟨rfl, rfl, rfl, by decide +kernel, rfl, by decide +kernel, by decide +kernel⟩
theorem k_l_on : chkSs (T.G [14] [] []) N_l_on (defScope s_l_on) deepS b_l_on (defBody s_l_on) = true := by decide +kernel
theorem t_l_on : T.stat Γ [] [14] [] [] = true := by decide +kernel
def N_l_off : List Str := ["_law_one", "_law_other"]
def P_l_off : List Str := ["_law_one", "_law_other"]
theorem sc_l_off : FnScope N_l_off P_l_off (defScope s_l_off) := ⟨rfl, rfl, rfl, by decide +kernel, rfl, by decide +kernel, by decide +kernel⟩
theorem k_l_off : chkSs (T.G [14] [] []) N_l_off (defScope s_l_off) deepS b_l_off (defBody s_l_off) = true := by decide +kernel
theorem t_l_off : T.stat Γ [] [14] [] [] = true := by decide +kernel
def N_l_number : List Str := ["_law_pool_here", "_law_way", "_law_found", "_law_turn"]
def P_l_number : List Str := ["_law_pool_here"]
theorem sc_l_number : FnScope N_l_number P_l_number (defScope s_l_number) := ⟨rfl, rfl, rfl, by decide +kernel, rfl, by decide +kernel, by decide +kernel⟩
theorem k_l_number : chkSs (T.G [6] [] []) N_l_number (defScope s_l_number) deepS b_l_number (defBody s_l_number) = true := by decide +kernel
theorem t_l_number : T.stat Γ [] [6] [] [] = true := by decide +kernel
def N_l_whole : List Str := ["_law_thing"]
def P_l_whole : List Str := ["_law_thing"]
theorem sc_l_whole : FnScope N_l_whole P_l_whole (defScope s_l_whole) := ⟨rfl, rfl, rfl, by decide +kernel, rfl, by decide +kernel, by decide +kernel⟩
theorem k_l_whole : chkSs (T.G [] [] []) N_l_whole (defScope s_l_whole) deepS b_l_whole (defBody s_l_whole) = true := by decide +kernel
theorem t_l_whole : T.stat Γ [] [] [] [] = true := by decide +kernel
def N_l_is : List Str := ["_law_found", "_law_due"]
def P_l_is : List Str := ["_law_found", "_law_due"]
theorem sc_l_is : FnScope N_l_is P_l_is (defScope s_l_is) := ⟨rfl, rfl, rfl, by decide +kernel, rfl, by decide +kernel, by decide +kernel⟩
theorem k_l_is : chkSs (T.G [15] [] []) N_l_is (defScope s_l_is) deepS b_l_is (defBody s_l_is) = true := by decide +kernel
theorem t_l_is : T.stat Γ [] [15] [] [] = true := by decide +kernel
def N_l_signed : List Str := ["_law_top", "_law_under"]
def P_l_signed : List Str := ["_law_top", "_law_under"]
theorem sc_l_signed : FnScope N_l_signed P_l_signed (defScope s_l_signed) := ⟨rfl, rfl, rfl, by decide +kernel, rfl, by decide +kernel, by decide +kernel⟩
theorem k_l_signed : chkSs (T.G [14] [] []) N_l_signed (defScope s_l_signed) deepS b_l_signed (defBody s_l_signed) = true := by decide +kernel
theorem t_l_signed : T.stat Γ [] [14] [] [] = true := by decide +kernel
def N_l_two : List Str := ["_law_pool_here", "_law_top", "_law_under"]
def P_l_two : List Str := ["_law_pool_here"]
theorem sc_l_two : FnScope N_l_two P_l_two (defScope s_l_two) := ⟨rfl, rfl, rfl, by decide +kernel, rfl, by decide +kernel, by decide +kernel⟩
theorem k_l_two : chkSs (T.G [5, 6] [] []) N_l_two (defScope s_l_two) deepS b_l_two (defBody s_l_two) = true := by decide +kernel
theorem t_l_two : T.stat Γ [] [5, 6] [] [] = true := by decide +kernel
def N_l_made_right : List Str := ["_law_top", "_law_under", "_law_due"]
def P_l_made_right : List Str := ["_law_top", "_law_under"]
theorem sc_l_made_right : FnScope N_l_made_right P_l_made_right (defScope s_l_made_right) := ⟨rfl, rfl, rfl, by decide +kernel, rfl, by decide +kernel, by decide +kernel⟩
theorem k_l_made_right : chkSs (T.G [7, 8] [(2, 9), (2, 10), (2, 11)] []) N_l_made_right (defScope s_l_made_right) deepS b_l_made_right (defBody s_l_made_right) = true := by decide +kernel
theorem t_l_made_right : T.stat Γ [] [7, 8] [(2, 9), (2, 10), (2, 11)] [] = true := by decide +kernel
def N_l_right : List Str := ["_law_one", "_law_other", "_law_many", "_law_a", "_law_b", "_law_first", "_law_second", "_law_both"]
def P_l_right : List Str := ["_law_one", "_law_other", "_law_many"]
theorem sc_l_right : FnScope N_l_right P_l_right (defScope s_l_right) := ⟨rfl, rfl, rfl, by decide +kernel, rfl, by decide +kernel, by decide +kernel⟩
theorem k_l_right : chkSs (T.G [7, 8, 12, 13, 14] [(2, 9)] [0, 1, 2, 3]) N_l_right (defScope s_l_right) deepS b_l_right (defBody s_l_right) = true := by decide +kernel
theorem t_l_right : T.stat Γ [] [7, 8, 12, 13, 14] [(2, 9)] [0, 1, 2, 3] = true := by decide +kernel
def N_law : List Str := ["_law_script", "_law_k", "_law_pool_here", "_law_one", "_law_other"]
def P_law : List Str := ["_law_script"]
theorem sc_law : FnScope N_law P_law (defScope s_law) := ⟨rfl, rfl, rfl, by decide +kernel, rfl, by decide +kernel, by decide +kernel⟩
theorem k_law : chkSs (T.G [0, 1, 2, 3, 4, 5] [] []) N_law (defScope s_law) deepS b_law (defBody s_law) = true := by decide +kernel
theorem t_law : T.stat Γ [] [0, 1, 2, 3, 4, 5] [] [] = true := by decide +kernel
/-! ### the head -/
def fnL : List He.DefD := [d_is_whole, d_shared, d_Turn_init, d_Turn_plus, d_Turn_minus, d_Turn_times, d_Turn_opposite, d_check_turn, d_l_cell, d_l_pool, d_l_take, d_l_low, d_l_part, d_l_on, d_l_off, d_l_number, d_l_whole, d_l_is, d_l_signed, d_l_two, d_l_made_right, d_l_right, d_law]
def faL : List He.Fa := [.glo "law"]
def loose0 : List PySem.Str := ["_wall", "RoseError", "NoTurn", "is_whole", "shared", "Turn", "check_turn", "_law_cell", "_law_pool", "_law_take", "_law_low", "_law_part", "_law_on", "_law_off", "_law_number", "_law_whole", "_law_is", "_law_signed", "_law_two", "_law_made_right", "_law_right"]
def loose : List PySem.Str := loose0
abbrev R : PySem.W.OpenRow := PySem.W.OpenLaw.row PySem.Challenge.rw_rosenames_k01_turns_reckoned
abbrev hk : PySem.W.Hook := hookZ 5 faL fnL (T.facts Γ)
def ob (s : PySem.W.SharedT) : AlZ := obsZG 5 faL fnL (T.facts Γ) (HandSHeadRun.getT s)
theorem ob_eq (s : PySem.W.SharedT) : ob s = hk.obs s.abs := obsZG_eq (HandSHeadRun.getT_eq s)
theorem run (w : World) : HandSHeadRun.RunEq R (PySem.W.view R.prog [24]) hk ob 3000 loose w := by
  intro os
  kernel_rfl
theorem methC {P : Program} {w : World} {K : PySem.W.Frag} {mg : Str → Option Value} {base : Heap} {k c s n : Nat} {ks : List Str} (q : Nat × List Src) (e : Γ.meth c s = some q) (h : CallOk P w K mg base Γ (T.Z Γ K) k q.1 n ks q.2) : ∀ f pl, Γ.meth c s = some (f, pl) → CallOk P w K mg base Γ (T.Z Γ K) k f n ks pl := fun f pl e' => by
  rw [e] at e'
  cases e'
  exact h
theorem methN {P : Program} {w : World} {K : PySem.W.Frag} {mg : Str → Option Value} {base : Heap} {k c s n : Nat} {ks : List Str} (e : Γ.meth c s = none) : ∀ f pl, Γ.meth c s = some (f, pl) → CallOk P w K mg base Γ (T.Z Γ K) k f n ks pl := fun f pl e' => by
  rw [e] at e'
  cases e'
theorem mem0 {α : Type} {P : α → Prop} : ∀ s ∈ ([] : List α), P s := fun _ h => nomatch h
theorem memC {α : Type} {P : α → Prop} {a : α} {l : List α} (h : P a) (t : ∀ s ∈ l, P s) : ∀ s ∈ a :: l, P s := List.forall_mem_cons.mpr ⟨h, t⟩
section
variable {P : Program} {w : World} {K : PySem.W.Frag} {mg : Str → Option Value} {base h : Heap}
theorem f_is_whole (X : K.In h) (G : h.Ns mainGlobals mg) (c : SaysZ faL fnL (T.facts Γ) K) : FnP P w K mg base Γ (T.Z Γ K) 1 0 [(1, [], [.pos 0])] := by
  obtain ⟨fd, F⟩ := c.d.def_ 0 (d := d_is_whole) rfl
  have Lb : Lib P w K mg base Γ (T.Z Γ K) (T.G [] [] []) 0 := lib_mk X G c.x t_is_whole mem0 mem0 mem0
  exact ⟨fd, P_is_whole, def_ok (f := 0) F sc_is_whole Lb k_is_whole rfl p_is_whole, F.kp, (memC (bind_none F rfl fun _ _ _ _ _ _ us ws h1 h2 => match us, h1, ws, h2 with | [a0], _, [], _ => ⟨[a0], rfl, ⟨rfl, trivial⟩⟩) mem0)⟩
theorem f_shared (X : K.In h) (G : h.Ns mainGlobals mg) (c : SaysZ faL fnL (T.facts Γ) K) : FnP P w K mg base Γ (T.Z Γ K) 1 1 [(2, [], [.pos 0, .pos 1])] := by
  obtain ⟨fd, F⟩ := c.d.def_ 1 (d := d_shared) rfl
  have Lb : Lib P w K mg base Γ (T.Z Γ K) (T.G [] [] []) 0 := lib_mk X G c.x t_shared mem0 mem0 mem0
  exact ⟨fd, P_shared, def_ok (f := 1) F sc_shared Lb k_shared rfl p_shared, F.kp, (memC (bind_none F rfl fun _ _ _ _ _ _ us ws h1 h2 => match us, h1, ws, h2 with | [a0, a1], _, [], _ => ⟨[a0, a1], rfl, ⟨rfl, rfl, trivial⟩⟩) mem0)⟩
theorem f_check_turn (X : K.In h) (G : h.Ns mainGlobals mg) (c : SaysZ faL fnL (T.facts Γ) K) : FnP P w K mg base Γ (T.Z Γ K) 1 22 [(1, [], [.pos 0])] := by
  obtain ⟨fd, F⟩ := c.d.def_ 7 (d := d_check_turn) rfl
  have Lb : Lib P w K mg base Γ (T.Z Γ K) (T.G [] [] []) 0 := lib_mk X G c.x t_check_turn mem0 mem0 mem0
  exact ⟨fd, P_check_turn, def_ok (f := 22) F sc_check_turn Lb k_check_turn rfl p_check_turn, F.kp, (memC (bind_none F rfl fun _ _ _ _ _ _ us ws h1 h2 => match us, h1, ws, h2 with | [a0], _, [], _ => ⟨[a0], rfl, ⟨rfl, trivial⟩⟩) mem0)⟩
theorem f_l_cell (X : K.In h) (G : h.Ns mainGlobals mg) (c : SaysZ faL fnL (T.facts Γ) K) : FnP P w K mg base Γ (T.Z Γ K) 1 3 [(2, [], [.pos 0, .pos 1])] := by
  obtain ⟨fd, F⟩ := c.d.def_ 8 (d := d_l_cell) rfl
  have Lb : Lib P w K mg base Γ (T.Z Γ K) (T.G [] [] []) 0 := lib_mk X G c.x t_l_cell mem0 mem0 mem0
  exact ⟨fd, P_l_cell, def_ok (f := 3) F sc_l_cell Lb k_l_cell rfl p_l_cell, F.kp, (memC (bind_none F rfl fun _ _ _ _ _ _ us ws h1 h2 => match us, h1, ws, h2 with | [a0, a1], _, [], _ => ⟨[a0, a1], rfl, ⟨rfl, rfl, trivial⟩⟩) mem0)⟩
theorem f_l_pool (X : K.In h) (G : h.Ns mainGlobals mg) (c : SaysZ faL fnL (T.facts Γ) K) : FnP P w K mg base Γ (T.Z Γ K) 1 4 [(1, [], [.pos 0])] := by
  obtain ⟨fd, F⟩ := c.d.def_ 9 (d := d_l_pool) rfl
  have Lb : Lib P w K mg base Γ (T.Z Γ K) (T.G [] [] []) 0 := lib_mk X G c.x t_l_pool mem0 mem0 mem0
  exact ⟨fd, P_l_pool, def_ok (f := 4) F sc_l_pool Lb k_l_pool rfl p_l_pool, F.kp, (memC (bind_none F rfl fun _ _ _ _ _ _ us ws h1 h2 => match us, h1, ws, h2 with | [a0], _, [], _ => ⟨[a0], rfl, ⟨rfl, trivial⟩⟩) mem0)⟩
theorem f_l_take (X : K.In h) (G : h.Ns mainGlobals mg) (c : SaysZ faL fnL (T.facts Γ) K) : FnP P w K mg base Γ (T.Z Γ K) 1 5 [(2, [], [.pos 0, .pos 1])] := by
  obtain ⟨fd, F⟩ := c.d.def_ 10 (d := d_l_take) rfl
  have Lb : Lib P w K mg base Γ (T.Z Γ K) (T.G [] [] []) 0 := lib_mk X G c.x t_l_take mem0 mem0 mem0
  exact ⟨fd, P_l_take, def_ok (f := 5) F sc_l_take Lb k_l_take rfl p_l_take, F.kp, (memC (bind_none F rfl fun _ _ _ _ _ _ us ws h1 h2 => match us, h1, ws, h2 with | [a0, a1], _, [], _ => ⟨[a0, a1], rfl, ⟨rfl, rfl, trivial⟩⟩) mem0)⟩
theorem f_l_low (X : K.In h) (G : h.Ns mainGlobals mg) (c : SaysZ faL fnL (T.facts Γ) K) : FnP P w K mg base Γ (T.Z Γ K) 1 6 [(2, [], [.pos 0, .pos 1])] := by
  obtain ⟨fd, F⟩ := c.d.def_ 11 (d := d_l_low) rfl
  have Lb : Lib P w K mg base Γ (T.Z Γ K) (T.G [] [] []) 0 := lib_mk X G c.x t_l_low mem0 mem0 mem0
  exact ⟨fd, P_l_low, def_ok (f := 6) F sc_l_low Lb k_l_low rfl p_l_low, F.kp, (memC (bind_none F rfl fun _ _ _ _ _ _ us ws h1 h2 => match us, h1, ws, h2 with | [a0, a1], _, [], _ => ⟨[a0, a1], rfl, ⟨rfl, rfl, trivial⟩⟩) mem0)⟩
theorem f_l_whole (X : K.In h) (G : h.Ns mainGlobals mg) (c : SaysZ faL fnL (T.facts Γ) K) : FnP P w K mg base Γ (T.Z Γ K) 1 11 [(1, [], [.pos 0])] := by
  obtain ⟨fd, F⟩ := c.d.def_ 16 (d := d_l_whole) rfl
  have Lb : Lib P w K mg base Γ (T.Z Γ K) (T.G [] [] []) 0 := lib_mk X G c.x t_l_whole mem0 mem0 mem0
  exact ⟨fd, P_l_whole, def_ok (f := 11) F sc_l_whole Lb k_l_whole rfl p_l_whole, F.kp, (memC (bind_none F rfl fun _ _ _ _ _ _ us ws h1 h2 => match us, h1, ws, h2 with | [a0], _, [], _ => ⟨[a0], rfl, ⟨rfl, trivial⟩⟩) mem0)⟩
theorem f_Turn_init (X : K.In h) (G : h.Ns mainGlobals mg) (c : SaysZ faL fnL (T.facts Γ) K) : FnP P w K mg base Γ (T.Z Γ K) 2 2 [(3, [], [.pos 0, .pos 1, .pos 2]), (2, ["bottom"], [.pos 0, .pos 1, .kw 0]), (2, [], [.pos 0, .pos 1, .dfl (.int 1)])] := by
  obtain ⟨fd, F⟩ := c.d.def_ 2 (d := d_Turn_init) rfl
  have Lb : Lib P w K mg base Γ (T.Z Γ K) (T.G [16, 17] [] []) 1 := lib_mk X G c.x t_Turn_init (memC (FnP.call (f_is_whole X G c) (by decide) (.head _)) (memC (FnP.call (f_shared X G c) (by decide) (.head _)) mem0)) mem0 mem0
  exact ⟨fd, P_Turn_init, def_ok (f := 2) F sc_Turn_init Lb k_Turn_init rfl p_Turn_init, F.kp, (memC (bind_dfl F (by intro z; cases z) rfl fun _ _ _ _ _ _ _ us its ws h1 h2 hv => match us, h1, ws, h2, its, hv with | [a0, a1, a2], _, [], _, [c0], (.cons r0 .nil) => ⟨_, [a0, a1, a2], rfl, rfl, ⟨rfl, rfl, rfl, trivial⟩⟩) (memC (bind_dfl F (by intro z; cases z) rfl fun _ _ _ _ _ _ _ us its ws h1 h2 hv => match us, h1, ws, h2, its, hv with | [a0, a1], _, [b0], _, [c0], (.cons r0 .nil) => ⟨_, [a0, a1, b0], rfl, rfl, ⟨rfl, rfl, rfl, trivial⟩⟩) (memC (bind_dfl F (by intro z; cases z) rfl fun _ _ _ _ _ _ _ us its ws h1 h2 hv => match us, h1, ws, h2, its, hv with | [a0, a1], _, [], _, [c0], (.cons r0 .nil) => ⟨_, [a0, a1, c0], rfl, rfl, ⟨rfl, rfl, ⟨.inr (.inr (.inl ⟨_, rfl⟩)), r0⟩, trivial⟩⟩) mem0)))⟩
theorem f_l_part (X : K.In h) (G : h.Ns mainGlobals mg) (c : SaysZ faL fnL (T.facts Γ) K) : FnP P w K mg base Γ (T.Z Γ K) 2 7 [(2, [], [.pos 0, .pos 1])] := by
  obtain ⟨fd, F⟩ := c.d.def_ 12 (d := d_l_part) rfl
  have Lb : Lib P w K mg base Γ (T.Z Γ K) (T.G [18] [] []) 1 := lib_mk X G c.x t_l_part (memC (FnP.call (f_l_low X G c) (by decide) (.head _)) mem0) mem0 mem0
  exact ⟨fd, P_l_part, def_ok (f := 7) F sc_l_part Lb k_l_part rfl p_l_part, F.kp, (memC (bind_none F rfl fun _ _ _ _ _ _ us ws h1 h2 => match us, h1, ws, h2 with | [a0, a1], _, [], _ => ⟨[a0, a1], rfl, ⟨rfl, rfl, trivial⟩⟩) mem0)⟩
theorem f_l_number (X : K.In h) (G : h.Ns mainGlobals mg) (c : SaysZ faL fnL (T.facts Γ) K) : FnP P w K mg base Γ (T.Z Γ K) 2 10 [(1, [], [.pos 0])] := by
  obtain ⟨fd, F⟩ := c.d.def_ 15 (d := d_l_number) rfl
  have Lb : Lib P w K mg base Γ (T.Z Γ K) (T.G [6] [] []) 1 := lib_mk X G c.x t_l_number (memC (FnP.call (f_l_take X G c) (by decide) (.head _)) mem0) mem0 mem0
  exact ⟨fd, P_l_number, def_ok (f := 10) F sc_l_number Lb k_l_number rfl p_l_number, F.kp, (memC (bind_none F rfl fun _ _ _ _ _ _ us ws h1 h2 => match us, h1, ws, h2 with | [a0], _, [], _ => ⟨[a0], rfl, ⟨rfl, trivial⟩⟩) mem0)⟩
theorem f_l_is (X : K.In h) (G : h.Ns mainGlobals mg) (c : SaysZ faL fnL (T.facts Γ) K) : FnP P w K mg base Γ (T.Z Γ K) 2 12 [(2, [], [.pos 0, .pos 1])] := by
  obtain ⟨fd, F⟩ := c.d.def_ 17 (d := d_l_is) rfl
  have Lb : Lib P w K mg base Γ (T.Z Γ K) (T.G [15] [] []) 1 := lib_mk X G c.x t_l_is (memC (FnP.call (f_l_whole X G c) (by decide) (.head _)) mem0) mem0 mem0
  exact ⟨fd, P_l_is, def_ok (f := 12) F sc_l_is Lb k_l_is rfl p_l_is, F.kp, (memC (bind_none F rfl fun _ _ _ _ _ _ us ws h1 h2 => match us, h1, ws, h2 with | [a0, a1], _, [], _ => ⟨[a0, a1], rfl, ⟨rfl, rfl, trivial⟩⟩) mem0)⟩
theorem f_l_on (X : K.In h) (G : h.Ns mainGlobals mg) (c : SaysZ faL fnL (T.facts Γ) K) : FnP P w K mg base Γ (T.Z Γ K) 3 8 [(2, [], [.pos 0, .pos 1])] := by
  obtain ⟨fd, F⟩ := c.d.def_ 13 (d := d_l_on) rfl
  have Lb : Lib P w K mg base Γ (T.Z Γ K) (T.G [14] [] []) 2 := lib_mk X G c.x t_l_on (memC (FnP.call (f_l_part X G c) (by decide) (.head _)) mem0) mem0 mem0
  exact ⟨fd, P_l_on, def_ok (f := 8) F sc_l_on Lb k_l_on rfl p_l_on, F.kp, (memC (bind_none F rfl fun _ _ _ _ _ _ us ws h1 h2 => match us, h1, ws, h2 with | [a0, a1], _, [], _ => ⟨[a0, a1], rfl, ⟨rfl, rfl, trivial⟩⟩) mem0)⟩
theorem f_l_off (X : K.In h) (G : h.Ns mainGlobals mg) (c : SaysZ faL fnL (T.facts Γ) K) : FnP P w K mg base Γ (T.Z Γ K) 3 9 [(2, [], [.pos 0, .pos 1])] := by
  obtain ⟨fd, F⟩ := c.d.def_ 14 (d := d_l_off) rfl
  have Lb : Lib P w K mg base Γ (T.Z Γ K) (T.G [14] [] []) 2 := lib_mk X G c.x t_l_off (memC (FnP.call (f_l_part X G c) (by decide) (.head _)) mem0) mem0 mem0
  exact ⟨fd, P_l_off, def_ok (f := 9) F sc_l_off Lb k_l_off rfl p_l_off, F.kp, (memC (bind_none F rfl fun _ _ _ _ _ _ us ws h1 h2 => match us, h1, ws, h2 with | [a0, a1], _, [], _ => ⟨[a0, a1], rfl, ⟨rfl, rfl, trivial⟩⟩) mem0)⟩
theorem f_l_signed (X : K.In h) (G : h.Ns mainGlobals mg) (c : SaysZ faL fnL (T.facts Γ) K) : FnP P w K mg base Γ (T.Z Γ K) 3 13 [(2, [], [.pos 0, .pos 1])] := by
  obtain ⟨fd, F⟩ := c.d.def_ 18 (d := d_l_signed) rfl
  have Lb : Lib P w K mg base Γ (T.Z Γ K) (T.G [14] [] []) 2 := lib_mk X G c.x t_l_signed (memC (FnP.call (f_l_part X G c) (by decide) (.head _)) mem0) mem0 mem0
  exact ⟨fd, P_l_signed, def_ok (f := 13) F sc_l_signed Lb k_l_signed rfl p_l_signed, F.kp, (memC (bind_none F rfl fun _ _ _ _ _ _ us ws h1 h2 => match us, h1, ws, h2 with | [a0, a1], _, [], _ => ⟨[a0, a1], rfl, ⟨rfl, rfl, trivial⟩⟩) mem0)⟩
theorem f_l_two (X : K.In h) (G : h.Ns mainGlobals mg) (c : SaysZ faL fnL (T.facts Γ) K) : FnP P w K mg base Γ (T.Z Γ K) 3 14 [(1, [], [.pos 0])] := by
  obtain ⟨fd, F⟩ := c.d.def_ 19 (d := d_l_two) rfl
  have Lb : Lib P w K mg base Γ (T.Z Γ K) (T.G [5, 6] [] []) 2 := lib_mk X G c.x t_l_two (memC (FnP.call (f_l_number X G c) (by decide) (.head _)) (memC (FnP.call (f_l_take X G c) (by decide) (.head _)) mem0)) mem0 mem0
  exact ⟨fd, P_l_two, def_ok (f := 14) F sc_l_two Lb k_l_two rfl p_l_two, F.kp, (memC (bind_none F rfl fun _ _ _ _ _ _ us ws h1 h2 => match us, h1, ws, h2 with | [a0], _, [], _ => ⟨[a0], rfl, ⟨rfl, trivial⟩⟩) mem0)⟩
theorem f_Turn_plus (X : K.In h) (G : h.Ns mainGlobals mg) (c : SaysZ faL fnL (T.facts Γ) K) : FnP P w K mg base Γ (T.Z Γ K) 4 18 [(2, [], [.pos 0, .pos 1])] := by
  obtain ⟨fd, F⟩ := c.d.def_ 3 (d := d_Turn_plus) rfl
  have Lb : Lib P w K mg base Γ (T.Z Γ K) (T.G [19] [(2, 9)] []) 3 := lib_mk X G c.x t_Turn_plus (memC (FnP.call (f_check_turn X G c) (by decide) (.head _)) mem0) (memC ⟨2, by decide, (FnP.call (f_Turn_init X G c) (by decide) (.head _))⟩ mem0) mem0
  exact ⟨fd, P_Turn_plus, def_ok (f := 18) F sc_Turn_plus Lb k_Turn_plus rfl p_Turn_plus, F.kp, (memC (bind_none F rfl fun _ _ _ _ _ _ us ws h1 h2 => match us, h1, ws, h2 with | [a0, a1], _, [], _ => ⟨[a0, a1], rfl, ⟨rfl, rfl, trivial⟩⟩) mem0)⟩
theorem f_Turn_minus (X : K.In h) (G : h.Ns mainGlobals mg) (c : SaysZ faL fnL (T.facts Γ) K) : FnP P w K mg base Γ (T.Z Γ K) 4 19 [(2, [], [.pos 0, .pos 1])] := by
  obtain ⟨fd, F⟩ := c.d.def_ 4 (d := d_Turn_minus) rfl
  have Lb : Lib P w K mg base Γ (T.Z Γ K) (T.G [19] [(2, 9)] []) 3 := lib_mk X G c.x t_Turn_minus (memC (FnP.call (f_check_turn X G c) (by decide) (.head _)) mem0) (memC ⟨2, by decide, (FnP.call (f_Turn_init X G c) (by decide) (.head _))⟩ mem0) mem0
  exact ⟨fd, P_Turn_minus, def_ok (f := 19) F sc_Turn_minus Lb k_Turn_minus rfl p_Turn_minus, F.kp, (memC (bind_none F rfl fun _ _ _ _ _ _ us ws h1 h2 => match us, h1, ws, h2 with | [a0, a1], _, [], _ => ⟨[a0, a1], rfl, ⟨rfl, rfl, trivial⟩⟩) mem0)⟩
theorem f_Turn_times (X : K.In h) (G : h.Ns mainGlobals mg) (c : SaysZ faL fnL (T.facts Γ) K) : FnP P w K mg base Γ (T.Z Γ K) 4 20 [(2, [], [.pos 0, .pos 1])] := by
  obtain ⟨fd, F⟩ := c.d.def_ 5 (d := d_Turn_times) rfl
  have Lb : Lib P w K mg base Γ (T.Z Γ K) (T.G [16] [(2, 9)] []) 3 := lib_mk X G c.x t_Turn_times (memC (FnP.call (f_is_whole X G c) (by decide) (.head _)) mem0) (memC ⟨2, by decide, (FnP.call (f_Turn_init X G c) (by decide) (.head _))⟩ mem0) mem0
  exact ⟨fd, P_Turn_times, def_ok (f := 20) F sc_Turn_times Lb k_Turn_times rfl p_Turn_times, F.kp, (memC (bind_none F rfl fun _ _ _ _ _ _ us ws h1 h2 => match us, h1, ws, h2 with | [a0, a1], _, [], _ => ⟨[a0, a1], rfl, ⟨rfl, rfl, trivial⟩⟩) mem0)⟩
theorem f_l_made_right (X : K.In h) (G : h.Ns mainGlobals mg) (c : SaysZ faL fnL (T.facts Γ) K) : FnP P w K mg base Γ (T.Z Γ K) 4 15 [(2, [], [.pos 0, .pos 1])] := by
  obtain ⟨fd, F⟩ := c.d.def_ 20 (d := d_l_made_right) rfl
  have Lb : Lib P w K mg base Γ (T.Z Γ K) (T.G [7, 8] [(2, 9), (2, 10), (2, 11)] []) 3 := lib_mk X G c.x t_l_made_right (memC (FnP.call (f_l_signed X G c) (by decide) (.head _)) (memC (FnP.call (f_l_is X G c) (by decide) (.head _)) mem0)) (memC ⟨2, by decide, (FnP.call (f_Turn_init X G c) (by decide) (.head _))⟩ (memC ⟨2, by decide, (FnP.call (f_Turn_init X G c) (by decide) (.tail _ (.head _)))⟩ (memC ⟨2, by decide, (FnP.call (f_Turn_init X G c) (by decide) (.tail _ (.tail _ (.head _))))⟩ mem0))) mem0
  exact ⟨fd, P_l_made_right, def_ok (f := 15) F sc_l_made_right Lb k_l_made_right rfl p_l_made_right, F.kp, (memC (bind_none F rfl fun _ _ _ _ _ _ us ws h1 h2 => match us, h1, ws, h2 with | [a0, a1], _, [], _ => ⟨[a0, a1], rfl, ⟨rfl, rfl, trivial⟩⟩) mem0)⟩
theorem f_Turn_opposite (X : K.In h) (G : h.Ns mainGlobals mg) (c : SaysZ faL fnL (T.facts Γ) K) : FnP P w K mg base Γ (T.Z Γ K) 5 21 [(1, [], [.pos 0])] := by
  obtain ⟨fd, F⟩ := c.d.def_ 6 (d := d_Turn_opposite) rfl
  have Lb : Lib P w K mg base Γ (T.Z Γ K) (T.G [] [(2, 9)] [0]) 4 := lib_mk X G c.x t_Turn_opposite mem0 (memC ⟨2, by decide, (FnP.call (f_Turn_init X G c) (by decide) (.head _))⟩ mem0) (memC (memC (methC (18, [.pos 0, .pos 1]) rfl (FnP.call (f_Turn_plus X G c) (by decide) (.head _))) mem0) mem0)
  exact ⟨fd, P_Turn_opposite, def_ok (f := 21) F sc_Turn_opposite Lb k_Turn_opposite rfl p_Turn_opposite, F.kp, (memC (bind_none F rfl fun _ _ _ _ _ _ us ws h1 h2 => match us, h1, ws, h2 with | [a0], _, [], _ => ⟨[a0], rfl, ⟨rfl, trivial⟩⟩) mem0)⟩
theorem f_l_right (X : K.In h) (G : h.Ns mainGlobals mg) (c : SaysZ faL fnL (T.facts Γ) K) : FnP P w K mg base Γ (T.Z Γ K) 6 16 [(3, [], [.pos 0, .pos 1, .pos 2])] := by
  obtain ⟨fd, F⟩ := c.d.def_ 21 (d := d_l_right) rfl
  have Lb : Lib P w K mg base Γ (T.Z Γ K) (T.G [7, 8, 12, 13, 14] [(2, 9)] [0, 1, 2, 3]) 5 := lib_mk X G c.x t_l_right (memC (FnP.call (f_l_signed X G c) (by decide) (.head _)) (memC (FnP.call (f_l_is X G c) (by decide) (.head _)) (memC (FnP.call (f_l_on X G c) (by decide) (.head _)) (memC (FnP.call (f_l_off X G c) (by decide) (.head _)) (memC (FnP.call (f_l_part X G c) (by decide) (.head _)) mem0))))) (memC ⟨2, by decide, (FnP.call (f_Turn_init X G c) (by decide) (.head _))⟩ mem0) (memC (memC (methC (18, [.pos 0, .pos 1]) rfl (FnP.call (f_Turn_plus X G c) (by decide) (.head _))) mem0) (memC (memC (methC (19, [.pos 0, .pos 1]) rfl (FnP.call (f_Turn_minus X G c) (by decide) (.head _))) mem0) (memC (memC (methC (20, [.pos 0, .pos 1]) rfl (FnP.call (f_Turn_times X G c) (by decide) (.head _))) mem0) (memC (memC (methC (21, [.pos 0]) rfl (FnP.call (f_Turn_opposite X G c) (by decide) (.head _))) mem0) mem0))))
  exact ⟨fd, P_l_right, def_ok (f := 16) F sc_l_right Lb k_l_right rfl p_l_right, F.kp, (memC (bind_none F rfl fun _ _ _ _ _ _ us ws h1 h2 => match us, h1, ws, h2 with | [a0, a1, a2], _, [], _ => ⟨[a0, a1, a2], rfl, ⟨rfl, rfl, rfl, trivial⟩⟩) mem0)⟩
theorem f_law (X : K.In h) (G : h.Ns mainGlobals mg) (c : SaysZ faL fnL (T.facts Γ) K) {f : Addr} {fd : FuncData} (F : FunD K d_law.name d_law.qual d_law.params d_law.body d_law.scope (d_law.dvs K) (d_law.kws K) ((T.Z Γ K).fA 17) fd) : FnOk P w K mg base (L2.CX P w) 7 ((T.Z Γ K).fA 17) fd P_law (spV (T.Z Γ K) 1 spLawD) := by
  have Lb : Lib P w K mg base Γ (T.Z Γ K) (T.G [0, 1, 2, 3, 4, 5] [] []) 6 := lib_mk X G c.x t_law (memC (FnP.call (f_l_pool X G c) (by decide) (.head _)) (memC (FnP.call (f_l_cell X G c) (by decide) (.head _)) (memC (FnP.call (f_l_two X G c) (by decide) (.head _)) (memC (FnP.call (f_l_made_right X G c) (by decide) (.head _)) (memC (FnP.call (f_l_right X G c) (by decide) (.head _)) (memC (FnP.call (f_l_number X G c) (by decide) (.head _)) mem0)))))) mem0 mem0
  exact def_ok (f := 17) F sc_law Lb k_law rfl p_law
end
theorem facts {P : Program} {w : World} {K : PySem.W.Frag} {h : Heap} {mg : Str → Option Value} {f : Addr} (X : K.In h) (G : h.Ns mainGlobals mg) (hfa : mg ("law" : Str) = some (.ref f)) (c : SaysZ faL fnL (T.facts Γ) K) :
    ∃ fd : FuncData, (∀ (s : Shared) (v : Value), BindsTo s fd ⟨[v], []⟩ [("_law_script", v)]) ∧ ∀ base : Heap, K.In base → base.Ns mainGlobals mg → FnOk P w K mg base (L2.CX P w) 7 f fd ["_law_script"] (spV (T.Z Γ K) 1 spLawD) := by
  obtain ⟨fd, F⟩ := c.d.def_ 22 (d := d_law) rfl
  have e := hfa.symm.trans (He.glo_ok X G (c.d.fact 0 (f := .glo "law") rfl))
  cases e
  have b := FunD.bindsA (ps := ["_law_script"]) F fun _ _ _ _ _ _ us hl => match us, hl with | [_], _ => rfl
  exact ⟨fd, fun s v => b s [v] rfl, fun base _ _ => f_law X G c F (f := 0)⟩
end Hd
open PySem PySem.W PySem.Calls PyProof.Rows
theorem PySem.Challenge.cw_rosenames_k01_turns_reckoned_holds : PySem.Challenge.rw_rosenames_k01_turns_reckoned.Holds := by
  w_on; o_law
  refine HandSHeadRun.head_any (r := OpenLaw.row PySem.Challenge.rw_rosenames_k01_turns_reckoned) (q := view (OpenLaw.row PySem.Challenge.rw_rosenames_k01_turns_reckoned).prog [24]) (H := Hd.hk) (ob := Hd.ob) (M := 3000) (loose := Hd.loose) (d := HandSHeadRun.topDef (OpenLaw.row PySem.Challenge.rw_rosenames_k01_turns_reckoned).prog 24) (kwd := []) Hd.ob_eq
    (by kernel_rfl) (fun s => by kernel_rfl) Hd.run (by kernel_rfl) (by kernel_rfl) (by kernel_rfl) (by rfl) (by first | assumption | decide +kernel) (by decide +kernel) ⟨rfl, rfl, rfl, rfl, rfl, by decide +kernel⟩ ?hw ?hc
  case hw => w_witness2
  case hc =>
    refine DL.law_end (l := PySem.Challenge.rw_rosenames_k01_turns_reckoned) (k := 7) rfl (by kernel_rfl) ⟨rfl, by decide, by decide⟩ ?F
    intro w mg fa h Y G hmg0
    obtain ⟨K, KX, c⟩ := Y
    have hmg : mg ("law" : PySem.Str) = some (.ref fa) := by
      have e : (HandSHeadRun.topDef (OpenLaw.row PySem.Challenge.rw_rosenames_k01_turns_reckoned).prog 24).name = ("law" : PySem.Str) := by kernel_rfl
      rw [← e]
      exact hmg0
    obtain ⟨fd, hb, hF⟩ := Hd.facts (P := (PySem.Challenge.rw_rosenames_k01_turns_reckoned).prog) (w := w) KX G hmg c
    exact ⟨K, fd, Hd.Γ, Hd.T, KX, hb, hF⟩
