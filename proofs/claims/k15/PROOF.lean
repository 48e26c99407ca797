import PyProof.Rows.All
import Wide.All
import OpenK.AllK
import Wide.FinOn
import HandS.ForMost
import HandS.Flow
import HandS.Wide
import HandS.IsInst
import HandS.SetFor
import HandS.More
import HandS.Zip
import HandS.Style
import HandS.Deep
import HandS.ForExc
import HandS.ExcIs
import HandS.SetKeys
import HandS.Conv
import HandS.SortInts
import PySem.Challenge.RW_twoalone_k15_whole_the_line_of_places
set_option Elab.async false
set_option linter.all false
set_option maxRecDepth 100000
set_option maxHeartbeats 4000000
namespace DL
open PySem L2

inductive D where
  | non | bl (b : Bool) | int (i : Int) | str (x : Str) | opq (v : V)
  | tup (xs : List D) | lst (xs : List D) | frl (xs : List D) | frt (xs : List D)
  | dt (kvs : List (List Key × D)) | dk (kvs : List (Key × D)) | obj (c : Str) (fs : List (Str × D))
  deriving Inhabited
/-- p: read alone, perhaps shared; o: a thing of the def's own, what stands in it is read alone; b: such a one lent by the caller, may be changed; t: a thing of the def's own with all that stands in it; u: such a one, lent -/
inductive Fl where | p | o | b | t | u deriving DecidableEq
def Fl.sh : Fl → Bool | .o => true | .b => true | _ => false
def Fl.own : Fl → Bool | .o => true | .t => true | _ => false
def Fl.lent : Fl → Bool | .b => true | .u => true | _ => false
structure SV where
  fl : Fl
  d : D
abbrev En := List (Option SV)
structure Xc where
  cls : Value
  fs : List (Str × D)
inductive R (α : Type) where
  | ok (a : α) (e : En)
  | exc (x : Xc) (e : En)
  | stuck

def KT (K : PySem.W.Frag) (a : Addr) (xs : List V) : Prop := ∃ (o : Obj) (its : Array Value) (n : Nat), K.lookup a = some o ∧ o.cls = .type "tuple" ∧ o.data = .seq its n ∧ its.size ≤ sizeLine ∧ Vals xs its.toList
def KL (K : PySem.W.Frag) (a : Addr) (xs : List V) : Prop := ∃ (o : Obj) (its : Array Value) (n : Nat), K.lookup a = some o ∧ o.cls = .type "list" ∧ o.dict = none ∧ o.data = .seq its n ∧ its.size ≤ sizeLine ∧ Vals xs its.toList
def SqTA (K : PySem.W.Frag) (H : Hp) (A : List Addr) (a : Addr) (xs : List V) : Prop := a ∉ A ∧ H a = some (.tup xs)
def SqLA (K : PySem.W.Frag) (H : Hp) (A : List Addr) (a : Addr) (xs : List V) : Prop := (a ∉ A ∧ Rd H a (.lst xs)) ∨ KL K a xs
theorem SqTA.sq {K : PySem.W.Frag} {H : Hp} {A : List Addr} {a : Addr} {xs : List V} (h : SqTA K H A a xs) : SqT K H a xs := .inl (.inl h.2)
theorem SqLA.sq {K : PySem.W.Frag} {H : Hp} {A : List Addr} {a : Addr} {xs : List V} (h : SqLA K H A a xs) : SqL K H a xs := h.elim (fun h => .inl h.2) .inr
mutual
inductive Rp (K : PySem.W.Frag) (H : Hp) (A : List Addr) : V → D → Prop
  | non : Rp K H A .non .non
  | bl (b : Bool) : Rp K H A (.bl b) (.bl b)
  | int (i : Int) : Rp K H A (.int i) (.int i)
  | str (x : Str) : Rp K H A (.str x) (.str x)
  | opq (v : V) : Rp K H A v (.opq v)
  | tup {a : Addr} {xs : List V} {ds : List D} : SqTA K H A a xs → RpL K H A xs ds → Rp K H A (.ref a) (.tup ds)
  | lst {a : Addr} {xs : List V} {ds : List D} : a ∉ A → H a = some (.lst xs) → RpL K H A xs ds → Rp K H A (.ref a) (.lst ds)
  | frl {a : Addr} {xs : List V} {ds : List D} : SqLA K H A a xs → RpL K H A xs ds → Rp K H A (.ref a) (.frl ds)
  | frt {a : Addr} {xs : List V} {ds : List D} : KT K a xs → RpL K H A xs ds → Rp K H A (.ref a) (.frt ds)
  | dt {a : Addr} {kvs : List (List Key × V)} {es : List (List Key × D)} : a ∉ A → Rd H a (.dT kvs) → RpK K H A kvs es → Rp K H A (.ref a) (.dt es)
  | dk {a : Addr} {kvs : List (Key × V)} {es : List (Key × D)} : a ∉ A → Rd H a (.dK kvs) → RpK K H A kvs es → Rp K H A (.ref a) (.dk es)
  | obj {a C dx : Addr} {c : Str} {vs : List (Str × V)} {fs : List (Str × D)} : PySem.W.nsIn K mainGlobals c = some (some (.ref C)) → a ∉ A → dx ∉ A → H a = some (.ins C dx vs) → H dx = some (.own a) → RpK K H A vs fs → Rp K H A (.ref a) (.obj c fs)
inductive RpL (K : PySem.W.Frag) (H : Hp) (A : List Addr) : List V → List D → Prop
  | nil : RpL K H A [] []
  | cons {v : V} {vs : List V} {d : D} {ds : List D} : Rp K H A v d → RpL K H A vs ds → RpL K H A (v :: vs) (d :: ds)
inductive RpK (K : PySem.W.Frag) (H : Hp) (A : List Addr) : {κ : Type} → List (κ × V) → List (κ × D) → Prop
  | nil {κ : Type} : RpK K H A (κ := κ) [] []
  | cons {κ : Type} {k : κ} {v : V} {d : D} {vs : List (κ × V)} {ds : List (κ × D)} : Rp K H A v d → RpK K H A vs ds → RpK K H A ((k, v) :: vs) ((k, d) :: ds)
end
section
variable {K : PySem.W.Frag} {H H' : Hp} {A A' : List Addr}
theorem SqTA.mono (hp : ∀ a o, a ∉ A → H a = some o → H' a = some o) (hg : ∀ a, a ∈ A' → a ∈ A ∨ H a = none) {a : Addr} {xs : List V} (h : SqTA K H A a xs) : SqTA K H' A' a xs :=
  ⟨fun z => (hg a z).elim h.1 (fun e => absurd (h.2.symm.trans e) (by simp)), hp a _ h.1 h.2⟩
theorem SqLA.mono (hp : ∀ a o, a ∉ A → H a = some o → H' a = some o) (hg : ∀ a, a ∈ A' → a ∈ A ∨ H a = none) {a : Addr} {xs : List V} (h : SqLA K H A a xs) : SqLA K H' A' a xs := by
  rcases h with ⟨n, h⟩ | h
  · have key : ∀ o, H a = some o → a ∉ A' := fun o e z => by
      rcases hg a z with z | z
      · exact n z
      · rw [z] at e; cases e
    rcases h with h | ⟨o, h⟩
    · exact .inl ⟨key _ h, .inl (hp a _ n h)⟩
    · exact .inl ⟨key _ h, .inr ⟨o, hp a _ n h⟩⟩
  · exact .inr h
theorem not_grown {B B' : List Addr} {H H' : Hp} (hg : ∀ a, a ∈ B' → a ∈ B ∨ H a = none) {a : Addr} {o : HO} (n : a ∉ B) (h : H a = some o) : a ∉ B' := fun z => (hg a z).elim n fun e => by rw [e] at h; cases h
theorem rd_some {a : Addr} {u : HO} (h : Rd H a u) : ∃ o, H a = some o := by
  rcases h with h | ⟨o, h⟩
  · exact ⟨_, h⟩
  · exact ⟨_, h⟩
theorem rd_mono {a : Addr} {u : HO} (hp : ∀ o, H a = some o → H' a = some o) (h : Rd H a u) : Rd H' a u := by
  rcases h with h | ⟨o, h⟩
  · exact .inl (hp _ h)
  · exact .inr ⟨o, hp _ h⟩
mutual
theorem Rp.mono (hp : ∀ a o, a ∉ A → H a = some o → H' a = some o) (hg : ∀ a, a ∈ A' → a ∈ A ∨ H a = none) : ∀ {v : V} {d : D}, Rp K H A v d → Rp K H' A' v d
  | _, _, .non => .non
  | _, _, .bl b => .bl b
  | _, _, .int i => .int i
  | _, _, .str x => .str x
  | _, _, .opq v => .opq v
  | _, _, .tup h r => .tup (h.mono hp hg) (RpL.mono hp hg r)
  | _, _, .lst n h r => .lst (fun z => (hg _ z).elim n fun e => by rw [e] at h; cases h) (hp _ _ n h) (RpL.mono hp hg r)
  | _, _, .frl h r => .frl (h.mono hp hg) (RpL.mono hp hg r)
  | _, _, .frt h r => .frt h (RpL.mono hp hg r)
  | _, _, .dt n h r => .dt (let ⟨_, q⟩ := rd_some h; not_grown (H' := H') hg n q) (rd_mono (fun o q => hp _ o n q) h) (RpK.mono hp hg r)
  | _, _, .dk n h r => .dk (let ⟨_, q⟩ := rd_some h; not_grown (H' := H') hg n q) (rd_mono (fun o q => hp _ o n q) h) (RpK.mono hp hg r)
  | _, _, .obj c n m h g r => .obj c (not_grown (H' := H') hg n h) (not_grown (H' := H') hg m g) (hp _ _ n h) (hp _ _ m g) (RpK.mono hp hg r)
theorem RpL.mono (hp : ∀ a o, a ∉ A → H a = some o → H' a = some o) (hg : ∀ a, a ∈ A' → a ∈ A ∨ H a = none) : ∀ {v : List V} {d : List D}, RpL K H A v d → RpL K H' A' v d
  | _, _, .nil => .nil
  | _, _, .cons h r => .cons (Rp.mono hp hg h) (RpL.mono hp hg r)
theorem RpK.mono (hp : ∀ a o, a ∉ A → H a = some o → H' a = some o) (hg : ∀ a, a ∈ A' → a ∈ A ∨ H a = none) : ∀ {κ : Type} {v : List (κ × V)} {d : List (κ × D)}, RpK K H A v d → RpK K H' A' v d
  | _, _, _, .nil => .nil
  | _, _, _, .cons h r => .cons (Rp.mono hp hg h) (RpK.mono hp hg r)
end
theorem RpL.length : ∀ {vs : List V} {ds : List D}, RpL K H A vs ds → vs.length = ds.length
  | _, _, .nil => rfl
  | _, _, .cons _ r => by rw [List.length_cons, List.length_cons, RpL.length r]
theorem RpL.get : ∀ {vs : List V} {ds : List D} {i : Nat} {d : D}, RpL K H A vs ds → ds[i]? = some d → ∃ v, vs[i]? = some v ∧ Rp K H A v d
  | _, _, _, _, .nil, e => by simp at e
  | _, _, 0, _, .cons h _, e => by simp at e; subst e; exact ⟨_, rfl, h⟩
  | _, _, i + 1, d, .cons _ r, e => by
    obtain ⟨v, h1, h2⟩ := RpL.get (i := i) (d := d) r (by simpa using e)
    exact ⟨v, by simpa using h1, h2⟩
theorem RpL.get' : ∀ {vs : List V} {ds : List D} {i : Nat} {v : V}, RpL K H A vs ds → vs[i]? = some v → ∃ d, ds[i]? = some d ∧ Rp K H A v d
  | _, _, _, _, .nil, e => by simp at e
  | _, _, 0, _, .cons h _, e => by simp at e; subst e; exact ⟨_, rfl, h⟩
  | _, _, i + 1, v, .cons _ r, e => by
    obtain ⟨d, h1, h2⟩ := RpL.get' (i := i) (v := v) r (by simpa using e)
    exact ⟨d, by simpa using h1, h2⟩
theorem RpL.append : ∀ {vs ws : List V} {ds es : List D}, RpL K H A vs ds → RpL K H A ws es → RpL K H A (vs ++ ws) (ds ++ es)
  | _, _, _, _, .nil, s => s
  | _, _, _, _, .cons h r, s => .cons h (RpL.append r s)
theorem RpL.one {v : V} {d : D} (h : Rp K H A v d) : RpL K H A [v] [d] := .cons h .nil
theorem RpL.set {v : V} {d : D} (h : Rp K H A v d) : ∀ {vs : List V} {ds : List D} (i : Nat), RpL K H A vs ds → RpL K H A (vs.set i v) (ds.set i d)
  | _, _, _, .nil => .nil
  | _, _, 0, .cons _ r => .cons h r
  | _, _, i + 1, .cons q r => .cons q (RpL.set h i r)
theorem RpL.take : ∀ {vs : List V} {ds : List D} (n : Nat), RpL K H A vs ds → RpL K H A (vs.take n) (ds.take n)
  | _, _, 0, _ => .nil
  | _, _, _ + 1, .nil => .nil
  | _, _, n + 1, .cons h r => .cons h (RpL.take n r)
theorem RpL.drop : ∀ {vs : List V} {ds : List D} (n : Nat), RpL K H A vs ds → RpL K H A (vs.drop n) (ds.drop n)
  | _, _, 0, r => r
  | _, _, _ + 1, .nil => .nil
  | _, _, n + 1, .cons _ r => RpL.drop n r
theorem RpL.reverse : ∀ {vs : List V} {ds : List D}, RpL K H A vs ds → RpL K H A vs.reverse ds.reverse
  | _, _, .nil => .nil
  | _, _, .cons h r => by
    rw [List.reverse_cons, List.reverse_cons]
    exact (RpL.reverse r).append (.one h)
theorem RpL.eraseIdx : ∀ {vs : List V} {ds : List D} (n : Nat), RpL K H A vs ds → RpL K H A (vs.eraseIdx n) (ds.eraseIdx n)
  | _, _, _, .nil => .nil
  | _, _, 0, .cons _ r => r
  | _, _, n + 1, .cons h r => .cons h (RpL.eraseIdx n r)
theorem RpL.ints : ∀ (ns : List Int), RpL K H A (ns.map V.int) (ns.map D.int)
  | [] => .nil
  | n :: r => .cons (.int n) (RpL.ints r)
theorem RpL.ints_of : ∀ {vs : List V} {ns : List Int}, RpL K H A vs (ns.map D.int) → vs = ns.map V.int
  | _, [], .nil => rfl
  | _, n :: r, .cons h t => by
    cases h
    rw [RpL.ints_of t]; rfl
theorem RpL.bls_of : ∀ {vs : List V} {ns : List Bool}, RpL K H A vs (ns.map D.bl) → vs = ns.map V.bl
  | _, [], .nil => rfl
  | _, n :: r, .cons h t => by
    cases h
    rw [RpL.bls_of t]; rfl
end

structure Step (H : Hp) (W : List Addr) (H' : Hp) (W' : List Addr) : Prop where
  pres : ∀ a o, a ∉ W → H a = some o → H' a = some o
  grow : ∀ a, a ∈ W' → a ∈ W ∨ H a = none
theorem Step.refl (H : Hp) (W : List Addr) : Step H W H W := ⟨fun _ _ _ h => h, fun _ h => .inl h⟩
theorem Step.trans {H H1 H2 : Hp} {W W1 W2 : List Addr} (a : Step H W H1 W1) (b : Step H1 W1 H2 W2) : Step H W H2 W2 where
  pres := fun x o n h => b.pres x o (fun z => (a.grow x z).elim n fun e => by rw [e] at h; cases h) (a.pres x o n h)
  grow := fun x z => by
    rcases b.grow x z with z | z
    · exact a.grow x z
    · by_cases hx : x ∈ W
      · exact .inl hx
      · cases e : H x with
        | none => exact .inr rfl
        | some o => rw [a.pres x o hx e] at z; cases z
theorem Step.new {H : Hp} {W : List Addr} {p : Addr} {o : HO} (h : H p = none) : Step H W (upd H p o) W :=
  ⟨fun a u _ e => by rw [upd_ne (ne_of_none e h)]; exact e, fun _ z => .inl z⟩
theorem Step.newW {H : Hp} {W : List Addr} {p : Addr} {o : HO} (h : H p = none) : Step H W (upd H p o) (p :: W) :=
  ⟨fun a u _ e => by rw [upd_ne (ne_of_none e h)]; exact e, fun a z => by
    rcases List.mem_cons.mp z with rfl | z
    · exact .inr h
    · exact .inl z⟩
theorem Step.mut {H : Hp} {W : List Addr} {p : Addr} {o : HO} (h : p ∈ W) : Step H W (upd H p o) W :=
  ⟨fun a u n e => by rw [upd_ne (fun z => n (by rw [z]; exact h))]; exact e, fun _ z => .inl z⟩
theorem Step.sub {H : Hp} {W W' : List Addr} (h : ∀ a ∈ W', a ∈ W) : Step H W H W' := ⟨fun _ _ _ e => e, fun a z => .inl (h a z)⟩
section
variable {K : PySem.W.Frag} {H H' : Hp} {W W' Fr : List Addr}
theorem Step.gF (s : Step H W H' W') : ∀ a, a ∈ W' ++ Fr → a ∈ W ++ Fr ∨ H a = none := fun a z => by
  rcases List.mem_append.mp z with z | z
  · rcases s.grow a z with z | z
    · exact .inl (List.mem_append_left _ z)
    · exact .inr z
  · exact .inl (List.mem_append_right _ z)
theorem Step.pF (s : Step H W H' W') : ∀ a o, a ∉ W ++ Fr → H a = some o → H' a = some o := fun a o n e => s.pres a o (fun z => n (List.mem_append_left _ z)) e
theorem Step.rp (s : Step H W H' W') {v : V} {d : D} (h : Rp K H (W ++ Fr) v d) : Rp K H' (W' ++ Fr) v d := h.mono s.pF s.gF
theorem Step.rpL (s : Step H W H' W') {v : List V} {d : List D} (h : RpL K H (W ++ Fr) v d) : RpL K H' (W' ++ Fr) v d := h.mono s.pF s.gF
theorem Step.rpK (s : Step H W H' W') {κ : Type} {v : List (κ × V)} {d : List (κ × D)} (h : RpK K H (W ++ Fr) v d) : RpK K H' (W' ++ Fr) v d := h.mono s.pF s.gF
end

def En.sv (e : En) (i : Nat) : Option SV := (e[i]?).bind id
/-- a changeable object at a, what stands in it is read alone -/
inductive Ow (K : PySem.W.Frag) (H : Hp) (A : List Addr) (a : Addr) : D → Prop
  | lst {xs : List V} {ds : List D} : H a = some (.lst xs) → RpL K H A xs ds → Ow K H A a (.lst ds)
  | dt {xs : List (List Key × V)} {ds : List (List Key × D)} : H a = some (.dT xs) → RpK K H A xs ds → Ow K H A a (.dt ds)
  | dk {xs : List (Key × V)} {ds : List (Key × D)} : H a = some (.dK xs) → RpK K H A xs ds → Ow K H A a (.dk ds)
  | obj {C dx : Addr} {c : Str} {vs : List (Str × V)} {fs : List (Str × D)} : PySem.W.nsIn K mainGlobals c = some (some (.ref C)) → dx ∉ A → H a = some (.ins C dx vs) → H dx = some (.own a) → RpK K H A vs fs → Ow K H A a (.obj c fs)
mutual
/-- nothing in it can be changed -/
def imm : D → Bool
  | .non => true
  | .bl _ => true
  | .int _ => true
  | .str _ => true
  | .opq _ => true
  | .tup ds => immL ds
  | .frt ds => immL ds
  | _ => false
def immL : List D → Bool
  | [] => true
  | d :: ds => imm d && immL ds
end
mutual
/-- a thing held with all that stands in it; fp: the changeable objects in it -/
inductive Tr (K : PySem.W.Frag) (H : Hp) (A : List Addr) : V → D → List Addr → Prop
  | imm {v : V} {d : D} : imm d = true → Rp K H A v d → Tr K H A v d []
  | tup {a : Addr} {xs : List V} {ds : List D} {fp : List Addr} : a ∉ A → H a = some (.tup xs) → TrL K H A xs ds fp → Tr K H A (.ref a) (.tup ds) fp
  | lst {a : Addr} {xs : List V} {ds : List D} {fp : List Addr} : H a = some (.lst xs) → TrL K H A xs ds fp → Tr K H A (.ref a) (.lst ds) (a :: fp)
  | dt {a : Addr} {xs : List (List Key × V)} {ds : List (List Key × D)} {fp : List Addr} : H a = some (.dT xs) → TrK K H A xs ds fp → Tr K H A (.ref a) (.dt ds) (a :: fp)
  | dk {a : Addr} {xs : List (Key × V)} {ds : List (Key × D)} {fp : List Addr} : H a = some (.dK xs) → TrK K H A xs ds fp → Tr K H A (.ref a) (.dk ds) (a :: fp)
  | obj {a C dx : Addr} {c : Str} {vs : List (Str × V)} {fs : List (Str × D)} {fp : List Addr} : PySem.W.nsIn K mainGlobals c = some (some (.ref C)) → dx ∉ A → H a = some (.ins C dx vs) → H dx = some (.own a) → TrK K H A vs fs fp → Tr K H A (.ref a) (.obj c fs) (a :: fp)
inductive TrL (K : PySem.W.Frag) (H : Hp) (A : List Addr) : List V → List D → List Addr → Prop
  | nil : TrL K H A [] [] []
  | cons {v : V} {vs : List V} {d : D} {ds : List D} {f g : List Addr} : Tr K H A v d f → TrL K H A vs ds g → TrL K H A (v :: vs) (d :: ds) (f ++ g)
inductive TrK (K : PySem.W.Frag) (H : Hp) (A : List Addr) : {κ : Type} → List (κ × V) → List (κ × D) → List Addr → Prop
  | nil {κ : Type} : TrK K H A (κ := κ) [] [] []
  | cons {κ : Type} {k : κ} {v : V} {d : D} {vs : List (κ × V)} {ds : List (κ × D)} {f g : List Addr} : Tr K H A v d f → TrK K H A vs ds g → TrK K H A ((k, v) :: vs) ((k, d) :: ds) (f ++ g)
end
section
variable {K : PySem.W.Frag} {H H' : Hp} {A A' : List Addr}
mutual
theorem Tr.mono (hp : ∀ a o, a ∉ A → H a = some o → H' a = some o) (hg : ∀ a, a ∈ A' → a ∈ A ∨ H a = none) : ∀ {v : V} {d : D} {fp : List Addr}, Tr K H A v d fp → (∀ a ∈ fp, ∀ o, H a = some o → H' a = some o) → Tr K H' A' v d fp
  | _, _, _, .imm i h, _ => .imm i (h.mono hp hg)
  | _, _, _, .tup n h r, k => .tup (not_grown (H' := H') hg n h) (hp _ _ n h) (TrL.mono hp hg r k)
  | _, _, _, .lst h r, k => .lst (k _ List.mem_cons_self _ h) (TrL.mono hp hg r fun a z => k a (List.mem_cons_of_mem _ z))
  | _, _, _, .dt h r, k => .dt (k _ List.mem_cons_self _ h) (TrK.mono hp hg r fun a z => k a (List.mem_cons_of_mem _ z))
  | _, _, _, .dk h r, k => .dk (k _ List.mem_cons_self _ h) (TrK.mono hp hg r fun a z => k a (List.mem_cons_of_mem _ z))
  | _, _, _, .obj c m h g r, k => .obj c (not_grown (H' := H') hg m g) (k _ List.mem_cons_self _ h) (hp _ _ m g) (TrK.mono hp hg r fun a z => k a (List.mem_cons_of_mem _ z))
theorem TrL.mono (hp : ∀ a o, a ∉ A → H a = some o → H' a = some o) (hg : ∀ a, a ∈ A' → a ∈ A ∨ H a = none) : ∀ {v : List V} {d : List D} {fp : List Addr}, TrL K H A v d fp → (∀ a ∈ fp, ∀ o, H a = some o → H' a = some o) → TrL K H' A' v d fp
  | _, _, _, .nil, _ => .nil
  | _, _, _, .cons h r, k => .cons (Tr.mono hp hg h fun a z => k a (List.mem_append_left _ z)) (TrL.mono hp hg r fun a z => k a (List.mem_append_right _ z))
theorem TrK.mono (hp : ∀ a o, a ∉ A → H a = some o → H' a = some o) (hg : ∀ a, a ∈ A' → a ∈ A ∨ H a = none) : ∀ {κ : Type} {v : List (κ × V)} {d : List (κ × D)} {fp : List Addr}, TrK K H A v d fp → (∀ a ∈ fp, ∀ o, H a = some o → H' a = some o) → TrK K H' A' v d fp
  | _, _, _, _, .nil, _ => .nil
  | _, _, _, _, .cons h r, k => .cons (Tr.mono hp hg h fun a z => k a (List.mem_append_left _ z)) (TrK.mono hp hg r fun a z => k a (List.mem_append_right _ z))
end
mutual
/-- what is held is read alone from now on -/
theorem Tr.rp : ∀ {v : V} {d : D} {fp : List Addr}, Tr K H A v d fp → (∀ a ∈ fp, a ∉ A) → Rp K H A v d
  | _, _, _, .imm _ h, _ => h
  | _, _, _, .tup n h r, k => .tup ⟨n, h⟩ (TrL.rp r k)
  | _, _, _, .lst h r, k => .lst (k _ List.mem_cons_self) h (TrL.rp r fun a z => k a (List.mem_cons_of_mem _ z))
  | _, _, _, .dt h r, k => .dt (k _ List.mem_cons_self) (.inl h) (TrK.rp r fun a z => k a (List.mem_cons_of_mem _ z))
  | _, _, _, .dk h r, k => .dk (k _ List.mem_cons_self) (.inl h) (TrK.rp r fun a z => k a (List.mem_cons_of_mem _ z))
  | _, _, _, .obj c m h g r, k => .obj c (k _ List.mem_cons_self) m h g (TrK.rp r fun a z => k a (List.mem_cons_of_mem _ z))
theorem TrL.rp : ∀ {v : List V} {d : List D} {fp : List Addr}, TrL K H A v d fp → (∀ a ∈ fp, a ∉ A) → RpL K H A v d
  | _, _, _, .nil, _ => .nil
  | _, _, _, .cons h r, k => .cons (Tr.rp h fun a z => k a (List.mem_append_left _ z)) (TrL.rp r fun a z => k a (List.mem_append_right _ z))
theorem TrK.rp : ∀ {κ : Type} {v : List (κ × V)} {d : List (κ × D)} {fp : List Addr}, TrK K H A v d fp → (∀ a ∈ fp, a ∉ A) → RpK K H A v d
  | _, _, _, _, .nil, _ => .nil
  | _, _, _, _, .cons h r, k => .cons (Tr.rp h fun a z => k a (List.mem_append_left _ z)) (TrK.rp r fun a z => k a (List.mem_append_right _ z))
end
theorem Ow.mono (hp : ∀ a o, a ∉ A → H a = some o → H' a = some o) (hg : ∀ a, a ∈ A' → a ∈ A ∨ H a = none) {a : Addr} {d : D} (ha : ∀ o, H a = some o → H' a = some o) (h : Ow K H A a d) : Ow K H' A' a d := by
  cases h with
  | lst h r => exact .lst (ha _ h) (r.mono hp hg)
  | dt h r => exact .dt (ha _ h) (r.mono hp hg)
  | dk h r => exact .dk (ha _ h) (r.mono hp hg)
  | obj c m h g r => exact .obj c (not_grown (H' := H') hg m g) (ha _ h) (hp _ _ m g) (r.mono hp hg)
theorem Ow.rp {a : Addr} {d : D} (h : Ow K H A a d) (n : a ∉ A) : Rp K H A (.ref a) d := by
  cases h with
  | lst h r => exact .lst n h r
  | dt h r => exact .dt n (.inl h) r
  | dk h r => exact .dk n (.inl h) r
  | obj c m h g r => exact .obj c n m h g r
/-- what a slot holds -/
inductive Hd (K : PySem.W.Frag) (H : Hp) (A : List Addr) : Fl → V → D → List Addr → Prop
  | sh {fl : Fl} {a : Addr} {d : D} : (fl = .o ∨ fl = .b) → Ow K H A a d → Hd K H A fl (.ref a) d [a]
  | tr {fl : Fl} {v : V} {d : D} {fp : List Addr} : (fl = .t ∨ fl = .u) → Tr K H A v d fp → fp.Nodup → Hd K H A fl v d fp
theorem Hd.np {fl : Fl} {v : V} {d : D} {fp : List Addr} (h : Hd K H A fl v d fp) : fl ≠ .p := by
  cases h with
  | sh e _ => rcases e with rfl | rfl <;> decide
  | tr e _ _ => rcases e with rfl | rfl <;> decide
theorem Hd.mono {fl : Fl} {v : V} {d : D} {fp : List Addr} (hp : ∀ a o, a ∉ A → H a = some o → H' a = some o) (hg : ∀ a, a ∈ A' → a ∈ A ∨ H a = none) (h : Hd K H A fl v d fp) (k : ∀ a ∈ fp, ∀ o, H a = some o → H' a = some o) : Hd K H' A' fl v d fp := by
  cases h with
  | sh e h => exact .sh e (h.mono hp hg (k _ List.mem_cons_self))
  | tr e h n => exact .tr e (h.mono hp hg k) n
theorem Hd.rp {fl : Fl} {v : V} {d : D} {fp : List Addr} (h : Hd K H A fl v d fp) (n : ∀ a ∈ fp, a ∉ A) : Rp K H A v d := by
  cases h with
  | sh e h => exact h.rp (n _ List.mem_cons_self)
  | tr e h _ => exact h.rp n
end
/-- of a def's run: addresses of others that nothing here stands on, the heap and the slots at its start -/
structure Fm where
  fr : List Addr
  h0 : Hp
  s0 : St
def SvOk (K : PySem.W.Frag) (F : Fm) (H : Hp) (W : List Addr) (sv : SV) (v : V) (fp : List Addr) : Prop :=
  (sv.fl = .p ∧ fp = [] ∧ Rp K H (W ++ F.fr) v sv.d) ∨ (Hd K H (W ++ F.fr) sv.fl v sv.d fp ∧ (∀ a ∈ fp, a ∈ W) ∧ (sv.fl.own = true → ∀ a ∈ fp, F.h0 a = none))
/-- fps: what each slot holds -/
structure Fps (K : PySem.W.Frag) (F : Fm) (env : En) (σ : St) (H : Hp) (W : List Addr) (fps : Nat → List Addr) : Prop where
  sl : ∀ i sv, env.sv i = some sv → ∃ v, σ[i]? = some (some v) ∧ SvOk K F H W sv v (fps i)
  dj : ∀ i j sv sw, env.sv i = some sv → env.sv j = some sw → i ≠ j → ∀ a ∈ fps i, a ∉ fps j
structure Rel (K : PySem.W.Frag) (F : Fm) (env : En) (σ : St) (H : Hp) (W : List Addr) : Prop where
  len : env.length = σ.length
  ex : ∃ fps, Fps K F env σ H W fps
  bor : ∀ i sv, env.sv i = some sv → sv.fl.lent = true → σ[i]? = F.s0[i]?
  trk : ∀ a, H a = none → F.h0 a = none
  frt : ∀ a ∈ F.fr, H a ≠ none
  dis : ∀ a ∈ W, a ∉ F.fr
  wt : ∀ a ∈ W, H a ≠ none
/-- readable: a value that stands for d now -/
def RdOk (K : PySem.W.Frag) (H : Hp) (A : List Addr) (v : V) (d : D) : Prop := Rp K H A v d ∨ ∃ a, v = .ref a ∧ Ow K H A a d
inductive Opd where
  | slot (i : Nat) | val (d : D)
def getS : SV → Option D
  | ⟨.p, d⟩ => some d
  | ⟨.o, d⟩ => some d
  | ⟨.b, d⟩ => some d
  | _ => none
def Opd.get (e : En) : Opd → Option D
  | .slot i => (e.sv i).bind getS
  | .val d => some d
def RelO (K : PySem.W.Frag) (F : Fm) (σ : St) (H : Hp) (W : List Addr) : Opd → V → Prop
  | .slot i, v => σ[i]? = some (some v)
  | .val d, v => Rp K H (W ++ F.fr) v d
theorem En.sv_set {e : En} {i j : Nat} {x : Option SV} (hi : i < e.length) : En.sv (e.set i x) j = if j = i then x else e.sv j := by
  unfold En.sv
  by_cases h : j = i
  · subst h; rw [if_pos rfl, List.getElem?_set_self hi]; rfl
  · rw [if_neg h, List.getElem?_set_ne (Ne.symm h)]
theorem En.sv_lt {e : En} {i : Nat} {sv : SV} (h : e.sv i = some sv) : i < e.length := by
  unfold En.sv at h
  rcases Nat.lt_or_ge i e.length with h1 | h1
  · exact h1
  · rw [List.getElem?_eq_none h1] at h; cases h
theorem En.sv_len {e : En} {i : Nat} (h : e.length ≤ i) : e.sv i = none := by
  unfold En.sv
  rw [List.getElem?_eq_none h]; rfl
section
variable {K : PySem.W.Frag} {F F' : Fm} {env env' : En} {σ σ' : St} {H H' : Hp} {W W' : List Addr} {fps : Nat → List Addr}
theorem SvOk.p {v : V} {d : D} (h : Rp K H (W ++ F.fr) v d) : SvOk K F H W ⟨.p, d⟩ v [] := .inl ⟨rfl, rfl, h⟩
theorem SvOk.inW {sv : SV} {v : V} {fp : List Addr} (h : SvOk K F H W sv v fp) : ∀ a ∈ fp, a ∈ W := by
  rcases h with ⟨_, e, _⟩ | ⟨_, h, _⟩
  · subst e; intro a z; cases z
  · exact h
/-- what is held stands on, where it stands -/
theorem SvOk.mono {sv : SV} {v : V} {fp : List Addr} (h : SvOk K F H W sv v fp) (hp : ∀ a o, a ∉ W ++ F.fr → H a = some o → H' a = some o) (hg : ∀ a, a ∈ W' ++ F'.fr → a ∈ W ++ F.fr ∨ H a = none) (hf : ∀ a ∈ fp, a ∈ W' ∧ ∀ o, H a = some o → H' a = some o) (h0 : F'.h0 = F.h0) : SvOk K F' H' W' sv v fp := by
  rcases h with ⟨e, e2, h⟩ | ⟨h, _, h2⟩
  · exact .inl ⟨e, e2, h.mono hp hg⟩
  · refine .inr ⟨h.mono hp hg fun a z => (hf a z).2, fun a z => (hf a z).1, ?_⟩
    rw [h0]; exact h2
theorem Rel.sl (r : Rel K F env σ H W) (i : Nat) (sv : SV) (e : env.sv i = some sv) : ∃ v, σ[i]? = some (some v) ∧ ∃ fp, SvOk K F H W sv v fp := by
  obtain ⟨fps, h⟩ := r.ex
  obtain ⟨v, h1, h2⟩ := h.sl i sv e
  exact ⟨v, h1, _, h2⟩
theorem RelO.step (s : Step H W H' W') : ∀ {o : Opd} {v : V}, RelO K F σ H W o v → RelO K F σ H' W' o v
  | .slot _, _, h => h
  | .val _, _, h => s.rp h
theorem SvOk.rd {sv : SV} {v : V} {fp : List Addr} {d : D} (h : SvOk K F H W sv v fp) (e : getS sv = some d) : RdOk K H (W ++ F.fr) v d := by
  obtain ⟨fl, x⟩ := sv
  rcases h with ⟨e1, _, h⟩ | ⟨h, _⟩
  · have e1' : fl = .p := e1
    subst e1'
    cases e; exact .inl h
  · cases h with
    | sh e2 h =>
      have e2' : fl = .o ∨ fl = .b := e2
      rcases e2' with rfl | rfl <;> cases e <;> exact .inr ⟨_, rfl, h⟩
    | tr e2 h n =>
      have e2' : fl = .t ∨ fl = .u := e2
      rcases e2' with rfl | rfl <;> cases e
theorem Rel.get (r : Rel K F env σ H W) : ∀ {o : Opd} {v : V} {d : D}, RelO K F σ H W o v → o.get env = some d → RdOk K H (W ++ F.fr) v d
  | .val _, _, _, h, e => by cases e; exact .inl h
  | .slot i, v, d, h, e => by
    have e' : (env.sv i).bind getS = some d := e
    cases q : env.sv i with
    | none => rw [q] at e'; cases e'
    | some sv =>
      rw [q] at e'
      obtain ⟨u, h1, fp, h2⟩ := r.sl i sv q
      have h' : σ[i]? = some (some v) := h
      rw [h1] at h'; cases h'
      exact h2.rd e'
theorem Fps.keep (f : Fps K F env σ H W fps) (s : Step H W H' W') (hk : ∀ a o, H a = some o → H' a = some o) (hw : ∀ a ∈ W, a ∈ W') : Fps K F env σ H' W' fps :=
  ⟨fun i sv e => let ⟨v, h1, h2⟩ := f.sl i sv e; ⟨v, h1, h2.mono s.pF s.gF (fun a z => ⟨hw a (h2.inW a z), hk a⟩) rfl⟩, f.dj⟩
/-- all that stood stands -/
theorem Rel.keep (r : Rel K F env σ H W) (s : Step H W H' W') (hk : ∀ a o, H a = some o → H' a = some o) (hw : ∀ a ∈ W, a ∈ W') (ht : ∀ a ∈ W', H' a ≠ none) : Rel K F env σ H' W' where
  len := r.len
  ex := let ⟨fps, f⟩ := r.ex; ⟨fps, f.keep s hk hw⟩
  bor := r.bor
  trk := fun a e => r.trk a (by
    cases q : H a with
    | none => rfl
    | some o => rw [hk a o q] at e; cases e)
  frt := fun a z => by
    cases q : H a with
    | none => exact absurd q (r.frt a z)
    | some o => rw [hk a o q]; simp
  dis := fun a z f => (s.grow a z).elim (fun z => r.dis a z f) fun e => r.frt a f e
  wt := ht
theorem upd_kept {p : Addr} {o : HO} (h : H p = none) : ∀ a u, H a = some u → (upd H p o) a = some u := fun a u e => by
  rw [upd_ne (ne_of_none e h)]; exact e
theorem Rel.newP (r : Rel K F env σ H W) {p : Addr} {o : HO} (h : H p = none) : Rel K F env σ (upd H p o) W :=
  r.keep (Step.new h) (upd_kept h) (fun _ z => z) fun a z => by
    cases q : H a with
    | none => exact absurd q (r.wt a z)
    | some u => rw [upd_kept h a u q]; simp
theorem Rel.newW (r : Rel K F env σ H W) {p : Addr} {o : HO} (h : H p = none) : Rel K F env σ (upd H p o) (p :: W) :=
  r.keep (Step.newW h) (upd_kept h) (fun _ z => List.mem_cons_of_mem _ z) fun a z => by
    rcases List.mem_cons.mp z with rfl | z
    · rw [upd_same]; simp
    · cases q : H a with
      | none => exact absurd q (r.wt a z)
      | some u => rw [upd_kept h a u q]; simp
/-- W without some addresses -/
def cutW (W B : List Addr) : List Addr := W.filter fun b => decide (b ∉ B)
theorem mem_cutW {B : List Addr} {a : Addr} : a ∈ cutW W B ↔ a ∈ W ∧ a ∉ B := by
  unfold cutW
  rw [List.mem_filter, decide_eq_true_iff]
theorem Step.cut (B : List Addr) : Step H W H (cutW W B) := Step.sub fun b z => (mem_cutW.mp z).1
theorem cut_out {B : List Addr} (r : Rel K F env σ H W) (hB : ∀ a ∈ B, a ∈ W) : ∀ a ∈ B, a ∉ cutW W B ++ F.fr := fun a z y => by
  rcases List.mem_append.mp y with y | y
  · exact (mem_cutW.mp y).2 z
  · exact r.dis a (hB a z) y
/-- changeable objects that are no slot's are set free -/
theorem Rel.drop (r : Rel K F env σ H W) (f : Fps K F env σ H W fps) (B : List Addr) (hn : ∀ j sw, env.sv j = some sw → ∀ a ∈ B, a ∉ fps j) : Rel K F env σ H (cutW W B) where
  len := r.len
  ex := ⟨fps, fun i sv e => let ⟨v, h1, h2⟩ := f.sl i sv e; ⟨v, h1, h2.mono (Step.cut B).pF (Step.cut B).gF (fun a z => ⟨mem_cutW.mpr ⟨h2.inW a z, fun y => hn i sv e a y z⟩, fun _ q => q⟩) rfl⟩, f.dj⟩
  bor := r.bor
  trk := r.trk
  frt := r.frt
  dis := fun b z => r.dis b (mem_cutW.mp z).1
  wt := fun b z => r.wt b (mem_cutW.mp z).1
/-- what is given out: read alone, or one's own, held by no slot -/
def rV (K : PySem.W.Frag) : SV → Fm → En → St → Hp → List Addr → V → Prop := fun sv F e σ H W v =>
  (sv.fl = .p ∧ Rp K H (W ++ F.fr) v sv.d) ∨ (sv.fl.own = true ∧ ∃ fps fp, Fps K F e σ H W fps ∧ SvOk K F H W sv v fp ∧ ∀ j sw, e.sv j = some sw → ∀ a ∈ fp, a ∉ fps j)
theorem rV.p {v : V} {d : D} (h : Rp K H (W ++ F.fr) v d) : rV K ⟨.p, d⟩ F env σ H W v := .inl ⟨rfl, h⟩
theorem own_np {fl : Fl} (h : fl.own = true) : fl ≠ .p ∧ fl.lent = false := by cases fl <;> simp_all [Fl.own, Fl.lent]
theorem SvOk.hd {sv : SV} {v : V} {fp : List Addr} (h : SvOk K F H W sv v fp) (n : sv.fl ≠ .p) : Hd K H (W ++ F.fr) sv.fl v sv.d fp ∧ (∀ a ∈ fp, a ∈ W) ∧ (sv.fl.own = true → ∀ a ∈ fp, F.h0 a = none) := by
  rcases h with ⟨e, _⟩ | h
  · exact absurd e n
  · exact h
/-- a new or own thing, kept as read alone -/
theorem keep_fresh {sv : SV} {v : V} (r : Rel K F env σ H W) (h : rV K sv F env σ H W v) : ∃ W', Rel K F env σ H W' ∧ Step H W H W' ∧ Rp K H (W' ++ F.fr) v sv.d := by
  rcases h with ⟨_, h⟩ | ⟨ow, fps, fp, f, h, dj⟩
  · exact ⟨W, r, Step.refl H W, h⟩
  · obtain ⟨h1, h2, _⟩ := h.hd (own_np ow).1
    exact ⟨_, r.drop f fp dj, Step.cut fp, (h1.mono (Step.cut fp).pF (Step.cut fp).gF fun _ _ _ q => q).rp (cut_out r h2)⟩
/-- a slot is stored -/
theorem Rel.store (r : Rel K F env σ H W) {i : Nat} {sv : SV} {v : V} (hi : i < env.length) (h : rV K sv F env σ H W v) : Rel K F (env.set i (some sv)) (σ.set i (some v)) H W := by
  have hs : i < σ.length := by rw [← r.len]; exact hi
  have core : ∀ (fps : Nat → List Addr) (fp : List Addr), Fps K F env σ H W fps → SvOk K F H W sv v fp → sv.fl.lent = false → (∀ j sw, env.sv j = some sw → ∀ a ∈ fp, a ∉ fps j) → Rel K F (env.set i (some sv)) (σ.set i (some v)) H W := fun fps fp f h nl dj => by
    refine ⟨by simp [r.len], ⟨fun j => if j = i then fp else fps j, fun j sw e => ?_, fun j k sj sk ej ek hjk a z => ?_⟩, fun j sw e b => ?_, r.trk, r.frt, r.dis, r.wt⟩
    · rw [En.sv_set hi] at e
      by_cases hj : j = i
      · subst hj
        rw [if_pos rfl] at e; cases e
        exact ⟨v, List.getElem?_set_self hs, by rw [if_pos rfl]; exact h⟩
      · rw [if_neg hj] at e
        obtain ⟨u, h1, h2⟩ := f.sl j sw e
        exact ⟨u, by rw [List.getElem?_set_ne (Ne.symm hj)]; exact h1, by rw [if_neg hj]; exact h2⟩
    · rw [En.sv_set hi] at ej ek
      by_cases hj : j = i
      · have hk : ¬ k = i := fun y => hjk (hj.trans y.symm)
        rw [if_pos hj] at z; rw [if_neg hk] at ek ⊢
        exact dj k sk ek a z
      · rw [if_neg hj] at z ej
        by_cases hk : k = i
        · rw [if_pos hk]; exact fun y => dj j sj ej a y z
        · rw [if_neg hk] at ek ⊢
          exact f.dj j k sj sk ej ek hjk a z
    · rw [En.sv_set hi] at e
      by_cases hj : j = i
      · rw [if_pos hj] at e; cases e
        rw [nl] at b; cases b
      · rw [if_neg hj] at e
        rw [List.getElem?_set_ne (Ne.symm hj)]
        exact r.bor j sw e b
  rcases h with ⟨e, h⟩ | ⟨ow, fps, fp, f, h, dj⟩
  · obtain ⟨fps, f⟩ := r.ex
    exact core fps [] f (.inl ⟨e, rfl, h⟩) (by rw [e]; rfl) (fun _ _ _ a z => by cases z)
  · exact core fps fp f h (own_np ow).2 dj
theorem Rel.storeP (r : Rel K F env σ H W) {i : Nat} {d : D} {v : V} (hi : i < env.length) (h : Rp K H (W ++ F.fr) v d) : Rel K F (env.set i (some ⟨.p, d⟩)) (σ.set i (some v)) H W := r.store hi (rV.p h)
/-- what a slot holds is changed -/
theorem Rel.writeG (r : Rel K F env σ H W) (f : Fps K F env σ H W fps) {i : Nat} {sv : SV} {a : Addr} {o : HO} {d : D} {v : V} {fp : List Addr} (e : env.sv i = some sv) (hs : σ[i]? = some (some v)) (ha : a ∈ fps i)
    (h : Hd K (upd H a o) (W ++ F.fr) sv.fl v d fp) (hW : ∀ b ∈ fp, b ∈ W) (hz : sv.fl.own = true → ∀ b ∈ fp, F.h0 b = none) (hd : ∀ j sw, env.sv j = some sw → j ≠ i → ∀ b ∈ fp, b ∉ fps j) :
    Rel K F (env.set i (some ⟨sv.fl, d⟩)) σ (upd H a o) W := by
  have hi : i < env.length := En.sv_lt e
  have hw : a ∈ W := by
    obtain ⟨u, _, h2⟩ := f.sl i sv e
    exact h2.inW a ha
  have s : Step H W (upd H a o) W := Step.mut hw
  refine ⟨by simp [r.len], ⟨fun j => if j = i then fp else fps j, fun j sw ej => ?_, fun j k sj sk ej ek hjk b z => ?_⟩, fun j sw ej b => ?_, fun b q => ?_, fun b z => ?_, r.dis, fun b z => ?_⟩
  · rw [En.sv_set hi] at ej
    by_cases hj : j = i
    · rw [if_pos hj] at ej; cases ej
      rw [hj]
      exact ⟨_, hs, by rw [if_pos rfl]; exact .inr ⟨h, hW, hz⟩⟩
    · rw [if_neg hj] at ej
      obtain ⟨u, h1, h2⟩ := f.sl j sw ej
      refine ⟨u, h1, ?_⟩
      rw [if_neg hj]
      exact h2.mono s.pF s.gF (fun b z => ⟨h2.inW b z, fun q w => by
        rw [upd_ne (fun y => f.dj i j sv sw e ej (Ne.symm hj) a ha (by rw [← y]; exact z))]; exact w⟩) rfl
  · rw [En.sv_set hi] at ej ek
    by_cases hj : j = i
    · have hk : ¬ k = i := fun y => hjk (hj.trans y.symm)
      rw [if_pos hj] at z; rw [if_neg hk] at ek ⊢
      exact hd k sk ek hk b z
    · rw [if_neg hj] at z ej
      by_cases hk : k = i
      · rw [if_pos hk]; exact fun y => hd j sj ej hj b y z
      · rw [if_neg hk] at ek ⊢
        exact f.dj j k sj sk ej ek hjk b z
  · rw [En.sv_set hi] at ej
    by_cases hj : j = i
    · rw [if_pos hj] at ej; cases ej
      rw [hj]
      exact r.bor i sv e b
    · rw [if_neg hj] at ej
      exact r.bor j sw ej b
  · refine r.trk b ?_
    by_cases hb : b = a
    · rw [hb, upd_same] at q; cases q
    · rw [upd_ne hb] at q; exact q
  · by_cases hb : b = a
    · rw [hb, upd_same]; simp
    · rw [upd_ne hb]; exact r.frt b z
  · by_cases hb : b = a
    · rw [hb, upd_same]; simp
    · rw [upd_ne hb]; exact r.wt b z
theorem sh_of {fl : Fl} (h : fl.sh = true) : fl = .o ∨ fl = .b := by cases fl <;> simp_all [Fl.sh]
/-- a slot whose things are read alone: its object -/
theorem SvOk.sh {sv : SV} {v : V} {fp : List Addr} (h : SvOk K F H W sv v fp) (e : sv.fl = .o ∨ sv.fl = .b) : ∃ a, v = .ref a ∧ fp = [a] ∧ a ∈ W ∧ Ow K H (W ++ F.fr) a sv.d ∧ (sv.fl = .o → F.h0 a = none) := by
  rcases h with ⟨e1, _⟩ | ⟨h, h1, h2⟩
  · rcases e with e | e <;> rw [e] at e1 <;> cases e1
  · obtain ⟨fl, d⟩ := sv
    cases h with
    | sh _ h => exact ⟨_, rfl, rfl, h1 _ List.mem_cons_self, h, fun q => h2 (by rw [q]; rfl) _ List.mem_cons_self⟩
    | tr e2 _ _ =>
      have e2' : fl = .t ∨ fl = .u := e2
      have e' : fl = .o ∨ fl = .b := e
      rcases e2' with rfl | rfl <;> rcases e' with z | z <;> cases z
/-- the object of such a slot is changed -/
theorem Rel.write (r : Rel K F env σ H W) {i : Nat} {sv : SV} {a : Addr} {o : HO} {d : D} (e : env.sv i = some sv) (sh : sv.fl = .o ∨ sv.fl = .b) (hs : σ[i]? = some (some (.ref a))) (h : Ow K (upd H a o) (W ++ F.fr) a d) :
    Rel K F (env.set i (some ⟨sv.fl, d⟩)) σ (upd H a o) W := by
  obtain ⟨fps, f⟩ := r.ex
  obtain ⟨u, h1, h2⟩ := f.sl i sv e
  rw [hs] at h1; cases h1
  obtain ⟨b, e1, e2, hw, _, hz⟩ := h2.sh sh
  cases e1
  refine r.writeG f e hs (by rw [e2]; exact List.mem_cons_self) (.sh sh h) (fun b z => by rw [List.mem_singleton.mp z]; exact hw) (fun q b z => ?_) (fun j sw ej hj b z y => f.dj j i sw sv ej e hj b y (by rw [e2]; exact z))
  rw [List.mem_singleton.mp z]
  exact hz (by rcases sh with q2 | q2
               · exact q2
               · rw [q2] at q; cases q)
/-- a slot's own thing is read alone from now on -/
theorem Rel.freeze (r : Rel K F env σ H W) {i : Nat} {sv : SV} {v : V} (e : env.sv i = some sv) (hs : σ[i]? = some (some v)) :
    ∃ W', Rel K F (env.set i (some ⟨.p, sv.d⟩)) σ H W' ∧ Step H W H W' ∧ Rp K H (W' ++ F.fr) v sv.d := by
  have hi : i < env.length := En.sv_lt e
  obtain ⟨fps, f⟩ := r.ex
  obtain ⟨u, h1, h2⟩ := f.sl i sv e
  rw [hs] at h1; cases h1
  have s : Step H W H (cutW W (fps i)) := Step.cut _
  have key : Rp K H (cutW W (fps i) ++ F.fr) v sv.d := by
    rcases h2 with ⟨_, _, h⟩ | ⟨h, hw, _⟩
    · exact s.rp h
    · exact (h.mono s.pF s.gF fun _ _ _ q => q).rp (cut_out r hw)
  refine ⟨_, ⟨by simp [r.len], ⟨fun j => if j = i then [] else fps j, fun j sw ej => ?_, fun j k sj sk ej ek hjk b z => ?_⟩, fun j sw ej b => ?_, r.trk, r.frt, fun b z => r.dis b (mem_cutW.mp z).1, fun b z => r.wt b (mem_cutW.mp z).1⟩, s, key⟩
  · rw [En.sv_set hi] at ej
    by_cases hj : j = i
    · rw [if_pos hj] at ej; cases ej
      rw [hj, if_pos rfl]
      exact ⟨_, hs, .p key⟩
    · rw [if_neg hj] at ej
      obtain ⟨u, g1, g2⟩ := f.sl j sw ej
      refine ⟨u, g1, ?_⟩
      rw [if_neg hj]
      exact g2.mono s.pF s.gF (fun b z => ⟨mem_cutW.mpr ⟨g2.inW b z, f.dj j i sw sv ej e hj b z⟩, fun _ q => q⟩) rfl
  · rw [En.sv_set hi] at ej ek
    by_cases hj : j = i
    · rw [if_pos hj] at z; cases z
    · rw [if_neg hj] at z ej
      by_cases hk : k = i
      · rw [if_pos hk]; intro y; cases y
      · rw [if_neg hk] at ek ⊢
        exact f.dj j k sj sk ej ek hjk b z
  · rw [En.sv_set hi] at ej
    by_cases hj : j = i
    · rw [if_pos hj] at ej; cases ej; cases b
    · rw [if_neg hj] at ej
      exact r.bor j sw ej b
end
end DL

namespace DL
open PySem L2

def XOk (K : PySem.W.Frag) (F : Fm) (H : Hp) (W : List Addr) (x : Xc) (c : Value) (d : Option Addr) : Prop :=
  x.cls = c ∧ (match d with | none => x.fs = [] | some a => x.fs ≠ [] ∧ ∃ vs : List (Str × V), H a = some (.xd vs) ∧ ∀ f y, x.fs.lookup f = some y → ∃ v, vs.lookup f = some v ∧ Rp K H (W ++ F.fr) v y)
def Post {α β : Type} (rel : α → Fm → En → St → Hp → List Addr → β → Prop) (K : PySem.W.Frag) (E : XK) (F : Fm) (σ : St) (H : Hp) (W : List Addr) (Q : β → Hp → Prop) : R α → Prop
  | .ok a e => ∀ v H' W', Rel K F e σ H' W' → Step H W H' W' → rel a F e σ H' W' v → Q v H'
  | .exc x e => ∀ c d H' W', Rel K F e σ H' W' → Step H W H' W' → XOk K F H' W' x c d → E c d H'
  | .stuck => False
def Sn {α β : Type} (rel : α → Fm → En → St → Hp → List Addr → β → Prop) (K : PySem.W.Frag) (E : XK) (t : St → Hp → (β → Hp → Prop) → Prop) (f : En → R α) : Prop :=
  ∀ F env σ H W Q, Rel K F env σ H W → Post rel K E F σ H W Q (f env) → t σ H Q
theorem Post.from {α β : Type} {rel : α → Fm → En → St → Hp → List Addr → β → Prop} {K : PySem.W.Frag} {E : XK} {F : Fm} {σ : St} {H H1 : Hp} {W W1 : List Addr} {Q : β → Hp → Prop} (s : Step H W H1 W1) :
    ∀ {r : R α}, Post rel K E F σ H W Q r → Post rel K E F σ H1 W1 Q r
  | .ok _ _, h => fun v H' W' r' s' q => h v H' W' r' (s.trans s') q
  | .exc _ _, h => fun c d H' W' r' s' q => h c d H' W' r' (s.trans s') q
  | .stuck, h => h
def rO (K : PySem.W.Frag) : Opd → Fm → En → St → Hp → List Addr → V → Prop := fun o F _ σ H W v => RelO K F σ H W o v
inductive RelOs (K : PySem.W.Frag) (F : Fm) (σ : St) (H : Hp) (W : List Addr) : List Opd → List V → Prop
  | nil : RelOs K F σ H W [] []
  | cons {o : Opd} {os : List Opd} {v : V} {vs : List V} : RelO K F σ H W o v → RelOs K F σ H W os vs → RelOs K F σ H W (o :: os) (v :: vs)
theorem RelOs.step {K : PySem.W.Frag} {F : Fm} {σ : St} {H H' : Hp} {W W' : List Addr} (s : Step H W H' W') : ∀ {os : List Opd} {vs : List V}, RelOs K F σ H W os vs → RelOs K F σ H' W' os vs
  | _, _, .nil => .nil
  | _, _, .cons h r => .cons (h.step s) (r.step s)
def rOs (K : PySem.W.Frag) : List Opd → Fm → En → St → Hp → List Addr → List V → Prop := fun os F _ σ H W vs => RelOs K F σ H W os vs
def rB : Bool → Fm → En → St → Hp → List Addr → Bool → Prop := fun b _ _ _ _ _ c => b = c
abbrev SE (K : PySem.W.Frag) (E : XK) (t : TE) (f : En → R Opd) : Prop := Sn (rO K) K E t f
abbrev SF (K : PySem.W.Frag) (E : XK) (t : TE) (f : En → R SV) : Prop := Sn (rV K) K E t f
abbrev SA (K : PySem.W.Frag) (E : XK) (t : TA) (f : En → R (List Opd)) : Prop := Sn (rOs K) K E t f
abbrev SB (K : PySem.W.Frag) (E : XK) (t : TT) (f : En → R Bool) : Prop := Sn rB K E t f

def bindR {α β : Type} (f : En → R α) (k : α → En → R β) : En → R β := fun e => match f e with
  | .ok a e' => k a e'
  | .exc x e' => .exc x e'
  | .stuck => .stuck
theorem bindR_ok {α β : Type} {f : En → R α} {k : α → En → R β} {e e' : En} {a : α} (h : f e = .ok a e') : bindR f k e = k a e' := by unfold bindR; rw [h]
def opd (f : En → R SV) : En → R Opd := bindR f fun sv e => .ok (.val sv.d) e
def constE (d : D) : En → R SV := fun e => .ok ⟨.p, d⟩ e
def varE (i : Nat) : En → R Opd := fun e => match e.sv i with | some _ => .ok (.slot i) e | none => .stuck
/-- an operand to be kept: a list of one's own is read alone from now on -/
def pureO : Opd → En → Option (D × En)
  | .val d, e => some (d, e)
  | .slot i, e => match e.sv i with
    | some ⟨.p, d⟩ => some (d, e)
    | some ⟨.o, d⟩ => some (d, e.set i (some ⟨.p, d⟩))
    | some ⟨.t, d⟩ => some (d, e.set i (some ⟨.p, d⟩))
    | _ => none
def pureL : List Opd → En → Option (List D × En)
  | [], e => some ([], e)
  | o :: os, e => match pureO o e with
    | none => none
    | some (d, e1) => match pureL os e1 with
      | none => none
      | some (ds, e2) => some (d :: ds, e2)
def keepE (f : En → R Opd) : En → R SV := bindR f fun o e => match pureO o e with | some (d, e') => .ok ⟨.p, d⟩ e' | none => .stuck
def op1 (g : D → Option SV) (fa : En → R Opd) : En → R SV := bindR fa fun a e => match a.get e with
  | some x => (match g x with | some z => .ok z e | none => .stuck)
  | none => .stuck
def op2 (g : D → D → Option SV) (fa fb : En → R Opd) : En → R SV := bindR fa fun a => bindR fb fun b e => match a.get e, b.get e with
  | some x, some y => (match g x y with | some z => .ok z e | none => .stuck)
  | _, _ => .stuck
def getL : List Opd → En → Option (List D)
  | [], _ => some []
  | o :: os, e => match o.get e, getL os e with
    | some d, some ds => some (d :: ds)
    | _, _ => none
def nilA : En → R (List Opd) := fun e => .ok [] e
def consA (fa : En → R Opd) (fr : En → R (List Opd)) : En → R (List Opd) := bindR fa fun a => bindR fr fun as e => .ok (a :: as) e
def callB (g : List D → Option SV) (fa : En → R (List Opd)) : En → R SV := bindR fa fun os e => match getL os e with
  | some xs => (match g xs with | some z => .ok z e | none => .stuck)
  | none => .stuck
def tupE (fa : En → R (List Opd)) : En → R SV := bindR fa fun os e => match pureL os e with
  | some (ds, e') => if ds.length ≤ 100000 then .ok ⟨.p, .tup ds⟩ e' else .stuck
  | none => .stuck
def lstE (fa : En → R (List Opd)) : En → R SV := bindR fa fun os e => match pureL os e with
  | some (ds, e') => if ds.length ≤ 100000 then .ok ⟨.o, .lst ds⟩ e' else .stuck
  | none => .stuck
def testV (f : En → R SV) : En → R Bool := bindR f fun sv e => match sv.d with | .bl b => .ok b e | _ => .stuck
def andT (f g : En → R Bool) : En → R Bool := bindR f fun b e => if b then g e else .ok false e
def orT (f g : En → R Bool) : En → R Bool := bindR f fun b e => if b then .ok true e else g e
def notT (f : En → R Bool) : En → R Bool := bindR f fun b e => .ok (!b) e
def andV (f g : En → R SV) : En → R SV := bindR f fun sv e => match sv.d with | .bl true => g e | .bl false => .ok ⟨.p, .bl false⟩ e | _ => .stuck
def orV (f g : En → R SV) : En → R SV := bindR f fun sv e => match sv.d with | .bl true => .ok ⟨.p, .bl true⟩ e | .bl false => g e | _ => .stuck
def notV (f : En → R SV) : En → R SV := bindR f fun sv e => match sv.d with | .bl b => .ok ⟨.p, .bl (!b)⟩ e | _ => .stuck
def ifE (c : En → R Bool) (f g : En → R SV) : En → R SV := bindR c fun b e => if b then f e else g e

section
variable {K : PySem.W.Frag} {E : XK} {F : Fm} {env env' : En} {σ : St} {H H' : Hp} {W W' : List Addr} {ta tb tc te : TE} {tt tu : TT}
theorem Sn.go {α β γ δ : Type} {rel : α → Fm → En → St → Hp → List Addr → β → Prop} {rel2 : γ → Fm → En → St → Hp → List Addr → δ → Prop} {t : St → Hp → (β → Hp → Prop) → Prop} {f : En → R α} {k : α → En → R γ} {Q : δ → Hp → Prop} {Q1 : β → Hp → Prop}
    (h : Sn rel K E t f) (r : Rel K F env σ H W) (p : Post rel2 K E F σ H W Q (bindR f k env)) (hk : ∀ e H' W' a v, Rel K F e σ H' W' → Step H W H' W' → rel a F e σ H' W' v → Post rel2 K E F σ H' W' Q (k a e) → Q1 v H') : t σ H Q1 := by
  refine h F env σ H W _ r ?_
  unfold bindR at p
  cases q : f env with
  | ok a e =>
    rw [q] at p
    exact fun v H' W' r' s' hv => hk e H' W' a v r' s' hv (Post.from s' p)
  | exc x e => rw [q] at p; exact p
  | stuck => rw [q] at p; exact p
theorem se_of {f : En → R SV} (h : SF K E te f) : SE K E te (opd f) := by
  intro F env σ H W Q r p
  refine h F env σ H W _ r ?_
  unfold opd bindR at p
  cases q : f env with
  | ok sv e =>
    rw [q] at p
    intro v H' W' r' s' hv
    obtain ⟨W2, r2, s2, h2⟩ := keep_fresh r' hv
    exact p v H' W2 r2 (s'.trans s2) h2
  | exc x e => rw [q] at p; exact p
  | stuck => rw [q] at p; exact p
theorem se_var {i : Nat} : SE K E (tVar i) (varE i) := by
  intro F env σ H W Q r p
  unfold varE at p
  cases q : env.sv i with
  | none => rw [q] at p; exact p.elim
  | some sv =>
    rw [q] at p
    obtain ⟨v, h1, _⟩ := r.sl i sv q
    exact ⟨v, h1, p v H W r (Step.refl H W) h1⟩
theorem sf_const {v : V} {d : D} (h : ∀ K H A, Rp K H A v d) : SF K E (tC v) (constE d) := by
  intro F env σ H W Q r p
  exact p v H W r (Step.refl H W) (.inl ⟨rfl, h _ _ _⟩)
theorem sf_int {i : Int} : SF K E (tC (.int i)) (constE (.int i)) := sf_const fun _ _ _ => .int i
theorem sf_bl {b : Bool} : SF K E (tC (.bl b)) (constE (.bl b)) := sf_const fun _ _ _ => .bl b
theorem sf_non : SF K E (tC .non) (constE .non) := sf_const fun _ _ _ => .non
theorem sf_str {x : Str} : SF K E (tC (.str x)) (constE (.str x)) := sf_const fun _ _ _ => .str x
theorem sf_opq {v : V} : SF K E (tC v) (constE (.opq v)) := sf_const fun _ _ _ => .opq v
/-- a constant of the module -/
theorem sf_glob {v : V} {d : D} (h : ∀ H A, Rp K H A v d) : SF K E (tC v) (constE d) := by
  intro F env σ H W Q r p
  exact p v H W r (Step.refl H W) (.inl ⟨rfl, h _ _⟩)
theorem pureO_ok (r : Rel K F env σ H W) : ∀ {o : Opd} {v : V} {d : D} {e' : En}, RelO K F σ H W o v → pureO o env = some (d, e') → ∃ W', Rel K F e' σ H W' ∧ Step H W H W' ∧ Rp K H (W' ++ F.fr) v d
  | .val _, v, d, e', h, q => by
    cases q
    exact ⟨W, r, Step.refl H W, h⟩
  | .slot i, v, d, e', h, q => by
    unfold pureO at q
    dsimp only at q
    cases e : env.sv i with
    | none => rw [e] at q; cases q
    | some sv =>
      rw [e] at q
      obtain ⟨fl, x⟩ := sv
      have h' : σ[i]? = some (some v) := h
      obtain ⟨u, h1, h2⟩ := r.sl i _ e
      rw [h'] at h1; cases h1
      obtain ⟨fp, h2⟩ := h2
      cases fl with
      | p =>
        cases q
        rcases h2 with ⟨_, _, h2⟩ | ⟨h2, _⟩
        · exact ⟨W, r, Step.refl H W, h2⟩
        · exact absurd rfl h2.np
      | o => cases q; exact r.freeze e h'
      | t => cases q; exact r.freeze e h'
      | b => cases q
      | u => cases q
theorem pureL_ok : ∀ {os : List Opd} {vs : List V} {ds : List D} {env e' : En} {W : List Addr}, Rel K F env σ H W → RelOs K F σ H W os vs → pureL os env = some (ds, e') → ∃ W', Rel K F e' σ H W' ∧ Step H W H W' ∧ RpL K H (W' ++ F.fr) vs ds
  | [], _, ds, env, e', W, r, h, q => by
    cases h
    unfold pureL at q
    cases q
    exact ⟨W, r, Step.refl H W, .nil⟩
  | o :: os, _, ds, env, e', W, r, h, q => by
    cases h with
    | cons h1 h2 =>
      unfold pureL at q
      cases e : pureO o env with
      | none => rw [e] at q; cases q
      | some de =>
        obtain ⟨d, e1⟩ := de
        rw [e] at q
        dsimp only at q
        obtain ⟨W1, r1, s1, k1⟩ := pureO_ok r h1 e
        cases e2 : pureL os e1 with
        | none => rw [e2] at q; cases q
        | some dse =>
          obtain ⟨ds', e3⟩ := dse
          rw [e2] at q
          cases q
          obtain ⟨W2, r2, s2, k2⟩ := pureL_ok r1 (h2.step s1) e2
          exact ⟨W2, r2, s1.trans s2, .cons (s2.rp k1) k2⟩
theorem sf_keep {f : En → R Opd} (h : SE K E te f) : SF K E te (keepE f) := by
  intro F env σ H W Q r p
  refine h F env σ H W _ r ?_
  unfold keepE bindR at p
  cases q : f env with
  | ok o e =>
    rw [q] at p
    intro v H' W' r' s' hv
    dsimp only at p
    cases q2 : pureO o e with
    | none => rw [q2] at p; exact p.elim
    | some de =>
      obtain ⟨d, e2⟩ := de
      rw [q2] at p
      obtain ⟨W2, r2, s2, h2⟩ := pureO_ok r' hv q2
      exact p v H' W2 r2 (s'.trans s2) (.inl ⟨rfl, h2⟩)
  | exc x e => rw [q] at p; exact p
  | stuck => rw [q] at p; exact p
/-- a new object of one's own -/
theorem rV.new {q : Addr} {o : HO} {d : D} (r : Rel K F env σ H W) (hq : H q = none) (h : Ow K (upd H q o) ((q :: W) ++ F.fr) q d) : rV K ⟨.o, d⟩ F env σ (upd H q o) (q :: W) (.ref q) := by
  obtain ⟨fps, f⟩ := r.ex
  refine .inr ⟨rfl, fps, [q], f.keep (Step.newW hq) (upd_kept hq) (fun _ z => List.mem_cons_of_mem _ z), .inr ⟨.sh (.inl rfl) h, fun a z => by rw [List.mem_singleton.mp z]; exact List.mem_cons_self, fun _ a z => by rw [List.mem_singleton.mp z]; exact r.trk q hq⟩, fun j sw e a z y => ?_⟩
  rw [List.mem_singleton.mp z] at y
  obtain ⟨v, _, h2⟩ := f.sl j sw e
  exact r.wt q (h2.inW q y) hq
/-- what an operation's result is asked: a thing that stands, or a new tuple; a new list -/
def ResOk (K : PySem.W.Frag) (H : Hp) (A : List Addr) (Q : VK) (z : SV) : Prop :=
  match z.fl, z.d with
  | .p, d => ∀ w H', (H' = H ∨ ∃ q o, H q = none ∧ H' = upd H q o) → Rp K H' A w d → Q w H'
  | .o, .lst ds => ∀ q vs, H q = none → RpL K H A vs ds → Q (.ref q) (upd H q (.lst vs))
  | _, _ => False
def Op1 (K : PySem.W.Frag) (r : V → Hp → VK → Prop) (g : D → Option SV) : Prop := ∀ H A v d z Q, RdOk K H A v d → g d = some z → ResOk K H A Q z → r v H Q
def Op2 (K : PySem.W.Frag) (r : R2) (g : D → D → Option SV) : Prop := ∀ H A v u d e z Q, RdOk K H A v d → RdOk K H A u e → g d e = some z → ResOk K H A Q z → r v u H Q
inductive RdL (K : PySem.W.Frag) (H : Hp) (A : List Addr) : List V → List D → Prop
  | nil : RdL K H A [] []
  | cons {v : V} {vs : List V} {d : D} {ds : List D} : RdOk K H A v d → RdL K H A vs ds → RdL K H A (v :: vs) (d :: ds)
def OpC (K : PySem.W.Frag) (r : List V → Hp → VK → Prop) (g : List D → Option SV) : Prop := ∀ H A vs ds z Q, RdL K H A vs ds → g ds = some z → ResOk K H A Q z → r vs H Q
/-- from what is wanted of a result to what an operation is asked -/
theorem res_of {z : SV} {Q : VK} (r : Rel K F env σ H W) (p : Post (rV K) K E F σ H W Q (.ok z env)) (ok : z.fl = .p ∨ (z.fl = .o ∧ ∃ ds, z.d = .lst ds)) : ResOk K H (W ++ F.fr) Q z := by
  obtain ⟨fl, d⟩ := z
  rcases ok with e | ⟨e, ds, e2⟩
  · have e' : fl = .p := e
    subst e'
    intro w H' hg h
    rcases hg with rfl | ⟨q, o, hq, rfl⟩
    · exact p w _ W r (Step.refl _ W) (.inl ⟨rfl, h⟩)
    · exact p w _ W (r.newP hq) (Step.new hq) (.inl ⟨rfl, h⟩)
  · have e' : fl = .o := e
    have e2' : d = .lst ds := e2
    subst e'; subst e2'
    intro q vs hq h
    have s : Step H W (upd H q (.lst vs)) (q :: W) := Step.newW hq
    exact p (.ref q) _ (q :: W) (r.newW hq) s (rV.new r hq (.lst upd_same (s.rpL h)))
def Fine (z : SV) : Prop := z.fl = .p ∨ (z.fl = .o ∧ ∃ ds, z.d = .lst ds)
theorem sf_op1 {r : V → Hp → VK → Prop} {g : D → Option SV} {fa : En → R Opd} (ho : Op1 K r g) (hf : ∀ d z, g d = some z → Fine z) (ha : SE K E ta fa) : SF K E (tUn r ta) (op1 g fa) := by
  intro F env σ H W Q r p
  refine Sn.go (t := ta) ha r p fun env H W a v rel s rv p => ?_
  cases q : a.get env with
  | none => rw [q] at p; exact p.elim
  | some x =>
    rw [q] at p; dsimp only at p
    cases q2 : g x with
    | none => rw [q2] at p; exact p.elim
    | some z =>
      rw [q2] at p
      exact ho H (W ++ F.fr) v x z Q (rel.get rv q) q2 (res_of rel p (hf _ _ q2))
theorem sf_op2 {r : R2} {g : D → D → Option SV} {fa fb : En → R Opd} (ho : Op2 K r g) (hf : ∀ d e z, g d e = some z → Fine z) (ha : SE K E ta fa) (hb : SE K E tb fb) : SF K E (tOp r ta tb) (op2 g fa fb) := by
  intro F env σ H W Q rel p
  refine ha F env σ H W _ rel ?_
  unfold op2 bindR at p
  cases q : fa env with
  | exc x e => rw [q] at p; exact p
  | stuck => rw [q] at p; exact p
  | ok a e1 =>
    rw [q] at p
    intro v H1 W1 rel1 s1 rv
    dsimp only at p
    refine hb F e1 σ H1 W1 _ rel1 ?_
    cases q1 : fb e1 with
    | exc x e => rw [q1] at p; exact Post.from s1 p
    | stuck => rw [q1] at p; exact p
    | ok b e2 =>
      rw [q1] at p
      intro u H2 W2 rel2 s2 ru
      dsimp only at p
      have rv2 := RelO.step s2 rv
      cases q2 : a.get e2 with
      | none => rw [q2] at p; exact p.elim
      | some x =>
        cases q3 : b.get e2 with
        | none => rw [q2, q3] at p; exact p.elim
        | some y =>
          rw [q2, q3] at p; dsimp only at p
          cases q4 : g x y with
          | none => rw [q4] at p; exact p.elim
          | some z =>
            rw [q4] at p
            exact ho H2 (W2 ++ F.fr) v u x y z Q (rel2.get rv2 q2) (rel2.get ru q3) q4 (res_of rel2 (Post.from (s1.trans s2) p) (hf _ _ _ q4))
theorem getL_ok (r : Rel K F env σ H W) : ∀ {os : List Opd} {vs : List V} {ds : List D}, RelOs K F σ H W os vs → getL os env = some ds → RdL K H (W ++ F.fr) vs ds
  | _, _, _, .nil, q => by unfold getL at q; cases q; exact .nil
  | _, _, ds, .cons (o := o) (os := os) h t, q => by
    unfold getL at q
    cases e : o.get env with
    | none => rw [e] at q; cases q
    | some d =>
      cases e2 : getL os env with
      | none => rw [e, e2] at q; cases q
      | some ds' =>
        rw [e, e2] at q; cases q
        exact .cons (r.get h e) (getL_ok r t e2)
theorem sa_nil : SA K E tNil nilA := fun F env σ H W Q r p => p [] H W r (Step.refl H W) .nil
theorem sa_cons {fa : En → R Opd} {fr : En → R (List Opd)} {tr : TA} (ha : SE K E ta fa) (hr : SA K E tr fr) : SA K E (tCons ta tr) (consA fa fr) := by
  intro F env σ H W Q r p
  refine Sn.go (t := ta) ha r p fun env H W a v rel s rv p => ?_
  refine hr F env σ H W _ rel ?_
  unfold bindR at p
  cases q : fr env with
  | exc x e => rw [q] at p; exact p
  | stuck => rw [q] at p; exact p
  | ok as e =>
    rw [q] at p
    exact fun vs H' W' r' s' h => p (v :: vs) H' W' r' s' (.cons (RelO.step s' rv) h)
theorem sf_callB {r : List V → Hp → VK → Prop} {g : List D → Option SV} {fa : En → R (List Opd)} {t : TA} (ho : OpC K r g) (hf : ∀ d z, g d = some z → Fine z) (ha : SA K E t fa) : SF K E (tCB r t) (callB g fa) := by
  intro F env σ H W Q r p
  refine Sn.go (t := t) ha r p fun env H W as vs rel s rv p => ?_
  cases q : getL as env with
  | none => rw [q] at p; exact p.elim
  | some xs =>
    rw [q] at p; dsimp only at p
    cases q2 : g xs with
    | none => rw [q2] at p; exact p.elim
    | some z =>
      rw [q2] at p
      exact ho H (W ++ F.fr) vs xs z Q (getL_ok rel rv q) q2 (res_of rel p (hf _ _ q2))
theorem sz_of {n : Nat} (h : n ≤ 100000) : n ≤ sizeLine := Nat.le_trans h (by decide)
theorem sz_lt {n : Nat} (h : n < 100000) : n < sizeLine := Nat.lt_of_lt_of_le h (by decide)
theorem sf_tup {fa : En → R (List Opd)} {t : TA} (ha : SA K E t fa) : SF K E (tTup t) (tupE fa) := by
  intro F env σ H W Q r p
  refine Sn.go (t := t) ha r p fun env H W as vs rel s rv p => ?_
  cases q : pureL as env with
  | none => rw [q] at p; exact p.elim
  | some de =>
    obtain ⟨ds, e'⟩ := de
    rw [q] at p; dsimp only at p
    obtain ⟨W1, r1, s1, k1⟩ := pureL_ok rel rv q
    by_cases hz : ds.length ≤ 100000
    · rw [if_pos hz] at p
      refine ⟨sz_of (by rw [k1.length]; exact hz), fun a ha => ?_⟩
      have s2 : Step H W1 (upd H a (.tup vs)) W1 := Step.new ha
      refine p (.ref a) _ W1 (r1.newP ha) (s1.trans s2) (.inl ⟨rfl, .tup ⟨fun z => ?_, upd_same⟩ (s2.rpL k1)⟩)
      rcases List.mem_append.mp z with z | z
      · exact r1.wt a z ha
      · exact r1.frt a z ha
    · rw [if_neg hz] at p; exact p.elim
theorem sf_lst {fa : En → R (List Opd)} {t : TA} (ha : SA K E t fa) : SF K E (tLst t) (lstE fa) := by
  intro F env σ H W Q r p
  refine Sn.go (t := t) ha r p fun env H W as vs rel s rv p => ?_
  cases q : pureL as env with
  | none => rw [q] at p; exact p.elim
  | some de =>
    obtain ⟨ds, e'⟩ := de
    rw [q] at p; dsimp only at p
    obtain ⟨W1, r1, s1, k1⟩ := pureL_ok rel rv q
    by_cases hz : ds.length ≤ 100000
    · rw [if_pos hz] at p
      refine ⟨sz_of (by rw [k1.length]; exact hz), fun a ha => ?_⟩
      exact (res_of r1 (Post.from s1 p) (.inr ⟨rfl, ds, rfl⟩)) a vs ha k1
    · rw [if_neg hz] at p; exact p.elim
/-- tests -/
theorem rV_bl {b : Bool} {sv : SV} {v : V} (r : Rel K F env σ H W) (h : rV K sv F env σ H W v) (e : sv.d = .bl b) : v = .bl b := by
  obtain ⟨W', _, _, k⟩ := keep_fresh r h
  rw [e] at k; cases k; rfl
theorem sb_val {f : En → R SV} (h : SF K E te f) : SB K E (fun σ H Q => te σ H fun x H1 => ∃ c, x = .bl c ∧ Q c H1) (testV f) := by
  intro F env σ H W Q r p
  refine Sn.go (t := te) h r p fun env H W sv v rel s rv p => ?_
  cases q : sv.d with
  | bl b =>
    rw [q] at p
    exact ⟨b, rV_bl rel rv q, p b H W rel (Step.refl H W) rfl⟩
  | _ => rw [q] at p; exact p.elim
theorem sb_B {f : En → R SV} (h : SF K E te f) : SB K E (tB te) (testV f) := sb_val h
theorem sb_test {f : En → R SV} (h : SF K E te f) : SB K E (tTest te) (testV f) := sb_val h
theorem sb_and {f g : En → R Bool} (h1 : SB K E tt f) (h2 : SB K E tu g) : SB K E (tAnd tt tu) (andT f g) := by
  intro F env σ H W Q r p
  refine Sn.go (t := tt) h1 r p fun env H W a b rel s rv p => ?_
  have e : a = b := rv
  subst e
  cases a with
  | true => exact h2 F env σ H W Q rel p
  | false => exact p false H W rel (Step.refl H W) rfl
theorem sb_or {f g : En → R Bool} (h1 : SB K E tt f) (h2 : SB K E tu g) : SB K E (tOr tt tu) (orT f g) := by
  intro F env σ H W Q r p
  refine Sn.go (t := tt) h1 r p fun env H W a b rel s rv p => ?_
  have e : a = b := rv
  subst e
  cases a with
  | true => exact p true H W rel (Step.refl H W) rfl
  | false => exact h2 F env σ H W Q rel p
theorem sb_not {f : En → R Bool} (h1 : SB K E tt f) : SB K E (tNot tt) (notT f) := by
  intro F env σ H W Q r p
  refine Sn.go (t := tt) h1 r p fun env H W a b rel s rv p => ?_
  have e : a = b := rv
  subst e
  exact p _ H W rel (Step.refl H W) rfl
theorem sb_yes : SB K E tYes (fun e => .ok true e) := fun F env σ H W Q r p => p true H W r (Step.refl H W) rfl
theorem sf_pbl (rel : Rel K F env σ H W) {b : Bool} {Q : VK} (p : Post (rV K) K E F σ H W Q (.ok ⟨.p, .bl b⟩ env)) : Q (.bl b) H := p _ H W rel (Step.refl H W) (.inl ⟨rfl, .bl b⟩)
theorem sf_and {f g : En → R SV} (h1 : SF K E ta f) (h2 : SF K E tb g) : SF K E (tAndV ta tb) (andV f g) := by
  intro F env σ H W Q r p
  refine Sn.go (t := ta) h1 r p fun env H W sv v rel s rv p => ?_
  cases q : sv.d with
  | bl b =>
    rw [q] at p
    refine ⟨b, rV_bl rel rv q, ?_⟩
    cases b with
    | true => exact h2 F env σ H W Q rel p
    | false => exact sf_pbl rel p
  | _ => rw [q] at p; exact p.elim
theorem sf_or {f g : En → R SV} (h1 : SF K E ta f) (h2 : SF K E tb g) : SF K E (tOrV ta tb) (orV f g) := by
  intro F env σ H W Q r p
  refine Sn.go (t := ta) h1 r p fun env H W sv v rel s rv p => ?_
  cases q : sv.d with
  | bl b =>
    rw [q] at p
    refine ⟨b, rV_bl rel rv q, ?_⟩
    cases b with
    | true => exact sf_pbl rel p
    | false => exact h2 F env σ H W Q rel p
  | _ => rw [q] at p; exact p.elim
theorem sf_not {f : En → R SV} (h1 : SF K E ta f) : SF K E (tNotV ta) (notV f) := by
  intro F env σ H W Q r p
  refine Sn.go (t := ta) h1 r p fun env H W sv v rel s rv p => ?_
  cases q : sv.d with
  | bl b =>
    rw [q] at p
    exact ⟨b, rV_bl rel rv q, sf_pbl rel p⟩
  | _ => rw [q] at p; exact p.elim
theorem sf_if {c : En → R Bool} {f g : En → R SV} (hc : SB K E tt c) (h1 : SF K E ta f) (h2 : SF K E tb g) : SF K E (tIf tt ta tb) (ifE c f g) := by
  intro F env σ H W Q r p
  refine Sn.go (t := tt) hc r p fun env H W a b rel s rv p => ?_
  have e : a = b := rv
  subst e
  cases a with
  | true => exact h1 F env σ H W Q rel p
  | false => exact h2 F env σ H W Q rel p
end
end DL

namespace DL
open PySem L2

inductive RS where
  | nx (e : En) | ret (sv : SV) (e : En) | bk (e : En) | ct (e : En) | exc (x : Xc) (e : En) | stuck
def PostS (K : PySem.W.Frag) (E : XK) (F : Fm) (H : Hp) (W : List Addr) (T : Ends) : RS → Prop
  | .nx e => ∀ σ' H' W', Rel K F e σ' H' W' → Step H W H' W' → T.nx σ' H'
  | .bk e => ∀ σ' H' W', Rel K F e σ' H' W' → Step H W H' W' → T.bk σ' H'
  | .ct e => ∀ σ' H' W', Rel K F e σ' H' W' → Step H W H' W' → T.ct σ' H'
  | .ret sv e => ∀ v σ' H' W', Rel K F e σ' H' W' → Step H W H' W' → rV K sv F e σ' H' W' v → T.rt v H'
  | .exc x e => ∀ c d σ' H' W', Rel K F e σ' H' W' → Step H W H' W' → XOk K F H' W' x c d → E c d H'
  | .stuck => False
def SS (K : PySem.W.Frag) (E : XK) (t : TS) (f : En → RS) : Prop := ∀ F env σ H W T, Rel K F env σ H W → PostS K E F H W T (f env) → t T σ H
theorem PostS.from {K : PySem.W.Frag} {E : XK} {F : Fm} {H H1 : Hp} {W W1 : List Addr} {T : Ends} (s : Step H W H1 W1) : ∀ {r : RS}, PostS K E F H W T r → PostS K E F H1 W1 T r
  | .nx _, h => fun σ' H' W' r q => h σ' H' W' r (s.trans q)
  | .bk _, h => fun σ' H' W' r q => h σ' H' W' r (s.trans q)
  | .ct _, h => fun σ' H' W' r q => h σ' H' W' r (s.trans q)
  | .ret _ _, h => fun v σ' H' W' r q => h v σ' H' W' r (s.trans q)
  | .exc _ _, h => fun c d σ' H' W' r q => h c d σ' H' W' r (s.trans q)
  | .stuck, h => h

def seqS (f g : En → RS) : En → RS := fun e => match f e with
  | .nx e' => g e'
  | .ret sv e' => .ret sv e'
  | .bk e' => .bk e'
  | .ct e' => .ct e'
  | .exc x e' => .exc x e'
  | .stuck => .stuck
def bindS {α : Type} (f : En → R α) (k : α → En → RS) : En → RS := fun e => match f e with
  | .ok a e' => k a e'
  | .exc x e' => .exc x e'
  | .stuck => .stuck
def ifS (c : En → R Bool) (f g : En → RS) : En → RS := bindS c fun b e => if b then f e else g e
def setS (i : Nat) (f : En → R SV) : En → RS := bindS f fun sv e => match sv.fl with
  | .b => .stuck
  | .u => .stuck
  | _ => if i < e.length then .nx (e.set i (some sv)) else .stuck
def dropS (f : En → R SV) : En → RS := bindS f fun _ e => .nx e
def retS (f : En → R SV) : En → RS := bindS f fun sv e => .ret sv e
/-- return x: a list of one's own goes out as the asker's own -/
def retVarS (i : Nat) : En → RS := fun e => match e.sv i with
  | some ⟨.p, d⟩ => .ret ⟨.p, d⟩ e
  | some ⟨.o, d⟩ => .ret ⟨.o, d⟩ (e.set i none)
  | some ⟨.t, d⟩ => .ret ⟨.t, d⟩ (e.set i none)
  | _ => .stuck
def asgS (asg : D → En → Option En) (f : En → R SV) : En → RS := bindS f fun sv e => match asg sv.d e with
  | some e' => .nx e'
  | none => .stuck
/-- a source that is walked: its items; a lent list, by its slot, must stay -/
structure Src where
  ds : List D
  grd : Option Nat
def Grd (s : Src) (e : En) : Prop := match s.grd with
  | none => True
  | some j => e.sv j = some ⟨.b, .lst s.ds⟩
open Classical in
noncomputable def loopS (s : Src) (asg : D → En → Option En) (body : En → RS) : List D → En → RS
  | [], e => if Grd s e then .nx e else .stuck
  | d :: ds, e => if Grd s e then (match asg d e with
    | none => .stuck
    | some e1 => match body e1 with
      | .nx e2 => loopS s asg body ds e2
      | .ct e2 => loopS s asg body ds e2
      | .bk e2 => .nx e2
      | .ret sv e2 => .ret sv e2
      | .exc x e2 => .exc x e2
      | .stuck => .stuck) else .stuck
noncomputable def forS (fs : En → R Src) (asg : D → En → Option En) (body : En → RS) : En → RS := bindS fs fun s e => loopS s asg body s.ds e
def whileL (c : En → R Bool) (body : En → RS) : Nat → En → RS
  | 0, _ => .stuck
  | n + 1, e => match c e with
    | .ok true e1 => (match body e1 with
      | .nx e2 => whileL c body n e2
      | .ct e2 => whileL c body n e2
      | .bk e2 => .nx e2
      | .ret sv e2 => .ret sv e2
      | .exc x e2 => .exc x e2
      | .stuck => .stuck)
    | .ok false e1 => .nx e1
    | .exc x e1 => .exc x e1
    | .stuck => .stuck
open Classical in
noncomputable def whileS (c : En → R Bool) (body : En → RS) : En → RS := fun e => if h : ∃ n r, whileL c body n e = r ∧ r ≠ .stuck then whileL c body (Classical.choose h) e else .stuck

def wipeE (e : En) : List Nat → En
  | [] => e
  | v :: vs => (wipeE e vs).set v none
/-- behind a comprehension the names that it hid -/
def restE (e e' : En) : List Nat → En
  | [] => e'
  | v :: vs => (restE e e' vs).set v (match e.sv v with | some ⟨.p, d⟩ => some ⟨.p, d⟩ | _ => none)
open Classical in
noncomputable def compLoop (s : Src) (vs : List Nat) (asg : D → En → Option En) (test : En → R Bool) (elt : En → R Opd) : List D → En → List D → R (List D)
  | [], e, acc => if Grd s e then .ok acc e else .stuck
  | d :: ds, e, acc => if Grd s e then (match asg d e with
    | none => .stuck
    | some e1 => match test e1 with
      | .ok true e2 => (match elt e2 with
        | .ok o e3 => (match pureO o e3 with
          | some (y, e4) => if acc.length < 100000 then compLoop s vs asg test elt ds (wipeE e4 vs) (acc ++ [y]) else .stuck
          | none => .stuck)
        | _ => .stuck)
      | .ok false e2 => compLoop s vs asg test elt ds (wipeE e2 vs) acc
      | _ => .stuck) else .stuck
noncomputable def compE (fs : En → R Src) (vs : List Nat) (asg : D → En → Option En) (test : En → R Bool) (elt : En → R Opd) : En → R SV := bindR fs fun s e =>
  match compLoop s vs asg test elt s.ds (wipeE e vs) [] with
  | .ok acc e' => .ok ⟨.o, .lst acc⟩ (restE e e' vs)
  | _ => .stuck

section
variable {K : PySem.W.Frag} {E : XK} {F : Fm} {env env' : En} {σ σ' : St} {H H' : Hp} {W W' : List Addr} {ta tb tc te : TE} {tt tu : TT} {ts tr : TS}
theorem Sn.goS {α β : Type} {rel : α → Fm → En → St → Hp → List Addr → β → Prop} {t : St → Hp → (β → Hp → Prop) → Prop} {f : En → R α} {k : α → En → RS} {T : Ends} {Q1 : β → Hp → Prop}
    (h : Sn rel K E t f) (r : Rel K F env σ H W) (p : PostS K E F H W T (bindS f k env)) (hk : ∀ e H' W' a v, Rel K F e σ H' W' → Step H W H' W' → rel a F e σ H' W' v → PostS K E F H' W' T (k a e) → Q1 v H') : t σ H Q1 := by
  refine h F env σ H W _ r ?_
  unfold bindS at p
  cases q : f env with
  | ok a e =>
    rw [q] at p
    exact fun v H' W' r' s' hv => hk e H' W' a v r' s' hv (PostS.from s' p)
  | exc x e => rw [q] at p; exact fun c d H' W' r' s' hx => p c d σ H' W' r' s' hx
  | stuck => rw [q] at p; exact p
theorem ss_nil : SS K E tNext .nx := fun F env σ H W T r p => p σ H W r (Step.refl H W)
theorem ss_break : SS K E tBreak .bk := fun F env σ H W T r p => p σ H W r (Step.refl H W)
theorem ss_cont : SS K E tCont .ct := fun F env σ H W T r p => p σ H W r (Step.refl H W)
theorem ss_never : SS K E tNever (fun _ => .stuck) := fun F env σ H W T r p => p
theorem ss_seq {f g : En → RS} (h1 : SS K E ts f) (h2 : SS K E tr g) : SS K E (tSeq ts tr) (seqS f g) := by
  intro F env σ H W T r p
  refine h1 F env σ H W _ r ?_
  unfold seqS at p
  cases q : f env with
  | nx e => rw [q] at p; exact fun σ' H' W' r' s' => h2 F e σ' H' W' T r' (PostS.from s' p)
  | ret sv e => rw [q] at p; exact p
  | bk e => rw [q] at p; exact p
  | ct e => rw [q] at p; exact p
  | exc x e => rw [q] at p; exact p
  | stuck => rw [q] at p; exact p
theorem ss_if {c : En → R Bool} {f g : En → RS} (hc : SB K E tt c) (h1 : SS K E ts f) (h2 : SS K E tr g) : SS K E (tIfS tt ts tr) (ifS c f g) := by
  intro F env σ H W T r p
  refine Sn.goS (t := tt) hc r p fun e H W a b rel s rv p => ?_
  have e : a = b := rv
  subst e
  cases a with
  | true => exact h1 F _ σ H W T rel p
  | false => exact h2 F _ σ H W T rel p
theorem ss_set {i : Nat} {f : En → R SV} (h : SF K E te f) : SS K E (tAsg te (gName i)) (setS i f) := by
  intro F env σ H W T r p
  refine Sn.goS (t := te) h r p fun e H W sv v rel s rv p => ?_
  obtain ⟨fl, d⟩ := sv
  have key : PostS K E F H W T (if i < e.length then .nx (e.set i (some ⟨fl, d⟩)) else .stuck) → gName i v σ H T.nx := fun p => by
    by_cases hi : i < e.length
    · rw [if_pos hi] at p
      exact p _ H W (rel.store hi rv) (Step.refl H W)
    · rw [if_neg hi] at p; exact p.elim
  cases fl with
  | p => exact key p
  | o => exact key p
  | t => exact key p
  | b => exact p.elim
  | u => exact p.elim
theorem ss_drop {f : En → R SV} (h : SF K E te f) : SS K E (tDrop te) (dropS f) := by
  intro F env σ H W T r p
  exact Sn.goS (t := te) h r p fun e H W sv v rel s rv p => p σ H W rel (Step.refl H W)
theorem ss_ret {f : En → R SV} (h : SF K E te f) : SS K E (tRet te) (retS f) := by
  intro F env σ H W T r p
  exact Sn.goS (t := te) h r p fun e H W sv v rel s rv p => p v σ H W rel (Step.refl H W) rv
theorem ss_retN : SS K E tRetN (fun e => .ret ⟨.p, .non⟩ e) := fun F env σ H W T r p => p .non σ H W r (Step.refl H W) (.inl ⟨rfl, .non⟩)
/-- a slot forgotten -/
theorem Fps.forget {fps : Nat → List Addr} (f : Fps K F env σ H W fps) {i : Nat} (hi : i < env.length) : Fps K F (env.set i none) σ H W fps :=
  ⟨fun j sw e => by
    rw [En.sv_set hi] at e
    by_cases hj : j = i
    · rw [if_pos hj] at e; cases e
    · rw [if_neg hj] at e; exact f.sl j sw e,
   fun j k sj sk ej ek => by
    rw [En.sv_set hi] at ej ek
    by_cases hj : j = i
    · rw [if_pos hj] at ej; cases ej
    · by_cases hk : k = i
      · rw [if_pos hk] at ek; cases ek
      · rw [if_neg hj] at ej; rw [if_neg hk] at ek
        exact f.dj j k sj sk ej ek⟩
theorem Rel.forget (r : Rel K F env σ H W) {i : Nat} (hi : i < env.length) : Rel K F (env.set i none) σ H W where
  len := by simp [r.len]
  ex := let ⟨fps, f⟩ := r.ex; ⟨fps, f.forget hi⟩
  bor := fun j sw e b => by
    rw [En.sv_set hi] at e
    by_cases hj : j = i
    · rw [if_pos hj] at e; cases e
    · rw [if_neg hj] at e; exact r.bor j sw e b
  trk := r.trk
  frt := r.frt
  dis := r.dis
  wt := r.wt
/-- what a slot holds is given out -/
theorem rV.out (r : Rel K F env σ H W) {i : Nat} {sv : SV} {v : V} (e : env.sv i = some sv) (hs : σ[i]? = some (some v)) (ow : sv.fl.own = true) : rV K sv F (env.set i none) σ H W v := by
  obtain ⟨fps, f⟩ := r.ex
  obtain ⟨u, h1, h2⟩ := f.sl i sv e
  rw [hs] at h1; cases h1
  refine .inr ⟨ow, fps, fps i, f.forget (En.sv_lt e), h2, fun j sw ej a z y => ?_⟩
  rw [En.sv_set (En.sv_lt e)] at ej
  by_cases hj : j = i
  · rw [if_pos hj] at ej; cases ej
  · rw [if_neg hj] at ej
    exact f.dj j i sw sv ej e hj a y z
theorem ss_retVar {i : Nat} : SS K E (tRet (tVar i)) (retVarS i) := by
  intro F env σ H W T r p
  unfold retVarS at p
  cases q : env.sv i with
  | none => rw [q] at p; exact p.elim
  | some sv =>
    obtain ⟨fl, d⟩ := sv
    rw [q] at p
    obtain ⟨v, h1, fp, h2⟩ := r.sl i _ q
    refine ⟨v, h1, ?_⟩
    cases fl with
    | p =>
      rcases h2 with ⟨_, _, h2⟩ | ⟨h2, _⟩
      · exact p v σ H W r (Step.refl H W) (rV.p h2)
      · exact absurd rfl h2.np
    | b => exact p.elim
    | u => exact p.elim
    | o => exact p v σ H W (r.forget (En.sv_lt q)) (Step.refl H W) (rV.out r q h1 rfl)
    | t => exact p v σ H W (r.forget (En.sv_lt q)) (Step.refl H W) (rV.out r q h1 rfl)
/-- targets: a plain assignment of data that is read alone; the slots is alone are stored -/
def Agree (is : List Nat) (σ σ' : St) : Prop := σ'.length = σ.length ∧ ∀ j, j ∉ is → σ'[j]? = σ[j]?
theorem Agree.refl (is : List Nat) (σ : St) : Agree is σ σ := ⟨rfl, fun _ _ => rfl⟩
def SG (K : PySem.W.Frag) (g : TG) (is : List Nat) (asg : D → En → Option En) : Prop := ∀ F env σ H W v d env' (Q : St → Hp → Prop), Rel K F env σ H W → Rp K H (W ++ F.fr) v d → asg d env = some env' →
  (∀ σ' H' W', Rel K F env' σ' H' W' → Step H W H' W' → Agree is σ σ' → Q σ' H') → g v σ H Q
def SGs (K : PySem.W.Frag) (g : TGs) (is : List Nat) (asg : List D → En → Option En) : Prop := ∀ F env σ H W v d env' (Q : St → Hp → Prop), Rel K F env σ H W → RpL K H (W ++ F.fr) v d → asg d env = some env' →
  (∀ σ' H' W', Rel K F env' σ' H' W' → Step H W H' W' → Agree is σ σ' → Q σ' H') → g v σ H Q
def nameG (i : Nat) : D → En → Option En := fun d e => if i < e.length then some (e.set i (some ⟨.p, d⟩)) else none
def nilG : List D → En → Option En := fun ds e => match ds with | [] => some e | _ => none
def consG (g : D → En → Option En) (gs : List D → En → Option En) : List D → En → Option En := fun ds e => match ds with
  | [] => none
  | d :: r => match g d e with | some e1 => gs r e1 | none => none
def tupG (n : Nat) (gs : List D → En → Option En) : D → En → Option En := fun d e => match d with
  | .tup ds => if ds.length = n then gs ds e else none
  | _ => none
theorem sg_name {i : Nat} : SG K (gName i) [i] (nameG i) := by
  intro F env σ H W v d env' Q r h e k
  unfold nameG at e
  by_cases hi : i < env.length
  · rw [if_pos hi] at e; cases e
    refine k _ H W (r.storeP hi h) (Step.refl H W) ⟨by simp, fun j hj => ?_⟩
    rw [List.getElem?_set_ne (fun z => hj (by rw [← z]; simp))]
  · rw [if_neg hi] at e; cases e
theorem sgs_nil : SGs K gNil [] nilG := by
  intro F env σ H W v d env' Q r h e k
  cases h with
  | nil => cases e; exact ⟨rfl, k σ H W r (Step.refl H W) (Agree.refl _ _)⟩
  | cons _ _ => cases e
theorem sgs_cons {g : TG} {gs : TGs} {is js : List Nat} {a : D → En → Option En} {as : List D → En → Option En} (h1 : SG K g is a) (h2 : SGs K gs js as) : SGs K (gCons g gs) (is ++ js) (consG a as) := by
  intro F env σ H W v d env' Q r h e k
  cases h with
  | nil => cases e
  | cons p q =>
    rename_i v0 vs0 d0 ds0
    unfold consG at e
    dsimp only at e
    cases e1 : a d0 env with
    | none => rw [e1] at e; cases e
    | some en1 =>
      rw [e1] at e
      refine ⟨_, _, rfl, h1 F env σ H W _ _ en1 _ r p e1 fun σ1 H1 W1 r1 s1 a1 => ?_⟩
      refine h2 F en1 σ1 H1 W1 _ _ env' _ r1 (s1.rpL q) e fun σ2 H2 W2 r2 s2 a2 => ?_
      refine k σ2 H2 W2 r2 (s1.trans s2) ⟨a2.1.trans a1.1, fun j hj => ?_⟩
      rw [a2.2 j fun z => hj (List.mem_append_right _ z), a1.2 j fun z => hj (List.mem_append_left _ z)]
theorem sg_tup {n : Nat} {gs : TGs} {is : List Nat} {as : List D → En → Option En} (h : SGs K gs is as) : SG K (gTup K n gs) is (tupG n as) := by
  intro F env σ H W v d env' Q r hv e k
  cases hv with
  | tup hs hl =>
    unfold tupG at e
    dsimp only at e
    rename_i a xs ds
    by_cases hn : ds.length = n
    · rw [if_pos hn] at e
      exact ⟨_, _, rfl, hs.sq, hl.length.trans hn, h F env σ H W _ _ env' Q r hl e k⟩
    · rw [if_neg hn] at e; cases e
  | _ => cases e
theorem ss_asg {g : TG} {is : List Nat} {asg : D → En → Option En} {f : En → R SV} (h : SF K E te f) (hg : SG K g is asg) : SS K E (tAsg te g) (asgS asg f) := by
  intro F env σ H W T r p
  refine Sn.goS (t := te) h r p fun e H W sv v rel s rv p => ?_
  obtain ⟨W2, r2, s2, h2⟩ := keep_fresh rel rv
  cases q : asg sv.d e with
  | none => rw [q] at p; exact p.elim
  | some e2 =>
    rw [q] at p
    exact hg F e σ H W2 v sv.d e2 _ r2 h2 q fun σ' H' W' r' s' _ => p σ' H' W' r' (s2.trans s')

def ItOk (K : PySem.W.Frag) (s0 : St) (s : Src) (A : List Addr) (H : Hp) (J : It) : Prop :=
  ∀ A' H', (∀ a o, a ∉ A → H a = some o → H' a = some o) → (∀ a, a ∈ A' → a ∈ A ∨ H a = none) → (∀ a ∈ A', H' a ≠ none) →
    (∀ j, s.grd = some j → ∃ a, s0[j]? = some (some (.ref a)) ∧ Ow K H' A' a (.lst s.ds)) →
    (∀ i d, s.ds[i]? = some d → J.go i H' ∧ ∀ x H'', J.yld i H' x H'' → (H'' = H' ∨ ∃ q o, H' q = none ∧ H'' = upd H' q o) ∧ Rp K H'' A' x d) ∧ (∀ i, s.ds.length ≤ i → J.stop i H')
def rI (K : PySem.W.Frag) : Src → Fm → En → St → Hp → List Addr → It → Prop := fun s F _ _ H W J => ItOk K F.s0 s (W ++ F.fr) H J
abbrev SI (K : PySem.W.Frag) (E : XK) (t : TI) (f : En → R Src) : Prop := Sn (rI K) K E t f
theorem Rel.all (r : Rel K F env σ H W) : ∀ a ∈ W ++ F.fr, H a ≠ none := fun a z => (List.mem_append.mp z).elim (r.wt a) (r.frt a)
theorem Rel.grd (r : Rel K F env σ H W) {s : Src} (g : Grd s env) : ∀ j, s.grd = some j → ∃ a, F.s0[j]? = some (some (.ref a)) ∧ Ow K H (W ++ F.fr) a (.lst s.ds) := fun j e => by
  unfold Grd at g
  rw [e] at g
  dsimp only at g
  obtain ⟨v, h1, fp, h2⟩ := r.sl j _ g
  obtain ⟨a, e2, _, _, ho, _⟩ := h2.sh (.inr rfl)
  subst e2
  exact ⟨a, by rw [← r.bor j _ g rfl]; exact h1, ho⟩
theorem Rel.grown (r : Rel K F env σ H W) (h : H' = H ∨ ∃ q o, H q = none ∧ H' = upd H q o) : Rel K F env σ H' W ∧ Step H W H' W := by
  rcases h with rfl | ⟨q, o, hq, rfl⟩
  · exact ⟨r, Step.refl _ W⟩
  · exact ⟨r.newP hq, Step.new hq⟩
theorem ss_for {wi : TI} {g : TG} {is : List Nat} {asg : D → En → Option En} {fs : En → R Src} {body : En → RS} (hi : SI K E wi fs) (hg : SG K g is asg) (hb : SS K E ts body) : SS K E (tFor wi g ts) (forS fs asg body) := by
  intro F env σ H W T r p
  refine Sn.goS (t := wi) hi r p fun e H1 W1 s J rel _ it p => ?_
  refine ⟨fun i m σ' H' => m = s.ds.length - i ∧ i ≤ s.ds.length ∧ ∃ en W', Rel K F en σ' H' W' ∧ Step H1 W1 H' W' ∧ PostS K E F H' W' T (loopS s asg body (s.ds.drop i) en), ⟨s.ds.length, by simp, Nat.zero_le _, e, W1, rel, Step.refl _ _, by simpa using p⟩, ?_⟩
  rintro i m σ2 H2 ⟨rfl, hi, en, W2, r2, s2, p2⟩
  by_cases hlt : i < s.ds.length
  · rw [List.drop_eq_getElem_cons hlt] at p2
    unfold loopS at p2
    by_cases hG : Grd s en
    · rw [if_pos hG] at p2
      obtain ⟨k1, k2⟩ := it (W2 ++ F.fr) H2 s2.pF s2.gF r2.all (r2.grd hG)
      obtain ⟨go, yl⟩ := k1 i _ (List.getElem?_eq_getElem hlt)
      refine .inr ⟨go, fun σ' H' => s.ds.length - (i + 1) < s.ds.length - i ∧ i + 1 ≤ s.ds.length ∧ ∃ en W', Rel K F en σ' H' W' ∧ Step H1 W1 H' W' ∧ PostS K E F H' W' T (loopS s asg body (s.ds.drop (i + 1)) en), fun σ' H' ⟨q1, q2, q3⟩ => ⟨_, q1, rfl, q2, q3⟩, fun x H3 y => ?_⟩
      obtain ⟨gr, rx⟩ := yl x H3 y
      obtain ⟨r3, s3⟩ := r2.grown gr
      cases ea : asg s.ds[i] en with
      | none => rw [ea] at p2; exact p2.elim
      | some e1 =>
        rw [ea] at p2; dsimp only at p2
        refine hg F en σ2 H3 W2 x _ e1 _ r3 rx ea fun σ4 H4 W4 r4 s4 _ => hb F e1 σ4 H4 W4 _ r4 ?_
        have s24 := s3.trans s4
        cases q : body e1 with
        | nx e2 => rw [q] at p2; exact fun σ5 H5 W5 r5 s5 => ⟨by omega, by omega, e2, W5, r5, s2.trans (s24.trans s5), PostS.from (s24.trans s5) p2⟩
        | ct e2 => rw [q] at p2; exact fun σ5 H5 W5 r5 s5 => ⟨by omega, by omega, e2, W5, r5, s2.trans (s24.trans s5), PostS.from (s24.trans s5) p2⟩
        | bk e2 => rw [q] at p2; exact fun σ5 H5 W5 r5 s5 => p2 σ5 H5 W5 r5 (s24.trans s5)
        | ret sv e2 => rw [q] at p2; exact fun v σ5 H5 W5 r5 s5 => p2 v σ5 H5 W5 r5 (s24.trans s5)
        | exc x e2 => rw [q] at p2; exact fun c d σ5 H5 W5 r5 s5 => p2 c d σ5 H5 W5 r5 (s24.trans s5)
        | stuck => rw [q] at p2; exact p2.elim
    · rw [if_neg hG] at p2; exact p2.elim
  · have e0 : i = s.ds.length := by omega
    subst e0
    rw [List.drop_length] at p2
    unfold loopS at p2
    by_cases hG : Grd s en
    · rw [if_pos hG] at p2
      obtain ⟨_, k2⟩ := it (W2 ++ F.fr) H2 s2.pF s2.gF r2.all (r2.grd hG)
      exact .inl ⟨k2 _ (Nat.le_refl _), p2 σ2 H2 W2 r2 (Step.refl _ _)⟩
    · rw [if_neg hG] at p2; exact p2.elim
theorem ss_whileL {c : En → R Bool} {body : En → RS} (hc : SB K E tt c) (hb : SS K E ts body) (n : Nat) {T : Ends} (r : Rel K F env σ H W) (p : PostS K E F H W T (whileL c body n env)) : tWhile tt ts T σ H := by
  refine ⟨fun m σ' H' => ∃ en W', Rel K F en σ' H' W' ∧ Step H W H' W' ∧ PostS K E F H' W' T (whileL c body m en), ⟨n, env, W, r, Step.refl _ _, p⟩, ?_⟩
  rintro m σ2 H2 ⟨en, W2, r2, s2, p2⟩
  cases m with
  | zero => exact p2.elim
  | succ m =>
    unfold whileL at p2
    refine hc F en σ2 H2 W2 _ r2 ?_
    cases q : c en with
    | exc x e => rw [q] at p2; exact fun c d H' W' r' s' hx => p2 c d σ2 H' W' r' s' hx
    | stuck => rw [q] at p2; exact p2
    | ok b e1 =>
      rw [q] at p2
      intro b' H3 W3 r3 s3 eb
      have eb' : b = b' := eb
      subst eb'
      cases b with
      | false =>
        show T.nx σ2 H3
        exact p2 σ2 H3 W3 r3 s3
      | true =>
        dsimp only at p2
        refine ⟨fun σ' H' => ∃ en W', Rel K F en σ' H' W' ∧ Step H W H' W' ∧ PostS K E F H' W' T (whileL c body m en), fun σ' H' z => ⟨m, Nat.lt_succ_self m, z⟩, hb F e1 σ2 H3 W3 _ r3 ?_⟩
        cases q : body e1 with
        | nx e2 => rw [q] at p2; exact fun σ5 H5 W5 r5 s5 => ⟨e2, W5, r5, s2.trans (s3.trans s5), PostS.from (s3.trans s5) p2⟩
        | ct e2 => rw [q] at p2; exact fun σ5 H5 W5 r5 s5 => ⟨e2, W5, r5, s2.trans (s3.trans s5), PostS.from (s3.trans s5) p2⟩
        | bk e2 => rw [q] at p2; exact fun σ5 H5 W5 r5 s5 => p2 σ5 H5 W5 r5 (s3.trans s5)
        | ret sv e2 => rw [q] at p2; exact fun v σ5 H5 W5 r5 s5 => p2 v σ5 H5 W5 r5 (s3.trans s5)
        | exc x e2 => rw [q] at p2; exact fun c d σ5 H5 W5 r5 s5 => p2 c d σ5 H5 W5 r5 (s3.trans s5)
        | stuck => rw [q] at p2; exact p2.elim
theorem ss_while {c : En → R Bool} {body : En → RS} (hc : SB K E tt c) (hb : SS K E ts body) : SS K E (tWhile tt ts) (whileS c body) := by
  intro F env σ H W T r p
  unfold whileS at p
  split at p
  · exact ss_whileL hc hb _ r p
  · exact p.elim
/-- more turns than enough change nothing -/
theorem whileL_more {c : En → R Bool} {body : En → RS} : ∀ (n : Nat) (e : En) (k : Nat), whileL c body n e ≠ .stuck → whileL c body (n + k) e = whileL c body n e
  | 0, e, k, h => absurd rfl h
  | n + 1, e, k, h => by
    have e1 : n + 1 + k = (n + k) + 1 := by omega
    rw [e1]
    unfold whileL at h ⊢
    cases q : c e with
    | ok b e1 =>
      rw [q] at h
      cases b with
      | false => rfl
      | true =>
        dsimp only at h ⊢
        cases q2 : body e1 with
        | nx e2 => rw [q2] at h; exact whileL_more n e2 k h
        | ct e2 => rw [q2] at h; exact whileL_more n e2 k h
        | _ => rfl
    | _ => rfl
theorem whileS_eq {c : En → R Bool} {body : En → RS} {e : En} (n : Nat) (h : whileL c body n e ≠ .stuck) : whileS c body e = whileL c body n e := by
  have hx : ∃ n r, whileL c body n e = r ∧ r ≠ .stuck := ⟨n, _, rfl, h⟩
  unfold whileS
  rw [dif_pos hx]
  obtain ⟨r, h1, h2⟩ := Classical.choose_spec hx
  have h3 : whileL c body (Classical.choose hx) e ≠ .stuck := by rw [h1]; exact h2
  rw [← whileL_more _ e n h3, ← whileL_more n e (Classical.choose hx) h, Nat.add_comm]

theorem wipeE_len (e : En) : ∀ vs : List Nat, (wipeE e vs).length = e.length
  | [] => rfl
  | v :: vs => by unfold wipeE; rw [List.length_set, wipeE_len e vs]
theorem wipeE_sv {e : En} {j : Nat} : ∀ {vs : List Nat}, (wipeE e vs).sv j = if j ∈ vs then none else e.sv j
  | [] => by simp [wipeE]
  | v :: vs => by
    unfold wipeE
    by_cases hv : v < (wipeE e vs).length
    · rw [En.sv_set hv]
      by_cases hj : j = v
      · subst hj; simp
      · rw [if_neg hj, wipeE_sv]
        simp [hj]
    · rw [List.set_eq_of_length_le (by omega), wipeE_sv]
      by_cases hj : j = v
      · subst hj
        have : e.sv j = none := En.sv_len (by rw [wipeE_len] at hv; omega)
        simp [this]
      · simp [hj]
theorem restE_len (e e' : En) : ∀ vs : List Nat, (restE e e' vs).length = e'.length
  | [] => rfl
  | v :: vs => by unfold restE; rw [List.length_set, restE_len e e' vs]
theorem restE_sv {e e' : En} {j : Nat} : ∀ {vs : List Nat} {sv : SV}, (restE e e' vs).sv j = some sv → (j ∈ vs ∧ sv.fl = .p ∧ e.sv j = some sv) ∨ (j ∉ vs ∧ e'.sv j = some sv)
  | [], sv, h => .inr ⟨by simp, h⟩
  | v :: vs, sv, h => by
    unfold restE at h
    by_cases hv : v < (restE e e' vs).length
    · rw [En.sv_set hv] at h
      by_cases hj : j = v
      · subst hj
        rw [if_pos rfl] at h
        cases q : e.sv j with
        | none => rw [q] at h; cases h
        | some sw =>
          obtain ⟨fl, d⟩ := sw
          rw [q] at h
          cases fl with
          | p => cases h; exact .inl ⟨by simp, rfl, rfl⟩
          | o => cases h
          | b => cases h
          | t => cases h
          | u => cases h
      · rw [if_neg hj] at h
        rcases restE_sv h with ⟨h1, h2, h3⟩ | ⟨h1, h2⟩
        · exact .inl ⟨by simp [h1], h2, h3⟩
        · exact .inr ⟨by simp [h1, hj], h2⟩
    · rw [List.set_eq_of_length_le (by omega)] at h
      rcases restE_sv h with ⟨h1, h2, h3⟩ | ⟨h1, h2⟩
      · exact .inl ⟨by simp [h1], h2, h3⟩
      · refine .inr ⟨?_, h2⟩
        have : j ≠ v := fun z => by
          have := En.sv_lt h2
          rw [restE_len] at hv
          omega
        simp [h1, this]
theorem Fps.wipe {fps : Nat → List Addr} (f : Fps K F env σ H W fps) (vs : List Nat) : Fps K F (wipeE env vs) (L2.wipe σ vs) H W fps :=
  ⟨fun j sw e => by
    rw [wipeE_sv] at e
    by_cases hj : j ∈ vs
    · rw [if_pos hj] at e; cases e
    · rw [if_neg hj] at e
      rw [wipe_out hj]
      exact f.sl j sw e,
   fun j k sj sk ej ek => by
    rw [wipeE_sv] at ej ek
    by_cases hj : j ∈ vs
    · rw [if_pos hj] at ej; cases ej
    · by_cases hk : k ∈ vs
      · rw [if_pos hk] at ek; cases ek
      · rw [if_neg hj] at ej; rw [if_neg hk] at ek
        exact f.dj j k sj sk ej ek⟩
theorem Rel.wipe (r : Rel K F env σ H W) (vs : List Nat) : Rel K F (wipeE env vs) (L2.wipe σ vs) H W where
  len := by rw [wipeE_len, wipe_length, r.len]
  ex := let ⟨fps, f⟩ := r.ex; ⟨fps, f.wipe vs⟩
  bor := fun j sw e b => by
    rw [wipeE_sv] at e
    by_cases hj : j ∈ vs
    · rw [if_pos hj] at e; cases e
    · rw [if_neg hj] at e
      rw [wipe_out hj]
      exact r.bor j sw e b
  trk := r.trk
  frt := r.frt
  dis := r.dis
  wt := r.wt
/-- one more address that nothing stands on -/
theorem Rel.frame (r : Rel K F env σ H W) {p : Addr} (o : HO) (hp : H p = none) : Rel K ⟨p :: F.fr, F.h0, F.s0⟩ env σ (upd H p o) W where
  len := r.len
  ex := by
    obtain ⟨fps, f⟩ := r.ex
    have hg : ∀ a, a ∈ W ++ (p :: F.fr) → a ∈ W ++ F.fr ∨ H a = none := fun a z => by
      rcases List.mem_append.mp z with z | z
      · exact .inl (List.mem_append_left _ z)
      · rcases List.mem_cons.mp z with rfl | z
        · exact .inr hp
        · exact .inl (List.mem_append_right _ z)
    have hk : ∀ a u, a ∉ W ++ F.fr → H a = some u → (upd H p o) a = some u := fun a u _ e => upd_kept hp a u e
    exact ⟨fps, fun i sv e => let ⟨v, h1, h2⟩ := f.sl i sv e; ⟨v, h1, h2.mono hk hg (fun a z => ⟨h2.inW a z, upd_kept hp a⟩) rfl⟩, f.dj⟩
  bor := r.bor
  trk := fun a e => r.trk a (by
    cases q : H a with
    | none => rfl
    | some u => rw [upd_kept hp a u q] at e; cases e)
  frt := fun a z => by
    rcases List.mem_cons.mp z with rfl | z
    · rw [upd_same]; simp
    · cases q : H a with
      | none => exact absurd q (r.frt a z)
      | some u => rw [upd_kept hp a u q]; simp
  dis := fun a z y => by
    rcases List.mem_cons.mp y with rfl | y
    · exact r.wt _ z hp
    · exact r.dis a z y
  wt := fun a z => by
    cases q : H a with
    | none => exact absurd q (r.wt a z)
    | some u => rw [upd_kept hp a u q]; simp
/-- an object that nothing stands on is changed -/
theorem Rel.fwrite (r : Rel K F env σ H W) {p : Addr} (o : HO) (hp : p ∈ F.fr) : Rel K F env σ (upd H p o) W := by
  have nW : p ∉ W := fun z => r.dis p z hp
  have hk : ∀ a u, a ∉ W ++ F.fr → H a = some u → (upd H p o) a = some u := fun a u n e => by
    rw [upd_ne (fun z => n (by rw [z]; exact List.mem_append_right _ hp))]; exact e
  have hg : ∀ a, a ∈ W ++ F.fr → a ∈ W ++ F.fr ∨ H a = none := fun a z => .inl z
  refine ⟨r.len, ?_, r.bor, fun a e => r.trk a ?_, fun a z => ?_, r.dis, fun a z => ?_⟩
  · obtain ⟨fps, f⟩ := r.ex
    exact ⟨fps, fun i sv e => let ⟨v, h1, h2⟩ := f.sl i sv e; ⟨v, h1, h2.mono hk hg (fun a z => ⟨h2.inW a z, fun u q => by
      rw [upd_ne (fun y => nW (by rw [← y]; exact h2.inW a z))]; exact q⟩) rfl⟩, f.dj⟩
  · by_cases h : a = p
    · rw [h, upd_same] at e; cases e
    · rw [upd_ne h] at e; exact e
  · by_cases h : a = p
    · rw [h, upd_same]; simp
    · rw [upd_ne h]; exact r.frt a z
  · by_cases h : a = p
    · rw [h, upd_same]; simp
    · rw [upd_ne h]; exact r.wt a z
theorem wipe_agree {σ σ2 : St} {vs is : List Nat} (a : Agree is (L2.wipe σ vs) σ2) (hs : ∀ i ∈ is, i ∈ vs) : L2.wipe σ2 vs = L2.wipe σ vs := by
  refine List.ext_getElem? fun j => ?_
  by_cases hj : j ∈ vs
  · have key : ∀ (τ : St) (ws : List Nat), j ∈ ws → j < τ.length → (L2.wipe τ ws)[j]? = some none := by
      intro τ ws
      induction ws with
      | nil => intro h; simp at h
      | cons w ws ih =>
        intro h hl
        unfold L2.wipe
        by_cases hw : w = j
        · subst hw
          exact List.getElem?_set_self (by rw [wipe_length]; exact hl)
        · rw [List.getElem?_set_ne hw]
          exact ih (by simpa [Ne.symm hw] using h) hl
    have l1 : σ2.length = σ.length := a.1.trans (wipe_length σ vs)
    by_cases hl : j < σ.length
    · rw [key σ2 vs hj (by omega), key σ vs hj hl]
    · rw [List.getElem?_eq_none (by rw [wipe_length]; omega), List.getElem?_eq_none (by rw [wipe_length]; omega)]
  · rw [wipe_out hj, a.2 j fun z => hj (hs j z)]
theorem Rel.restF {e : En} {H1 : Hp} {W1 : List Addr} {p : Addr} (r : Rel K F env σ H1 W1) (hp : H1 p = none) {vs : List Nat} (s : Step H1 W1 H W) (r2 : Rel K ⟨p :: F.fr, F.h0, F.s0⟩ e (L2.wipe σ vs) H W) :
    Rel K F (restE env e vs) σ H (p :: W) ∧ ∃ fps, Fps K F (restE env e vs) σ H (p :: W) fps ∧ ∀ j sw, (restE env e vs).sv j = some sw → p ∉ fps j := by
  have eq1 : ∀ a, a ∈ (p :: W) ++ F.fr → a ∈ W ++ (p :: F.fr) ∨ H a = none := fun a z => by
    rcases List.mem_append.mp z with z | z
    · rcases List.mem_cons.mp z with rfl | z
      · exact .inl (List.mem_append_right _ List.mem_cons_self)
      · exact .inl (List.mem_append_left _ z)
    · exact .inl (List.mem_append_right _ (List.mem_cons_of_mem _ z))
  have hk : ∀ a u, a ∉ W ++ (p :: F.fr) → H a = some u → H a = some u := fun _ _ _ e => e
  obtain ⟨fps, f⟩ := r2.ex
  have F2 : Fps K F (restE env e vs) σ H (p :: W) (fun j => if j ∈ vs then [] else fps j) := by
    refine ⟨fun j sv q => ?_, fun j k sj sk ej ek hjk a z => ?_⟩
    · rcases restE_sv q with ⟨h1, h2, h3⟩ | ⟨h1, h2⟩
      · obtain ⟨v, g1, fp, g2⟩ := r.sl j sv h3
        rw [if_pos h1]
        refine ⟨v, g1, .inl ⟨h2, rfl, ?_⟩⟩
        rcases g2 with ⟨_, _, g2⟩ | ⟨n, _⟩
        · refine g2.mono s.pF fun a z => ?_
          rcases List.mem_append.mp z with z | z
          · rcases List.mem_cons.mp z with rfl | z
            · exact .inr hp
            · rcases s.grow a z with z | z
              · exact .inl (List.mem_append_left _ z)
              · exact .inr z
          · exact .inl (List.mem_append_right _ z)
        · exact absurd h2 n.np
      · obtain ⟨v, g1, g2⟩ := f.sl j sv h2
        rw [wipe_out h1] at g1
        rw [if_neg h1]
        exact ⟨v, g1, g2.mono hk eq1 (fun a z => ⟨List.mem_cons_of_mem _ (g2.inW a z), fun _ e => e⟩) rfl⟩
    · by_cases h1 : j ∈ vs
      · rw [if_pos h1] at z; cases z
      · rw [if_neg h1] at z
        by_cases h2 : k ∈ vs
        · rw [if_pos h2]; intro y; cases y
        · rw [if_neg h2]
          rcases restE_sv ej with ⟨q, _⟩ | ⟨_, q1⟩
          · exact absurd q h1
          · rcases restE_sv ek with ⟨q, _⟩ | ⟨_, q2⟩
            · exact absurd q h2
            · exact f.dj j k sj sk q1 q2 hjk a z
  refine ⟨⟨by rw [restE_len, r2.len, wipe_length], ⟨_, F2⟩, fun j sv q b => ?_, r2.trk, fun a z => r2.frt a (List.mem_cons_of_mem _ z), fun a z y => ?_, fun a z => ?_⟩, _, F2, fun j sw ej y => ?_⟩
  · rcases restE_sv q with ⟨h1, h2, h3⟩ | ⟨h1, h2⟩
    · rw [h2] at b; cases b
    · have := r2.bor j sv h2 b
      rw [wipe_out h1] at this
      exact this
  · rcases List.mem_cons.mp z with rfl | z
    · exact r.frt _ y hp
    · exact r2.dis a z (List.mem_cons_of_mem _ y)
  · rcases List.mem_cons.mp z with rfl | z
    · exact r2.frt _ List.mem_cons_self
    · exact r2.wt a z
  · by_cases h1 : j ∈ vs
    · rw [if_pos h1] at y; cases y
    · rw [if_neg h1] at y
      rcases restE_sv ej with ⟨q, _⟩ | ⟨_, q1⟩
      · exact absurd q h1
      · obtain ⟨v, _, g2⟩ := f.sl j sw q1
        exact r2.dis p (g2.inW p y) List.mem_cons_self
theorem Rel.rest {e : En} {H1 : Hp} {W1 : List Addr} {p : Addr} (r : Rel K F env σ H1 W1) (hp : H1 p = none) {vs : List Nat} (s : Step H1 W1 H W) (r2 : Rel K ⟨p :: F.fr, F.h0, F.s0⟩ e (L2.wipe σ vs) H W) : Rel K F (restE env e vs) σ H (p :: W) := (r.restF hp s r2).1
/-- the new list behind a comprehension -/
theorem rV.rest {e : En} {H1 : Hp} {W1 : List Addr} {p : Addr} {d : D} (r : Rel K F env σ H1 W1) (hp : H1 p = none) {vs : List Nat} (s : Step H1 W1 H W) (r2 : Rel K ⟨p :: F.fr, F.h0, F.s0⟩ e (L2.wipe σ vs) H W) (h : Ow K H ((p :: W) ++ F.fr) p d) : rV K ⟨.o, d⟩ F (restE env e vs) σ H (p :: W) (.ref p) := by
  obtain ⟨_, fps, f, n⟩ := r.restF hp s r2
  refine .inr ⟨rfl, fps, [p], f, .inr ⟨.sh (.inl rfl) h, fun a z => by rw [List.mem_singleton.mp z]; exact List.mem_cons_self, fun _ a z => by rw [List.mem_singleton.mp z]; exact r.trk p hp⟩, fun j sw e a z y => ?_⟩
  rw [List.mem_singleton.mp z] at y
  exact n j sw e y
theorem sf_lc {wi : TI} {g : TG} {is vs : List Nat} {asg : D → En → Option En} {fs : En → R Src} {test : En → R Bool} {elt : En → R Opd} (hi : SI K E wi fs) (hg : SG K g is asg) (hs : ∀ i ∈ is, i ∈ vs) (ht : SB K E0 tt test) (he : SE K E0 te elt) :
    SF K E (tLc wi g tt te vs) (compE fs vs asg test elt) := by
  intro F env σ H W Q r p
  refine Sn.go (t := wi) hi r p fun e H1 W1 s J rel s1 it p => ?_
  intro Dl hD
  cases qc : compLoop s vs asg test elt s.ds (wipeE e vs) [] with
  | exc x e' => rw [qc] at p; exact p.elim
  | stuck => rw [qc] at p; exact p.elim
  | ok accF eF =>
    rw [qc] at p
    have r0 := (rel.frame (.lst []) hD).wipe vs
    have st0 : Step H1 W1 (upd H1 Dl (.lst [])) W1 := Step.new hD
    refine ⟨fun i m H' => m = s.ds.length - i ∧ i ≤ s.ds.length ∧ ∃ en W' av acc, Rel K ⟨Dl :: F.fr, F.h0, F.s0⟩ en (L2.wipe σ vs) H' W' ∧ Step H1 W1 H' W' ∧ H' Dl = some (.lst av) ∧ RpL K H' (W' ++ (Dl :: F.fr)) av acc ∧
      compLoop s vs asg test elt (s.ds.drop i) en acc = .ok accF eF, ⟨s.ds.length, by simp, Nat.zero_le _, _, W1, [], [], r0, st0, upd_same, .nil, by simpa using qc⟩, ?_⟩
    rintro i m H2 ⟨rfl, hi, en, W2, av, acc, r2, s2, hDl, hav, hc⟩
    have A2 : ∀ a o, a ∉ W1 ++ F.fr → H1 a = some o → H2 a = some o := s2.pF
    have B2 : ∀ a, a ∈ W2 ++ (Dl :: F.fr) → a ∈ W1 ++ F.fr ∨ H1 a = none := fun a z => by
      rcases List.mem_append.mp z with z | z
      · rcases s2.grow a z with z | z
        · exact .inl (List.mem_append_left _ z)
        · exact .inr z
      · rcases List.mem_cons.mp z with rfl | z
        · exact .inr hD
        · exact .inl (List.mem_append_right _ z)
    by_cases hlt : i < s.ds.length
    · rw [List.drop_eq_getElem_cons hlt] at hc
      unfold compLoop at hc
      by_cases hG : Grd s en
      · rw [if_pos hG] at hc
        obtain ⟨k1, _⟩ := it (W2 ++ (Dl :: F.fr)) H2 A2 B2 r2.all (r2.grd hG)
        obtain ⟨go, yl⟩ := k1 i _ (List.getElem?_eq_getElem hlt)
        refine .inr ⟨go, fun H' => i + 1 ≤ s.ds.length ∧ ∃ en W' av acc, Rel K ⟨Dl :: F.fr, F.h0, F.s0⟩ en (L2.wipe σ vs) H' W' ∧ Step H1 W1 H' W' ∧ H' Dl = some (.lst av) ∧ RpL K H' (W' ++ (Dl :: F.fr)) av acc ∧
          compLoop s vs asg test elt (s.ds.drop (i + 1)) en acc = .ok accF eF, fun H' z => ⟨s.ds.length - (i + 1), by omega, rfl, z.1, z.2⟩, fun x H3 y => ?_⟩
        obtain ⟨gr, rx⟩ := yl x H3 y
        obtain ⟨r3, s3⟩ := r2.grown gr
        cases ea : asg s.ds[i] en with
        | none => rw [ea] at hc; cases hc
        | some e1 =>
          rw [ea] at hc; dsimp only at hc
          refine hg _ en (L2.wipe σ vs) H3 W2 x _ e1 _ r3 rx ea fun σ4 H4 W4 r4 s4 a4 => ⟨wipe_agree a4 hs, ?_⟩
          have s24 := s3.trans s4
          have wst : L2.wipe σ4 vs = L2.wipe σ vs := wipe_agree a4 hs
          refine ht _ e1 σ4 H4 W4 _ r4 ?_
          cases qt : test e1 with
          | exc x e => rw [qt] at hc; cases hc
          | stuck => rw [qt] at hc; cases hc
          | ok b e2 =>
            rw [qt] at hc
            intro b' H5 W5 r5 s5 eb
            have eb' : b = b' := eb
            subst eb'
            have s25 := s24.trans s5
            have nD : Dl ∉ W5 := fun z => r5.dis Dl z List.mem_cons_self
            have nDl2 : Dl ∉ W2 := fun z => r2.dis Dl z List.mem_cons_self
            have h5 : H5 Dl = some (.lst av) := s25.pres Dl _ nDl2 hDl
            have k5 : RpL K H5 (W5 ++ (Dl :: F.fr)) av acc := s25.rpL (Fr := Dl :: F.fr) hav
            cases b with
            | false =>
              dsimp only at hc
              refine ⟨by omega, wipeE e2 vs, W5, av, acc, ?_, s2.trans s25, h5, k5, hc⟩
              have := r5.wipe vs
              rw [wst] at this
              exact this
            | true =>
              dsimp only at hc
              show te σ4 H5 _
              refine he _ e2 σ4 H5 W5 _ r5 ?_
              cases qe : elt e2 with
              | exc x e => rw [qe] at hc; cases hc
              | stuck => rw [qe] at hc; cases hc
              | ok o e3 =>
                rw [qe] at hc; dsimp only at hc
                intro y H6 W6 r6 s6 ry
                cases qp : pureO o e3 with
                | none => rw [qp] at hc; cases hc
                | some ye =>
                  obtain ⟨yd, e4⟩ := ye
                  rw [qp] at hc; dsimp only at hc
                  by_cases hz : acc.length < 100000
                  · rw [if_pos hz] at hc
                    obtain ⟨W7, r7, s7, k7⟩ := pureO_ok r6 ry qp
                    have s57 := s6.trans s7
                    have h6 : H6 Dl = some (.lst av) := s57.pres Dl _ nD h5
                    have k6 : RpL K H6 (W7 ++ (Dl :: F.fr)) av acc := s57.rpL (Fr := Dl :: F.fr) k5
                    refine ⟨av, h6, sz_lt (by rw [k6.length]; exact hz), by omega, wipeE e4 vs, W7, av ++ [y], acc ++ [yd], ?_, ?_, upd_same, ?_, hc⟩
                    · have := (r7.fwrite (.lst (av ++ [y])) List.mem_cons_self).wipe vs
                      rw [wst] at this
                      exact this
                    · have s17 := s2.trans (s25.trans s57)
                      refine ⟨fun a u n q => ?_, s17.grow⟩
                      rw [upd_ne (ne_of_none q hD)]
                      exact s17.pres a u n q
                    · have hk : ∀ a u, a ∉ W7 ++ (Dl :: F.fr) → H6 a = some u → (upd H6 Dl (.lst (av ++ [y]))) a = some u := fun a u n q => by
                        rw [upd_ne (fun z => n (by rw [z]; exact List.mem_append_right _ List.mem_cons_self))]; exact q
                      exact RpL.mono hk (fun a z => .inl z) (k6.append (.one k7))
                  · rw [if_neg hz] at hc; cases hc
      · rw [if_neg hG] at hc; cases hc
    · have e0 : i = s.ds.length := by omega
      subst e0
      rw [List.drop_length] at hc
      unfold compLoop at hc
      by_cases hG : Grd s en
      · rw [if_pos hG] at hc
        cases hc
        obtain ⟨_, k2⟩ := it (W2 ++ (Dl :: F.fr)) H2 A2 B2 r2.all (r2.grd hG)
        have rr := rel.rest hD s2 r2
        have nDl2 : Dl ∉ W2 := fun z => r2.dis Dl z List.mem_cons_self
        refine .inl ⟨k2 _ (Nat.le_refl _), p (.ref Dl) H2 (Dl :: W2) rr ⟨s2.pres, fun a z => ?_⟩ (rV.rest rel hD s2 r2 (.lst hDl ?_))⟩
        · rcases List.mem_cons.mp z with rfl | z
          · exact .inr hD
          · exact s2.grow a z
        · refine RpL.mono (fun _ _ _ e => e) (fun a z => ?_) hav
          rcases List.mem_append.mp z with z | z
          · rcases List.mem_cons.mp z with rfl | z
            · exact .inl (List.mem_append_right _ List.mem_cons_self)
            · exact .inl (List.mem_append_left _ z)
          · exact .inl (List.mem_append_right _ (List.mem_cons_of_mem _ z))
      · rw [if_neg hG] at hc; cases hc
end
end DL

namespace DL
open PySem L2

inductive RF where
  | ret (sv : SV) (ds : List D) | exc (x : Xc) (ds : List D) | stuck
/-- what stands in the lent arguments behind the run -/
def backD : List SV → En → Nat → Option (List D)
  | [], _, _ => some []
  | a :: as, e, i => match (match a.fl with
      | .p => some a.d
      | .b => (match e.sv i with | some ⟨.b, d⟩ => some d | _ => none)
      | .u => (match e.sv i with | some ⟨.u, d⟩ => some d | _ => none)
      | _ => none), backD as e (i + 1) with
    | some d, some ds => some (d :: ds)
    | _, _ => none
def env0 (n : Nat) (args : List SV) : En := args.map some ++ List.replicate (n - args.length) none
def endF (args : List SV) : RS → RF
  | .ret sv e => match backD args e 0 with | some ds => .ret sv ds | none => .stuck
  | .nx e => match backD args e 0 with | some ds => .ret ⟨.p, .non⟩ ds | none => .stuck
  | .exc x e => match backD args e 0 with | some ds => .exc x ds | none => .stuck
  | _ => .stuck
def runDef (n : Nat) (body : En → RS) (args : List SV) : RF := endF args (body (env0 n args))
def newA : List SV → List D → En
  | a :: as, d :: ds => some ⟨a.fl, d⟩ :: newA as ds
  | _, _ => []
def PostF (K : PySem.W.Frag) (E : XK) (F : Fm) (args : List SV) (H : Hp) (W : List Addr) (Q : VK) : RF → Prop
  | .ret sv ds => ∀ v H' W', Rel K F (newA args ds) F.s0 H' W' → Step H W H' W' → rV K sv F (newA args ds) F.s0 H' W' v → Q v H'
  | .exc x ds => ∀ c d H' W', Rel K F (newA args ds) F.s0 H' W' → Step H W H' W' → XOk K F H' W' x c d → E c d H'
  | .stuck => False
def spD (K : PySem.W.Frag) (G : List SV → RF) : Sp := fun vs H Q E => ∃ args W fr, Rel K ⟨fr, H, vs.map some⟩ (args.map some) (vs.map some) H W ∧ PostF K E ⟨fr, H, vs.map some⟩ args H W Q (G args)
theorem newA_len : ∀ {args : List SV} {ds : List D}, args.length = ds.length → (newA args ds).length = args.length
  | [], [], _ => rfl
  | _ :: as, _ :: ds, h => by simp [newA, newA_len (args := as) (ds := ds) (by simpa using h)]
theorem newA_sv : ∀ {args : List SV} {ds : List D} {i : Nat} {sv : SV}, (newA args ds).sv i = some sv → ∃ a d, args[i]? = some a ∧ ds[i]? = some d ∧ sv = ⟨a.fl, d⟩
  | [], _, i, sv, h => by simp [newA, En.sv] at h
  | _ :: _, [], i, sv, h => by simp [newA, En.sv] at h
  | a :: as, d :: ds, 0, sv, h => by
    simp [newA, En.sv] at h
    exact ⟨a, d, rfl, rfl, h.symm⟩
  | a :: as, d :: ds, i + 1, sv, h => by
    have h' : (newA as ds).sv i = some sv := by simpa [newA, En.sv] using h
    obtain ⟨a', d', h1, h2, h3⟩ := newA_sv h'
    exact ⟨a', d', by simpa using h1, by simpa using h2, h3⟩
theorem backD_at : ∀ {args : List SV} {e : En} {k : Nat} {ds : List D}, backD args e k = some ds → args.length = ds.length ∧ ∀ i a d, args[i]? = some a → ds[i]? = some d → (a.fl = .p ∧ d = a.d) ∨ (a.fl.lent = true ∧ e.sv (k + i) = some ⟨a.fl, d⟩)
  | [], e, k, ds, h => by
    unfold backD at h; cases h
    exact ⟨rfl, fun i a d q => by simp at q⟩
  | a :: as, e, k, ds, h => by
    unfold backD at h
    split at h
    · rename_i d0 ds0 h1 h2
      cases h
      obtain ⟨l, k2⟩ := backD_at h2
      refine ⟨by simp [l], fun i a' d' q1 q2 => ?_⟩
      cases i with
      | zero =>
        simp at q1 q2
        subst q1; subst q2
        obtain ⟨fl, x⟩ := a
        cases fl with
        | p => cases h1; exact .inl ⟨rfl, rfl⟩
        | o => cases h1
        | t => cases h1
        | b =>
          refine .inr ⟨rfl, ?_⟩
          dsimp only at h1
          split at h1
          · rename_i d2 e2; cases h1; simpa using e2
          · cases h1
        | u =>
          refine .inr ⟨rfl, ?_⟩
          dsimp only at h1
          split at h1
          · rename_i d2 e2; cases h1; simpa using e2
          · cases h1
      | succ i =>
        have := k2 i a' d' (by simpa using q1) (by simpa using q2)
        rw [show k + (i + 1) = k + 1 + i by omega]
        exact this
    · cases h
section
variable {K : PySem.W.Frag} {E : XK} {F : Fm} {env env' : En} {σ σ' : St} {H H' : Hp} {W W' : List Addr}
theorem sv_map {args : List SV} {i : Nat} : En.sv (args.map some) i = args[i]? := by
  unfold En.sv
  rw [List.getElem?_map]
  cases args[i]? <;> rfl
theorem env0_sv {n : Nat} {args : List SV} {i : Nat} : (env0 n args).sv i = args[i]? := by
  unfold env0 En.sv
  by_cases h : i < args.length
  · rw [List.getElem?_append_left (by simpa using h), List.getElem?_map, List.getElem?_eq_getElem h]; rfl
  · have e1 : args[i]? = none := List.getElem?_eq_none (by omega)
    rw [List.getElem?_append_right (by simpa using h), e1]
    by_cases h2 : i - (args.map some).length < n - args.length
    · rw [List.getElem?_replicate, if_pos h2]; rfl
    · rw [List.getElem?_replicate, if_neg h2]; rfl
theorem start_at {N : List Str} {vs : List V} {i : Nat} {v : V} (h : vs[i]? = some v) : (L2.start N vs)[i]? = some (some v) := by
  unfold L2.start
  have hl : i < vs.length := (List.getElem?_eq_some_iff.mp h).1
  rw [List.getElem?_append_left (by simpa using hl), List.getElem?_map, h]; rfl
theorem lent_np {fl : Fl} (h : fl.lent = true) : fl ≠ .p ∧ fl.own = false := by cases fl <;> simp_all [Fl.own, Fl.lent]
open Classical in
theorem body_ok {t : TS} {body : En → RS} {N : List Str} {vs : List V} {Q : VK} (hS : SS K E t body) (hl : vs.length ≤ N.length) (h : spD K (runDef N.length body) vs H Q E) : t { nx := fun _ H' => Q .non H', rt := Q } (L2.start N vs) H := by
  obtain ⟨args, W, fr, r, p⟩ := h
  have lav : args.length = vs.length := by have := r.len; simpa using this
  obtain ⟨fp0, f0⟩ := r.ex
  have orig : ∀ i a, args[i]? = some a → ∃ v, vs[i]? = some v ∧ SvOk K ⟨fr, H, vs.map some⟩ H W a v (fp0 i) := fun i a q => by
    obtain ⟨v, h1, h2⟩ := f0.sl i a (by rw [sv_map]; exact q)
    refine ⟨v, ?_, h2⟩
    rw [List.getElem?_map] at h1
    cases e : vs[i]? with
    | none => rw [e] at h1; cases h1
    | some u => rw [e] at h1; cases h1; rfl
  have r0 : Rel K ⟨fr, H, L2.start N vs⟩ (env0 N.length args) (L2.start N vs) H W := by
    refine ⟨?_, ⟨fp0, fun i sv e => ?_, fun i j si sj ei ej => ?_⟩, fun i sv e b => rfl, r.trk, r.frt, r.dis, r.wt⟩
    · unfold env0 L2.start
      simp [lav]
    · rw [env0_sv] at e
      obtain ⟨v, h1, h2⟩ := orig i sv e
      exact ⟨v, start_at h1, h2⟩
    · rw [env0_sv] at ei ej
      exact f0.dj i j si sj (by rw [sv_map]; exact ei) (by rw [sv_map]; exact ej)
  -- the way back
  have backF : ∀ {e : En} {σ' : St} {H' : Hp} {W' : List Addr} {ds : List D}, Rel K ⟨fr, H, L2.start N vs⟩ e σ' H' W' → Step H W H' W' → backD args e 0 = some ds → ∀ fps, Fps K ⟨fr, H, L2.start N vs⟩ e σ' H' W' fps →
      Fps K ⟨fr, H, vs.map some⟩ (newA args ds) (vs.map some) H' W' (fun i => if ∃ a, args[i]? = some a ∧ a.fl = .p then [] else fps i) ∧ ∀ i sw, (newA args ds).sv i = some sw → sw.fl ≠ .p → e.sv i = some sw := by
    intro e σ' H' W' ds r' s' hb fps f
    obtain ⟨lb, kb⟩ := backD_at hb
    have at2 : ∀ i a d, args[i]? = some a → ds[i]? = some d → a.fl ≠ .p → e.sv i = some ⟨a.fl, d⟩ := fun i a d h1 h2 np => by
      rcases kb i a d h1 h2 with ⟨z, _⟩ | ⟨_, z⟩
      · exact absurd z np
      · simpa using z
    refine ⟨⟨fun i sv q => ?_, fun i j si sj ei ej hij b z => ?_⟩, fun i sw q np => ?_⟩
    · obtain ⟨a, d, h1, h2, rfl⟩ := newA_sv q
      obtain ⟨v, h3, h4⟩ := orig i a h1
      refine ⟨v, by rw [List.getElem?_map, h3]; rfl, ?_⟩
      by_cases np : a.fl = .p
      · rw [if_pos ⟨a, h1, np⟩]
        rcases kb i a d h1 h2 with ⟨_, z⟩ | ⟨z, _⟩
        · rcases h4 with ⟨_, _, h4⟩ | ⟨n, _⟩
          · exact .inl ⟨np, rfl, by show Rp K H' (W' ++ fr) v d; rw [z]; exact s'.rp (Fr := fr) h4⟩
          · exact absurd np n.np
        · exact absurd np (lent_np z).1
      · rw [if_neg (fun ⟨a', q1, q2⟩ => by rw [h1] at q1; cases q1; exact np q2)]
        have ev := at2 i a d h1 h2 np
        obtain ⟨u, g1, g2⟩ := f.sl i _ ev
        have ln : a.fl.lent = true := by
          rcases kb i a d h1 h2 with ⟨z, _⟩ | ⟨z, _⟩
          · exact absurd z np
          · exact z
        have := r'.bor i _ ev ln
        rw [this, start_at h3] at g1
        cases g1
        exact g2
    · obtain ⟨a1, d1, h1, h2, rfl⟩ := newA_sv ei
      obtain ⟨a2, d2, g1, g2, rfl⟩ := newA_sv ej
      by_cases n1 : ∃ a, args[i]? = some a ∧ a.fl = .p
      · rw [if_pos n1] at z; cases z
      · rw [if_neg n1] at z
        by_cases n2 : ∃ a, args[j]? = some a ∧ a.fl = .p
        · rw [if_pos n2]; intro y; cases y
        · rw [if_neg n2]
          exact f.dj i j _ _ (at2 i a1 d1 h1 h2 fun q => n1 ⟨a1, h1, q⟩) (at2 j a2 d2 g1 g2 fun q => n2 ⟨a2, g1, q⟩) hij b z
    · obtain ⟨a, d, h1, h2, rfl⟩ := newA_sv q
      exact at2 i a d h1 h2 np
  have back : ∀ {e : En} {σ' : St} {H' : Hp} {W' : List Addr} {ds : List D}, Rel K ⟨fr, H, L2.start N vs⟩ e σ' H' W' → Step H W H' W' → backD args e 0 = some ds → Rel K ⟨fr, H, vs.map some⟩ (newA args ds) (vs.map some) H' W' ∧
      ∀ sv v, rV K sv ⟨fr, H, L2.start N vs⟩ e σ' H' W' v → rV K sv ⟨fr, H, vs.map some⟩ (newA args ds) (vs.map some) H' W' v := by
    intro e σ' H' W' ds r' s' hb
    obtain ⟨fps, f⟩ := r'.ex
    refine ⟨⟨by rw [newA_len (backD_at hb).1]; simp [lav], ⟨_, (backF r' s' hb fps f).1⟩, fun _ _ _ _ => rfl, r'.trk, r'.frt, r'.dis, r'.wt⟩, fun sv v rv => ?_⟩
    rcases rv with ⟨e1, h⟩ | ⟨ow, fps, fp, f, h, dj⟩
    · exact .inl ⟨e1, h⟩
    · obtain ⟨f2, k2⟩ := backF r' s' hb fps f
      refine .inr ⟨ow, _, fp, f2, h, fun j sw ej a z y => ?_⟩
      by_cases n1 : ∃ a, args[j]? = some a ∧ a.fl = .p
      · rw [if_pos n1] at y; cases y
      · rw [if_neg n1] at y
        refine dj j sw (k2 j sw ej fun q => n1 ?_) a z y
        obtain ⟨a, d, h1, _, rfl⟩ := newA_sv ej
        exact ⟨a, h1, q⟩
  refine hS ⟨fr, H, L2.start N vs⟩ (env0 N.length args) (L2.start N vs) H W _ r0 ?_
  unfold runDef at p
  cases q : body (env0 N.length args) with
  | nx e =>
    rw [q] at p
    unfold endF at p
    dsimp only at p
    cases hb : backD args e 0 with
    | none => rw [hb] at p; exact p.elim
    | some ds =>
      rw [hb] at p
      intro σ' H' W' r' s'
      obtain ⟨r2, _⟩ := back r' s' hb
      exact p .non H' W' r2 s' (.inl ⟨rfl, .non⟩)
  | ret sv e =>
    rw [q] at p
    unfold endF at p
    dsimp only at p
    cases hb : backD args e 0 with
    | none => rw [hb] at p; exact p.elim
    | some ds =>
      rw [hb] at p
      intro v σ' H' W' r' s' rv
      obtain ⟨r2, k2⟩ := back r' s' hb
      exact p v H' W' r2 s' (k2 sv v rv)
  | exc x e =>
    rw [q] at p
    unfold endF at p
    dsimp only at p
    cases hb : backD args e 0 with
    | none => rw [hb] at p; exact p.elim
    | some ds =>
      rw [hb] at p
      intro c d σ' H' W' r' s' hx
      obtain ⟨r2, _⟩ := back r' s' hb
      exact p c d H' W' r2 s' hx
  | bk e => rw [q] at p; exact p.elim
  | ct e => rw [q] at p; exact p.elim
  | stuck => rw [q] at p; exact p.elim
theorem spD_len {G : List SV → RF} {n : Nat} (hG : ∀ args, args.length ≠ n → G args = .stuck) {vs : List V} {Q : VK} (h : spD K G vs H Q E) : vs.length = n := by
  obtain ⟨args, W, fr, r, p⟩ := h
  have lav : args.length = vs.length := by have := r.len; simpa using this
  by_cases e : args.length = n
  · omega
  · rw [hG args e] at p; exact p.elim
end

/-- what is handed over: a changeable list is lent -/
def argO (e : En) : Opd → Option SV
  | .val d => some ⟨.p, d⟩
  | .slot i => match e.sv i with
    | some ⟨.p, d⟩ => some ⟨.p, d⟩
    | some ⟨.o, d⟩ => some ⟨.b, d⟩
    | some ⟨.b, d⟩ => some ⟨.b, d⟩
    | _ => none
def argL (e : En) : List Opd → Option (List SV)
  | [] => some []
  | o :: os => match argO e o, argL e os with
    | some a, some as => some (a :: as)
    | _, _ => none
def lentS (e : En) : List Opd → List Nat
  | [] => []
  | .val _ :: os => lentS e os
  | .slot i :: os => match e.sv i with
    | some ⟨.p, _⟩ => lentS e os
    | some _ => i :: lentS e os
    | none => lentS e os
/-- what a slot holds behind the call -/
def wbAt (j : Nat) : List Opd → List D → Option D
  | .slot i :: os, d :: ds => if i = j then some d else wbAt j os ds
  | .val _ :: os, _ :: ds => wbAt j os ds
  | _, _ => none
def wb1 (os : List Opd) (ds : List D) (j : Nat) : Option SV → Option SV
  | none => none
  | some ⟨.p, d⟩ => some ⟨.p, d⟩
  | some ⟨fl, d⟩ => match wbAt j os ds with
    | some d' => some ⟨fl, d'⟩
    | none => some ⟨fl, d⟩
def wbE (os : List Opd) (ds : List D) : Nat → En → En
  | _, [] => []
  | j, x :: r => wb1 os ds j x :: wbE os ds (j + 1) r
def callD (G : List SV → RF) (os : List Opd) (e : En) : R SV := match argL e os with
  | none => .stuck
  | some args => if (lentS e os).Nodup then (match G args with
    | .ret sv ds => if ds.length = os.length then .ok sv (wbE os ds 0 e) else .stuck
    | .exc x ds => if ds.length = os.length then .exc x (wbE os ds 0 e) else .stuck
    | .stuck => .stuck) else .stuck
def callE (G : List SV → RF) (fa : En → R (List Opd)) : En → R SV := bindR fa (callD G)
theorem wbE_get (os : List Opd) (ds : List D) : ∀ (e : En) (k j : Nat), (wbE os ds k e)[j]? = (e[j]?).map (wb1 os ds (k + j))
  | [], k, j => by simp [wbE]
  | x :: r, k, 0 => by simp [wbE]
  | x :: r, k, j + 1 => by
    have := wbE_get os ds r (k + 1) j
    simp only [wbE, List.getElem?_cons_succ]
    rw [this, show k + 1 + j = k + (j + 1) by omega]
theorem wbE_sv {os : List Opd} {ds : List D} {e : En} {j : Nat} : (wbE os ds 0 e).sv j = wb1 os ds j (e.sv j) := by
  unfold En.sv
  rw [wbE_get]
  cases h : e[j]? with
  | none => rfl
  | some x => simp
theorem wbE_len (os : List Opd) (ds : List D) : ∀ (e : En) (k : Nat), (wbE os ds k e).length = e.length
  | [], _ => rfl
  | _ :: r, k => by simp [wbE, wbE_len os ds r (k + 1)]
theorem argL_at {e : En} : ∀ {os : List Opd} {args : List SV}, argL e os = some args → args.length = os.length ∧ ∀ (i : Nat) (o : Opd), os[i]? = some o → ∃ a, args[i]? = some a ∧ argO e o = some a
  | [], args, h => by unfold argL at h; cases h; exact ⟨rfl, fun i o q => by simp at q⟩
  | o :: os, args, h => by
    unfold argL at h
    split at h
    · rename_i a as h1 h2
      cases h
      obtain ⟨l, k⟩ := argL_at h2
      refine ⟨by simp [l], fun i o' q => ?_⟩
      cases i with
      | zero => simp at q; subst q; exact ⟨a, rfl, h1⟩
      | succ i => obtain ⟨a', g1, g2⟩ := k i o' (by simpa using q); exact ⟨a', by simpa using g1, g2⟩
    · cases h
theorem wbAt_some {j : Nat} : ∀ {os : List Opd} {ds : List D} {d : D}, wbAt j os ds = some d → ∃ i : Nat, os[i]? = some (Opd.slot j) ∧ ds[i]? = some d
  | [], ds, d, h => by simp [wbAt] at h
  | .val x :: os, [], d, h => by simp [wbAt] at h
  | .slot i :: os, [], d, h => by simp [wbAt] at h
  | .val x :: os, d0 :: ds, d, h => by
    have h' : wbAt j os ds = some d := h
    obtain ⟨k, h1, h2⟩ := wbAt_some h'
    exact ⟨k + 1, by simpa using h1, by simpa using h2⟩
  | .slot i :: os, d0 :: ds, d, h => by
    unfold wbAt at h
    by_cases e : i = j
    · rw [if_pos e] at h; cases h; subst e; exact ⟨0, rfl, rfl⟩
    · rw [if_neg e] at h
      obtain ⟨k, h1, h2⟩ := wbAt_some h
      exact ⟨k + 1, by simpa using h1, by simpa using h2⟩
theorem wbAt_none {j : Nat} : ∀ {os : List Opd} {ds : List D}, ds.length = os.length → wbAt j os ds = none → ∀ i : Nat, os[i]? ≠ some (Opd.slot j)
  | [], ds, _, _, i => by simp
  | .val x :: os, [], h, _, i => by simp at h
  | .slot i :: os, [], h, _, k => by simp at h
  | .val x :: os, d0 :: ds, hl, h, i => by
    have h' : wbAt j os ds = none := h
    cases i with
    | zero => simp
    | succ i => simpa using wbAt_none (by simpa using hl) h' i
  | .slot k :: os, d0 :: ds, hl, h, i => by
    unfold wbAt at h
    by_cases e : k = j
    · rw [if_pos e] at h; cases h
    · rw [if_neg e] at h
      cases i with
      | zero => simp [e]
      | succ i => simpa using wbAt_none (by simpa using hl) h i
theorem lentS_mem {e : En} {j : Nat} {sv : SV} (hj : e.sv j = some sv) (np : sv.fl ≠ .p) : ∀ {os : List Opd} {i : Nat}, os[i]? = some (Opd.slot j) → j ∈ lentS e os
  | [], i, h => by simp at h
  | .val x :: os, 0, h => by simp at h
  | .val x :: os, i + 1, h => by
    unfold lentS
    exact lentS_mem hj np (i := i) (by simpa using h)
  | .slot k :: os, i, h => by
    unfold lentS
    cases i with
    | zero =>
      simp at h; subst h
      rw [hj]
      obtain ⟨fl, d⟩ := sv
      cases fl with
      | p => exact absurd rfl np
      | _ => exact List.mem_cons_self
    | succ i =>
      have := lentS_mem hj np (os := os) (i := i) (by simpa using h)
      split
      · exact this
      · exact List.mem_cons_of_mem _ this
      · exact this
theorem lentS_inj {e : En} {j : Nat} {sv : SV} (hj : e.sv j = some sv) (np : sv.fl ≠ .p) : ∀ {os : List Opd} {i k : Nat}, (lentS e os).Nodup → os[i]? = some (Opd.slot j) → os[k]? = some (Opd.slot j) → i = k
  | [], i, k, _, h, _ => by simp at h
  | .val x :: os, i, k, hn, h1, h2 => by
    cases i with
    | zero => simp at h1
    | succ i =>
      cases k with
      | zero => simp at h2
      | succ k =>
        unfold lentS at hn
        rw [lentS_inj hj np hn (i := i) (k := k) (by simpa using h1) (by simpa using h2)]
  | .slot m :: os, i, k, hn, h1, h2 => by
    have tailN : (lentS e os).Nodup := by
      unfold lentS at hn
      split at hn
      · exact hn
      · exact (List.nodup_cons.mp hn).2
      · exact hn
    have headN : m = j → j ∉ lentS e os := fun z => by
      subst z
      unfold lentS at hn
      rw [hj] at hn
      obtain ⟨fl, d⟩ := sv
      cases fl with
      | p => exact absurd rfl np
      | _ => exact (List.nodup_cons.mp hn).1
    cases i with
    | zero =>
      simp at h1
      cases k with
      | zero => rfl
      | succ k => exact absurd (lentS_mem hj np (os := os) (i := k) (by simpa using h2)) (headN h1)
    | succ i =>
      cases k with
      | zero =>
        simp at h2
        exact absurd (lentS_mem hj np (os := os) (i := i) (by simpa using h1)) (headN h2)
      | succ k => rw [lentS_inj hj np tailN (i := i) (k := k) (by simpa using h1) (by simpa using h2)]
section
variable {K : PySem.W.Frag} {E : XK} {F : Fm} {env env' : En} {σ σ' : St} {H H' : Hp} {W W' : List Addr}
theorem RelOs.at : ∀ {os : List Opd} {vs : List V} {i : Nat} {o : Opd}, RelOs K F σ H W os vs → os[i]? = some o → ∃ v, vs[i]? = some v ∧ RelO K F σ H W o v
  | _, _, i, o, .nil, h => by simp at h
  | _, _, 0, o, .cons h _, q => by simp at q; subst q; exact ⟨_, rfl, h⟩
  | _, _, i + 1, o, .cons _ r, q => by
    obtain ⟨v, h1, h2⟩ := RelOs.at (i := i) (o := o) r (by simpa using q)
    exact ⟨v, by simpa using h1, h2⟩
theorem RelOs.len : ∀ {os : List Opd} {vs : List V}, RelOs K F σ H W os vs → os.length = vs.length
  | _, _, .nil => rfl
  | _, _, .cons _ r => by simp [r.len]
/-- lent -/
def lendF : Fl → Fl | .p => .p | .o => .b | .b => .b | .t => .u | .u => .u
theorem argO_slot {e : En} {j : Nat} {sv a : SV} (h : e.sv j = some sv) (g : argO e (.slot j) = some a) : a = ⟨lendF sv.fl, sv.d⟩ ∧ (sv.fl ≠ .p → sv.fl = .o ∨ sv.fl = .b) := by
  unfold argO at g
  dsimp only at g
  rw [h] at g
  obtain ⟨fl, d⟩ := sv
  cases fl with
  | p => cases g; exact ⟨rfl, fun z => absurd rfl z⟩
  | o => cases g; exact ⟨rfl, fun _ => .inl rfl⟩
  | b => cases g; exact ⟨rfl, fun _ => .inr rfl⟩
  | t => cases g
  | u => cases g
theorem lendF_np {fl : Fl} : lendF fl = .p ↔ fl = .p := by cases fl <;> simp [lendF]
theorem lendF_own {fl : Fl} : (lendF fl).own = false := by cases fl <;> rfl
theorem Hd.lend {A : List Addr} {fl : Fl} {v : V} {d : D} {fp : List Addr} (h : Hd K H A fl v d fp) : Hd K H A (lendF fl) v d fp := by
  cases h with
  | sh e h => exact .sh (.inr (by rcases e with rfl | rfl <;> rfl)) h
  | tr e h n => exact .tr (.inr (by rcases e with rfl | rfl <;> rfl)) h n
theorem Hd.unlend {A : List Addr} {fl : Fl} {v : V} {d : D} {fp : List Addr} (h : Hd K H A (lendF fl) v d fp) : Hd K H A fl v d fp := by
  cases h with
  | sh e h => cases fl <;> simp [lendF] at e <;> first | exact .sh (.inl rfl) h | exact .sh (.inr rfl) h
  | tr e h n => cases fl <;> simp [lendF] at e <;> first | exact .tr (.inl rfl) h n | exact .tr (.inr rfl) h n
theorem newA_at : ∀ (as : List SV) (es : List D) (i : Nat) (a : SV) (d : D), as[i]? = some a → es[i]? = some d → (newA as es).sv i = some ⟨a.fl, d⟩ := by
  intro as
  induction as with
  | nil => intro es i a d h; simp at h
  | cons a0 as ih =>
    intro es i a d h h'
    cases es with
    | nil => simp at h'
    | cons d0 es =>
      cases i with
      | zero => simp at h h'; subst h; subst h'; rfl
      | succ i =>
        have := ih es i a d (by simpa using h) (by simpa using h')
        simpa [newA, En.sv] using this
theorem wb1_np {os : List Opd} {ds : List D} {j : Nat} {fl : Fl} {d : D} (np : fl ≠ .p) : wb1 os ds j (some ⟨fl, d⟩) = (match wbAt j os ds with | some d' => some ⟨fl, d'⟩ | none => some ⟨fl, d⟩) := by
  cases fl with
  | p => exact absurd rfl np
  | _ => rfl
open Classical in
theorem callD_ok {G : List SV → RF} {os : List Opd} {vs : List V} {Q : VK} (r : Rel K F env σ H W) (ho : RelOs K F σ H W os vs) (p : Post (rV K) K E F σ H W Q (callD G os env)) : spD K G vs H Q E := by
  unfold callD at p
  cases qa : argL env os with
  | none => rw [qa] at p; exact p.elim
  | some args =>
    rw [qa] at p; dsimp only at p
    by_cases hn : (lentS env os).Nodup
    · rw [if_pos hn] at p
      obtain ⟨la, ka⟩ := argL_at qa
      have lv := ho.len
      obtain ⟨fps, f⟩ := r.ex
      -- lent addresses
      let L : Addr → Prop := fun a => ∃ (i j : Nat) (sv : SV), os[i]? = some (Opd.slot j) ∧ env.sv j = some sv ∧ sv.fl ≠ .p ∧ a ∈ fps j
      let Wc := W.filter fun a => decide (L a)
      let Wn := W.filter fun a => decide (¬ L a)
      have mWc : ∀ a, a ∈ Wc ↔ a ∈ W ∧ L a := fun a => by simp [Wc, List.mem_filter]
      have mWn : ∀ a, a ∈ Wn ↔ a ∈ W ∧ ¬ L a := fun a => by simp [Wn, List.mem_filter]
      have sets : ∀ a, a ∈ Wc ++ (Wn ++ F.fr) ↔ a ∈ W ++ F.fr := fun a => by
        simp only [List.mem_append, mWc, mWn]
        by_cases h : L a <;> simp [h]
      -- an argument
      have one : ∀ (i : Nat) (a : SV), args[i]? = some a → ∃ o v, os[i]? = some o ∧ vs[i]? = some v ∧ RelO K F σ H W o v ∧ argO env o = some a := fun i a q => by
        have hi : i < os.length := by have := (List.getElem?_eq_some_iff.mp q).1; omega
        obtain ⟨a', g1, g2⟩ := ka i _ (List.getElem?_eq_getElem hi)
        rw [q] at g1; cases g1
        obtain ⟨v, g3, g4⟩ := ho.at (List.getElem?_eq_getElem hi)
        exact ⟨_, v, List.getElem?_eq_getElem hi, g3, g4, g2⟩
      -- a lent argument
      have lent : ∀ (i : Nat) (a : SV), args[i]? = some a → a.fl ≠ .p → ∃ (j : Nat) (sv : SV) (v : V), os[i]? = some (Opd.slot j) ∧ env.sv j = some sv ∧ sv.fl ≠ .p ∧ a = ⟨lendF sv.fl, sv.d⟩ ∧ σ[j]? = some (some v) ∧ vs[i]? = some v ∧ SvOk K F H W sv v (fps j) := fun i a q np => by
        obtain ⟨o, v, g1, g2, g3, g4⟩ := one i a q
        cases o with
        | val d => unfold argO at g4; cases g4; exact absurd rfl np
        | slot j =>
          cases ej : env.sv j with
          | none => unfold argO at g4; dsimp only at g4; rw [ej] at g4; cases g4
          | some sv =>
            obtain ⟨rfl, _⟩ := argO_slot ej g4
            obtain ⟨u, h1, h2⟩ := f.sl j sv ej
            have g3' : σ[j]? = some (some v) := g3
            rw [h1] at g3'; cases g3'
            exact ⟨j, sv, _, g1, ej, fun z => np (lendF_np.mpr z), rfl, h1, g2, h2⟩
      have toC : ∀ {v : V} {d : D}, Rp K H (W ++ F.fr) v d → Rp K H (Wc ++ (Wn ++ F.fr)) v d := fun h => h.mono (fun _ _ _ e => e) fun a z => .inl ((sets a).mp z)
      let fc : Nat → List Addr := fun i => match os[i]? with
        | some (Opd.slot j) => (match env.sv j with | some sv => if sv.fl = Fl.p then [] else fps j | none => [])
        | _ => []
      have fcL : ∀ {i j : Nat} {sv : SV}, os[i]? = some (Opd.slot j) → env.sv j = some sv → sv.fl ≠ .p → fc i = fps j := fun h1 h2 h3 => by
        simp [fc, h1, h2, h3]
      have fcP : ∀ {i : Nat} {a : SV}, args[i]? = some a → a.fl = .p → fc i = [] := fun {i a} h1 h2 => by
        obtain ⟨o, v, g1, g2, g3, g4⟩ := one i a h1
        cases o with
        | val d => simp [fc, g1]
        | slot j =>
          cases ej : env.sv j with
          | none => simp [fc, g1, ej]
          | some sv =>
            obtain ⟨rfl, _⟩ := argO_slot ej g4
            simp [fc, g1, ej, lendF_np.mp h2]
      have rc : Rel K ⟨Wn ++ F.fr, H, vs.map some⟩ (args.map some) (vs.map some) H Wc := by
        refine ⟨by simp; omega, ⟨fc, fun i sv e => ?_, fun i j si sj ei ej hij a z y => ?_⟩, fun _ _ _ _ => rfl, fun _ e => e, fun a z => ?_, fun a z y => ?_, fun a z => r.wt a ((mWc a).mp z).1⟩
        · rw [sv_map] at e
          by_cases np : sv.fl = .p
          · obtain ⟨o, v, g1, g2, g3, g4⟩ := one i sv e
            refine ⟨v, by rw [List.getElem?_map, g2]; rfl, .inl ⟨np, fcP e np, toC ?_⟩⟩
            cases o with
            | val d => unfold argO at g4; cases g4; exact g3
            | slot j =>
              cases ej : env.sv j with
              | none => unfold argO at g4; dsimp only at g4; rw [ej] at g4; cases g4
              | some sw =>
                obtain ⟨rfl, _⟩ := argO_slot ej g4
                obtain ⟨u, h1, h2⟩ := f.sl j sw ej
                have g3' : σ[j]? = some (some v) := g3
                rw [h1] at g3'; cases g3'
                rcases h2 with ⟨_, _, h2⟩ | ⟨n, _⟩
                · exact h2
                · exact absurd (lendF_np.mp np) n.np
          · obtain ⟨j, sw, v, k1, k2, k3, k4, k5, k6, k7⟩ := lent i sv e np
            subst k4
            refine ⟨v, by rw [List.getElem?_map, k6]; rfl, ?_⟩
            rw [fcL k1 k2 k3]
            obtain ⟨h1, h2, _⟩ := k7.hd k3
            exact .inr ⟨(h1.mono (fun _ _ _ e => e) (fun a z => .inl ((sets a).mp z)) fun _ _ _ e => e).lend, fun a z => (mWc a).mpr ⟨h2 a z, i, j, sw, k1, k2, k3, z⟩, fun q => by rw [show (SV.mk (lendF sw.fl) sw.d).fl = lendF sw.fl from rfl, lendF_own] at q; cases q⟩
        · rw [sv_map] at ei ej
          by_cases ni : si.fl = .p
          · rw [fcP ei ni] at z; cases z
          · by_cases nj : sj.fl = .p
            · rw [fcP ej nj] at y; cases y
            · obtain ⟨ji, swi, vi, a1, a2, a3, _⟩ := lent i si ei ni
              obtain ⟨jj, swj, vj, b1, b2, b3, _⟩ := lent j sj ej nj
              rw [fcL a1 a2 a3] at z; rw [fcL b1 b2 b3] at y
              by_cases hj : ji = jj
              · subst hj
                exact hij (lentS_inj a2 a3 hn a1 b1)
              · exact f.dj ji jj swi swj a2 b2 hj a z y
        · rcases List.mem_append.mp z with z | z
          · exact r.wt a ((mWn a).mp z).1
          · exact r.frt a z
        · rcases List.mem_append.mp y with y | y
          · exact ((mWn a).mp y).2 ((mWc a).mp z).2
          · exact r.dis a ((mWc a).mp z).1 y
      refine ⟨args, Wc, Wn ++ F.fr, rc, ?_⟩
      have inv : ∀ (ds : List D) (j : Nat) (sv : SV), (wbE os ds 0 env).sv j = some sv → ∃ sw, env.sv j = some sw ∧ sw.fl = sv.fl ∧ (sv.fl = .p → sv = sw) := fun ds j sv q => by
        rw [wbE_sv] at q
        cases ej : env.sv j with
        | none => rw [ej] at q; cases q
        | some sw =>
          rw [ej] at q
          obtain ⟨fl, d⟩ := sw
          refine ⟨_, rfl, ?_⟩
          by_cases np : fl = .p
          · subst np; cases q; exact ⟨rfl, fun _ => rfl⟩
          · rw [wb1_np np] at q
            split at q
            · cases q; exact ⟨rfl, fun z => absurd z np⟩
            · cases q; exact ⟨rfl, fun z => absurd z np⟩
      -- back to the caller
      let fam : (Nat → List Addr) → Nat → List Addr := fun g j => if (∃ sv, env.sv j = some sv ∧ sv.fl = .p) then [] else if h : ∃ i : Nat, os[i]? = some (Opd.slot j) then g (Classical.choose h) else fps j
      have famP : ∀ {g : Nat → List Addr} {j : Nat} {sv : SV}, env.sv j = some sv → sv.fl = .p → fam g j = [] := fun h1 h2 => if_pos ⟨_, h1, h2⟩
      have famN : ∀ {g : Nat → List Addr} {j : Nat} {sv : SV}, env.sv j = some sv → sv.fl ≠ .p → fam g j = if h : ∃ i : Nat, os[i]? = some (Opd.slot j) then g (Classical.choose h) else fps j := fun h1 h2 => if_neg fun ⟨s', q1, q2⟩ => by rw [h1] at q1; cases q1; exact h2 q2
      -- a slot that is not lent
      have nlent : ∀ {j : Nat} {sv : SV}, env.sv j = some sv → sv.fl ≠ .p → (¬ ∃ i : Nat, os[i]? = some (Opd.slot j)) → ∀ a ∈ fps j, a ∈ W ∧ ¬ L a := fun {j sv} h1 h2 h3 a z => by
        obtain ⟨v, _, h4⟩ := f.sl j sv h1
        refine ⟨h4.inW a z, fun ⟨i, j', sw, q1, q2, q3, q4⟩ => ?_⟩
        by_cases hj : j' = j
        · subst hj; exact h3 ⟨i, q1⟩
        · exact f.dj j' j sw sv q2 h1 hj a q4 z
      have S : ∀ {H' : Hp} {W' : List Addr}, Step H Wc H' W' → Step H W H' (W' ++ Wn) := fun {H' W'} s' => ⟨fun a o n e => s'.pres a o (fun z => n ((mWc a).mp z).1) e, fun a z => by
          rcases List.mem_append.mp z with z | z
          · rcases s'.grow a z with z | z
            · exact .inl ((mWc a).mp z).1
            · exact .inr z
          · exact .inl ((mWn a).mp z).1⟩
      have backF : ∀ {ds : List D} {H' : Hp} {W' : List Addr} {g : Nat → List Addr}, ds.length = os.length → Step H Wc H' W' → Fps K ⟨Wn ++ F.fr, H, vs.map some⟩ (newA args ds) (vs.map some) H' W' g →
          Fps K F (wbE os ds 0 env) σ H' (W' ++ Wn) (fam g) := by
        intro ds H' W' g ld s' fg
        have S' := S s'
        have assoc : ∀ a, a ∈ (W' ++ Wn) ++ F.fr → a ∈ W' ++ (Wn ++ F.fr) ∨ H' a = none := fun a z => by rw [List.append_assoc] at z; exact .inl z
        -- a lent slot
        have lslot : ∀ {j i : Nat} {sw : SV}, env.sv j = some sw → sw.fl ≠ .p → os[i]? = some (Opd.slot j) → ∃ v d, σ[j]? = some (some v) ∧ ds[i]? = some d ∧ (newA args ds).sv i = some ⟨lendF sw.fl, d⟩ ∧ (vs.map some)[i]? = some (some v) ∧ SvOk K ⟨Wn ++ F.fr, H, vs.map some⟩ H' W' ⟨lendF sw.fl, d⟩ v (g i) ∧ (sw.fl.own = true → ∀ a ∈ g i, F.h0 a = none) := fun {j i sw} ej np oi => by
          have hi : i < os.length := (List.getElem?_eq_some_iff.mp oi).1
          have ga := List.getElem?_eq_getElem (show i < args.length by omega)
          have gd := List.getElem?_eq_getElem (show i < ds.length by omega)
          obtain ⟨o, v, f1, f2, f3, f4⟩ := one i _ ga
          rw [oi] at f1; cases f1
          obtain ⟨e4, shf⟩ := argO_slot ej f4
          have nv : (newA args ds).sv i = some ⟨lendF sw.fl, ds[i]⟩ := by
            rw [newA_at args ds i _ _ ga gd, e4]
          obtain ⟨u, m1, m2⟩ := fg.sl i _ nv
          rw [List.getElem?_map, f2] at m1; cases m1
          obtain ⟨u', h1, h2⟩ := f.sl j sw ej
          have f3' : σ[j]? = some (some v) := f3
          refine ⟨v, _, f3', gd, nv, by rw [List.getElem?_map, f2]; rfl, m2, fun q a z => ?_⟩
          obtain ⟨b1, y1, y2, _⟩ := m2.sh (by rcases shf np with w | w <;> rw [w] <;> exact .inr rfl)
          rw [h1] at f3'; cases f3'
          obtain ⟨b2, w1, w2, _, _, w5⟩ := h2.sh (shf np)
          rw [y1] at w1; cases w1
          rw [y2] at z
          exact (h2.hd np).2.2 q a (by rw [w2]; exact z)
        have wbD : ∀ {j i : Nat} {d : D} {sw : SV}, env.sv j = some sw → sw.fl ≠ .p → os[i]? = some (Opd.slot j) → ds[i]? = some d → wbAt j os ds = some d := fun {j i d sw} ej np oi di => by
          cases qw : wbAt j os ds with
          | none => exact absurd oi (wbAt_none ld qw i)
          | some d' =>
            obtain ⟨k, g1, g2⟩ := wbAt_some qw
            have := lentS_inj ej np hn oi g1
            subst this
            rw [di] at g2; cases g2; rfl
        refine ⟨fun j sv q => ?_, fun i j si sj ei ej hij a z y => ?_⟩
        · obtain ⟨sw, ej, hf, hp⟩ := inv ds j sv q
          by_cases np : sv.fl = .p
          · obtain ⟨v, h1, h2⟩ := f.sl j sw ej
            refine ⟨v, h1, .inl ⟨np, famP ej (hf.trans np), ?_⟩⟩
            rw [hp np]
            rcases h2 with ⟨_, _, h2⟩ | ⟨n, _⟩
            · exact S'.rp h2
            · exact absurd (hf.trans np) n.np
          · have nw : sw.fl ≠ .p := fun z => np (hf.symm.trans z)
            rw [famN ej nw]
            by_cases hx : ∃ i : Nat, os[i]? = some (Opd.slot j)
            · rw [dif_pos hx]
              obtain ⟨v, d, h1, h2, h3, h4, h5, h6⟩ := lslot ej nw (Classical.choose_spec hx)
              have qd := wbD ej nw (Classical.choose_spec hx) h2
              rw [wbE_sv, ej] at q
              obtain ⟨fl, d0⟩ := sw
              rw [wb1_np nw, qd] at q
              cases q
              obtain ⟨k1, k2, _⟩ := h5.hd (fun z => nw (lendF_np.mp z))
              obtain ⟨u, m1, m2⟩ := f.sl j _ ej
              exact ⟨v, h1, .inr ⟨(k1.unlend).mono (fun _ _ _ e => e) assoc (fun _ _ _ e => e), fun a z => List.mem_append_left _ (k2 a z), h6⟩⟩
            · rw [dif_neg hx]
              have qw : wbAt j os ds = none := by
                cases qw : wbAt j os ds with
                | none => rfl
                | some d => obtain ⟨i, g1, _⟩ := wbAt_some qw; exact absurd ⟨i, g1⟩ hx
              rw [wbE_sv, ej] at q
              obtain ⟨fl, d0⟩ := sw
              rw [wb1_np nw, qw] at q
              cases q
              obtain ⟨v, h1, h2⟩ := f.sl j _ ej
              refine ⟨v, h1, h2.mono S'.pF S'.gF (fun a z => ?_) rfl⟩
              have nl := nlent ej nw hx a z
              exact ⟨List.mem_append_right _ ((mWn a).mpr nl), fun o e => s'.pres a o (fun y => nl.2 ((mWc a).mp y).2) e⟩
        · obtain ⟨s1, e1, q1, _⟩ := inv ds i si ei
          obtain ⟨s2, e2, q2, _⟩ := inv ds j sj ej
          by_cases n1 : s1.fl = .p
          · rw [famP e1 n1] at z; cases z
          · by_cases n2 : s2.fl = .p
            · rw [famP e2 n2] at y; cases y
            · rw [famN e1 n1] at z; rw [famN e2 n2] at y
              -- lent against not lent
              have cross : ∀ {i j : Nat} {s1 s2 : SV} (e1 : env.sv i = some s1) (n1 : s1.fl ≠ .p) (e2 : env.sv j = some s2) (n2 : s2.fl ≠ .p) (hx : ∃ k : Nat, os[k]? = some (Opd.slot i)) (hy : ¬ ∃ k : Nat, os[k]? = some (Opd.slot j)), a ∈ g (Classical.choose hx) → a ∈ fps j → False := fun e1 n1 e2 n2 hx hy z y => by
                obtain ⟨v, d, _, _, _, _, h5, _⟩ := lslot e1 n1 (Classical.choose_spec hx)
                have nl := nlent e2 n2 hy a y
                rcases s'.grow a (h5.inW a z) with w | w
                · exact nl.2 ((mWc a).mp w).2
                · exact r.wt a nl.1 w
              by_cases hx : ∃ k : Nat, os[k]? = some (Opd.slot i)
              · rw [dif_pos hx] at z
                by_cases hy : ∃ k : Nat, os[k]? = some (Opd.slot j)
                · rw [dif_pos hy] at y
                  obtain ⟨_, _, _, _, h3, _⟩ := lslot e1 n1 (Classical.choose_spec hx)
                  obtain ⟨_, _, _, _, g3, _⟩ := lslot e2 n2 (Classical.choose_spec hy)
                  refine fg.dj _ _ _ _ h3 g3 (fun w => hij ?_) a z y
                  have c1 := Classical.choose_spec hx
                  have c2 := Classical.choose_spec hy
                  rw [w, c2] at c1
                  cases c1; rfl
                · rw [dif_neg hy] at y
                  exact cross e1 n1 e2 n2 hx hy z y
              · rw [dif_neg hx] at z
                by_cases hy : ∃ k : Nat, os[k]? = some (Opd.slot j)
                · rw [dif_pos hy] at y
                  exact cross e2 n2 e1 n1 hy hx y z
                · rw [dif_neg hy] at y
                  exact f.dj i j s1 s2 e1 e2 hij a z y
      have back : ∀ {ds : List D} {H' : Hp} {W' : List Addr}, ds.length = os.length → Rel K ⟨Wn ++ F.fr, H, vs.map some⟩ (newA args ds) (vs.map some) H' W' → Step H Wc H' W' →
          Rel K F (wbE os ds 0 env) σ H' (W' ++ Wn) ∧ Step H W H' (W' ++ Wn) := by
        intro ds H' W' ld r' s'
        obtain ⟨g, fg⟩ := r'.ex
        refine ⟨⟨by rw [wbE_len]; exact r.len, ⟨_, backF ld s' fg⟩, fun j sv q b => ?_, fun a e => r.trk a (r'.trk a e), fun a z => r'.frt a (List.mem_append_right _ z), fun a z y => ?_, fun a z => ?_⟩, S s'⟩
        · obtain ⟨sw, ej, hf, _⟩ := inv ds j sv q
          exact r.bor j sw ej (by rw [hf]; exact b)
        · rcases List.mem_append.mp z with z | z
          · exact r'.dis a z (List.mem_append_right _ y)
          · exact r.dis a ((mWn a).mp z).1 y
        · rcases List.mem_append.mp z with z | z
          · exact r'.wt a z
          · exact r'.frt a (List.mem_append_left _ z)
      cases qG : G args with
      | stuck => rw [qG] at p; exact p.elim
      | ret sv ds =>
        rw [qG] at p; dsimp only at p
        by_cases ld : ds.length = os.length
        · rw [if_pos ld] at p
          intro v H' W' r' s' rv
          obtain ⟨R2, S2⟩ := back ld r' s'
          refine p v H' (W' ++ Wn) R2 S2 ?_
          rcases rv with ⟨e1, h⟩ | ⟨ow, g, fp, fg, h, dj⟩
          · exact .inl ⟨e1, h.mono (fun _ _ _ e => e) fun a z => by rw [List.append_assoc] at z; exact .inl z⟩
          · obtain ⟨k1, k2, k3⟩ := h.hd (own_np ow).1
            refine .inr ⟨ow, _, fp, backF ld s' fg, .inr ⟨k1.mono (fun _ _ _ e => e) (fun a z => by rw [List.append_assoc] at z; exact .inl z) (fun _ _ _ e => e), fun a z => List.mem_append_left _ (k2 a z), fun q a z => r.trk a (k3 q a z)⟩, fun j sw ej a z y => ?_⟩
            obtain ⟨s0, e0, q0, _⟩ := inv ds j sw ej
            by_cases n0 : s0.fl = .p
            · rw [famP e0 n0] at y; cases y
            · rw [famN e0 n0] at y
              by_cases hx : ∃ k : Nat, os[k]? = some (Opd.slot j)
              · rw [dif_pos hx] at y
                have c1 := Classical.choose_spec hx
                have hi : Classical.choose hx < os.length := (List.getElem?_eq_some_iff.mp c1).1
                have nv := newA_at args ds (Classical.choose hx) _ _ (List.getElem?_eq_getElem (by omega)) (List.getElem?_eq_getElem (by omega))
                exact dj _ _ nv a z y
              · rw [dif_neg hx] at y
                exact r.wt a (nlent e0 n0 hx a y).1 (k3 ow a z)
        · rw [if_neg ld] at p; exact p.elim
      | exc x ds =>
        rw [qG] at p; dsimp only at p
        by_cases ld : ds.length = os.length
        · rw [if_pos ld] at p
          intro c d H' W' r' s' hx
          obtain ⟨R2, S2⟩ := back ld r' s'
          refine p c d H' (W' ++ Wn) R2 S2 ⟨hx.1, ?_⟩
          have hx2 := hx.2
          cases d with
          | none => exact hx2
          | some a =>
            obtain ⟨nf, fs, h1, h2⟩ := hx2
            refine ⟨nf, fs, h1, fun f y q => ?_⟩
            obtain ⟨v, g1, g2⟩ := h2 f y q
            exact ⟨v, g1, g2.mono (fun _ _ _ e => e) fun a z => by rw [List.append_assoc] at z; exact .inl z⟩
        · rw [if_neg ld] at p; exact p.elim
    · rw [if_neg hn] at p; exact p.elim
theorem sf_call {G : List SV → RF} {fa : En → R (List Opd)} {t : TA} (ha : SA K E t fa) : SF K E (tCall (spD K G) [] E t) (callE G fa) := by
  intro F env σ H W Q r p
  refine Sn.go (t := t) ha r p fun e H W os vs rel s rv p => ?_
  rw [List.append_nil]
  exact callD_ok rel rv p
end
end DL

namespace DL
open PySem L2

section
variable {K : PySem.W.Frag} {H : Hp} {A : List Addr} {v u : V}
theorem rd_int {i : Int} (h : RdOk K H A v (.int i)) : v = .int i := by
  rcases h with h | ⟨a, _, h⟩
  · cases h; rfl
  · cases h
theorem rd_bl {b : Bool} (h : RdOk K H A v (.bl b)) : v = .bl b := by
  rcases h with h | ⟨a, _, h⟩
  · cases h; rfl
  · cases h
theorem rd_str {x : Str} (h : RdOk K H A v (.str x)) : v = .str x := by
  rcases h with h | ⟨a, _, h⟩
  · cases h; rfl
  · cases h
theorem rd_non (h : RdOk K H A v .non) : v = .non := by
  rcases h with h | ⟨a, _, h⟩
  · cases h; rfl
  · cases h
theorem rd_opq {w : V} (h : RdOk K H A v (.opq w)) : v = w := by
  rcases h with h | ⟨a, _, h⟩
  · cases h; rfl
  · cases h
theorem rd_lst {ds : List D} (h : RdOk K H A v (.lst ds)) : ∃ a xs, v = .ref a ∧ H a = some (.lst xs) ∧ RpL K H A xs ds := by
  rcases h with h | ⟨a, e, h⟩
  · cases h with | lst n h r => exact ⟨_, _, rfl, h, r⟩
  · cases h with | lst h r => exact ⟨a, _, e, h, r⟩
theorem rd_tup {ds : List D} (h : RdOk K H A v (.tup ds)) : ∃ a xs, v = .ref a ∧ SqTA K H A a xs ∧ RpL K H A xs ds := by
  rcases h with h | ⟨a, e, h⟩
  · cases h with | tup h r => exact ⟨_, _, rfl, h, r⟩
  · cases h
theorem rd_frt {ds : List D} (h : RdOk K H A v (.frt ds)) : ∃ a xs, v = .ref a ∧ KT K a xs ∧ RpL K H A xs ds := by
  rcases h with h | ⟨a, e, h⟩
  · cases h with | frt h r => exact ⟨_, _, rfl, h, r⟩
  · cases h
theorem rd_frl {ds : List D} (h : RdOk K H A v (.frl ds)) : ∃ a xs, v = .ref a ∧ SqLA K H A a xs ∧ RpL K H A xs ds := by
  rcases h with h | ⟨a, e, h⟩
  · cases h with | frl h r => exact ⟨_, _, rfl, h, r⟩
  · cases h
theorem rd_dt {ds : List (List Key × D)} (h : RdOk K H A v (.dt ds)) : ∃ a xs, v = .ref a ∧ Rd H a (.dT xs) ∧ RpK K H A xs ds := by
  rcases h with h | ⟨a, e, h⟩
  · cases h with | dt n h r => exact ⟨_, _, rfl, h, r⟩
  · cases h with | dt h r => exact ⟨a, _, e, .inl h, r⟩
theorem rd_dk {ds : List (Key × D)} (h : RdOk K H A v (.dk ds)) : ∃ a xs, v = .ref a ∧ Rd H a (.dK xs) ∧ RpK K H A xs ds := by
  rcases h with h | ⟨a, e, h⟩
  · cases h with | dk n h r => exact ⟨_, _, rfl, h, r⟩
  · cases h with | dk h r => exact ⟨a, _, e, .inl h, r⟩
theorem rd_obj {c : Str} {fs : List (Str × D)} (h : RdOk K H A v (.obj c fs)) : ∃ a, v = .ref a := by
  rcases h with h | ⟨a, e, h⟩
  · cases h; exact ⟨_, rfl⟩
  · exact ⟨a, e⟩
end
/-- a list, a tuple: its items -/
def itemsD : D → Option (List D)
  | .lst ds => some ds
  | .frl ds => some ds
  | .tup ds => some ds
  | .frt ds => some ds
  | _ => none
theorem rd_items {K : PySem.W.Frag} {H : Hp} {A : List Addr} {v : V} {d : D} {ds : List D} (h : RdOk K H A v d) (e : itemsD d = some ds) : ∃ a xs, v = .ref a ∧ (SqL K H a xs ∨ SqT K H a xs) ∧ RpL K H A xs ds := by
  cases d with
  | lst l => cases e; obtain ⟨a, xs, h1, h2, h3⟩ := rd_lst h; exact ⟨a, xs, h1, .inl (.inl (.inl h2)), h3⟩
  | frl l => cases e; obtain ⟨a, xs, h1, h2, h3⟩ := rd_frl h; exact ⟨a, xs, h1, .inl h2.sq, h3⟩
  | tup l => cases e; obtain ⟨a, xs, h1, h2, h3⟩ := rd_tup h; exact ⟨a, xs, h1, .inr h2.sq, h3⟩
  | frt l => cases e; obtain ⟨a, xs, h1, h2, h3⟩ := rd_frt h; exact ⟨a, xs, h1, .inr (.inr h2), h3⟩
  | _ => cases e
/-- a list: its items -/
def itemsL : D → Option (List D)
  | .lst ds => some ds
  | .frl ds => some ds
  | _ => none
theorem rd_itemsL {K : PySem.W.Frag} {H : Hp} {A : List Addr} {v : V} {d : D} {ds : List D} (h : RdOk K H A v d) (e : itemsL d = some ds) : ∃ a xs, v = .ref a ∧ SqL K H a xs ∧ RpL K H A xs ds := by
  cases d with
  | lst l => cases e; obtain ⟨a, xs, h1, h2, h3⟩ := rd_lst h; exact ⟨a, xs, h1, .inl (.inl h2), h3⟩
  | frl l => cases e; obtain ⟨a, xs, h1, h2, h3⟩ := rd_frl h; exact ⟨a, xs, h1, h2.sq, h3⟩
  | _ => cases e
def pI (i : Int) : Option SV := some ⟨.p, .int i⟩
def pB (b : Bool) : Option SV := some ⟨.p, .bl b⟩
def nL (ds : List D) : Option SV := some ⟨.o, .lst ds⟩
theorem fine_p (d : D) : Fine ⟨.p, d⟩ := .inl rfl
theorem fine_l (ds : List D) : Fine ⟨.o, .lst ds⟩ := .inr ⟨rfl, ds, rfl⟩
theorem res_p {K : PySem.W.Frag} {H : Hp} {A : List Addr} {Q : VK} {d : D} {w : V} (h : ResOk K H A Q ⟨.p, d⟩) (r : Rp K H A w d) : Q w H := h w H (.inl rfl) r
theorem opr_or {X : Cx} {f : Value → Value → Sem Value} {r r' : R2} (h : OpR X f r) (h' : OpR X f r') : OpR X f (fun x y H Q => r x y H Q ∨ r' x y H Q) := by
  intro pins s σ H x y v u Q I rx ry q
  rcases q with q | q
  · exact h pins s σ H x y v u Q I rx ry q
  · exact h' pins s σ H x y v u Q I rx ry q
theorem callr_or {X : Cx} {f : Value} {r r' : List V → Hp → VK → Prop} (h : CallR X f r) (h' : CallR X f r') : CallR X f (fun xs H Q => r xs H Q ∨ r' xs H Q) := by
  intro pins s σ H xs us Q I rx q
  rcases q with q | q
  · exact h pins s σ H xs us Q I rx q
  · exact h' pins s σ H xs us Q I rx q

def numG (C : Int → Int → Prop) [∀ i j, Decidable (C i j)] (g : Int → Int → Int) : D → D → Option SV
  | .int i, .int j => if C i j then pI (g i j) else none
  | _, _ => none
def cmpG (g : Int → Int → Bool) : D → D → Option SV
  | .int i, .int j => pB (g i j)
  | _, _ => none
instance (i j : Int) : Decidable (CMul i j) := by unfold CMul; infer_instance
instance (i j : Int) : Decidable (CDivW i j) := by unfold CDivW; infer_instance
instance (i j : Int) : Decidable (CPow i j) := by unfold CPow; infer_instance
theorem numG_fine {C : Int → Int → Prop} [∀ i j, Decidable (C i j)] {g : Int → Int → Int} (d e : D) (z : SV) (h : numG C g d e = some z) : Fine z := by
  unfold numG at h
  split at h
  · split at h
    · cases h; exact fine_p _
    · cases h
  · cases h
theorem cmpG_fine {g : Int → Int → Bool} (d e : D) (z : SV) (h : cmpG g d e = some z) : Fine z := by
  unfold cmpG at h
  split at h
  · cases h; exact fine_p _
  · cases h
section
variable {K : PySem.W.Frag}
theorem o_num {C : Int → Int → Prop} [∀ i j, Decidable (C i j)] {g : Int → Int → Int} : Op2 K (L2.rI C fun i j => .int (g i j)) (numG C g) := by
  intro H A v u d e z Q hd he hg q
  unfold numG at hg
  split at hg
  · rename_i i j
    split at hg
    · rename_i hc
      cases hg
      exact ⟨i, j, rd_int hd, rd_int he, hc, res_p q (.int _)⟩
    · cases hg
  · cases hg
theorem o_cmp {g : Int → Int → Bool} : Op2 K (rI0 fun i j => .bl (g i j)) (cmpG g) := by
  intro H A v u d e z Q hd he hg q
  unfold cmpG at hg
  split at hg
  · rename_i i j
    cases hg
    exact ⟨i, j, rd_int hd, rd_int he, res_p q (.bl _)⟩
  · cases hg
def subG : D → D → Option SV
  | .int i, .int j => pI (i - j)
  | _, _ => none
theorem subG_fine (d e : D) (z : SV) (h : subG d e = some z) : Fine z := by
  unfold subG at h
  split at h
  · cases h; exact fine_p _
  · cases h
theorem o_sub : Op2 K (rI0 fun i j => .int (i - j)) subG := by
  intro H A v u d e z Q hd he hg q
  unfold subG at hg
  split at hg
  · rename_i i j
    cases hg
    exact ⟨i, j, rd_int hd, rd_int he, res_p q (.int _)⟩
  · cases hg
/-- a + b: numbers, lists, tuples -/
def rAddA (K : PySem.W.Frag) : R2 := fun x y H Q => rI0 (fun i j => .int (i + j)) x y H Q ∨ (rCat x y H Q ∨ rCatT K x y H Q)
def addG : D → D → Option SV
  | .int i, .int j => pI (i + j)
  | .lst a, .lst b => if a.length + b.length ≤ 100000 then nL (a ++ b) else none
  | .tup (x :: a), .tup b => if a.length + b.length < 100000 then some ⟨.p, .tup (x :: a ++ b)⟩ else none
  | _, _ => none
theorem addG_fine (d e : D) (z : SV) (h : addG d e = some z) : Fine z := by
  unfold addG at h
  split at h
  · cases h; exact fine_p _
  · split at h
    · cases h; exact fine_l _
    · cases h
  · split at h
    · cases h; exact fine_p _
    · cases h
  · cases h
theorem SqTA.new {H : Hp} {A : List Addr} {p : Addr} {xs : List V} (h : H p = some (.tup xs)) (n : p ∉ A) : SqTA K H A p xs := ⟨n, h⟩
end
theorem op_addA {X : Cx} : OpR X (binaryOp .Add) (rAddA X.K) := opr_or op_add (opr_or op_cat op_catT)
def Op2s (K : PySem.W.Frag) (r : R2) (g : D → D → Option SV) : Prop := ∀ H A v u d e z Q, (∀ a ∈ A, H a ≠ none) → RdOk K H A v d → RdOk K H A u e → g d e = some z → ResOk K H A Q z → r v u H Q
theorem Op2.s {K : PySem.W.Frag} {r : R2} {g : D → D → Option SV} (h : Op2 K r g) : Op2s K r g := fun H A v u d e z Q _ => h H A v u d e z Q
def OpCs (K : PySem.W.Frag) (r : List V → Hp → VK → Prop) (g : List D → Option SV) : Prop := ∀ H A vs ds z Q, (∀ a ∈ A, H a ≠ none) → RdL K H A vs ds → g ds = some z → ResOk K H A Q z → r vs H Q
section
variable {K : PySem.W.Frag} {E : XK} {ta tb te : TE} {t : TA}
theorem sf_op2s {r : R2} {g : D → D → Option SV} {fa fb : En → R Opd} (ho : Op2s K r g) (hf : ∀ d e z, g d e = some z → Fine z) (ha : SE K E ta fa) (hb : SE K E tb fb) : SF K E (tOp r ta tb) (op2 g fa fb) := by
  intro F env σ H W Q rel p
  refine Sn.go (t := ta) ha rel p fun e1 H1 W1 a v rel1 s1 rv p => ?_
  refine Sn.go (t := tb) hb rel1 p fun e2 H2 W2 b u rel2 s2 ru p => ?_
  have rv2 := RelO.step s2 rv
  cases q2 : a.get e2 with
  | none => rw [q2] at p; exact p.elim
  | some x =>
    cases q3 : b.get e2 with
    | none => rw [q2, q3] at p; exact p.elim
    | some y =>
      rw [q2, q3] at p; dsimp only at p
      cases q4 : g x y with
      | none => rw [q4] at p; exact p.elim
      | some z =>
        rw [q4] at p
        exact ho H2 (W2 ++ F.fr) v u x y z Q rel2.all (rel2.get rv2 q2) (rel2.get ru q3) q4 (res_of rel2 p (hf _ _ _ q4))
theorem sf_callBs {r : List V → Hp → VK → Prop} {g : List D → Option SV} {fa : En → R (List Opd)} (ho : OpCs K r g) (hf : ∀ d z, g d = some z → Fine z) (ha : SA K E t fa) : SF K E (tCB r t) (callB g fa) := by
  intro F env σ H W Q rel p
  refine Sn.go (t := t) ha rel p fun e H W as vs rel s rv p => ?_
  cases q : getL as e with
  | none => rw [q] at p; exact p.elim
  | some xs =>
    rw [q] at p; dsimp only at p
    cases q2 : g xs with
    | none => rw [q2] at p; exact p.elim
    | some z =>
      rw [q2] at p
      exact ho H (W ++ F.fr) vs xs z Q rel.all (getL_ok rel rv q) q2 (res_of rel p (hf _ _ q2))
theorem o_add : Op2s K (rAddA K) addG := by
  intro H A v u d e z Q hA hd he hg q
  unfold addG at hg
  split at hg
  · rename_i i j
    cases hg
    exact .inl ⟨i, j, rd_int hd, rd_int he, res_p q (.int _)⟩
  · rename_i a b
    split at hg
    · rename_i hc
      cases hg
      obtain ⟨p1, x1, e1, h1, r1⟩ := rd_lst hd
      obtain ⟨p2, x2, e2, h2, r2⟩ := rd_lst he
      refine .inr (.inl ⟨p1, p2, x1, x2, e1, e2, h1, h2, sz_of (by rw [r1.length, r2.length]; exact hc), fun p hp => ?_⟩)
      exact q p _ hp (r1.append r2)
    · cases hg
  · rename_i x a b
    split at hg
    · rename_i hc
      cases hg
      obtain ⟨p1, x1, e1, h1, r1⟩ := rd_tup hd
      obtain ⟨p2, x2, e2, h2, r2⟩ := rd_tup he
      have l1 := r1.length
      have l2 := r2.length
      simp at l1
      refine .inr (.inr ⟨p1, p2, x1, x2, e1, e2, h1.sq, h2.sq, fun z => by rw [z] at l1; simp at l1, sz_of (by omega), fun z => ?_, fun _ p hp => ?_⟩)
      · subst z
        cases r2
        refine q (.ref p1) H (.inl rfl) ?_
        rw [List.append_nil]
        exact .tup h1 r1
      · refine q (.ref p) _ (.inr ⟨p, _, hp, rfl⟩) ?_
        have hk : ∀ a o, a ∉ A → H a = some o → (upd H p (.tup (x1 ++ x2))) a = some o := fun a o _ e => upd_kept hp a o e
        have hg : ∀ a, a ∈ A → a ∈ A ∨ H a = none := fun a z => .inl z
        exact .tup (SqTA.new upd_same fun z => hA p z hp) ((r1.append r2).mono hk hg)
    · cases hg
  · cases hg
/-- a * b: numbers, a list repeated -/
def rMulA : R2 := fun x y H Q => L2.rI CMul (fun i j => .int (i * j)) x y H Q ∨ rRep x y H Q
def mulG : D → D → Option SV
  | .int i, .int j => if CMul i j then pI (i * j) else none
  | .lst a, .int k => if a.length * k.toNat ≤ 100000 ∧ k ≤ 100000 ∧ -100000 ≤ k then nL (List.replicate k.toNat a).flatten else none
  | _, _ => none
theorem mulG_fine (d e : D) (z : SV) (h : mulG d e = some z) : Fine z := by
  unfold mulG at h
  split at h
  · split at h
    · cases h; exact fine_p _
    · cases h
  · split at h
    · cases h; exact fine_l _
    · cases h
  · cases h
theorem RpL.rep {H : Hp} {A : List Addr} {xs : List V} {ds : List D} (r : RpL K H A xs ds) : ∀ n : Nat, RpL K H A (List.replicate n xs).flatten (List.replicate n ds).flatten
  | 0 => .nil
  | n + 1 => by
    rw [List.replicate_succ, List.replicate_succ, List.flatten_cons, List.flatten_cons]
    exact r.append (RpL.rep r n)
theorem o_mul : Op2s K rMulA mulG := by
  intro H A v u d e z Q hA hd he hg q
  unfold mulG at hg
  split at hg
  · rename_i i j
    split at hg
    · rename_i hc
      cases hg
      exact .inl ⟨i, j, rd_int hd, rd_int he, hc, res_p q (.int _)⟩
    · cases hg
  · rename_i a k
    split at hg
    · rename_i hc
      cases hg
      obtain ⟨p1, x1, e1, h1, r1⟩ := rd_lst hd
      refine .inr ⟨p1, k, x1, e1, rd_int he, h1, by omega, by omega, sz_of (by rw [r1.length]; exact hc.1), fun p hp => ?_⟩
      exact q p _ hp (r1.rep _)
    · cases hg
  · cases hg
end
theorem op_mulA {X : Cx} : OpR X (binaryOp .Mult) rMulA := opr_or op_mul op_rep

mutual
def toPy : D → Option PyData
  | .non => some .none
  | .bl b => some (.bool b)
  | .int i => some (.int i)
  | .str x => some (.str x)
  | .tup xs => (toPyL xs).map .tuple
  | .lst xs => (toPyL xs).map .list
  | _ => none
def toPyL : List D → Option (List PyData)
  | [] => some []
  | x :: xs => match toPy x, toPyL xs with
    | some p, some ps => some (p :: ps)
    | _, _ => none
end
section
variable {K : PySem.W.Frag} {H : Hp} {A : List Addr}
mutual
theorem dp_of : ∀ (d : D) {v : V} {q : PyData}, Rp K H A v d → toPy d = some q → Dp K H v q
  | .non, _, _, h, e => by cases h; unfold toPy at e; cases e; exact .non
  | .bl b, _, _, h, e => by cases h; unfold toPy at e; cases e; exact .bl b
  | .int i, _, _, h, e => by cases h; unfold toPy at e; cases e; exact .int i
  | .str x, _, _, h, e => by cases h; unfold toPy at e; cases e; exact .str x
  | .opq _, _, _, _, e => by unfold toPy at e; cases e
  | .tup ds, _, q, h, e => by
    unfold toPy at e
    cases e2 : toPyL ds with
    | none => rw [e2] at e; cases e
    | some ps => cases h with | tup h r => rw [e2] at e; cases e; exact .tup h.sq (dpL_of ds r e2)
  | .lst ds, _, q, h, e => by
    unfold toPy at e
    cases e2 : toPyL ds with
    | none => rw [e2] at e; cases e
    | some ps => cases h with | lst n h r => rw [e2] at e; cases e; exact .lst (.inl (.inl h)) (dpL_of ds r e2)
  | .frl _, _, _, _, e => by unfold toPy at e; cases e
  | .frt _, _, _, _, e => by unfold toPy at e; cases e
  | .dt _, _, _, _, e => by unfold toPy at e; cases e
  | .dk _, _, _, _, e => by unfold toPy at e; cases e
  | .obj _ _, _, _, _, e => by unfold toPy at e; cases e
theorem dpL_of : ∀ (ds : List D) {vs : List V} {ps : List PyData}, RpL K H A vs ds → toPyL ds = some ps → DpAll K H vs ps
  | [], _, _, h, e => by cases h; unfold toPyL at e; cases e; exact .nil
  | d :: ds, _, ps, h, e => by
    unfold toPyL at e
    cases e1 : toPy d with
    | none => rw [e1] at e; cases e
    | some p =>
      cases e2 : toPyL ds with
      | none => rw [e1, e2] at e; cases e
      | some qs => cases h with | cons h r => rw [e1, e2] at e; cases e; exact .cons (dp_of d h e1) (dpL_of ds r e2)
end
theorem dp_rd {v : V} {d : D} {q : PyData} (h : RdOk K H A v d) (e : toPy d = some q) : Dp K H v q := by
  rcases h with h | ⟨a, e1, h⟩
  · exact dp_of d h e
  · subst e1
    cases h with
    | lst h r =>
      rename_i xs ds
      unfold toPy at e
      cases e2 : toPyL ds with
      | none => rw [e2] at e; cases e
      | some ps => rw [e2] at e; cases e; exact .lst (.inl (.inl h)) (dpL_of ds r e2)
    | dt h r => unfold toPy at e; cases e
    | dk h r => unfold toPy at e; cases e
    | obj c m h g r => unfold toPy at e; cases e
end
def eqD (d e : D) : Option Bool := match toPy d, toPy e with
  | some p, some q => if SeqAt.shaped p = true ∧ SeqAt.shaped q = true then some (PyData.eqv p q) else none
  | _, _ => none
def eqG (neg : Bool) : D → D → Option SV := fun d e => match eqD d e with
  | some b => pB (if neg then !b else b)
  | none => none
theorem eqG_fine {neg : Bool} (d e : D) (z : SV) (h : eqG neg d e = some z) : Fine z := by
  unfold eqG at h
  split at h
  · cases h; exact fine_p _
  · cases h
section
variable {K : PySem.W.Frag}
theorem eqD_of {H : Hp} {A : List Addr} {v u : V} {d e : D} {b : Bool} (hd : RdOk K H A v d) (he : RdOk K H A u e) (h : eqD d e = some b) : ∃ p q, Dp K H v p ∧ Dp K H u q ∧ SeqAt.shaped p = true ∧ SeqAt.shaped q = true ∧ b = PyData.eqv p q := by
  unfold eqD at h
  split at h
  · rename_i p q e1 e2
    split at h
    · rename_i hs
      cases h
      exact ⟨p, q, dp_rd hd e1, dp_rd he e2, hs.1, hs.2, rfl⟩
    · cases h
  · cases h
theorem o_eq : Op2 K (rEqD K) (eqG false) := by
  intro H A v u d e z Q hd he hg q
  unfold eqG at hg
  split at hg
  · rename_i b hb
    cases hg
    obtain ⟨x, y, h1, h2, h3, h4, h5⟩ := eqD_of hd he hb
    refine ⟨x, y, h1, h2, h3, h4, ?_⟩
    rw [← h5]
    exact res_p q (.bl b)
  · cases hg
theorem o_ne : Op2 K (rNeD K) (eqG true) := by
  intro H A v u d e z Q hd he hg q
  unfold eqG at hg
  split at hg
  · rename_i b hb
    cases hg
    obtain ⟨x, y, h1, h2, h3, h4, h5⟩ := eqD_of hd he hb
    refine ⟨x, y, h1, h2, h3, h4, ?_⟩
    rw [← h5]
    exact res_p q (.bl (!b))
  · cases hg
/-- x is None -/
def isNG (neg : Bool) : D → D → Option SV
  | .non, .non => pB (!neg)
  | .bl _, .non => pB neg
  | .int _, .non => pB neg
  | .str _, .non => pB neg
  | .tup _, .non => pB neg
  | .lst _, .non => pB neg
  | .frl _, .non => pB neg
  | .dt _, .non => pB neg
  | .dk _, .non => pB neg
  | .obj _ _, .non => pB neg
  | _, _ => none
theorem isNG_fine {neg : Bool} (d e : D) (z : SV) (h : isNG neg d e = some z) : Fine z := by
  unfold isNG at h
  split at h <;> first | (cases h; exact fine_p _) | cases h
theorem isN_core {H : Hp} {A : List Addr} {v u : V} {d e : D} {z : SV} {neg : Bool} {Q : VK} (hd : RdOk K H A v d) (he : RdOk K H A u e) (hg : isNG neg d e = some z) (q : ResOk K H A Q z) : u = .non ∧ ∃ b : Bool, b = decide (v = .non) ∧ Q (.bl (if neg then !b else b)) H := by
  unfold isNG at hg
  split at hg
  case h_11 => cases hg
  all_goals (cases hg; refine ⟨rd_non he, ?_⟩)
  · exact ⟨true, by rw [rd_non hd]; rfl, by cases neg <;> exact res_p q (.bl _)⟩
  · exact ⟨false, by rw [rd_bl hd]; rfl, by cases neg <;> exact res_p q (.bl _)⟩
  · exact ⟨false, by rw [rd_int hd]; rfl, by cases neg <;> exact res_p q (.bl _)⟩
  · exact ⟨false, by rw [rd_str hd]; rfl, by cases neg <;> exact res_p q (.bl _)⟩
  · obtain ⟨a, xs, e1, _⟩ := rd_tup hd; exact ⟨false, by rw [e1]; rfl, by cases neg <;> exact res_p q (.bl _)⟩
  · obtain ⟨a, xs, e1, _⟩ := rd_lst hd; exact ⟨false, by rw [e1]; rfl, by cases neg <;> exact res_p q (.bl _)⟩
  · obtain ⟨a, xs, e1, _⟩ := rd_frl hd; exact ⟨false, by rw [e1]; rfl, by cases neg <;> exact res_p q (.bl _)⟩
  · obtain ⟨a, xs, e1, _⟩ := rd_dt hd; exact ⟨false, by rw [e1]; rfl, by cases neg <;> exact res_p q (.bl _)⟩
  · obtain ⟨a, xs, e1, _⟩ := rd_dk hd; exact ⟨false, by rw [e1]; rfl, by cases neg <;> exact res_p q (.bl _)⟩
  · obtain ⟨a, e1⟩ := rd_obj hd; exact ⟨false, by rw [e1]; rfl, by cases neg <;> exact res_p q (.bl _)⟩
theorem o_isN : Op2 K (fun x y H Q => y = .non ∧ Q (.bl (decide (x = .non))) H) (isNG false) := by
  intro H A v u d e z Q hd he hg q
  obtain ⟨h1, b, h2, h3⟩ := isN_core hd he hg q
  exact ⟨h1, by rw [← h2]; exact h3⟩
theorem o_notN : Op2 K (fun x y H Q => y = .non ∧ Q (.bl (!decide (x = .non))) H) (isNG true) := by
  intro H A v u d e z Q hd he hg q
  obtain ⟨h1, b, h2, h3⟩ := isN_core hd he hg q
  exact ⟨h1, by rw [← h2]; exact h3⟩

def ixG : D → D → Option SV := fun d e => match itemsD d, e with
  | some ds, .int i => (match atI ds i with | some x => some ⟨.p, x⟩ | none => none)
  | _, _ => none
theorem ixG_fine (d e : D) (z : SV) (h : ixG d e = some z) : Fine z := by
  unfold ixG at h
  split at h
  · split at h
    · cases h; exact fine_p _
    · cases h
  · cases h
theorem at_of {H : Hp} {A : List Addr} {xs : List V} {ds : List D} {i : Int} {d : D} (r : RpL K H A xs ds) (h : atI ds i = some d) : ∃ v, atI xs i = some v ∧ Rp K H A v d := by
  unfold atI at h ⊢
  rw [r.length]
  cases q : ixN ds.length i with
  | none => rw [q] at h; cases h
  | some j =>
    rw [q] at h
    exact r.get h
theorem o_ix : Op2 K (rIx K) ixG := by
  intro H A v u d e z Q hd he hg q
  unfold ixG at hg
  split at hg
  · rename_i ds i e1
    split at hg
    · rename_i x e2
      cases hg
      obtain ⟨a, xs, h1, h2, h3⟩ := rd_items hd e1
      obtain ⟨w, h4, h5⟩ := at_of h3 e2
      rcases h2 with h2 | h2
      · exact .inl ⟨a, xs, i, w, h1, rd_int he, h2, h4, res_p q h5⟩
      · exact .inr (.inl ⟨a, xs, i, w, h1, rd_int he, h2, h4, res_p q h5⟩)
    · cases hg
  · cases hg
end
end DL

namespace DL
open PySem L2

def intsOf : List D → Option (List Int)
  | [] => some []
  | .int i :: r => (intsOf r).map (i :: ·)
  | _ => none
def blsOf : List D → Option (List Bool)
  | [] => some []
  | .bl i :: r => (blsOf r).map (i :: ·)
  | _ => none
theorem intsOf_eq : ∀ {ds : List D} {ns : List Int}, intsOf ds = some ns → ds = ns.map D.int
  | [], ns, h => by unfold intsOf at h; cases h; rfl
  | .int i :: r, ns, h => by
    unfold intsOf at h
    cases e : intsOf r with
    | none => rw [e] at h; cases h
    | some ms => rw [e] at h; cases h; rw [intsOf_eq e]; rfl
  | .non :: _, _, h => by cases h
  | .bl _ :: _, _, h => by cases h
  | .str _ :: _, _, h => by cases h
  | .opq _ :: _, _, h => by cases h
  | .tup _ :: _, _, h => by cases h
  | .lst _ :: _, _, h => by cases h
  | .frl _ :: _, _, h => by cases h
  | .frt _ :: _, _, h => by cases h
  | .dt _ :: _, _, h => by cases h
  | .dk _ :: _, _, h => by cases h
  | .obj _ _ :: _, _, h => by cases h
theorem blsOf_eq : ∀ {ds : List D} {ns : List Bool}, blsOf ds = some ns → ds = ns.map D.bl
  | [], ns, h => by unfold blsOf at h; cases h; rfl
  | .bl i :: r, ns, h => by
    unfold blsOf at h
    cases e : blsOf r with
    | none => rw [e] at h; cases h
    | some ms => rw [e] at h; cases h; rw [blsOf_eq e]; rfl
  | .non :: _, _, h => by cases h
  | .int _ :: _, _, h => by cases h
  | .str _ :: _, _, h => by cases h
  | .opq _ :: _, _, h => by cases h
  | .tup _ :: _, _, h => by cases h
  | .lst _ :: _, _, h => by cases h
  | .frl _ :: _, _, h => by cases h
  | .frt _ :: _, _, h => by cases h
  | .dt _ :: _, _, h => by cases h
  | .dk _ :: _, _, h => by cases h
  | .obj _ _ :: _, _, h => by cases h
@[simp] theorem intsOf_map : ∀ ns : List Int, intsOf (ns.map D.int) = some ns
  | [] => rfl
  | n :: r => by rw [List.map_cons]; unfold intsOf; rw [intsOf_map r]; rfl
@[simp] theorem blsOf_map : ∀ ns : List Bool, blsOf (ns.map D.bl) = some ns
  | [] => rfl
  | n :: r => by rw [List.map_cons]; unfold blsOf; rw [blsOf_map r]; rfl
section
variable {K : PySem.W.Frag}
def rLenA (K : PySem.W.Frag) : List V → Hp → VK → Prop := fun xs H Q => (∃ p ys, xs = [.ref p] ∧ (SqL K H p ys ∨ SqT K H p ys) ∧ Q (.int ys.length) H) ∨ (∃ z, xs = [.str z] ∧ z.length ≤ sizeLine ∧ Q (.int z.length) H)
def lenG : List D → Option SV
  | [.str z] => if z.length ≤ 100000 then pI z.length else none
  | [d] => (match itemsD d with | some ds => pI ds.length | none => none)
  | _ => none
theorem lenG_fine (d : List D) (z : SV) (h : lenG d = some z) : Fine z := by
  unfold lenG at h
  split at h
  · split at h
    · cases h; exact fine_p _
    · cases h
  · split at h
    · cases h; exact fine_p _
    · cases h
  · cases h
theorem rdL_1 {H : Hp} {A : List Addr} {vs : List V} {d : D} (h : RdL K H A vs [d]) : ∃ v, vs = [v] ∧ RdOk K H A v d := by
  cases h with | cons a b => cases b; exact ⟨_, rfl, a⟩
theorem rdL_2 {H : Hp} {A : List Addr} {vs : List V} {d e : D} (h : RdL K H A vs [d, e]) : ∃ v u, vs = [v, u] ∧ RdOk K H A v d ∧ RdOk K H A u e := by
  cases h with | cons a b => cases b with | cons b c => cases c; exact ⟨_, _, rfl, a, b⟩
theorem o_len : OpCs K (rLenA K) lenG := by
  intro H A vs ds z Q hA hd hg q
  unfold lenG at hg
  split at hg
  · rename_i x
    split at hg
    · rename_i hz
      cases hg
      obtain ⟨v, rfl, h⟩ := rdL_1 hd
      rw [rd_str h]
      exact .inr ⟨x, rfl, sz_of hz, res_p q (.int _)⟩
    · cases hg
  · rename_i d hx
    split at hg
    · rename_i xs e
      cases hg
      obtain ⟨v, rfl, h⟩ := rdL_1 hd
      obtain ⟨a, ys, rfl, h2, h3⟩ := rd_items h e
      refine .inl ⟨a, ys, rfl, h2, ?_⟩
      rw [h3.length]
      exact res_p q (.int _)
    · cases hg
  · cases hg
def rListA (K : PySem.W.Frag) : List V → Hp → VK → Prop := fun xs H Q => ∃ p ys, xs = [.ref p] ∧ (SqL K H p ys ∨ SqT K H p ys) ∧ ∀ l, H l = none → Q (.ref l) (upd H l (.lst ys))
def listG : List D → Option SV
  | [d] => (match itemsD d with | some ds => nL ds | none => none)
  | _ => none
theorem listG_fine (d : List D) (z : SV) (h : listG d = some z) : Fine z := by
  unfold listG at h
  split at h
  · split at h
    · cases h; exact fine_l _
    · cases h
  · cases h
theorem o_list : OpCs K (rListA K) listG := by
  intro H A vs ds z Q hA hd hg q
  unfold listG at hg
  split at hg
  · rename_i d
    split at hg
    · rename_i xs e
      cases hg
      obtain ⟨v, rfl, h⟩ := rdL_1 hd
      obtain ⟨a, ys, rfl, h2, h3⟩ := rd_items h e
      exact ⟨a, ys, rfl, h2, fun l hl => q l ys hl h3⟩
    · cases hg
  · cases hg
def rTupleA (K : PySem.W.Frag) : List V → Hp → VK → Prop := fun xs H Q => ∃ p ys, xs = [.ref p] ∧ ((SqL K H p ys ∧ ∀ l, H l = none → Q (.ref l) (upd H l (.tup ys))) ∨ (SqT K H p ys ∧ Q (.ref p) H))
def tupleG : List D → Option SV
  | [.lst ds] => some ⟨.p, .tup ds⟩
  | [.frl ds] => some ⟨.p, .tup ds⟩
  | [.tup ds] => some ⟨.p, .tup ds⟩
  | _ => none
theorem tupleG_fine (d : List D) (z : SV) (h : tupleG d = some z) : Fine z := by
  unfold tupleG at h
  split at h <;> first | (cases h; exact fine_p _) | cases h
theorem new_tup {H : Hp} {A : List Addr} {ys : List V} {ds : List D} {Q : VK} {l : Addr} (hA : ∀ a ∈ A, H a ≠ none) (h : RpL K H A ys ds) (q : ResOk K H A Q ⟨.p, .tup ds⟩) (hl : H l = none) : Q (.ref l) (upd H l (.tup ys)) := by
  have hk : ∀ a o, a ∉ A → H a = some o → (upd H l (.tup ys)) a = some o := fun a o _ e => upd_kept hl a o e
  have hg : ∀ a, a ∈ A → a ∈ A ∨ H a = none := fun a z => .inl z
  exact q (.ref l) _ (.inr ⟨l, _, hl, rfl⟩) (.tup (SqTA.new upd_same fun z => hA l z hl) (h.mono hk hg))
theorem o_tuple : OpCs K (rTupleA K) tupleG := by
  intro H A vs ds z Q hA hd hg q
  unfold tupleG at hg
  split at hg
  · cases hg
    obtain ⟨v, rfl, h⟩ := rdL_1 hd
    obtain ⟨a, ys, rfl, h2, h3⟩ := rd_lst h
    exact ⟨a, ys, rfl, .inl ⟨.inl (.inl h2), fun l hl => new_tup hA h3 q hl⟩⟩
  · cases hg
    obtain ⟨v, rfl, h⟩ := rdL_1 hd
    obtain ⟨a, ys, rfl, h2, h3⟩ := rd_frl h
    exact ⟨a, ys, rfl, .inl ⟨h2.sq, fun l hl => new_tup hA h3 q hl⟩⟩
  · cases hg
    obtain ⟨v, rfl, h⟩ := rdL_1 hd
    obtain ⟨a, ys, rfl, h2, h3⟩ := rd_tup h
    exact ⟨a, ys, rfl, .inr ⟨h2.sq, res_p q (.tup h2 h3)⟩⟩
  · cases hg
def sumG : List D → Option SV
  | [d] => (match itemsL d with | some ds => (match intsOf ds with | some ns => pI ns.sum | none => none) | none => none)
  | _ => none
theorem sumG_fine (d : List D) (z : SV) (h : sumG d = some z) : Fine z := by
  unfold sumG at h
  split at h
  · split at h
    · split at h
      · cases h; exact fine_p _
      · cases h
    · cases h
  · cases h
theorem o_sum : OpCs K (rSum K) sumG := by
  intro H A vs ds z Q hA hd hg q
  unfold sumG at hg
  split at hg
  · split at hg
    · rename_i xs e
      split at hg
      · rename_i ns e2
        cases hg
        obtain ⟨v, rfl, h⟩ := rdL_1 hd
        obtain ⟨a, ys, rfl, h2, h3⟩ := rd_itemsL h e
        rw [intsOf_eq e2] at h3
        rw [h3.ints_of] at h2
        exact ⟨a, ns, rfl, h2, res_p q (.int _)⟩
      · cases hg
    · cases hg
  · cases hg
def allG (any : Bool) : List D → Option SV
  | [d] => (match itemsL d with | some ds => (match blsOf ds with | some ns => pB (if any then ns.any id else ns.all id) | none => none) | none => none)
  | _ => none
theorem allG_fine {any : Bool} (d : List D) (z : SV) (h : allG any d = some z) : Fine z := by
  unfold allG at h
  split at h
  · split at h
    · split at h
      · cases h; exact fine_p _
      · cases h
    · cases h
  · cases h
theorem all_core {any : Bool} {H : Hp} {A : List Addr} {vs : List V} {ds : List D} {z : SV} {Q : VK} (hd : RdL K H A vs ds) (hg : allG any ds = some z) (q : ResOk K H A Q z) : ∃ (a : Addr) (bs : List Bool), vs = [V.ref a] ∧ SqL K H a (bs.map V.bl) ∧ Q (.bl (if any then bs.any id else bs.all id)) H := by
  unfold allG at hg
  split at hg
  · split at hg
    · rename_i xs e
      split at hg
      · rename_i ns e2
        cases hg
        obtain ⟨v, rfl, h⟩ := rdL_1 hd
        obtain ⟨a, ys, rfl, h2, h3⟩ := rd_itemsL h e
        rw [blsOf_eq e2] at h3
        rw [h3.bls_of] at h2
        exact ⟨a, ns, rfl, h2, res_p q (.bl _)⟩
      · cases hg
    · cases hg
  · cases hg
theorem o_all : OpCs K (rAll K) (allG false) := fun H A vs ds z Q _ hd hg q => all_core hd hg q
theorem o_any : OpCs K (rAny K) (allG true) := fun H A vs ds z Q _ hd hg q => all_core hd hg q
def int2G (g : Int → Int → Int) : List D → Option SV
  | [.int i, .int j] => pI (g i j)
  | _ => none
theorem int2G_fine {g : Int → Int → Int} (d : List D) (z : SV) (h : int2G g d = some z) : Fine z := by
  unfold int2G at h
  split at h
  · cases h; exact fine_p _
  · cases h
theorem o_int2 {g : Int → Int → Int} : OpCs K (fun xs H Q => ∃ i j, xs = [.int i, .int j] ∧ Q (.int (g i j)) H) (int2G g) := by
  intro H A vs ds z Q hA hd hg q
  unfold int2G at hg
  split at hg
  · rename_i i j
    cases hg
    obtain ⟨v, u, rfl, h1, h2⟩ := rdL_2 hd
    exact ⟨i, j, by rw [rd_int h1, rd_int h2], res_p q (.int _)⟩
  · cases hg
def int1G (g : Int → Int) : List D → Option SV
  | [.int i] => pI (g i)
  | _ => none
theorem int1G_fine {g : Int → Int} (d : List D) (z : SV) (h : int1G g d = some z) : Fine z := by
  unfold int1G at h
  split at h
  · cases h; exact fine_p _
  · cases h
theorem o_int1 {g : Int → Int} : OpCs K (fun xs H Q => ∃ i, xs = [.int i] ∧ Q (.int (g i)) H) (int1G g) := by
  intro H A vs ds z Q hA hd hg q
  unfold int1G at hg
  split at hg
  · rename_i i
    cases hg
    obtain ⟨v, rfl, h1⟩ := rdL_1 hd
    exact ⟨i, by rw [rd_int h1], res_p q (.int _)⟩
  · cases hg
def intG : List D → Option SV
  | [.int i] => pI i
  | [.bl b] => pI (if b then 1 else 0)
  | _ => none
theorem intG_fine (d : List D) (z : SV) (h : intG d = some z) : Fine z := by
  unfold intG at h
  split at h <;> first | (cases h; exact fine_p _) | cases h
theorem o_intc : OpCs K (fun xs H Q => (∃ i, xs = [.int i] ∧ Q (.int i) H) ∨ ∃ k, xs = [.bl k] ∧ Q (.int (if k then 1 else 0)) H) intG := by
  intro H A vs ds z Q hA hd hg q
  unfold intG at hg
  split at hg
  · cases hg
    obtain ⟨v, rfl, h1⟩ := rdL_1 hd
    exact .inl ⟨_, by rw [rd_int h1], res_p q (.int _)⟩
  · cases hg
    obtain ⟨v, rfl, h1⟩ := rdL_1 hd
    exact .inr ⟨_, by rw [rd_bl h1], res_p q (.int _)⟩
  · cases hg
/-- isinstance(x, T), T a built-in class -/
def tyD : D → Option String
  | .non => some "NoneType"
  | .bl _ => some "bool"
  | .int _ => some "int"
  | .str _ => some "str"
  | .tup _ => some "tuple"
  | .frt _ => some "tuple"
  | .lst _ => some "list"
  | .dt _ => some "dict"
  | .dk _ => some "dict"
  | _ => none
/-- also a dict that is walked just now -/
def TyY (K : PySem.W.Frag) (H : Hp) (x : V) (t : Value) : Prop := TyX K H x t ∨ ∃ a o kvs, x = .ref a ∧ t = .type "dict" ∧ H a = some (.frz o (.dT kvs))
theorem kit_ofY {X : Cx} {pins : List (Addr × Obj)} {σ : St} {H : Hp} {s : Shared} {x : V} {u t : Value} (I : Inv X pins σ H s) (rx : RelV x u) (ty : TyY X.K H x t) : ∃ P : Heap → Prop, PySem.W.KitX X.K u t P ∧ P s.heap ∧ u ≠ .builtin "__main__.__loader__#opaque" := by
  rcases ty with ty | ⟨a, ob, kvs, rfl, rfl, ea⟩
  · exact kit_of I rx ty
  · cases (show u = Value.ref a from rx)
    obtain ⟨_, _, _, vs, _, o, es, ep, h1, h2, _⟩ := (show ObjOk X.prog X.w H s.heap a (.frz ob (.dT kvs)) from I.hok a _ ea)
    exact ⟨_, PySem.W.kitx_dict, ⟨o, h1, h2.1⟩, fun z => nomatch z⟩
def rIsiY (K : PySem.W.Frag) : List V → Hp → VK → Prop := fun xs H Q => ∃ (x c : V) (t u : Value) (b : Bool), xs = [x, c] ∧ ClsV c u ∧ TyY K H x t ∧ PySem.W.kitOne K t u = some b ∧ Q (.bl b) H
theorem call_isiY {X : Cx} : CallR X (.builtin "isinstance") (rIsiY X.K) := by
  intro pins s σ H xs us Q I r h
  obtain ⟨x, c, t, u, b, rfl, k, ty, e, q⟩ := h
  obtain ⟨u1, u2, rfl, r1, r2⟩ := vals2 r
  have e2 := k.eq r2
  subst e2
  obtain ⟨P, Z, p, hx⟩ := kit_ofY I r1 ty
  exact PySem.W.kia_one Z I.kIn p e hx fun tk => ⟨.bl b, H, I.tok tk, rfl, q⟩
theorem tyD_ok {H : Hp} {A : List Addr} {v : V} {d : D} {s : String} (h : RdOk K H A v d) (e : tyD d = some s) : TyY K H v (.type s) := by
  cases d with
  | non => cases e; rw [rd_non h]; exact .inl (.base .non)
  | bl b => cases e; rw [rd_bl h]; exact .inl (.base (.bl b))
  | int i => cases e; rw [rd_int h]; exact .inl (.base (.int i))
  | str x => cases e; rw [rd_str h]; exact .inl (.base (.str x))
  | tup ds => cases e; obtain ⟨a, xs, rfl, h2, _⟩ := rd_tup h; exact .inl (.base (.tup h2.2))
  | frt ds => cases e; obtain ⟨a, xs, rfl, ⟨o, its, n, h1, h2, _⟩, _⟩ := rd_frt h; exact .inl (.kTuple h1 h2)
  | lst ds => cases e; obtain ⟨a, xs, rfl, h2, _⟩ := rd_lst h; exact .inl (.base (.lst h2))
  | dt ds => cases e; obtain ⟨a, xs, rfl, h2, _⟩ := rd_dt h; rcases h2 with h2 | ⟨o, h2⟩; exact .inl (.base (.dT h2)); exact .inr ⟨_, _, _, rfl, rfl, h2⟩
  | dk ds => cases e; obtain ⟨a, xs, rfl, h2, _⟩ := rd_dk h; rcases h2 with h2 | ⟨o, h2⟩; exact .inl (.base (.dK h2)); exact .inl (.fDict h2)
  | _ => cases e
def isiG : List D → Option SV
  | [d, .opq (.ty n)] => (match tyD d with | some s => (match kitB s n with | some b => pB b | none => none) | none => none)
  | _ => none
theorem isiG_fine (d : List D) (z : SV) (h : isiG d = some z) : Fine z := by
  unfold isiG at h
  split at h
  · split at h
    · split at h
      · cases h; exact fine_p _
      · cases h
    · cases h
  · cases h
theorem o_isi : OpCs K (rIsiY K) isiG := by
  intro H A vs ds z Q hA hd hg q
  unfold isiG at hg
  split at hg
  · rename_i d n
    split at hg
    · rename_i s e
      split at hg
      · rename_i b e2
        cases hg
        obtain ⟨v, u, rfl, h1, h2⟩ := rdL_2 hd
        rw [rd_opq h2]
        exact ⟨v, .ty n, .type s, .type n, b, rfl, .ty n, tyD_ok h1 e, kit_ty e2, res_p q (.bl b)⟩
      · cases hg
    · cases hg
  · cases hg
end

section
variable {K : PySem.W.Frag} {E : XK} {F : Fm} {env : En} {σ : St} {H : Hp} {W : List Addr} {ta tb te to : TE} {t : TA}
/-- a method that changes nothing -/
def methL (g : D → List D → Option SV) (fo : En → R Opd) (fa : En → R (List Opd)) : En → R SV := bindR fo fun o e1 => match (o.get e1).bind itemsL with
  | none => .stuck
  | some _ => bindR fa (fun os e => match o.get e, getL os e with
    | some x, some xs => (match g x xs with | some z => .ok z e | none => .stuck)
    | _, _ => .stuck) e1
def OpM (K : PySem.W.Frag) (r : V → List V → Hp → VK → Prop) (g : D → List D → Option SV) : Prop := ∀ H A v vs d ds z Q, RdOk K H A v d → RdL K H A vs ds → g d ds = some z → ResOk K H A Q z → r v vs H Q
theorem ty_list {A : List Addr} {v : V} {d : D} {ds : List D} (h : RdOk K H A v d) (e : itemsL d = some ds) : tyV K "list" v H := by
  obtain ⟨a, xs, rfl, h2, _⟩ := rd_itemsL h e
  exact .inl ⟨rfl, xs, h2⟩
theorem sf_methL {r : V → List V → Hp → VK → Prop} {g : D → List D → Option SV} {fo : En → R Opd} {fa : En → R (List Opd)} (ho : OpM K r g) (hf : ∀ d ds z, g d ds = some z → Fine z) (h1 : SE K E to fo) (h2 : SA K E t fa) : SF K E (tBM K "list" r to t) (methL g fo fa) := by
  intro F env σ H W Q rel p
  refine Sn.go (t := to) h1 rel p fun e1 H1 W1 o v rel1 s1 rv p => ?_
  cases q0 : (o.get e1).bind itemsL with
  | none => rw [q0] at p; exact p.elim
  | some _ =>
    rw [q0] at p; dsimp only at p
    refine ⟨?_, Sn.go (t := t) h2 rel1 p fun e2 H2 W2 os vs rel2 s2 rvs p => ?_⟩
    · cases q1 : o.get e1 with
      | none => rw [q1] at q0; cases q0
      | some d => rw [q1] at q0; exact ty_list (rel1.get rv q1) q0
    · have rv2 := RelO.step s2 rv
      cases q2 : o.get e2 with
      | none => rw [q2] at p; exact p.elim
      | some x =>
        cases q3 : getL os e2 with
        | none => rw [q2, q3] at p; exact p.elim
        | some xs =>
          rw [q2, q3] at p; dsimp only at p
          cases q4 : g x xs with
          | none => rw [q4] at p; exact p.elim
          | some z =>
            rw [q4] at p
            exact ho H2 (W2 ++ F.fr) v vs x xs z Q (rel2.get rv2 q2) (getL_ok rel2 rvs q3) q4 (res_of rel2 p (hf _ _ _ q4))
def countG : D → List D → Option SV := fun d xs => match (itemsL d).bind intsOf, xs with
  | some ns, [.int k] => pI (ns.count k : Nat)
  | _, _ => none
theorem countG_fine (d : D) (ds : List D) (z : SV) (h : countG d ds = some z) : Fine z := by
  unfold countG at h
  split at h
  · cases h; exact fine_p _
  · cases h
theorem o_count : OpM K (rCntI K) countG := by
  intro H A v vs d ds z Q hd hds hg q
  unfold countG at hg
  split at hg
  · rename_i ns k e
    cases hg
    obtain ⟨u, rfl, hu⟩ := rdL_1 hds
    cases e1 : itemsL d with
    | none => rw [e1] at e; cases e
    | some xs =>
      rw [e1] at e
      obtain ⟨a, ys, rfl, h2, h3⟩ := rd_itemsL hd e1
      have e' : intsOf xs = some ns := e
      rw [intsOf_eq e'] at h3
      rw [h3.ints_of] at h2
      exact ⟨a, ns, k, rfl, by rw [rd_int hu], h2, res_p q (.int _)⟩
  · cases hg
/-- a method that changes the list in slot i -/
def mutL (i : Nat) (k : List D → List D → Option (D × List D)) (fa : En → R (List Opd)) : En → R SV := fun e => match e.sv i with
  | some ⟨_, .lst _⟩ => bindR fa (fun os e => match pureL os e with
    | some (ds, e') => (match e'.sv i with
      | some ⟨.p, _⟩ => .stuck
      | some ⟨.t, _⟩ => .stuck
      | some ⟨.u, _⟩ => .stuck
      | some ⟨fl, .lst xs⟩ => (match k ds xs with
        | some (r, ys) => .ok ⟨.p, r⟩ (e'.set i (some ⟨fl, .lst ys⟩))
        | none => .stuck)
      | _ => .stuck)
    | none => .stuck) e
  | _ => .stuck
def OpU (K : PySem.W.Frag) (r : V → List V → Hp → VK → Prop) (k : List D → List D → Option (D × List D)) : Prop := ∀ H A l vs ds xv xs z ys (Q : VK), H l = some (.lst xv) → RpL K H A xv xs → RpL K H A vs ds → k ds xs = some (z, ys) →
  (∀ w yv, Rp K H A w z → RpL K H A yv ys → Q w (upd H l (.lst yv))) → r (.ref l) vs H Q
theorem mut_core {i : Nat} {r : V → List V → Hp → VK → Prop} {k : List D → List D → Option (D × List D)} (ho : OpU K r k) {os : List Opd} {vs : List V} {v : V} {Q : VK} (rel : Rel K F env σ H W) (hv : σ[i]? = some (some v)) (rvs : RelOs K F σ H W os vs)
    (p : Post (rV K) K E F σ H W Q (match pureL os env with
    | some (ds, e') => (match e'.sv i with
      | some ⟨.p, _⟩ => .stuck
      | some ⟨.t, _⟩ => .stuck
      | some ⟨.u, _⟩ => .stuck
      | some ⟨fl, .lst xs⟩ => (match k ds xs with
        | some (r, ys) => .ok ⟨.p, r⟩ (e'.set i (some ⟨fl, .lst ys⟩))
        | none => .stuck)
      | _ => .stuck)
    | none => .stuck)) : r v vs H Q := by
  cases q0 : pureL os env with
  | none => rw [q0] at p; exact p.elim
  | some de =>
    obtain ⟨ds, e'⟩ := de
    rw [q0] at p; dsimp only at p
    obtain ⟨W1, r1, s1, k1⟩ := pureL_ok rel rvs q0
    cases q1 : e'.sv i with
    | none => rw [q1] at p; exact p.elim
    | some sv =>
      rw [q1] at p
      obtain ⟨fl, x⟩ := sv
      obtain ⟨u, h1, fp, h2⟩ := r1.sl i _ q1
      rw [hv] at h1; cases h1
      have go : ∀ (nf : fl = .o ∨ fl = .b) (xs : List D), x = .lst xs → (∀ r ys, k ds xs = some (r, ys) → Post (rV K) K E F σ H W Q (.ok ⟨.p, r⟩ (e'.set i (some ⟨fl, .lst ys⟩)))) → (k ds xs = none → False) → r v vs H Q := fun nf xs ex p1 p2 => by
        subst ex
        obtain ⟨a, e2, _, ha, hw, hz⟩ := h2.sh nf
        · subst e2
          cases hw with
          | lst hl hr =>
            cases q2 : k ds xs with
            | none => exact (p2 q2).elim
            | some ry =>
              obtain ⟨z, ys⟩ := ry
              refine ho H (W1 ++ F.fr) a vs ds _ xs z ys Q hl hr k1 q2 fun w yv hw hyv => ?_
              have st : Step H W1 (upd H a (.lst yv)) W1 := Step.mut ha
              have R2 := r1.write (o := .lst yv) (d := .lst ys) q1 nf hv (.lst upd_same (st.rpL hyv))
              exact p1 z ys q2 w _ W1 R2 (s1.trans st) (.inl ⟨rfl, st.rp hw⟩)
      cases fl with
      | p => exact p.elim
      | t => exact p.elim
      | u => exact p.elim
      | o =>
        cases x with
        | lst xs => exact go (.inl rfl) xs rfl (fun r ys e => by dsimp only at p; rw [e] at p; exact p) (fun e => by dsimp only at p; rw [e] at p; exact p)
        | _ => exact p.elim
      | b =>
        cases x with
        | lst xs => exact go (.inr rfl) xs rfl (fun r ys e => by dsimp only at p; rw [e] at p; exact p) (fun e => by dsimp only at p; rw [e] at p; exact p)
        | _ => exact p.elim
theorem sv_ty {i : Nat} {fl : Fl} {ds : List D} (rel : Rel K F env σ H W) (e : env.sv i = some ⟨fl, .lst ds⟩) : ∃ v, σ[i]? = some (some v) ∧ tyV K "list" v H := by
  obtain ⟨v, h1, fp, h2⟩ := rel.sl i _ e
  refine ⟨v, h1, ?_⟩
  rcases h2 with ⟨_, _, h2⟩ | ⟨h2, _⟩
  · exact ty_list (.inl h2) rfl
  · cases h2 with
    | sh _ h2 => exact ty_list (.inr ⟨_, rfl, h2⟩) rfl
    | tr _ h2 _ =>
      cases h2 with
      | imm q _ => cases q
      | lst h2 _ => exact .inl ⟨rfl, _, .inl (.inl h2)⟩
theorem sf_mut {i : Nat} {r : V → List V → Hp → VK → Prop} {k : List D → List D → Option (D × List D)} {fa : En → R (List Opd)} (ho : OpU K r k) (ha : SA K E t fa) : SF K E (tBM K "list" r (tVar i) t) (mutL i k fa) := by
  intro F env σ H W Q rel p
  unfold mutL at p
  split at p
  · rename_i fl ds e
    obtain ⟨v, h1, h2⟩ := sv_ty rel e
    refine ⟨v, h1, h2, ?_⟩
    refine Sn.go (t := t) ha rel p fun e1 H1 W1 os vs rel1 s1 rvs p => ?_
    exact mut_core ho rel1 h1 rvs p
  · exact p.elim
theorem sf_mut0 {i : Nat} {r : V → List V → Hp → VK → Prop} {k : List D → List D → Option (D × List D)} (ho : OpU K r k) : SF K E (tBM0 K "list" r (tVar i)) (mutL i k nilA) := by
  intro F env σ H W Q rel p
  unfold mutL at p
  split at p
  · rename_i fl ds e
    obtain ⟨v, h1, h2⟩ := sv_ty rel e
    exact ⟨v, h1, h2, mut_core ho rel h1 (.nil : RelOs K F σ H W [] []) p⟩
  · exact p.elim
def appendK : List D → List D → Option (D × List D)
  | [d], xs => if xs.length < 100000 then some (.non, xs ++ [d]) else none
  | _, _ => none
theorem o_append : OpU K rAppend appendK := by
  intro H A l vs ds xv xs z ys Q hl hr hv hk q
  unfold appendK at hk
  split at hk
  · split at hk
    · rename_i hz
      cases hk
      cases hv with
      | cons a b =>
        cases b
        exact ⟨l, xv, _, rfl, rfl, hl, sz_lt (by rw [hr.length]; exact hz), q _ _ .non (hr.append (.one a))⟩
    · cases hk
  · cases hk
def popK : List D → List D → Option (D × List D)
  | [], xs => (xs[xs.length - 1]?).map fun d => (d, xs.dropLast)
  | _, _ => none
theorem RpL.dropLast {A : List Addr} : ∀ {vs : List V} {ds : List D}, RpL K H A vs ds → RpL K H A vs.dropLast ds.dropLast := fun {vs ds} h => by
  rw [List.dropLast_eq_take, List.dropLast_eq_take, h.length]
  exact h.take _
theorem o_pop : OpU K rPop popK := by
  intro H A l vs ds xv xs z ys Q hl hr hv hk q
  unfold popK at hk
  split at hk
  · cases hv
    cases e : xs[xs.length - 1]? with
    | none => rw [e] at hk; cases hk
    | some d =>
      rw [e] at hk; cases hk
      obtain ⟨v, h1, h2⟩ := hr.get e
      exact ⟨l, xv, v, rfl, rfl, hl, by rw [hr.length]; exact h1, q _ _ h2 hr.dropLast⟩
  · cases hk
def clearK : List D → List D → Option (D × List D)
  | [], _ => some (.non, [])
  | _, _ => none
theorem o_clear : OpU K rClear clearK := by
  intro H A l vs ds xv xs z ys Q hl hr hv hk q
  unfold clearK at hk
  split at hk
  · cases hk; cases hv
    exact ⟨l, xv, rfl, rfl, hl, q _ _ .non .nil⟩
  · cases hk
def reverseK : List D → List D → Option (D × List D)
  | [], xs => some (.non, xs.reverse)
  | _, _ => none
theorem o_reverse : OpU K rReverse reverseK := by
  intro H A l vs ds xv xs z ys Q hl hr hv hk q
  unfold reverseK at hk
  split at hk
  · cases hk; cases hv
    exact ⟨l, xv, rfl, rfl, hl, q _ _ .non hr.reverse⟩
  · cases hk
def insertK : List D → List D → Option (D × List D)
  | [.int i, d], xs => if xs.length < 100000 ∧ 0 ≤ i ∧ i ≤ 100000 then some (.non, xs.take i.toNat ++ [d] ++ xs.drop i.toNat) else none
  | _, _ => none
theorem o_insert : OpU K (fun x vs H Q => ∃ (l : Addr) (xs : List V) (i : Int) (y : V), x = .ref l ∧ vs = [.int i, y] ∧ H l = some (.lst xs) ∧ xs.length < sizeLine ∧ 0 ≤ i ∧ i < 2 ^ 63 ∧
    Q .non (upd H l (.lst (xs.take i.toNat ++ [y] ++ xs.drop i.toNat)))) insertK := by
  intro H A l vs ds xv xs z ys Q hl hr hv hk q
  unfold insertK at hk
  split at hk
  · split at hk
    · rename_i hz
      cases hk
      cases hv with
      | cons a b =>
        cases b with
        | cons b c =>
          cases c
          cases a
          exact ⟨l, xv, _, _, rfl, rfl, hl, sz_lt (by rw [hr.length]; exact hz.1), hz.2.1, by omega, q _ _ .non (((hr.take _).append (.one b)).append (hr.drop _))⟩
    · cases hk
  · cases hk
def extendK : List D → List D → Option (D × List D)
  | [.lst ds], xs => if xs.length + ds.length ≤ 100000 then some (.non, xs ++ ds) else none
  | _, _ => none
theorem o_extend : OpU K rExtend extendK := by
  intro H A l vs ds xv xs z ys Q hl hr hv hk q
  unfold extendK at hk
  split at hk
  · split at hk
    · rename_i hz
      cases hk
      cases hv with
      | cons a b =>
        cases b
        cases a with
        | lst n h r => exact ⟨l, _, xv, _, rfl, rfl, hl, h, sz_of (by rw [hr.length, r.length]; exact hz), q _ _ .non (hr.append r)⟩
    · cases hk
  · cases hk

def setIxS (i : Nat) (fv : En → R SV) (fj : En → R Opd) : En → RS := bindS fv fun sv e1 => match e1.sv i with
  | some _ => bindS fj (fun j e => match j.get e, e.sv i with
    | some (.int n), some ⟨fl, .lst xs⟩ => if fl.sh = true then (match ixN xs.length n with
      | some m => .nx (e.set i (some ⟨fl, .lst (xs.set m sv.d)⟩))
      | none => .stuck) else .stuck
    | _, _ => .stuck) e1
  | none => .stuck
theorem ss_setIx {i : Nat} {fv : En → R SV} {fj : En → R Opd} (hv : SF K E te fv) (hj : SE K E tb fj) : SS K E (tAsg te (gSub (tVar i) tb rSetL)) (setIxS i fv fj) := by
  intro F env σ H W T rel p
  refine Sn.goS (t := te) hv rel p fun e1 H1 W1 sv v rel1 s1 rv p => ?_
  obtain ⟨W2, r2, s2, h2⟩ := keep_fresh rel1 rv
  cases q0 : e1.sv i with
  | none => rw [q0] at p; exact p.elim
  | some si =>
    rw [q0] at p; dsimp only at p
    obtain ⟨u, g1, _⟩ := r2.sl i _ q0
    refine ⟨u, g1, Sn.goS (t := tb) hj r2 (PostS.from s2 p) fun e3 H3 W3 j w rel3 s3 rj p => ?_⟩
    have hv3 := s3.rp h2
    cases q1 : j.get e3 with
    | none => rw [q1] at p; exact p.elim
    | some jd =>
      rw [q1] at p
      cases jd with
      | int n =>
        cases q2 : e3.sv i with
        | none => rw [q2] at p; exact p.elim
        | some s3i =>
          rw [q2] at p
          obtain ⟨fl, x⟩ := s3i
          cases x with
          | lst xs =>
            dsimp only at p
            by_cases nf : fl.sh = true
            · rw [if_pos nf] at p
              obtain ⟨u', g3, fp, g4⟩ := rel3.sl i _ q2
              rw [g1] at g3; cases g3
              obtain ⟨a, e2, _, ha, hw, hz⟩ := g4.sh (sh_of nf)
              · subst e2
                cases hw with
                | @lst xv _ hl hr =>
                  cases q3 : ixN xs.length n with
                  | none => rw [q3] at p; exact p.elim
                  | some m =>
                    rw [q3] at p
                    refine ⟨a, _, n, m, rfl, rd_int (rel3.get rj q1), hl, by rw [hr.length]; exact q3, ?_⟩
                    have st : Step H3 W3 (upd H3 a (.lst (xv.set m v))) W3 := Step.mut ha
                    exact p σ _ W3 (rel3.write q2 (sh_of nf) g1 (.lst upd_same (st.rpL (hr.set hv3 m)))) st
            · rw [if_neg nf] at p; exact p.elim
          | _ => exact p.elim
      | _ => exact p.elim

def rPt : Option Int → Fm → En → St → Hp → List Addr → Option Int → Prop := fun b _ _ _ _ _ c => b = c
abbrev SO (K : PySem.W.Frag) (E : XK) (t : TO) (f : En → R (Option Int)) : Prop := Sn rPt K E t f
def noPt : En → R (Option Int) := fun e => .ok none e
def somePt (f : En → R Opd) : En → R (Option Int) := bindR f fun o e => match o.get e with | some (.int i) => .ok (some i) e | _ => .stuck
theorem so_none : SO K E tNoPart noPt := fun F env σ H W Q r p => p none H W r (Step.refl H W) rfl
theorem so_some {f : En → R Opd} (h : SE K E te f) : SO K E (tPart te) (somePt f) := by
  intro F env σ H W Q rel p
  refine Sn.go (t := te) h rel p fun e H W o v rel s rv p => ?_
  cases q : o.get e with
  | none => rw [q] at p; exact p.elim
  | some d =>
    rw [q] at p
    cases d with
    | int i => exact ⟨i, rd_int (rel.get rv q), p (some i) H W rel (Step.refl H W) rfl⟩
    | _ => exact p.elim
def cutD (xs : List D) (lo hi : Option Int) : List D := (xs.drop (HT.sIx xs.length 0 lo)).take (HT.sIx xs.length xs.length hi - HT.sIx xs.length 0 lo)
def sliceE (fo : En → R Opd) (fl fh : En → R (Option Int)) : En → R SV := bindR fo fun o => bindR fl fun l => bindR fh fun h e => match (o.get e).bind itemsL with
  | some xs => .ok ⟨.o, .lst (cutD xs l h)⟩ e
  | none => .stuck
theorem RpL.cut {A : List Addr} {vs : List V} {ds : List D} (r : RpL K H A vs ds) (lo hi : Option Int) : RpL K H A (cutV vs lo hi) (cutD ds lo hi) := by
  unfold cutV cutD
  rw [r.length]
  exact (r.drop _).take _
theorem sf_slice {fo : En → R Opd} {fl fh : En → R (Option Int)} {tl th : TO} (h1 : SE K E to fo) (h2 : SO K E tl fl) (h3 : SO K E th fh) : SF K E (tSl (rSlL K) to tl th) (sliceE fo fl fh) := by
  intro F env σ H W Q rel p
  refine Sn.go (t := to) h1 rel p fun e1 H1 W1 o v rel1 s1 rv p => ?_
  refine Sn.go (t := tl) h2 rel1 p fun e2 H2 W2 l l' rel2 s2 el p => ?_
  have el' : l = l' := el
  subst el'
  refine Sn.go (t := th) h3 rel2 p fun e3 H3 W3 h h' rel3 s3 eh p => ?_
  have eh' : h = h' := eh
  subst eh'
  have rv3 := RelO.step (s2.trans s3) rv
  cases q : o.get e3 with
  | none => rw [q] at p; exact p.elim
  | some d =>
    rw [q] at p
    cases q2 : itemsL d with
    | none => rw [show (some d).bind itemsL = itemsL d from rfl, q2] at p; exact p.elim
    | some xs =>
      rw [show (some d).bind itemsL = itemsL d from rfl, q2] at p
      obtain ⟨a, ys, rfl, g2, g3⟩ := rd_itemsL (rel3.get rv3 q) q2
      exact ⟨a, ys, rfl, g2, fun l hl => (res_of rel3 p (fine_l _)) l _ hl (g3.cut _ _)⟩
end
end DL

namespace DL
open PySem L2

section
variable {X : Cx} {tg : Expr}
/-- a list or a tuple is walked -/
def iSeq (K : PySem.W.Frag) (tl : TE) : TI := fun σ H R => tl σ H fun x H1 => ∃ a, x = .ref a ∧ (((∃ xs, SqL K H1 a xs) ∧ R (Itl K a) H1) ∨ ((∃ xs, SqT K H1 a xs) ∧ R (Itt K a) H1))
theorem pi_seq {l : Expr} {tl : TE} (hl : PE X l tl) : PI X tg l (iSeq X.K tl) := by
  constructor
  intro pins s σ H R I h
  refine thn (hl.run pins s σ H _ I h) ?_
  rintro v s1 ⟨x, H1, I1, r1, a, rfl, q1⟩
  cases r1
  have fresh : ∀ b ∈ [s1.heap.objs.size], FpOk X pins H1 b := by
    intro b hb
    rw [List.mem_singleton.mp hb]
    exact I1.fpOk (Nat.le_refl _) (I1.hok.fresh (Nat.le_refl _))
  rcases q1 with ⟨⟨xs, hq⟩, q⟩ | ⟨⟨xs, hq⟩, q⟩
  · obtain ⟨its, rv, p, hz⟩ := I1.list hq
    refine wpAny_pyIter_list p.isList ⟨_, _, _, _, H1, rfl, ?_, turn_list a s1.heap.objs.size, ?_, fresh, q⟩
    · exact I1.kept (t' := s1.toks) fun b o e => Heap.get?_push_of_some _ e
    · exact ⟨_, Heap.get?_push_size _ rfl, rfl, rfl⟩
  · obtain ⟨its, rv, p, hz⟩ := I1.tuple hq
    refine wpAny_pyIter_tuple (show s1.heap.IsTuple a its.toArray from p) ⟨_, _, _, _, H1, rfl, ?_, turn_tuple a s1.heap.objs.size, ?_, fresh, q⟩
    · exact I1.kept (t' := s1.toks) fun b o e => Heap.get?_push_of_some _ e
    · exact ⟨_, Heap.get?_push_size _ rfl, rfl, rfl⟩
/-- a list's item read by value, 0 or above -/
def rGetL (K : PySem.W.Frag) : R2 := fun x y H Q => ∃ p xs i v, x = .ref p ∧ y = .int i ∧ 0 ≤ i ∧ SqL K H p xs ∧ xs[i.toNat]? = some v ∧ Q v H
theorem pget_list : PGet X (rGetL X.K) := by
  rintro pins s σ H x y v u Q I rx ry ⟨p, xs, i, z, rfl, rfl, h0, hq, he, q⟩
  cases rx
  obtain ⟨t, rfl⟩ := ry
  obtain ⟨its, r, pl, hz⟩ := I.list hq
  obtain ⟨w, ew, hw⟩ := r.get he
  have hl := r.length
  have hb := (List.getElem?_eq_some_iff.mp he).1
  have hn := line63
  exact wpAny_getItem_list pl.isList h0 (by omega) (by simpa using ew) ⟨z, H, I, hw, q⟩
end

def seqI (fa : En → R Opd) : En → R Src := bindR fa fun o e => match o with
  | .val d => (match itemsD d with | some ds => .ok ⟨ds, none⟩ e | none => .stuck)
  | .slot i => match e.sv i with
    | some ⟨.p, d⟩ => (match itemsD d with | some ds => .ok ⟨ds, none⟩ e | none => .stuck)
    | some ⟨.o, .lst ds⟩ => .ok ⟨ds, none⟩ (e.set i (some ⟨.p, .lst ds⟩))
    | some ⟨.t, .lst ds⟩ => .ok ⟨ds, none⟩ (e.set i (some ⟨.p, .lst ds⟩))
    | some ⟨.b, .lst ds⟩ => .ok ⟨ds, some i⟩ e
    | _ => .stuck
def rangeD (lo : Int) (n : Nat) : List D := (List.range n).map fun (k : Nat) => D.int (lo + k)
def rng1 (fa : En → R (List Opd)) : En → R Src := bindR fa fun os e => match getL os e with
  | some [.int n] => if -(2 ^ 62) ≤ n ∧ n < 2 ^ 62 then .ok ⟨rangeD 0 n.toNat, none⟩ e else .stuck
  | _ => .stuck
def rng2 (fa : En → R (List Opd)) : En → R Src := bindR fa fun os e => match getL os e with
  | some [.int m, .int n] => if (-(2 ^ 62) ≤ m ∧ m < 2 ^ 62) ∧ -(2 ^ 62) ≤ n ∧ n < 2 ^ 62 then .ok ⟨rangeD m (n - m).toNat, none⟩ e else .stuck
  | _ => .stuck
section
variable {K : PySem.W.Frag} {E : XK} {F : Fm} {env : En} {σ : St} {H : Hp} {W : List Addr} {ta tb te to tl td ty tv : TE} {t : TA}
theorem it_pure {A : List Addr} {v : V} {d : D} {ds : List D} (s0 : St) (h : Rp K H A v d) (e : itemsD d = some ds) : ∃ a, v = .ref a ∧ (((∃ xs, SqL K H a xs) ∧ ItOk K s0 ⟨ds, none⟩ A H (Itl K a)) ∨ ((∃ xs, SqT K H a xs) ∧ ItOk K s0 ⟨ds, none⟩ A H (Itt K a))) := by
  have listy : ∀ a xs, (∀ A' H', (∀ a o, a ∉ A → H a = some o → H' a = some o) → (∀ a, a ∈ A' → a ∈ A ∨ H a = none) → SqL K H' a xs) → RpL K H A xs ds → ItOk K s0 ⟨ds, none⟩ A H (Itl K a) := fun a xs hs hr A' H' hp hg hA _ => by
    have h1 := hs A' H' hp hg
    have h2 := hr.mono hp hg
    refine ⟨fun i d q => ?_, fun i hi => ⟨xs, h1, by rw [h2.length]; exact hi⟩⟩
    obtain ⟨w, g1, g2⟩ := h2.get q
    refine ⟨⟨xs, w, h1, g1⟩, fun x H'' y => ?_⟩
    obtain ⟨rfl, y⟩ := y
    have := y xs h1
    rw [g1] at this; cases this
    exact ⟨.inl rfl, g2⟩
  have tupy : ∀ a xs, (∀ A' H', (∀ a o, a ∉ A → H a = some o → H' a = some o) → (∀ a, a ∈ A' → a ∈ A ∨ H a = none) → SqT K H' a xs) → RpL K H A xs ds → ItOk K s0 ⟨ds, none⟩ A H (Itt K a) := fun a xs hs hr A' H' hp hg hA _ => by
    have h1 := hs A' H' hp hg
    have h2 := hr.mono hp hg
    refine ⟨fun i d q => ?_, fun i hi => ⟨xs, h1, by rw [h2.length]; exact hi⟩⟩
    obtain ⟨w, g1, g2⟩ := h2.get q
    refine ⟨⟨xs, w, h1, g1⟩, fun x H'' y => ?_⟩
    obtain ⟨rfl, y⟩ := y
    have := y xs h1
    rw [g1] at this; cases this
    exact ⟨.inl rfl, g2⟩
  cases h with
  | lst n hl r => cases e; exact ⟨_, rfl, .inl ⟨⟨_, .inl (.inl hl)⟩, listy _ _ (fun A' H' hp hg => .inl (.inl (hp _ _ n hl))) r⟩⟩
  | frl hl r => cases e; exact ⟨_, rfl, .inl ⟨⟨_, hl.sq⟩, listy _ _ (fun A' H' hp hg => (hl.mono hp hg).sq) r⟩⟩
  | tup hl r => cases e; exact ⟨_, rfl, .inr ⟨⟨_, hl.sq⟩, tupy _ _ (fun A' H' hp hg => (hl.mono hp hg).sq) r⟩⟩
  | frt hl r => cases e; exact ⟨_, rfl, .inr ⟨⟨_, .inr hl⟩, tupy _ _ (fun A' H' hp hg => .inr hl) r⟩⟩
  | _ => cases e
theorem si_seq {fa : En → R Opd} (h : SE K E tl fa) : SI K E (iSeq K tl) (seqI fa) := by
  intro F env σ H W Q rel p
  refine Sn.go (t := tl) h rel p fun e H1 W1 o v rel1 s1 rv p => ?_
  have pure : ∀ (W2 : List Addr) (e2 : En) (d : D), Rel K F e2 σ H1 W2 → Step H1 W1 H1 W2 → Rp K H1 (W2 ++ F.fr) v d → Post (DL.rI K) K E F σ H1 W1 Q (match itemsD d with | some ds => .ok ⟨ds, none⟩ e2 | none => .stuck) →
      ∃ a, v = .ref a ∧ (((∃ xs, SqL K H1 a xs) ∧ Q (Itl K a) H1) ∨ ((∃ xs, SqT K H1 a xs) ∧ Q (Itt K a) H1)) := fun W2 e2 d r2 s2 hd p => by
    cases q : itemsD d with
    | none => rw [q] at p; exact p.elim
    | some ds =>
      rw [q] at p
      obtain ⟨a, ea, hh⟩ := it_pure F.s0 hd q
      refine ⟨a, ea, ?_⟩
      rcases hh with ⟨hx, hi⟩ | ⟨hx, hi⟩
      · exact .inl ⟨hx, p _ H1 W2 r2 s2 hi⟩
      · exact .inr ⟨hx, p _ H1 W2 r2 s2 hi⟩
  cases o with
  | val d => exact pure W1 e d rel1 (Step.refl _ _) rv p
  | slot i =>
    have hv : σ[i]? = some (some v) := rv
    dsimp only at p
    cases q : e.sv i with
    | none => rw [q] at p; exact p.elim
    | some sv =>
      rw [q] at p
      obtain ⟨fl, d⟩ := sv
      obtain ⟨u, g1, fp, g2⟩ := rel1.sl i _ q
      rw [hv] at g1; cases g1
      cases fl with
      | p =>
        rcases g2 with ⟨_, _, g2⟩ | ⟨n, _⟩
        · exact pure W1 e d rel1 (Step.refl _ _) g2 p
        · exact absurd rfl n.np
      | o =>
        cases d with
        | lst ds =>
          obtain ⟨W2, r2, s2, k2⟩ := rel1.freeze q hv
          exact pure _ _ (.lst ds) r2 s2 k2 p
        | _ => exact p.elim
      | t =>
        cases d with
        | lst ds =>
          obtain ⟨W2, r2, s2, k2⟩ := rel1.freeze q hv
          exact pure _ _ (.lst ds) r2 s2 k2 p
        | _ => exact p.elim
      | u => exact p.elim
      | b =>
        cases d with
        | lst ds =>
          obtain ⟨a, e2, _, ha, hw, _⟩ := g2.sh (.inr rfl)
          · subst e2
            cases hw with
            | lst hl hr =>
              refine ⟨a, rfl, .inl ⟨⟨_, .inl (.inl hl)⟩, p _ H1 W1 rel1 (Step.refl _ _) fun A' H' hp hg hA hgr => ?_⟩⟩
              obtain ⟨b, f1, f2⟩ := hgr i rfl
              have hb := rel1.bor i _ q rfl
              rw [hv] at hb
              rw [← hb] at f1; cases f1
              cases f2 with
              | lst hl' hr' =>
                rename_i xs' 
                have hs : SqL K H' a xs' := .inl (.inl hl')
                refine ⟨fun i d q => ?_, fun i hi => ⟨xs', hs, by rw [hr'.length]; exact hi⟩⟩
                obtain ⟨w, g1, g2⟩ := hr'.get q
                refine ⟨⟨xs', w, hs, g1⟩, fun x H'' y => ?_⟩
                obtain ⟨rfl, y⟩ := y
                have := y xs' hs
                rw [g1] at this; cases this
                exact ⟨.inl rfl, g2⟩
        | _ => exact p.elim
theorem rangeD_get {lo : Int} {n i : Nat} {d : D} (h : (rangeD lo n)[i]? = some d) : i < n ∧ d = .int (lo + i) := by
  unfold rangeD at h
  rw [List.getElem?_map] at h
  cases q : (List.range n)[i]? with
  | none => rw [q] at h; cases h
  | some k =>
    rw [q] at h
    obtain ⟨h1, h2⟩ := List.getElem?_eq_some_iff.mp q
    rw [List.getElem_range] at h2
    subst h2
    cases h
    exact ⟨by simpa using h1, rfl⟩
theorem it_range {A : List Addr} (s0 : St) (lo : Int) (n : Nat) : ItOk K s0 ⟨rangeD lo n, none⟩ A H (Itr lo n) := fun A' H' hp hg hA _ =>
  ⟨fun i d q => by
    obtain ⟨h1, rfl⟩ := rangeD_get q
    exact ⟨h1, fun x H'' ⟨e1, e2⟩ => by rw [e1, e2]; exact ⟨.inl rfl, .int _⟩⟩, fun i hi => show n ≤ i by simpa [rangeD] using hi⟩
theorem si_rng1 {fa : En → R (List Opd)} (h : SA K E t fa) : SI K E (iRng1 t) (rng1 fa) := by
  intro F env σ H W Q rel p
  refine Sn.go (t := t) h rel p fun e H1 W1 os vs rel1 s1 rvs p => ?_
  cases q : getL os e with
  | none => rw [q] at p; exact p.elim
  | some ds =>
    rw [q] at p
    have hd := getL_ok rel1 rvs q
    split at p
    · rename_i n e1
      cases e1
      obtain ⟨w, rfl, hw⟩ := rdL_1 hd
      split at p
      · rename_i hb
        exact ⟨n, by rw [rd_int hw], hb.1, hb.2, p _ H1 W1 rel1 (Step.refl _ _) (it_range _ _ _)⟩
      · exact p.elim
    · exact p.elim
theorem si_rng2 {fa : En → R (List Opd)} (h : SA K E t fa) : SI K E (iRng2 t) (rng2 fa) := by
  intro F env σ H W Q rel p
  refine Sn.go (t := t) h rel p fun e H1 W1 os vs rel1 s1 rvs p => ?_
  cases q : getL os e with
  | none => rw [q] at p; exact p.elim
  | some ds =>
    rw [q] at p
    have hd := getL_ok rel1 rvs q
    split at p
    · rename_i m n e1
      cases e1
      obtain ⟨w, w', rfl, hw, hw'⟩ := rdL_2 hd
      split at p
      · rename_i hb
        exact ⟨m, n, by rw [rd_int hw, rd_int hw'], ⟨hb.1.1, hb.1.2, hb.2⟩, p _ H1 W1 rel1 (Step.refl _ _) (it_range _ _ _)⟩
      · exact p.elim
    · exact p.elim

def keyD : D → Option Key
  | .int i => some (.inl i)
  | .str x => some (.inr x)
  | _ => none
def keysD : List D → Option (List Key)
  | [] => some []
  | d :: ds => match keyD d, keysD ds with
    | some k, some ks => some (k :: ks)
    | _, _ => none
def tkeyD : D → Option (List Key)
  | .tup ds => keysD ds
  | _ => none
theorem keysD_ok {A : List Addr} : ∀ {vs : List V} {ds : List D} {ks : List Key}, RpL K H A vs ds → keysD ds = some ks → vs = ks.map kV
  | _, _, _, .nil, e => by unfold keysD at e; cases e; rfl
  | _, _, ks, .cons (d := d) (ds := ds) h r, e => by
    unfold keysD at e
    split at e
    · rename_i k ks' e1 e2
      cases e
      rw [List.map_cons, ← keysD_ok r e2]
      cases d with
      | int i => cases e1; cases h; rfl
      | str x => cases e1; cases h; rfl
      | _ => cases e1
    · cases e
def getT {κ : Type} [DecidableEq κ] (kvs : List (κ × D)) (k : κ) : Option D := (kvs.find? fun kv => decide (kv.1 = k)).map (·.2)
def putT {κ : Type} [DecidableEq κ] (kvs : List (κ × D)) (k : κ) (d : D) : List (κ × D) :=
  if (kvs.any fun kv => decide (kv.1 = k)) = true then kvs.map (fun kv => if kv.1 = k then (kv.1, d) else kv) else kvs ++ [(k, d)]
section
variable {κ : Type}
theorem RpK.length {A : List Addr} : ∀ {vs : List (κ × V)} {ds : List (κ × D)}, RpK K H A vs ds → vs.length = ds.length := fun {vs ds} => by
  induction ds generalizing vs with
  | nil => intro h; cases h; rfl
  | cons d ds ih => intro h; cases h with | cons _ r => rw [List.length_cons, List.length_cons, ih r]
variable [DecidableEq κ]
theorem RpK.val {A : List Addr} (k : κ) : ∀ {vs : List (κ × V)} {ds : List (κ × D)}, RpK K H A vs ds → (getT ds k = none → valV vs k = none) ∧ ∀ d, getT ds k = some d → ∃ v, valV vs k = some v ∧ Rp K H A v d := fun {vs ds} => by
  induction ds generalizing vs with
  | nil => intro h; cases h; exact ⟨fun _ => rfl, fun d e => by cases e⟩
  | cons d ds ih =>
    intro h
    cases h with
    | @cons _ k' v d vs _ h r =>
      by_cases e : k' = k
      · have e1 : getT ((k', d) :: ds) k = some d := by unfold getT; rw [List.find?_cons]; simp [e]
        rw [e1, valV_pos (p := (k', v)) e]
        exact ⟨fun z => (by cases z), fun x z => (by cases z; exact ⟨v, rfl, h⟩)⟩
      · have e1 : getT ((k', d) :: ds) k = getT ds k := by unfold getT; rw [List.find?_cons]; simp [e]
        rw [e1, valV_neg (p := (k', v)) e]
        exact ih r
theorem RpK.any {A : List Addr} (k : κ) : ∀ {vs : List (κ × V)} {ds : List (κ × D)}, RpK K H A vs ds → (vs.any fun kv => decide (kv.1 = k)) = (ds.any fun kv => decide (kv.1 = k)) := fun {vs ds} => by
  induction ds generalizing vs with
  | nil => intro h; cases h; rfl
  | cons d ds ih => intro h; cases h with | cons h r => rw [List.any_cons, List.any_cons, ih r]
theorem RpK.app {A : List Addr} {k : κ} {v : V} {d : D} (h : Rp K H A v d) : ∀ {vs : List (κ × V)} {ds : List (κ × D)}, RpK K H A vs ds → RpK K H A (vs ++ [(k, v)]) (ds ++ [(k, d)]) := fun {vs ds} => by
  induction ds generalizing vs with
  | nil => intro q; cases q; exact .cons h .nil
  | cons d ds ih => intro q; cases q with | cons g r => exact .cons g (ih r)
theorem RpK.map {A : List Addr} {k : κ} {v : V} {d : D} (h : Rp K H A v d) : ∀ {vs : List (κ × V)} {ds : List (κ × D)}, RpK K H A vs ds → RpK K H A (vs.map fun kv => if kv.1 = k then (kv.1, v) else kv) (ds.map fun kv => if kv.1 = k then (kv.1, d) else kv) := fun {vs ds} => by
  induction ds generalizing vs with
  | nil => intro q; cases q; exact .nil
  | cons d ds ih =>
    intro q
    cases q with
    | @cons _ k' _ _ _ _ g r =>
      rw [List.map_cons, List.map_cons]
      by_cases e : k' = k
      · rw [if_pos e, if_pos e]; exact .cons h (ih r)
      · rw [if_neg e, if_neg e]; exact .cons g (ih r)
theorem RpK.put {A : List Addr} {k : κ} {v : V} {d : D} {vs : List (κ × V)} {ds : List (κ × D)} (r : RpK K H A vs ds) (h : Rp K H A v d) : RpK K H A (putK vs k v) (putT ds k d) := by
  unfold putK putT
  rw [r.any k]
  split
  · exact r.map h
  · exact r.app h
end
/-- {} for keys that are tuples; for whole numbers, texts -/
def dnewE : En → R SV := fun e => .ok ⟨.o, .dt []⟩ e
def dnewK : En → R SV := fun e => .ok ⟨.o, .dk []⟩ e
theorem sf_dnew : SF K E tDNewT dnewE := by
  intro F env σ H W Q rel p
  intro q hq
  exact p (.ref q) _ (q :: W) (rel.newW hq) (Step.newW hq) (rV.new rel hq (.dt upd_same .nil))
theorem sf_dnewK : SF K E tDNewK dnewK := by
  intro F env σ H W Q rel p
  intro q hq
  exact p (.ref q) _ (q :: W) (rel.newW hq) (Step.newW hq) (rV.new rel hq (.dk upd_same .nil))
theorem key_ok {A : List Addr} {v : V} {d : D} {k : Key} (h : RdOk K H A v d) (e : keyD d = some k) : v = kV k := by
  cases d with
  | int i => cases e; exact rd_int h
  | str x => cases e; exact rd_str h
  | _ => cases e
theorem tkey_ok {A : List Addr} {v : V} {d : D} {k : List Key} (h : RdOk K H A v d) (e : tkeyD d = some k) : ∃ b, v = .ref b ∧ H b = some (.tup (k.map kV)) := by
  cases d with
  | tup ds =>
    obtain ⟨a, xs, rfl, h2, h3⟩ := rd_tup h
    rw [keysD_ok h3 e] at h2
    exact ⟨a, rfl, h2.2⟩
  | _ => cases e
/-- what d holds at k -/
def dGet : D → D → Option (Option D)
  | .dt xs, k => (match tkeyD k with | some ks => some (getT xs ks) | none => none)
  | .dk xs, k => (match keyD k with | some ks => some (getT xs ks) | none => none)
  | _, _ => none
def dPut : D → D → D → Option D
  | .dt xs, k, v => (match tkeyD k with | some ks => if xs.length < 100000 then some (.dt (putT xs ks v)) else none | none => none)
  | .dk xs, k, v => (match keyD k with | some ks => if xs.length < 100000 then some (.dk (putT xs ks v)) else none | none => none)
  | _, _, _ => none
def isDct : D → Bool
  | .dt _ => true
  | .dk _ => true
  | _ => false
theorem isD_ok {A : List Addr} {v : V} {d : D} (h : RdOk K H A v d) (e : isDct d = true) : ∃ a, v = .ref a ∧ IsD H a := by
  cases d with
  | dt xs => obtain ⟨a, ys, h1, h2, _⟩ := rd_dt h; exact ⟨a, h1, .inr ⟨ys, h2⟩⟩
  | dk xs => obtain ⟨a, ys, h1, h2, _⟩ := rd_dk h; exact ⟨a, h1, .inl ⟨ys, h2⟩⟩
  | _ => cases e
theorem dGet_ok {A : List Addr} {v u : V} {d k : D} {o : Option D} (h : RdOk K H A v d) (hk : RdOk K H A u k) (e : dGet d k = some o) : ∃ a w, v = .ref a ∧ DGet H a u w ∧ (o = none → w = none) ∧ ∀ x, o = some x → ∃ y, w = some y ∧ Rp K H A y x := by
  cases d with
  | dt xs =>
    obtain ⟨a, ys, h1, h2, h3⟩ := rd_dt h
    cases q : tkeyD k with
    | none => simp [dGet, q] at e
    | some ks =>
      have e' : getT xs ks = o := by simpa [dGet, q] using e
      subst e'
      obtain ⟨b, rfl, hb⟩ := tkey_ok hk q
      exact ⟨a, _, h1, .inr ⟨ys, ks, b, h2, rfl, hb, rfl⟩, h3.val ks⟩
  | dk xs =>
    obtain ⟨a, ys, h1, h2, h3⟩ := rd_dk h
    cases q : keyD k with
    | none => simp [dGet, q] at e
    | some ks =>
      have e' : getT xs ks = o := by simpa [dGet, q] using e
      subst e'
      exact ⟨a, _, h1, .inl ⟨ys, ks, h2, key_ok hk q, rfl⟩, h3.val ks⟩
  | _ => cases e
theorem dPut_ok {A : List Addr} {a : Addr} {u v : V} {d k x d' : D} (h : Ow K H A a d) (ha : a ∈ A) (hk : RdOk K H A u k) (hv : Rp K H A v x) (e : dPut d k x = some d') : ∃ o, DPut H a u v (upd H a o) ∧ Ow K (upd H a o) A a d' := by
  have st : ∀ o : HO, (∀ b q, b ∉ A → H b = some q → (upd H a o) b = some q) := fun o b q n w => by
    rw [upd_ne (fun z => n (by rw [z]; exact ha))]; exact w
  cases h with
  | dt h1 h2 =>
    rename_i xs ds
    cases q : tkeyD k with
    | none => simp [dPut, q] at e
    | some ks =>
      by_cases hz : ds.length < 100000
      · have e' : D.dt (putT ds ks x) = d' := by simpa [dPut, q, hz] using e
        subst e'
        obtain ⟨b, rfl, hb⟩ := tkey_ok hk q
        exact ⟨_, DPut.t h1 hb (sz_lt (by rw [h2.length]; exact hz)), .dt upd_same ((h2.put hv).mono (st _) fun b z => .inl z)⟩
      · simp [dPut, q, hz] at e
  | dk h1 h2 =>
    rename_i xs ds
    cases q : keyD k with
    | none => simp [dPut, q] at e
    | some ks =>
      by_cases hz : ds.length < 100000
      · have e' : D.dk (putT ds ks x) = d' := by simpa [dPut, q, hz] using e
        subst e'
        rw [key_ok hk q]
        exact ⟨_, DPut.k h1 (sz_lt (by rw [h2.length]; exact hz)), .dk upd_same ((h2.put hv).mono (st _) fun b z => .inl z)⟩
      · simp [dPut, q, hz] at e
  | _ => cases e
/-- d[k] = e for the dict in slot i -/
def dputS (i : Nat) (fv : En → R SV) (fk : En → R Opd) : En → RS := bindS fv fun sv e1 => match e1.sv i with
  | some _ => bindS fk (fun k e => match k.get e, e.sv i with
    | some kd, some ⟨fl, x⟩ => if fl.sh = true then (match dPut x kd sv.d with | some y => .nx (e.set i (some ⟨fl, y⟩)) | none => .stuck) else .stuck
    | _, _ => .stuck) e1
  | none => .stuck
theorem ss_dput {i : Nat} {fv : En → R SV} {fk : En → R Opd} (hv : SF K E tv fv) (hk : SE K E ty fk) : SS K E (sDPut (tVar i) ty tv) (dputS i fv fk) := by
  intro F env σ H W T rel p
  refine Sn.goS (t := tv) hv rel p fun e1 H1 W1 sv v rel1 s1 rv p => ?_
  obtain ⟨W2, r2, s2, h2⟩ := keep_fresh rel1 rv
  cases q0 : e1.sv i with
  | none => rw [q0] at p; exact p.elim
  | some si =>
    rw [q0] at p; dsimp only at p
    obtain ⟨u, g1, _⟩ := r2.sl i _ q0
    refine ⟨u, g1, Sn.goS (t := ty) hk r2 (PostS.from s2 p) fun e3 H3 W3 j w rel3 s3 rj p => ?_⟩
    have hv3 := s3.rp h2
    cases q1 : j.get e3 with
    | none => rw [q1] at p; exact p.elim
    | some jd =>
      rw [q1] at p
      cases q2 : e3.sv i with
      | none => rw [q2] at p; exact p.elim
      | some s3i =>
        rw [q2] at p
        obtain ⟨fl, x⟩ := s3i
        dsimp only at p
        by_cases nf : fl.sh = true
        · rw [if_pos nf] at p
          cases q3 : dPut x jd sv.d with
          | none => rw [q3] at p; exact p.elim
          | some y =>
            rw [q3] at p
            obtain ⟨u', g3, fp, g4⟩ := rel3.sl i _ q2
            rw [g1] at g3; cases g3
            obtain ⟨a, e2, _, ha, hw, hh⟩ := g4.sh (sh_of nf)
            subst e2
            obtain ⟨o, k1, k2⟩ := dPut_ok hw (List.mem_append_left _ ha) (rel3.get rj q1) hv3 q3
            exact ⟨a, _, rfl, k1, p σ _ W3 (rel3.write q2 (sh_of nf) g1 k2) (Step.mut ha)⟩
        · rw [if_neg nf] at p; exact p.elim
/-- d.get(k) -/
def dgetE (fd fk : En → R Opd) : En → R SV := bindR fd fun o e1 => match o.get e1 with
  | some d0 => if isDct d0 = true then bindR fk (fun k e => match o.get e, k.get e with
    | some x, some kd => (match dGet x kd with | some w => .ok ⟨.p, w.getD .non⟩ e | none => .stuck)
    | _, _ => .stuck) e1 else .stuck
  | _ => .stuck
theorem sf_dget1 {fd fk : En → R Opd} (hd : SE K E td fd) (hk : SE K E ty fk) : SF K E (tDGet1 td ty) (dgetE fd fk) := by
  intro F env σ H W Q rel p
  refine Sn.go (t := td) hd rel p fun e1 H1 W1 o v rel1 s1 rv p => ?_
  cases q0 : o.get e1 with
  | none => rw [q0] at p; exact p.elim
  | some d =>
    rw [q0] at p
    dsimp only at p
    by_cases hd : isDct d = true
    · rw [if_pos hd] at p
      obtain ⟨a, rfl, g2⟩ := isD_ok (rel1.get rv q0) hd
      refine ⟨a, rfl, g2, Sn.go (t := ty) hk rel1 p fun e2 H2 W2 k w rel2 s2 rk p => ?_⟩
      have rv2 := RelO.step s2 rv
      cases q1 : o.get e2 with
      | none => rw [q1] at p; exact p.elim
      | some d2 =>
        cases q3 : k.get e2 with
        | none => rw [q1, q3] at p; exact p.elim
        | some kd =>
          rw [q1, q3] at p
          dsimp only at p
          cases q4 : dGet d2 kd with
          | none => rw [q4] at p; exact p.elim
          | some ow =>
            rw [q4] at p
            obtain ⟨a', w', e', g3, g4, g5⟩ := dGet_ok (rel2.get rv2 q1) (rel2.get rk q3) q4
            cases e'
            refine ⟨_, g3, p _ H2 W2 rel2 (Step.refl _ _) (.inl ⟨rfl, ?_⟩)⟩
            cases ow with
            | none => rw [g4 rfl]; exact .non
            | some d => obtain ⟨v, m1, m2⟩ := g5 d rfl; rw [m1]; exact m2
    · rw [if_neg hd] at p; exact p.elim
end
end DL

namespace DL
open PySem L2
section
variable {K : PySem.W.Frag} {E : XK} {F : Fm} {env : En} {σ : St} {H : Hp} {W : List Addr} {ta tb tc te : TE} {t tk : TA}
def negG : D → Option SV
  | .int i => pI (-i)
  | _ => none
theorem negG_fine (d : D) (z : SV) (h : negG d = some z) : Fine z := by
  unfold negG at h
  split at h
  · cases h; exact fine_p _
  · cases h
theorem o_neg : Op1 K (rU fun i => .int (-i)) negG := by
  intro H A v d z Q hd hg q
  unfold negG at hg
  split at hg
  · cases hg; exact ⟨_, rd_int hd, res_p q (.int _)⟩
  · cases hg
/-- a < b < c -/
def chainE (g g' : Int → Int → Bool) (fa fb fc : En → R Opd) : En → R SV := bindR fa fun a => bindR fb fun b e => match a.get e, b.get e with
  | some (.int i), some (.int j) => if g i j then bindR fc (fun c e => match b.get e, c.get e with
    | some (.int j), some (.int k) => .ok ⟨.p, .bl (g' j k)⟩ e
    | _, _ => .stuck) e else .ok ⟨.p, .bl false⟩ e
  | _, _ => .stuck
theorem sf_chain {g g' : Int → Int → Bool} {fa fb fc : En → R Opd} (ha : SE K E ta fa) (hb : SE K E tb fb) (hc : SE K E tc fc) :
    SF K E (tChain (rI0 fun i j => .bl (g i j)) (rI0 fun i j => .bl (g' i j)) ta tb tc) (chainE g g' fa fb fc) := by
  intro F env σ H W Q rel p
  refine Sn.go (t := ta) ha rel p fun e1 H1 W1 a v rel1 s1 rv p => ?_
  refine Sn.go (t := tb) hb rel1 p fun e2 H2 W2 b u rel2 s2 ru p => ?_
  have rv2 := RelO.step s2 rv
  split at p
  · rename_i i j ei ej
    refine ⟨i, j, rd_int (rel2.get rv2 ei), rd_int (rel2.get ru ej), g i j, rfl, ?_⟩
    cases hg : g i j with
    | false =>
      rw [hg] at p
      exact p _ H2 W2 rel2 (Step.refl _ _) (.inl ⟨rfl, .bl false⟩)
    | true =>
      rw [hg] at p
      show tc σ H2 _
      refine Sn.go (t := tc) hc rel2 p fun e3 H3 W3 c w rel3 s3 rw' p => ?_
      have ru3 := RelO.step s3 ru
      split at p
      · rename_i j' k ej' ek
        exact ⟨j', k, rd_int (rel3.get ru3 ej'), rd_int (rel3.get rw' ek), p _ H3 W3 rel3 (Step.refl _ _) (.inl ⟨rfl, .bl _⟩)⟩
      · exact p.elim
  · exact p.elim

def spD0 (K : PySem.W.Frag) (G : List SV → RF) : Sp := fun vs H Q _ => spD K G vs H Q E0
def defG (np n : Nat) (body : En → RS) (args : List SV) : RF := if args.length = np then runDef n body args else .stuck
theorem spD0_len {np n : Nat} {body : En → RS} {vs : List V} {Q : VK} (h : spD0 K (defG np n body) vs H Q E) : vs.length = np :=
  spD_len (E := E0) (fun args ne => by unfold defG; rw [if_neg ne]) h
theorem body0 {ts : TS} {body : En → RS} {N : List Str} {np : Nat} {vs : List V} {Q : VK} (hS : SS K E0 ts body) (hn : np ≤ N.length) (h : spD0 K (defG np N.length body) vs H Q E) : ts { nx := fun _ H' => Q .non H', rt := Q } (L2.start N vs) H := by
  have hl := spD0_len h
  refine body_ok (N := N) hS (by omega) ?_
  obtain ⟨args, W, fr, r, p⟩ := h
  have lav : args.length = vs.length := by have := r.len; simpa using this
  refine ⟨args, W, fr, r, ?_⟩
  unfold defG at p
  rw [if_pos (by omega)] at p
  exact p
theorem sf_call0 {G : List SV → RF} {fa : En → R (List Opd)} (ha : SA K E0 t fa) : SF K E0 (tCall (spD0 K G) [] E0 t) (callE G fa) := by
  intro F env σ H W Q r p
  refine Sn.go (t := t) ha r p fun e H W os vs rel s rv p => ?_
  rw [List.append_nil]
  exact callD_ok rel rv p
/-- f(a, .., k = v), n by place and m by name: the parameters' order is the written one -/
def gK {α : Type} (n m : Nat) (us ws : List α) : List α := if us.length = n ∧ ws.length = m then us ++ ws else []
def appK (n m : Nat) (fa fk : En → R (List Opd)) : En → R (List Opd) := bindR fa fun a => bindR fk fun b e => if a.length = n ∧ b.length = m then .ok (a ++ b) e else .stuck
theorem RelOs.append : ∀ {os ps : List Opd} {vs ws : List V}, RelOs K F σ H W os vs → RelOs K F σ H W ps ws → RelOs K F σ H W (os ++ ps) (vs ++ ws)
  | _, _, _, _, .nil, s => s
  | _, _, _, _, .cons h r, s => .cons h (RelOs.append r s)
theorem sf_callK0 {G : List SV → RF} {n m : Nat} {fa fk : En → R (List Opd)} (ha : SA K E0 t fa) (hk : SA K E0 tk fk) : SF K E0 (tCallK (spD0 K G) (gK n m) E0 t tk) (callE G (appK n m fa fk)) := by
  intro F env σ H W Q r p
  have e : callE G (appK n m fa fk) env = bindR fa (fun a => bindR fk fun b e => if a.length = n ∧ b.length = m then callD G (a ++ b) e else .stuck) env := by
    unfold callE appK bindR
    cases fa env with
    | ok a e =>
      dsimp only
      cases fk e with
      | ok b e2 =>
        dsimp only
        by_cases hl : a.length = n ∧ b.length = m
        · rw [if_pos hl, if_pos hl]
        · rw [if_neg hl, if_neg hl]
      | _ => rfl
    | _ => rfl
  rw [e] at p
  refine Sn.go (t := t) ha r p fun e H W os vs rel s rv p => ?_
  refine Sn.go (t := tk) hk rel p fun e2 H2 W2 ps ws rel2 s2 rw' p => ?_
  by_cases hl : os.length = n ∧ ps.length = m
  · rw [if_pos hl] at p
    have e3 : gK n m vs ws = vs ++ ws := by
      unfold gK
      rw [if_pos ⟨by rw [← rv.len]; exact hl.1, by rw [← rw'.len]; exact hl.2⟩]
    show spD0 K G (gK n m vs ws) H2 Q E0
    rw [e3]
    exact callD_ok rel2 ((rv.step s2).append rw') p
  · rw [if_neg hl] at p; exact p.elim
theorem kbinds_app {fd : FuncData} {ps ks : List Str} {n m : Nat} (hn : ps ≠ []) (h : ∀ (us ws : List Value), us.length = n → ws.length = m → bindArgs fd ⟨us, ks.zip ws⟩ = pure (ps.zip (us ++ ws))) : KBinds K fd ps ks (gK n m) (gK n m) := by
  constructor
  · intro s us ws _ hl
    unfold gK at hl ⊢
    by_cases hc : us.length = n ∧ ws.length = m
    · rw [if_pos hc]; exact .of_eq (h us ws hc.1 hc.2)
    · rw [if_neg hc] at hl
      exact absurd (List.eq_nil_of_length_eq_zero hl.symm) hn
  · intro vs us zs ws a b
    unfold gK
    rw [a.length, b.length]
    split
    · exact a.append b
    · exact .nil
/-- x[i] op= e for the list of ints in slot i -/
def augIxS (i : Nat) (g : Int → Int → Int) (fj fv : En → R Opd) : En → RS := fun e0 => match e0.sv i with
  | some _ => bindS fj (fun j e => match j.get e, e.sv i with
    | some (.int n), some ⟨fl, .lst xs⟩ => if 0 ≤ n then (match xs[n.toNat]? with
      | some (.int m) => bindS fv (fun v e2 => match v.get e2, e2.sv i with
        | some (.int k), some ⟨fl, .lst ys⟩ => if fl = .p then .stuck else (match ixN ys.length n with
          | some q => .nx (e2.set i (some ⟨fl, .lst (ys.set q (.int (g m k)))⟩))
          | none => .stuck)
        | _, _ => .stuck) e
      | _ => .stuck) else .stuck
    | _, _ => .stuck) e0
  | none => .stuck
end
end DL

namespace DL
open PySem L2
section
variable {X : Cx} {K : PySem.W.Frag} {tg e l : Expr} {tl to : TE} {t : TA} {T : String} {r : V → List V → Hp → VK → Prop} {gs : TGs} {n : Nat}
theorem call_lenA : CallR X (.builtin "len") (rLenA X.K) := callr_or call_len_seq call_len_str
theorem call_listA : CallR X (.type "list") (rListA X.K) := call_list_of
theorem call_tupleA : CallR X (.type "tuple") (rTupleA X.K) := call_tuple_of
theorem op_addK (h : X.K = K) : OpR X (binaryOp .Add) (rAddA K) := h ▸ op_addA
theorem op_eqK (h : X.K = K) (hu : X.A.units + 64 < cLine) : OpR X (compareOp .Eq) (rEqD K) := h ▸ op_eqD hu
theorem op_neK (h : X.K = K) (hu : X.A.units + 64 < cLine) : OpR X (compareOp .NotEq) (rNeD K) := h ▸ op_neD hu
theorem ix_seqK (h : X.K = K) : IxR X (rIx K) := h ▸ ix_seq
theorem sl_listK (h : X.K = K) : SlR X (rSlL K) := h ▸ sl_list
theorem call_lenK (h : X.K = K) : CallR X (.builtin "len") (rLenA K) := h ▸ call_lenA
theorem call_listK (h : X.K = K) : CallR X (.type "list") (rListA K) := h ▸ call_listA
theorem call_tupleK (h : X.K = K) : CallR X (.type "tuple") (rTupleA K) := h ▸ call_tupleA
theorem call_sumK (h : X.K = K) (hc : X.calm = true) : CallR X (.builtin "sum") (rSum K) := h ▸ cr_sum hc
theorem call_allK (h : X.K = K) (hc : X.calm = true) : CallR X (.builtin "all") (rAll K) := h ▸ cr_all hc
theorem call_anyK (h : X.K = K) (hc : X.calm = true) : CallR X (.builtin "any") (rAny K) := h ▸ cr_any hc
theorem call_isiK' (h : X.K = K) : CallR X (.builtin "isinstance") (rIsiY K) := h ▸ call_isiY
theorem mt_countK (h : X.K = K) : MtR X "list.count" (rCntI K) := h ▸ mt_lcount
theorem pe_bmK (h : X.K = K) (p : PE X e (tBM X.K T r to t)) : PE X e (tBM K T r to t) := h ▸ p
theorem pe_bm0K (h : X.K = K) (p : PE X e (tBM0 X.K T r to)) : PE X e (tBM0 K T r to) := h ▸ p
theorem pi_seqK (h : X.K = K) (hl : PE X l tl) : PI X tg l (iSeq K tl) := h ▸ pi_seq hl
theorem pg_K (h : X.K = K) (p : PG X tg (gTup X.K n gs)) : PG X tg (gTup K n gs) := h ▸ p
end
end DL

namespace DL
open PySem L2
theorem seqS_nx {f g : En → RS} {e e' : En} (h : f e = .nx e') : seqS f g e = g e' := by unfold seqS; rw [h]
theorem seqS_ret {f g : En → RS} {e e' : En} {sv : SV} (h : f e = .ret sv e') : seqS f g e = .ret sv e' := by unfold seqS; rw [h]
theorem bindS_ok {α : Type} {f : En → R α} {k : α → En → RS} {e e' : En} {a : α} (h : f e = .ok a e') : bindS f k e = k a e' := by unfold bindS; rw [h]
theorem grd_none {ds : List D} {e : En} : Grd ⟨ds, none⟩ e := trivial
/-- a comprehension whose elements leave the slots as they were: filter and map -/
theorem compLoop_map {s : Src} {vs : List Nat} {asg : D → En → Option En} {test : En → R Bool} {elt : En → R Opd} {t : D → Bool} {f : D → D} {e : En} (hG : Grd s e) : ∀ (ds acc : List D), acc.length + ds.length ≤ 100000 →
    (∀ d ∈ ds, ∃ e1 e2, asg d e = some e1 ∧ test e1 = .ok (t d) e2 ∧ (t d = false → wipeE e2 vs = e) ∧ (t d = true → ∃ o e3 e4, elt e2 = .ok o e3 ∧ pureO o e3 = some (f d, e4) ∧ wipeE e4 vs = e)) →
    compLoop s vs asg test elt ds e acc = .ok (acc ++ (ds.filter t).map f) e
  | [], acc, _, _ => by unfold compLoop; rw [if_pos hG]; simp
  | d :: ds, acc, hl, h => by
    obtain ⟨e1, e2, h1, h2, h3, h4⟩ := h d List.mem_cons_self
    unfold compLoop
    rw [if_pos hG, h1]
    dsimp only
    rw [h2]
    rw [List.length_cons] at hl
    cases ht : t d with
    | false =>
      dsimp only
      rw [h3 ht, compLoop_map hG ds acc (by omega) fun x hx => h x (List.mem_cons_of_mem _ hx)]
      simp [ht]
    | true =>
      obtain ⟨o, e3, e4, h5, h6, h7⟩ := h4 ht
      dsimp only
      rw [h5]
      dsimp only
      rw [h6]
      dsimp only
      rw [if_pos (by omega), h7, compLoop_map hG ds (acc ++ [f d]) (by simp; omega) fun x hx => h x (List.mem_cons_of_mem _ hx)]
      simp [ht]
/-- .. without a test -/
theorem compLoop_each {s : Src} {vs : List Nat} {asg : D → En → Option En} {elt : En → R Opd} {f : D → D} {e : En} (hG : Grd s e) (ds : List D) (hl : ds.length ≤ 100000)
    (h : ∀ d ∈ ds, ∃ e1 o e3 e4, asg d e = some e1 ∧ elt e1 = .ok o e3 ∧ pureO o e3 = some (f d, e4) ∧ wipeE e4 vs = e) : compLoop s vs asg (fun e => .ok true e) elt ds e [] = .ok (ds.map f) e := by
  rw [compLoop_map (t := fun _ => true) (f := f) hG ds [] (by simpa using hl) fun d hd => ?_]
  · rw [List.filter_eq_self.mpr fun _ _ => rfl]; rfl
  · obtain ⟨e1, o, e3, e4, h1, h2, h3, h4⟩ := h d hd
    exact ⟨e1, e1, h1, rfl, fun z => (by cases z), fun _ => ⟨o, e3, e4, h2, h3, h4⟩⟩
/-- a for loop by an invariant: what is left, the slots -/
theorem loopS_inv {s : Src} {asg : D → En → Option En} {body : En → RS} (P : List D → En → Prop) {e' : En → Prop} : ∀ (ds : List D) (e : En), P ds e → (∀ ds e, P ds e → Grd s e) →
    (∀ d ds e, P (d :: ds) e → ∃ e1 e2, asg d e = some e1 ∧ body e1 = .nx e2 ∧ P ds e2) → ∃ e2, loopS s asg body ds e = .nx e2 ∧ P [] e2
  | [], e, h, hG, _ => ⟨e, by unfold loopS; rw [if_pos (hG _ _ h)], h⟩
  | d :: ds, e, h, hG, ht => by
    obtain ⟨e1, e2, h1, h2, h3⟩ := ht d ds e h
    obtain ⟨e3, h4, h5⟩ := loopS_inv (e' := e') P ds e2 h3 hG ht
    refine ⟨e3, ?_, h5⟩
    unfold loopS
    rw [if_pos (hG _ _ h), h1]
    dsimp only
    rw [h2]
    exact h4
/-- a while by an invariant and a measure -/
theorem whileS_inv {c : En → R Bool} {body : En → RS} (P : En → Prop) (μ : En → Nat) (hs : ∀ e, P e → (∃ e1, c e = .ok false e1 ∧ e1 = e) ∨ ∃ e1 e2, c e = .ok true e1 ∧ body e1 = .nx e2 ∧ P e2 ∧ μ e2 < μ e) :
    ∀ (e : En), P e → ∃ e2, whileS c body e = .nx e2 ∧ P e2 ∧ c e2 = .ok false e2 := by
  have key : ∀ (n : Nat) (e : En), P e → μ e < n → ∃ e2, whileL c body n e = .nx e2 ∧ P e2 ∧ c e2 = .ok false e2 := by
    intro n
    induction n with
    | zero => intro e _ h; omega
    | succ n ih =>
      intro e hP hm
      rcases hs e hP with ⟨e1, h1, rfl⟩ | ⟨e1, e2, h1, h2, h3, h4⟩
      · exact ⟨e1, by unfold whileL; rw [h1], hP, h1⟩
      · obtain ⟨e3, g1, g2, g3⟩ := ih e2 h3 (by omega)
        refine ⟨e3, ?_, g2, g3⟩
        unfold whileL
        rw [h1]
        dsimp only
        rw [h2]
        exact g1
  intro e hP
  obtain ⟨e2, h1, h2, h3⟩ := key (μ e + 1) e hP (by omega)
  exact ⟨e2, by rw [whileS_eq (μ e + 1) (by rw [h1]; intro z; cases z)]; exact h1, h2, h3⟩
theorem kit_ii : kitB "int" "int" = some true := by decide +kernel
theorem kit_ib : kitB "int" "bool" = some false := by decide +kernel
theorem kit_bi : kitB "bool" "int" = some true := by decide +kernel
theorem kit_bb : kitB "bool" "bool" = some true := by decide +kernel
theorem kit_ll : kitB "list" "list" = some true := by decide +kernel
theorem kit_tt : kitB "tuple" "tuple" = some true := by decide +kernel
theorem kit_lt : kitB "list" "tuple" = some false := by decide +kernel
theorem kit_tl : kitB "tuple" "list" = some false := by decide +kernel
theorem kit_ti : kitB "tuple" "int" = some false := by decide +kernel
theorem kit_li : kitB "list" "int" = some false := by decide +kernel
theorem kit_ni : kitB "NoneType" "int" = some false := by decide +kernel
theorem kit_si : kitB "str" "int" = some false := by decide +kernel
theorem kit_nt : kitB "NoneType" "tuple" = some false := by decide +kernel
theorem kit_it : kitB "int" "tuple" = some false := by decide +kernel
theorem kit_st : kitB "str" "tuple" = some false := by decide +kernel
theorem kit_bt : kitB "bool" "tuple" = some false := by decide +kernel
end DL

namespace DL
open PySem L2
section
variable {K : PySem.W.Frag} {E : XK} {te : TE}
def callF (G : List SV → RF) (f : En → R SV) : En → R SV := bindR f fun sv e => match G [⟨lendF sv.fl, sv.d⟩] with
  | .ret r [_] => .ok r e
  | _ => .stuck
theorem sf_callF0 {G : List SV → RF} {f : En → R SV} (h : SF K E0 te f) : SF K E0 (tCall (spD0 K G) [] E0 (tCons te tNil)) (callF G f) := by
  intro F env σ H W Q r p
  refine Sn.go (t := te) h r p fun e H W sv v rel s rv p => ?_
  show spD K G [v] H Q E0
  obtain ⟨fl, d⟩ := sv
  have core : ∀ (fps : Nat → List Addr) (fp : List Addr), Fps K F e σ H W fps → (∀ a ∈ fp, a ∈ W) → (∀ j sw, e.sv j = some sw → ∀ a ∈ fp, a ∉ fps j) → SvOk K ⟨cutW W fp ++ F.fr, H, [some v]⟩ H fp ⟨lendF fl, d⟩ v fp → spD K G [v] H Q E0 := fun fps fp f hW dj h0 => by
    refine ⟨[⟨lendF fl, d⟩], fp, cutW W fp ++ F.fr, ⟨rfl, ⟨fun _ => fp, fun i sw q => ?_, fun i j si sj ei ej hij => ?_⟩, fun i sw q b => ?_, fun _ q => q, fun a z => ?_, fun a z y => ?_, fun a z => rel.wt a (hW a z)⟩, ?_⟩
    · match i, q with
      | 0, q => cases q; exact ⟨v, rfl, h0⟩
      | i + 1, q => simp [En.sv] at q
    · match i, j, ei, ej with
      | 0, 0, _, _ => exact absurd rfl hij
      | i + 1, _, ei, _ => simp [En.sv] at ei
      | 0, j + 1, _, ej => simp [En.sv] at ej
    · match i, q with
      | 0, q => rfl
      | i + 1, q => simp [En.sv] at q
    · rcases List.mem_append.mp z with z | z
      · exact rel.wt a (mem_cutW.mp z).1
      · exact rel.frt a z
    · rcases List.mem_append.mp y with y | y
      · exact (mem_cutW.mp y).2 z
      · exact rel.dis a (hW a z) y
    cases qG : G [⟨lendF fl, d⟩] with
    | stuck => dsimp only at p; rw [qG] at p; exact p.elim
    | exc x ds => dsimp only at p; rw [qG] at p; exact p.elim
    | ret rr ds =>
      dsimp only at p
      rw [qG] at p
      match ds, p with
      | [], p => exact p.elim
      | _ :: _ :: _, p => exact p.elim
      | [d0], p =>
        intro u H' W' r' s' ru
        have S : Step H W H' (W' ++ cutW W fp) := ⟨fun a o n q => s'.pres a o (fun z => n (hW a z)) q, fun a z => by
          rcases List.mem_append.mp z with z | z
          · rcases s'.grow a z with z | z
            · exact .inl (hW a z)
            · exact .inr z
          · exact .inl (mem_cutW.mp z).1⟩
        have as : ∀ a, a ∈ (W' ++ cutW W fp) ++ F.fr → a ∈ W' ++ (cutW W fp ++ F.fr) ∨ H' a = none := fun a z => by rw [List.append_assoc] at z; exact .inl z
        have f' : Fps K F e σ H' (W' ++ cutW W fp) fps := ⟨fun i sw q => by
          obtain ⟨u, h1, h2⟩ := f.sl i sw q
          refine ⟨u, h1, h2.mono S.pF S.gF (fun a z => ⟨List.mem_append_right _ (mem_cutW.mpr ⟨h2.inW a z, fun y => dj i sw q a y z⟩), fun o w => s'.pres a o (fun y => dj i sw q a y z) w⟩) rfl⟩, f.dj⟩
        refine p u H' _ ⟨rel.len, ⟨fps, f'⟩, rel.bor, fun a q => rel.trk a (r'.trk a q), fun a z => r'.frt a (List.mem_append_right _ z), fun a z y => ?_, fun a z => ?_⟩ S ?_
        · rcases List.mem_append.mp z with z | z
          · exact r'.dis a z (List.mem_append_right _ y)
          · exact rel.dis a (mem_cutW.mp z).1 y
        · rcases List.mem_append.mp z with z | z
          · exact r'.wt a z
          · exact r'.frt a (List.mem_append_left _ z)
        · rcases ru with ⟨e1, h1⟩ | ⟨ow, g, fq, fg, h1, _⟩
          · exact .inl ⟨e1, h1.mono (fun _ _ _ e => e) as⟩
          · obtain ⟨k1, k2, k3⟩ := h1.hd (own_np ow).1
            refine .inr ⟨ow, fps, fq, f', .inr ⟨k1.mono (fun _ _ _ e => e) as (fun _ _ _ e => e), fun a z => List.mem_append_left _ (k2 a z), fun q a z => rel.trk a (k3 q a z)⟩, fun j sw ej a z y => ?_⟩
            obtain ⟨u2, _, h2⟩ := f.sl j sw ej
            exact rel.wt a (h2.inW a y) (k3 ow a z)
  have sub : ∀ (fp : List Addr), (∀ a ∈ fp, a ∈ W) → ∀ a, a ∈ fp ++ (cutW W fp ++ F.fr) → a ∈ W ++ F.fr ∨ H a = none := fun fp hW a z => by
    rcases List.mem_append.mp z with z | z
    · exact .inl (List.mem_append_left _ (hW a z))
    · rcases List.mem_append.mp z with z | z
      · exact .inl (List.mem_append_left _ (mem_cutW.mp z).1)
      · exact .inl (List.mem_append_right _ z)
  rcases rv with ⟨e1, h1⟩ | ⟨ow, fps, fp, f, h1, dj⟩
  · have e1' : fl = .p := e1
    subst e1'
    obtain ⟨fps, f⟩ := rel.ex
    exact core fps [] f (fun a z => by cases z) (fun _ _ _ a z => by cases z) (.inl ⟨rfl, rfl, h1.mono (fun _ _ _ e => e) (sub [] fun a z => by cases z)⟩)
  · obtain ⟨k1, k2, k3⟩ := h1.hd (own_np ow).1
    exact core fps fp f k2 dj (.inr ⟨(k1.mono (fun _ _ _ e => e) (sub fp k2) fun _ _ _ e => e).lend, fun a z => z, fun q => by rw [show (SV.mk (lendF fl) d).fl = lendF fl from rfl, lendF_own] at q; cases q⟩)
end
end DL

namespace DL
open PySem L2
theorem a_bindR {α β : Type} (f : En → R α) (k : α → En → R β) (e : En) : bindR f k e = (fun e => match f e with
    | .ok a e' => k a e'
    | .exc x e' => .exc x e'
    | .stuck => .stuck) e := rfl
theorem a_bindS {α : Type} (f : En → R α) (k : α → En → RS) (e : En) : bindS f k e = (fun e => match f e with
    | .ok a e' => k a e'
    | .exc x e' => .exc x e'
    | .stuck => .stuck) e := rfl
theorem a_opd (f : En → R SV) (e : En) : opd f e = (bindR f fun sv e => .ok (.val sv.d) e) e := rfl
theorem a_constE (d : D) (e : En) : constE d e = (fun e => .ok ⟨.p, d⟩ e) e := rfl
theorem a_varE (i : Nat) (e : En) : varE i e = (fun e => match e.sv i with | some _ => .ok (.slot i) e | none => .stuck) e := rfl
theorem a_keepE (f : En → R Opd) (e : En) : keepE f e = (bindR f fun o e => match pureO o e with | some (d, e') => .ok ⟨.p, d⟩ e' | none => .stuck) e := rfl
theorem a_op1 (g : D → Option SV) (fa : En → R Opd) (e : En) : op1 g fa e = (bindR fa fun a e => match a.get e with
    | some x => (match g x with | some z => .ok z e | none => .stuck)
    | none => .stuck) e := rfl
theorem a_op2 (g : D → D → Option SV) (fa fb : En → R Opd) (e : En) : op2 g fa fb e = (bindR fa fun a => bindR fb fun b e => match a.get e, b.get e with
    | some x, some y => (match g x y with | some z => .ok z e | none => .stuck)
    | _, _ => .stuck) e := rfl
theorem a_nilA (e : En) : nilA e = (fun e => .ok [] e) e := rfl
theorem a_consA (fa : En → R Opd) (fr : En → R (List Opd)) (e : En) : consA fa fr e = (bindR fa fun a => bindR fr fun as e => .ok (a :: as) e) e := rfl
theorem a_callB (g : List D → Option SV) (fa : En → R (List Opd)) (e : En) : callB g fa e = (bindR fa fun os e => match getL os e with
    | some xs => (match g xs with | some z => .ok z e | none => .stuck)
    | none => .stuck) e := rfl
theorem a_tupE (fa : En → R (List Opd)) (e : En) : tupE fa e = (bindR fa fun os e => match pureL os e with
    | some (ds, e') => if ds.length ≤ 100000 then .ok ⟨.p, .tup ds⟩ e' else .stuck
    | none => .stuck) e := rfl
theorem a_lstE (fa : En → R (List Opd)) (e : En) : lstE fa e = (bindR fa fun os e => match pureL os e with
    | some (ds, e') => if ds.length ≤ 100000 then .ok ⟨.o, .lst ds⟩ e' else .stuck
    | none => .stuck) e := rfl
theorem a_testV (f : En → R SV) (e : En) : testV f e = (bindR f fun sv e => match sv.d with | .bl b => .ok b e | _ => .stuck) e := rfl
theorem a_andT (f g : En → R Bool) (e : En) : andT f g e = (bindR f fun b e => if b then g e else .ok false e) e := rfl
theorem a_orT (f g : En → R Bool) (e : En) : orT f g e = (bindR f fun b e => if b then .ok true e else g e) e := rfl
theorem a_notT (f : En → R Bool) (e : En) : notT f e = (bindR f fun b e => .ok (!b) e) e := rfl
theorem a_andV (f g : En → R SV) (e : En) : andV f g e = (bindR f fun sv e => match sv.d with | .bl true => g e | .bl false => .ok ⟨.p, .bl false⟩ e | _ => .stuck) e := rfl
theorem a_orV (f g : En → R SV) (e : En) : orV f g e = (bindR f fun sv e => match sv.d with | .bl true => .ok ⟨.p, .bl true⟩ e | .bl false => g e | _ => .stuck) e := rfl
theorem a_notV (f : En → R SV) (e : En) : notV f e = (bindR f fun sv e => match sv.d with | .bl b => .ok ⟨.p, .bl (!b)⟩ e | _ => .stuck) e := rfl
theorem a_ifE (c : En → R Bool) (f g : En → R SV) (e : En) : ifE c f g e = (bindR c fun b e => if b then f e else g e) e := rfl
theorem a_seqS (f g : En → RS) (e : En) : seqS f g e = (fun e => match f e with
    | .nx e' => g e'
    | .ret sv e' => .ret sv e'
    | .bk e' => .bk e'
    | .ct e' => .ct e'
    | .exc x e' => .exc x e'
    | .stuck => .stuck) e := rfl
theorem a_ifS (c : En → R Bool) (f g : En → RS) (e : En) : ifS c f g e = (bindS c fun b e => if b then f e else g e) e := rfl
theorem a_setS (i : Nat) (f : En → R SV) (e : En) : setS i f e = (bindS f fun sv e => match sv.fl with
    | .b => .stuck
    | .u => .stuck
    | _ => if i < e.length then .nx (e.set i (some sv)) else .stuck) e := rfl
theorem a_dropS (f : En → R SV) (e : En) : dropS f e = (bindS f fun _ e => .nx e) e := rfl
theorem a_retS (f : En → R SV) (e : En) : retS f e = (bindS f fun sv e => .ret sv e) e := rfl
theorem a_retVarS (i : Nat) (e : En) : retVarS i e = (fun e => match e.sv i with
    | some ⟨.p, d⟩ => .ret ⟨.p, d⟩ e
    | some ⟨.o, d⟩ => .ret ⟨.o, d⟩ (e.set i none)
    | some ⟨.t, d⟩ => .ret ⟨.t, d⟩ (e.set i none)
    | _ => .stuck) e := rfl
theorem a_asgS (asg : D → En → Option En) (f : En → R SV) (e : En) : asgS asg f e = (bindS f fun sv e => match asg sv.d e with
    | some e' => .nx e'
    | none => .stuck) e := rfl
theorem a_callE (G : List SV → RF) (fa : En → R (List Opd)) (e : En) : callE G fa e = (bindR fa (callD G)) e := rfl
theorem a_callF (G : List SV → RF) (f : En → R SV) (e : En) : callF G f e = (bindR f fun sv e => match G [⟨lendF sv.fl, sv.d⟩] with
    | .ret r [_] => .ok r e
    | _ => .stuck) e := rfl
theorem a_appK (n m : Nat) (fa fk : En → R (List Opd)) (e : En) : appK n m fa fk e = (bindR fa fun a => bindR fk fun b e => if a.length = n ∧ b.length = m then .ok (a ++ b) e else .stuck) e := rfl
theorem a_forS (fs : En → R Src) (asg : D → En → Option En) (body : En → RS) (e : En) : forS fs asg body e = (bindS fs fun s e => loopS s asg body s.ds e) e := rfl
theorem a_compE (fs : En → R Src) (vs : List Nat) (asg : D → En → Option En) (test : En → R Bool) (elt : En → R Opd) (e : En) : compE fs vs asg test elt e = (bindR fs fun s e =>
    match compLoop s vs asg test elt s.ds (wipeE e vs) [] with
    | .ok acc e' => .ok ⟨.o, .lst acc⟩ (restE e e' vs)
    | _ => .stuck) e := rfl
theorem a_seqI (fa : En → R Opd) (e : En) : seqI fa e = (bindR fa fun o e => match o with
    | .val d => (match itemsD d with | some ds => .ok ⟨ds, none⟩ e | none => .stuck)
    | .slot i => match e.sv i with
    | some ⟨.p, d⟩ => (match itemsD d with | some ds => .ok ⟨ds, none⟩ e | none => .stuck)
    | some ⟨.o, .lst ds⟩ => .ok ⟨ds, none⟩ (e.set i (some ⟨.p, .lst ds⟩))
    | some ⟨.t, .lst ds⟩ => .ok ⟨ds, none⟩ (e.set i (some ⟨.p, .lst ds⟩))
    | some ⟨.b, .lst ds⟩ => .ok ⟨ds, some i⟩ e
    | _ => .stuck) e := rfl
theorem a_rng1 (fa : En → R (List Opd)) (e : En) : rng1 fa e = (bindR fa fun os e => match getL os e with
    | some [.int n] => if -(2 ^ 62) ≤ n ∧ n < 2 ^ 62 then .ok ⟨rangeD 0 n.toNat, none⟩ e else .stuck
    | _ => .stuck) e := rfl
theorem a_rng2 (fa : En → R (List Opd)) (e : En) : rng2 fa e = (bindR fa fun os e => match getL os e with
    | some [.int m, .int n] => if (-(2 ^ 62) ≤ m ∧ m < 2 ^ 62) ∧ -(2 ^ 62) ≤ n ∧ n < 2 ^ 62 then .ok ⟨rangeD m (n - m).toNat, none⟩ e else .stuck
    | _ => .stuck) e := rfl
theorem a_methL (g : D → List D → Option SV) (fo : En → R Opd) (fa : En → R (List Opd)) (e : En) : methL g fo fa e = (bindR fo fun o e1 => match (o.get e1).bind itemsL with
    | none => .stuck
    | some _ => bindR fa (fun os e => match o.get e, getL os e with
    | some x, some xs => (match g x xs with | some z => .ok z e | none => .stuck)
    | _, _ => .stuck) e1) e := rfl
theorem a_mutL (i : Nat) (k : List D → List D → Option (D × List D)) (fa : En → R (List Opd)) (e : En) : mutL i k fa e = (fun e => match e.sv i with
    | some ⟨_, .lst _⟩ => bindR fa (fun os e => match pureL os e with
    | some (ds, e') => (match e'.sv i with
    | some ⟨.p, _⟩ => .stuck
    | some ⟨.t, _⟩ => .stuck
    | some ⟨.u, _⟩ => .stuck
    | some ⟨fl, .lst xs⟩ => (match k ds xs with
    | some (r, ys) => .ok ⟨.p, r⟩ (e'.set i (some ⟨fl, .lst ys⟩))
    | none => .stuck)
    | _ => .stuck)
    | none => .stuck) e
    | _ => .stuck) e := rfl
theorem a_setIxS (i : Nat) (fv : En → R SV) (fj : En → R Opd) (e : En) : setIxS i fv fj e = (bindS fv fun sv e1 => match e1.sv i with
    | some _ => bindS fj (fun j e => match j.get e, e.sv i with
    | some (.int n), some ⟨fl, .lst xs⟩ => if fl.sh = true then (match ixN xs.length n with
    | some m => .nx (e.set i (some ⟨fl, .lst (xs.set m sv.d)⟩))
    | none => .stuck) else .stuck
    | _, _ => .stuck) e1
    | none => .stuck) e := rfl
theorem a_noPt (e : En) : noPt e = (fun e => .ok none e) e := rfl
theorem a_somePt (f : En → R Opd) (e : En) : somePt f e = (bindR f fun o e => match o.get e with | some (.int i) => .ok (some i) e | _ => .stuck) e := rfl
theorem a_sliceE (fo : En → R Opd) (fl fh : En → R (Option Int)) (e : En) : sliceE fo fl fh e = (bindR fo fun o => bindR fl fun l => bindR fh fun h e => match (o.get e).bind itemsL with
    | some xs => .ok ⟨.o, .lst (cutD xs l h)⟩ e
    | none => .stuck) e := rfl
theorem a_chainE (g g' : Int → Int → Bool) (fa fb fc : En → R Opd) (e : En) : chainE g g' fa fb fc e = (bindR fa fun a => bindR fb fun b e => match a.get e, b.get e with
    | some (.int i), some (.int j) => if g i j then bindR fc (fun c e => match b.get e, c.get e with
    | some (.int j), some (.int k) => .ok ⟨.p, .bl (g' j k)⟩ e
    | _, _ => .stuck) e else .ok ⟨.p, .bl false⟩ e
    | _, _ => .stuck) e := rfl
theorem a_nameG (i : Nat) (d : D) (e : En) : nameG i d e = (fun d e => if i < e.length then some (e.set i (some ⟨.p, d⟩)) else none) d e := rfl
theorem a_nilG (d : List D) (e : En) : nilG d e = (fun ds e => match ds with | [] => some e | _ => none) d e := rfl
theorem a_consG (g : D → En → Option En) (gs : List D → En → Option En) (d : List D) (e : En) : consG g gs d e = (fun ds e => match ds with
    | [] => none
    | d :: r => match g d e with | some e1 => gs r e1 | none => none) d e := rfl
theorem a_tupG (n : Nat) (gs : List D → En → Option En) (d : D) (e : En) : tupG n gs d e = (fun d e => match d with
    | .tup ds => if ds.length = n then gs ds e else none
    | _ => none) d e := rfl
theorem a_dnewE (e : En) : dnewE e = (fun e => .ok ⟨.o, .dt []⟩ e) e := rfl
theorem a_dnewK (e : En) : dnewK e = (fun e => .ok ⟨.o, .dk []⟩ e) e := rfl
theorem a_dputS (i : Nat) (fv : En → R SV) (fk : En → R Opd) (e : En) : dputS i fv fk e = (bindS fv fun sv e1 => match e1.sv i with
    | some _ => bindS fk (fun k e => match k.get e, e.sv i with
    | some kd, some ⟨fl, x⟩ => if fl.sh = true then (match dPut x kd sv.d with | some y => .nx (e.set i (some ⟨fl, y⟩)) | none => .stuck) else .stuck
    | _, _ => .stuck) e1
    | none => .stuck) e := rfl
theorem a_dgetE (fd fk : En → R Opd) (e : En) : dgetE fd fk e = (bindR fd fun o e1 => match o.get e1 with
    | some d0 => if isDct d0 = true then bindR fk (fun k e => match o.get e, k.get e with
    | some x, some kd => (match dGet x kd with | some w => .ok ⟨.p, w.getD .non⟩ e | none => .stuck)
    | _, _ => .stuck) e1 else .stuck
    | _ => .stuck) e := rfl
end DL

namespace HT
open PySem PySem.Spec PyProof.Rows L2
section
variable {prog : Program} {w : World} {A : Around} {E : Value → Shared → Prop} {s : Shared}
theorem adjust_rev (n : Nat) : Builtin.Slice.sliceAdjust none none (-1) (n : Int) = ((n : Int) - 1, -1) := by
  unfold Builtin.Slice.sliceAdjust
  simp
theorem places_rev (n : Nat) : Builtin.Slice.slicePlaces ((n : Int) - 1) (-1) (-1) = n := by
  unfold Builtin.Slice.slicePlaces
  have h1 : ¬ ((-1 : Int) > 0) := by decide
  by_cases h : (n : Int) - 1 > -1
  · simp only [h1, if_false, h, if_true]
    rw [show (-(-1) : Int) = 1 by decide, Int.ediv_one]
    omega
  · simp only [h1, if_false, h]
    omega
theorem pick_rev (xs : Array Value) : ((List.range xs.size).filterMap fun (m : Nat) => xs[((xs.size : Int) - 1 + (m : Int) * (-1)).toNat]?).toArray = xs.toList.reverse.toArray := by
  have e : ((List.range xs.size).filterMap fun (m : Nat) => xs[((xs.size : Int) - 1 + (m : Int) * (-1)).toNat]?) = ((List.range xs.size).map fun k => xs.size - 1 - k).filterMap (xs[·]?) := by
    rw [List.filterMap_map]
    have key : ∀ (l : List Nat), (∀ m ∈ l, m < xs.size) → (l.filterMap fun (m : Nat) => xs[((xs.size : Int) - 1 + (m : Int) * (-1)).toNat]?) = l.filterMap ((xs[·]?) ∘ fun k => xs.size - 1 - k) := by
      intro l
      induction l with
      | nil => intro _; rfl
      | cons m r ih =>
        intro h
        have hm := h m List.mem_cons_self
        have e : ((xs.size : Int) - 1 + (m : Int) * (-1)).toNat = xs.size - 1 - m := by omega
        rw [List.filterMap_cons, List.filterMap_cons, ih fun k hk => h k (List.mem_cons_of_mem _ hk), e]
        rfl
    exact key _ fun m hm => List.mem_range.mp hm
  rw [e, PySem.W.krv_range, List.filterMap_reverse, PySem.W.krv_all]
theorem sliceApplied_rev {sl : Addr} {vs : Value} {n : Nat} {Q : Int × Int × Nat → Shared → Prop} (hs : s.heap.IsSliceOf sl .none .none vs) (ps : IsPart vs (some (-1)))
    (h : Q ((n : Int) - 1, -1, n) s) : wpAny (model prog w) A (Builtin.Slice.sliceApplied (.ref sl) (pure (n : Int))) Q E s := by
  obtain ⟨os, hos, hcs, hds⟩ := id hs
  unfold Builtin.Slice.sliceApplied Builtin.Slice.sliceFields
  refine wpAny_bind (wpAny_bind (wpAny_field hos hds (x := .none) rfl (wpAny_bind (wpAny_field hos hds (x := .none) rfl (wpAny_bind (wpAny_field hos hds (x := vs) rfl (wpAny_pure ?_)))))))
  refine wpAny_bind (slicePart_ ps ?_)
  show wpAny _ _ (if ((-1 : Int) == 0) = true then _ else _) _ _ s
  rw [if_neg (by decide)]
  refine wpAny_bind (slicePart_ .none (wpAny_bind (slicePart_ .none (wpAny_bind (wpAny_pure ?_)))))
  show wpAny _ _ (match Builtin.Slice.sliceAdjust none none (-1) (n : Int) with | (lo, hi) => pure (lo, (-1 : Int), Builtin.Slice.slicePlaces lo hi (-1))) _ _ s
  rw [adjust_rev n]
  show wpAny _ _ (pure ((n : Int) - 1, (-1 : Int), Builtin.Slice.slicePlaces ((n : Int) - 1) (-1) (-1))) _ _ s
  rw [places_rev]
  exact wpAny_pure h
theorem getItem_tuple_rev {t sl : Addr} {items : Array Value} {vs : Value} {Q : Value → Shared → Prop} (ht : IsTup s.heap t items) (hs : s.heap.IsSliceOf sl .none .none vs) (ps : IsPart vs (some (-1)))
    (h : Q (.ref s.heap.objs.size) { s with heap := s.heap.push { cls := .type "tuple", data := .seq items.toList.reverse.toArray } })
    (hsz : items.size ≤ sizeLine) : wpAny (model prog w) A (getItem (.ref t) (.ref sl)) Q E s := by
  have htake : sizeOk (.seq items.toList.reverse.toArray) := by
    show items.toList.reverse.toArray.size ≤ sizeLine
    rw [List.size_toArray, List.length_reverse, Array.length_toList]
    omega
  obtain ⟨os, hos, hcs, hds⟩ := id hs
  have hTs : s.TypeIs (.ref sl) "slice" := ⟨os, hos, hcs⟩
  unfold getItem
  try with_reducible refine wpAny_holding ?_
  first | refine wpAny_bind (wpAny_pure ?_) | skip
  refine wpAny_bind (wpAny_sequenceKey ht.typeIs (by decide) ?_)
  refine wpAny_bind (wpAny_callSpecial?_slot (name := Str.ofString "__getitem__") ht.typeIs PyProof.Rows.slot_tuple_getitem
    (wpAny_call_entry PyProof.Rows.slot_tuple_getitem ht.typeIs entry_tuple_getitem ?_ (args_tuple_getitem _ _)))
  show wpAny _ _ (Builtin.Tuple.tupleItemsOf (.ref t) >>= _) _ _ s
  refine wpAny_bind (tupleItemsOf_ ht ?_)
  refine wpAny_bind (wpAny_typeOf hTs ?_)
  rw [if_pos (by decide)]
  refine wpAny_bind (sliceApplied_rev hs ps ?_)
  have hno : ¬ (((((items.size : Nat) : Int) - 1) == 0 && (-1 : Int) == 1 && items.size == items.size) = true) := by simp
  show wpAny _ _ (if ((((items.size : Nat) : Int) - 1) == 0 && (-1 : Int) == 1 && items.size == items.size) = true then _ else _) _ _ s
  rw [if_neg hno, pick_rev]
  first
    | exact wpAny_bind (m := Builtin.Tuple.tupleExact _) (wpAny_newObj_type (wpAny_pure ⟨_, rfl, wpAny_pure h⟩) htake)
    | exact wpAny_bind (m := Builtin.Tuple.tupleExact _) (wpAny_newObj_type (wpAny_bind (wpAny_pure (wpAny_pure ⟨_, rfl, wpAny_pure h⟩))) htake)
    | exact wpAny_bind (wpAny_bind (m := Builtin.Tuple.tupleExact _) (wpAny_newObj_type (wpAny_pure (wpAny_pure ⟨_, rfl, wpAny_pure h⟩)) htake))
    | exact wpAny_bind (wpAny_bind (m := Builtin.Tuple.tupleExact _) (wpAny_newObj_type (wpAny_pure ⟨_, rfl, wpAny_pure h⟩) htake))
end
end HT
namespace DL
open PySem PySem.Spec PyProof.Rows L2
def rRevA (K : PySem.W.Frag) : V → Hp → VK → Prop := fun x H Q => ∃ a xs, x = .ref a ∧ ((SqL K H a xs ∧ ∀ p, H p = none → Q (.ref p) (upd H p (.lst xs.reverse))) ∨ (SqT K H a xs ∧ ∀ p, H p = none → Q (.ref p) (upd H p (.tup xs.reverse))))
section
variable {X : Cx} {K : PySem.W.Frag}
theorem pe_revA {e : Expr} {te : TE} {k : Nat} {p1 p2 p3 pos : Pos} (hK : X.K = K) (he : PE X e te) : PE X (.Subscript e (.Slice none none (some (.UnaryOp .USub (.Constant (.int 1) k p1) p2)) p3) pos) (tUn (rRevA K) te) := by
  subst hK
  refine ⟨fun pins s σ H Q I h => ?_⟩
  refine Subscript_ (thn (he.run pins s σ H _ I h) fun v s1 ⟨x, H1, I1, r1, q1⟩ => ?_)
  obtain ⟨a, xs, ex, q1⟩ := q1
  subst ex
  cases r1
  have hst : PO X (some (.UnaryOp .USub (.Constant (.int 1) k p1) p2)) (tPart (tUn (rU fun i => .int (-i)) (tC (.int 1)))) := po_some (pe_un un_neg pe_int)
  refine wpAny_Slice (thn (po_none.run pins s1 σ H1 (fun o H2 => o = none ∧ H2 = H1) I1 ⟨rfl, rfl⟩) fun vl s2 ⟨l, H2, I2, pl, el, e2⟩ => ?_)
  subst el e2
  refine thn (po_none.run pins s2 σ H2 (fun o H3 => o = none ∧ H3 = H2) I2 ⟨rfl, rfl⟩) fun vu s3 ⟨u, H3, I3, pu, eu, e3⟩ => ?_
  subst eu e3
  refine thn (hst.run pins s3 σ H3 (fun o H4 => o = some (-1) ∧ H4 = H3) I3 ⟨1, rfl, -1, rfl, rfl, rfl⟩) fun vs s4 ⟨o, H4, I4, ps, eo, e4⟩ => ?_
  subst eo e4
  have I5 : Inv X pins σ H4 { s4 with heap := s4.heap.push { cls := .type "slice", data := .fields #[vl, vu, vs] } } := I4.kept (t' := s4.toks) fun b ob q => Heap.get?_push_of_some _ q
  show wpAny (model X.prog X.w) X.A (subscriptTail e (.Slice none none (some (.UnaryOp .USub (.Constant (.int 1) k p1) p2)) p3) (.ref a) (.ref s4.heap.objs.size)) (EP X pins σ Q) X.xe { s4 with heap := s4.heap.push { cls := .type "slice", data := .fields #[vl, vu, vs] } }
  rcases q1 with ⟨hx, q⟩ | ⟨hx, q⟩
  · obtain ⟨its, r, ht, hz⟩ := I5.list hx
    have hlen := r.length
    refine tail_any (ops := [.ref a, .ref s4.heap.objs.size]) ht.isList.typeIs (PySem.slot_list_getitem.lookup) ?_ (by with_unfolding_all rfl)
    refine wpAny_getItem_list_slice ht.isList (Heap.IsSliceOf.new _ vl vu vs) pl pu ps (by decide) ?_ (by rw [List.size_toArray]; omega)
    rw [PySem.W.krv_pick]
    refine ⟨.ref _, _, I5.laid (t' := s4.toks) (o := .lst xs.reverse) (fun b ob q => Heap.get?_push_of_some _ q) (Nat.le_refl _) ?_, rfl, q _ (I5.hok.fresh (Nat.le_refl _))⟩
    exact ⟨by rw [List.length_reverse]; exact hz, _, 0, r.reverse, Heap.get?_push_size _ rfl⟩
  · obtain ⟨its, r, ht, hz⟩ := I5.tuple hx
    have hlen := r.length
    refine tail_any (ops := [.ref a, .ref s4.heap.objs.size]) ht.typeIs (PyProof.Rows.slot_tuple_getitem.lookup) ?_ (by with_unfolding_all rfl)
    cases pl
    cases pu
    refine HT.getItem_tuple_rev ht (Heap.IsSliceOf.new _ _ _ vs) ps ?_ (by rw [List.size_toArray]; omega)
    refine ⟨.ref _, _, I5.laid (t' := s4.toks) (o := .tup xs.reverse) (fun b ob q => Heap.get?_push_of_some _ q) (Nat.le_refl _) ?_, rfl, q _ (I5.hok.fresh (Nat.le_refl _))⟩
    exact ⟨by rw [List.length_reverse]; exact hz, _, r.reverse, IsTup.new _ _⟩
theorem pi_zipK {e e2 : Expr} {ta : TA} {p pos tpos : Pos} {elts : List Expr} {kk : Nat} (hK : X.K = K) (hg : Gl X "zip") (hm : X.mg "zip" = none) (ha : PA X [e, e2] ta)
    (hs : starEach [e, e2] X.env = (false, eval e X.env) :: starEach [e2] X.env := by rfl) (hpl : (backTo pos (starEach [e2] X.env)).any (·.1) = false := by rfl) :
    PI X (.Tuple elts kk tpos) (.Call (.Name "zip" p) [e, e2] [] pos) (RZ.iZipA K ta) := hK ▸ RZ.pi_zipA hg hm ha hs hpl
theorem pi_enumK {e : Expr} {ta : TA} {p pos tpos : Pos} {elts : List Expr} {kk : Nat} (hK : X.K = K) (hg : Gl X "enumerate") (hm : X.mg "enumerate" = none) (ha : PA X [e] ta) (hs : starEach [e] X.env = [(false, eval e X.env)] := by rfl) :
    PI X (.Tuple elts kk tpos) (.Call (.Name "enumerate" p) [e] [] pos) (iEnum K ta) := hK ▸ pi_enum hg hm ha hs
end
def itemsT : D → Option (List D)
  | .tup xs => some xs
  | .frt xs => some xs
  | _ => none
def revG (d : D) : Option SV := match itemsL d with
  | some xs => nL xs.reverse
  | none => match itemsT d with
    | some xs => some ⟨.p, .tup xs.reverse⟩
    | none => none
def zipD (xs ys : List D) : List D := (xs.zip ys).map fun p => .tup [p.1, p.2]
def zipI (fa : En → R (List Opd)) : En → R Src := bindR fa fun os e => match pureL os e with
  | some ([a, b], e') => (match itemsL a, itemsL b with
    | some xs, some ys => .ok ⟨zipD xs ys, none⟩ e'
    | _, _ => match itemsT a, itemsT b with
      | some xs, some ys => .ok ⟨zipD xs ys, none⟩ e'
      | _, _ => .stuck)
  | _ => .stuck
def enumD (n : Nat) : List D → List D
  | [] => []
  | x :: xs => .tup [.int n, x] :: enumD (n + 1) xs
def enumI (fa : En → R (List Opd)) : En → R Src := bindR fa fun os e => match pureL os e with
  | some ([a], e') => (match itemsL a with
    | some xs => .ok ⟨enumD 0 xs, none⟩ e'
    | _ => .stuck)
  | _ => .stuck
section
variable {K : PySem.W.Frag} {E : XK} {F : Fm} {env : En} {σ : L2.St} {H : Hp} {W : List Addr} {ta tb te to tl td ty tv : TE} {t : TA}
def Op1s (K : PySem.W.Frag) (r : V → Hp → VK → Prop) (g : D → Option SV) : Prop := ∀ H A v d z Q, (∀ a ∈ A, H a ≠ none) → RdOk K H A v d → g d = some z → ResOk K H A Q z → r v H Q
theorem sf_op1s {r : V → Hp → VK → Prop} {g : D → Option SV} {fa : En → R Opd} (ho : Op1s K r g) (hf : ∀ d z, g d = some z → Fine z) (ha : SE K E ta fa) : SF K E (tUn r ta) (op1 g fa) := by
  intro F env σ H W Q r p
  refine Sn.go (t := ta) ha r p fun env H W a v rel s rv p => ?_
  cases q : a.get env with
  | none => rw [q] at p; exact p.elim
  | some x =>
    rw [q] at p; dsimp only at p
    cases q2 : g x with
    | none => rw [q2] at p; exact p.elim
    | some z =>
      rw [q2] at p
      exact ho H (W ++ F.fr) v x z Q rel.all (rel.get rv q) q2 (res_of rel p (hf _ _ q2))
theorem revG_fine (d : D) (z : SV) (h : revG d = some z) : Fine z := by
  unfold revG at h
  split at h
  · cases h; exact fine_l _
  · split at h
    · cases h; exact fine_p _
    · cases h
theorem rd_itemsT {A : List Addr} {v : V} {d : D} {ds : List D} (h : RdOk K H A v d) (e : itemsT d = some ds) : ∃ a xs, v = .ref a ∧ SqT K H a xs ∧ RpL K H A xs ds := by
  cases d with
  | tup xs => cases e; obtain ⟨a, xs, h1, h2, h3⟩ := rd_tup h; exact ⟨a, xs, h1, h2.sq, h3⟩
  | frt xs => cases e; obtain ⟨a, xs, h1, h2, h3⟩ := rd_frt h; exact ⟨a, xs, h1, .inr h2, h3⟩
  | _ => cases e
theorem o_rev : Op1s K (rRevA K) revG := by
  intro H A v d z Q hA hd hg q
  unfold revG at hg
  split at hg
  · rename_i xs e
    cases hg
    obtain ⟨a, ys, rfl, h1, h2⟩ := rd_itemsL hd e
    exact ⟨a, ys, rfl, .inl ⟨h1, fun p hp => q p _ hp h2.reverse⟩⟩
  · split at hg
    · rename_i xs e
      cases hg
      obtain ⟨a, ys, rfl, h1, h2⟩ := rd_itemsT hd e
      exact ⟨a, ys, rfl, .inr ⟨h1, fun p hp => new_tup hA h2.reverse q hp⟩⟩
    · cases hg
theorem zipD_get {xs ys : List D} {i : Nat} {d : D} (h : (zipD xs ys)[i]? = some d) : ∃ x y, xs[i]? = some x ∧ ys[i]? = some y ∧ d = .tup [x, y] := by
  unfold zipD at h
  rw [List.getElem?_map] at h
  cases q : (xs.zip ys)[i]? with
  | none => rw [q] at h; cases h
  | some p =>
    rw [q] at h
    obtain ⟨h1, h2⟩ := List.getElem?_zip_eq_some.mp q
    cases h
    exact ⟨_, _, h1, h2, rfl⟩
theorem zipD_len (xs ys : List D) : (zipD xs ys).length = min xs.length ys.length := by simp [zipD]
theorem enumD_get : ∀ {xs : List D} {n i : Nat} {d : D}, (enumD n xs)[i]? = some d → ∃ x, xs[i]? = some x ∧ d = .tup [.int ((n + i : Nat) : Int), x]
  | [], _, _, _, h => by simp [enumD] at h
  | x :: xs, n, 0, d, h => by
    simp [enumD] at h
    exact ⟨x, rfl, by rw [← h]; simp⟩
  | x :: xs, n, i + 1, d, h => by
    obtain ⟨y, h1, h2⟩ := enumD_get (xs := xs) (n := n + 1) (i := i) (d := d) (by simpa [enumD] using h)
    exact ⟨y, by simpa using h1, by rw [h2]; congr 4; omega⟩
theorem enumD_len : ∀ (xs : List D) (n : Nat), (enumD n xs).length = xs.length
  | [], _ => rfl
  | x :: xs, n => by rw [enumD, List.length_cons, List.length_cons, enumD_len]
theorem rp_pair {H' : Hp} {A' : List Addr} {T : Addr} {x y : V} {d e : D} (hA : ∀ a ∈ A', H' a ≠ none) (hT : H' T = none) (hx : Rp K H' A' x d) (hy : Rp K H' A' y e) : Rp K (upd H' T (.tup [x, y])) A' (.ref T) (.tup [d, e]) := by
  have hp : ∀ a o, a ∉ A' → H' a = some o → upd H' T (.tup [x, y]) a = some o := fun a o _ h => by rw [upd_ne (ne_of_none h hT)]; exact h
  exact .tup (.new upd_same fun z => hA T z hT) (.cons (hx.mono hp fun a z => .inl z) (.cons (hy.mono hp fun a z => .inl z) .nil))
/-- a list or a tuple that stands, read later on -/
theorem later_L {A : List Addr} {v : V} {d : D} {ds : List D} (h : Rp K H A v d) (e : itemsL d = some ds) : ∃ a xs, v = .ref a ∧ SqL K H a xs ∧ ∀ A' H', (∀ a o, a ∉ A → H a = some o → H' a = some o) → (∀ a, a ∈ A' → a ∈ A ∨ H a = none) → SqL K H' a xs ∧ RpL K H' A' xs ds := by
  cases h with
  | lst n hl r => cases e; exact ⟨_, _, rfl, .inl (.inl hl), fun A' H' hp hg => ⟨.inl (.inl (hp _ _ n hl)), r.mono hp hg⟩⟩
  | frl hl r => cases e; exact ⟨_, _, rfl, hl.sq, fun A' H' hp hg => ⟨(hl.mono hp hg).sq, r.mono hp hg⟩⟩
  | _ => cases e
theorem later_T {A : List Addr} {v : V} {d : D} {ds : List D} (h : Rp K H A v d) (e : itemsT d = some ds) : ∃ a xs, v = .ref a ∧ SqT K H a xs ∧ ∀ A' H', (∀ a o, a ∉ A → H a = some o → H' a = some o) → (∀ a, a ∈ A' → a ∈ A ∨ H a = none) → SqT K H' a xs ∧ RpL K H' A' xs ds := by
  cases h with
  | tup hl r => cases e; exact ⟨_, _, rfl, hl.sq, fun A' H' hp hg => ⟨(hl.mono hp hg).sq, r.mono hp hg⟩⟩
  | frt hl r => cases e; exact ⟨_, _, rfl, .inr hl, fun A' H' hp hg => ⟨.inr hl, r.mono hp hg⟩⟩
  | _ => cases e
theorem si_zip {fa : En → R (List Opd)} (h : SA K E t fa) : SI K E (RZ.iZipA K t) (zipI fa) := by
  intro F env σ H W Q rel p
  refine Sn.go (t := t) h rel p fun e H1 W1 os vs rel1 s1 rvs p => ?_
  cases q : pureL os e with
  | none => rw [q] at p; exact p.elim
  | some de =>
    obtain ⟨ds, e2⟩ := de
    rw [q] at p
    obtain ⟨W2, r2, s2, hd⟩ := pureL_ok rel1 rvs q
    split at p
    · rename_i a b e3 eq
      cases eq
      cases hd with
      | cons h1 hd =>
      cases hd with
      | cons h2 hd =>
      cases hd
      split at p
      · rename_i xs ys ea eb
        obtain ⟨a1, xv, rfl, f1, g1⟩ := later_L h1 ea
        obtain ⟨a2, yv, rfl, f2, g2⟩ := later_L h2 eb
        refine ⟨a1, a2, xv, yv, rfl, .inl ⟨f1, f2, p _ H1 W2 r2 s2 fun A' H' hp hg hA _ => ?_⟩⟩
        obtain ⟨k1, l1⟩ := g1 A' H' hp hg
        obtain ⟨k2, l2⟩ := g2 A' H' hp hg
        refine ⟨fun i d hd => ?_, fun i hi => ⟨xv, yv, k1, k2, ?_⟩⟩
        · obtain ⟨x, y, m1, m2, rfl⟩ := zipD_get hd
          obtain ⟨u, n1, o1⟩ := l1.get m1
          obtain ⟨w, n2, o2⟩ := l2.get m2
          refine ⟨⟨xv, yv, u, w, k1, k2, n1, n2⟩, ?_⟩
          rintro z H'' ⟨T, x', y', rfl, hT, rfl, hx, hy⟩
          have := hx xv k1; rw [n1] at this; cases this
          have := hy yv k2; rw [n2] at this; cases this
          exact ⟨.inr ⟨T, _, hT, rfl⟩, rp_pair hA hT o1 o2⟩
        · have hi' : (zipD xs ys).length ≤ i := hi
          rw [zipD_len] at hi'
          rw [l1.length, l2.length]
          omega
      · split at p
        · rename_i xs ys ea eb
          obtain ⟨a1, xv, rfl, f1, g1⟩ := later_T h1 ea
          obtain ⟨a2, yv, rfl, f2, g2⟩ := later_T h2 eb
          refine ⟨a1, a2, xv, yv, rfl, .inr ⟨f1, f2, p _ H1 W2 r2 s2 fun A' H' hp hg hA _ => ?_⟩⟩
          obtain ⟨k1, l1⟩ := g1 A' H' hp hg
          obtain ⟨k2, l2⟩ := g2 A' H' hp hg
          refine ⟨fun i d hd => ?_, fun i hi => ⟨xv, yv, k1, k2, ?_⟩⟩
          · obtain ⟨x, y, m1, m2, rfl⟩ := zipD_get hd
            obtain ⟨u, n1, o1⟩ := l1.get m1
            obtain ⟨w, n2, o2⟩ := l2.get m2
            refine ⟨⟨xv, yv, u, w, k1, k2, n1, n2⟩, ?_⟩
            rintro z H'' ⟨T, x', y', rfl, hT, rfl, hx, hy⟩
            have := hx xv k1; rw [n1] at this; cases this
            have := hy yv k2; rw [n2] at this; cases this
            exact ⟨.inr ⟨T, _, hT, rfl⟩, rp_pair hA hT o1 o2⟩
          · have hi' : (zipD xs ys).length ≤ i := hi
            rw [zipD_len] at hi'
            rw [l1.length, l2.length]
            omega
        · exact p.elim
    · exact p.elim
theorem si_enum {fa : En → R (List Opd)} (h : SA K E t fa) : SI K E (iEnum K t) (enumI fa) := by
  intro F env σ H W Q rel p
  refine Sn.go (t := t) h rel p fun e H1 W1 os vs rel1 s1 rvs p => ?_
  cases q : pureL os e with
  | none => rw [q] at p; exact p.elim
  | some de =>
    obtain ⟨ds, e2⟩ := de
    rw [q] at p
    obtain ⟨W2, r2, s2, hd⟩ := pureL_ok rel1 rvs q
    split at p
    · rename_i a e3 eq
      cases eq
      cases hd with
      | cons h1 hd =>
      cases hd
      split at p
      · rename_i xs ea
        obtain ⟨a1, xv, rfl, f1, g1⟩ := later_L h1 ea
        refine ⟨a1, xv, rfl, f1, p _ H1 W2 r2 s2 fun A' H' hp hg hA _ => ?_⟩
        obtain ⟨k1, l1⟩ := g1 A' H' hp hg
        refine ⟨fun i d hd => ?_, fun i hi => ⟨xv, k1, ?_⟩⟩
        · obtain ⟨x, m1, rfl⟩ := enumD_get hd
          obtain ⟨u, n1, o1⟩ := l1.get m1
          refine ⟨⟨xv, u, k1, n1⟩, ?_⟩
          rintro z H'' ⟨T, x', rfl, hT, rfl, hx⟩
          have := hx xv k1; rw [n1] at this; cases this
          refine ⟨.inr ⟨T, _, hT, rfl⟩, rp_pair hA hT ?_ o1⟩
          rw [Nat.zero_add]
          exact .int _
        · have hi' : (enumD 0 xs).length ≤ i := hi
          rw [enumD_len] at hi'
          rw [l1.length]
          omega
      · exact p.elim
    · exact p.elim
end
end DL

namespace DL
open PySem L2
def callP (G : List SV → RF) (fa : En → R (List Opd)) : En → R SV := bindR fa fun os e => match pureL os e with
  | some (ds, e') => callD G (ds.map Opd.val) e'
  | none => .stuck
section
variable {K : PySem.W.Frag} {E : XK} {F : Fm} {env : En} {σ : St} {H : Hp} {W : List Addr} {ta tb te to tl td ty tv : TE} {t : TA}
theorem RelOs.vals : ∀ {vs : List V} {ds : List D}, RpL K H (W ++ F.fr) vs ds → RelOs K F σ H W (ds.map Opd.val) vs
  | _, _, .nil => .nil
  | _, _, .cons h r => .cons h (RelOs.vals r)
theorem sf_callP0 {G : List SV → RF} {fa : En → R (List Opd)} (ha : SA K E0 t fa) : SF K E0 (tCall (spD0 K G) [] E0 t) (callP G fa) := by
  intro F env σ H W Q r p
  refine Sn.go (t := t) ha r p fun e H W os vs rel s rv p => ?_
  rw [List.append_nil]
  cases q : pureL os e with
  | none => rw [q] at p; exact p.elim
  | some de =>
    obtain ⟨ds, e2⟩ := de
    rw [q] at p
    obtain ⟨W2, r2, s2, hd⟩ := pureL_ok rel rv q
    exact callD_ok r2 (RelOs.vals hd) (Post.from s2 p)
theorem spD0_stuck {vs : List V} {Q : VK} (h : spD0 K (fun _ => .stuck) vs H Q E) : False := by
  obtain ⟨args, W, fr, r, p⟩ := h
  exact p
end
theorem a_callP (G : List SV → RF) (fa : En → R (List Opd)) (e : En) : callP G fa e = (bindR fa fun os e => match pureL os e with
  | some (ds, e') => callD G (ds.map Opd.val) e'
  | none => .stuck) e := rfl
theorem a_zipI (fa : En → R (List Opd)) (e : En) : zipI fa e = (bindR fa fun os e => match pureL os e with
  | some ([a, b], e') => (match itemsL a, itemsL b with
    | some xs, some ys => .ok ⟨zipD xs ys, none⟩ e'
    | _, _ => match itemsT a, itemsT b with
      | some xs, some ys => .ok ⟨zipD xs ys, none⟩ e'
      | _, _ => .stuck)
  | _ => .stuck) e := rfl
theorem a_enumI (fa : En → R (List Opd)) (e : En) : enumI fa e = (bindR fa fun os e => match pureL os e with
  | some ([a], e') => (match itemsL a with
    | some xs => .ok ⟨enumD 0 xs, none⟩ e'
    | _ => .stuck)
  | _ => .stuck) e := rfl
end DL

namespace DL
open PySem PySem.Spec PyProof.Rows L2
def rInA (K : PySem.W.Frag) (neg : Bool) : R2 := fun x y H Q => ∃ d ds, Dp K H x d ∧ (Dp K H y (.list ds) ∨ Dp K H y (.tuple ds)) ∧ SeqAt.shaped d = true ∧ SeqAt.shaped (.list ds) = true ∧ Q (.bl (if neg then !(ds.any fun z => PyData.eqv z d) else ds.any fun z => PyData.eqv z d)) H
section
variable {X : Cx} {K : PySem.W.Frag}
theorem op_inA (hK : X.K = K) (hu : X.A.units + 65 < cLine) : OpR X (compareOp .In) (rInA K false) := by
  subst hK
  intro pins s σ H x y v u Q I rx ry h
  obtain ⟨d, ds, hd, he, sd, se, q⟩ := h
  obtain ⟨as, r1⟩ := Dp.reads I d x v hd rx
  rcases he with he | he
  · obtain ⟨bs, r2⟩ := Dp.reads I (.list ds) y u he ry
    exact SeqAt.in_list_reads r2 r1 (SeqAt.canLay_of_shaped se) (SeqAt.canLay_of_shaped sd) (room_in_shaped sd hu) ⟨.bl _, H, I, rfl, q⟩
  · obtain ⟨bs, r2⟩ := Dp.reads I (.tuple ds) y u he ry
    exact SeqAt.in_tuple_reads r2 r1 (SeqAt.canLay_of_shaped se) (SeqAt.canLay_of_shaped sd) (room_in_shaped sd hu) ⟨.bl _, H, I, rfl, q⟩
theorem op_notInA (hK : X.K = K) (hu : X.A.units + 65 < cLine) : OpR X (compareOp .NotIn) (rInA K true) := by
  subst hK
  intro pins s σ H x y v u Q I rx ry h
  obtain ⟨d, ds, hd, he, sd, se, q⟩ := h
  obtain ⟨as, r1⟩ := Dp.reads I d x v hd rx
  rcases he with he | he
  · obtain ⟨bs, r2⟩ := Dp.reads I (.list ds) y u he ry
    exact SeqAt.notIn_list_reads r2 r1 (SeqAt.canLay_of_shaped se) (SeqAt.canLay_of_shaped sd) (room_in_shaped sd hu) ⟨.bl _, H, I, rfl, q⟩
  · obtain ⟨bs, r2⟩ := Dp.reads I (.tuple ds) y u he ry
    exact SeqAt.notIn_tuple_reads r2 r1 (SeqAt.canLay_of_shaped se) (SeqAt.canLay_of_shaped sd) (room_in_shaped sd hu) ⟨.bl _, H, I, rfl, q⟩
theorem units65 {k : Nat} {A : Around} (r : Room k A) : A.units + 65 < cLine := by have := r.un; omega
theorem call_maxK (h : X.K = K) (hc : X.calm = true) : CallR X (.builtin "max") (rMax K) := h ▸ cr_max hc
theorem call_minK (h : X.K = K) (hc : X.calm = true) : CallR X (.builtin "min") (rMin K) := h ▸ cr_min hc
end
def inG (neg : Bool) (d e : D) : Option SV := match toPy d, toPy e with
  | some p, some (.list ds) => if SeqAt.shaped p = true ∧ SeqAt.shaped (.list ds) = true then pB (if neg then !(ds.any fun z => PyData.eqv z p) else ds.any fun z => PyData.eqv z p) else none
  | some p, some (.tuple ds) => if SeqAt.shaped p = true ∧ SeqAt.shaped (.list ds) = true then pB (if neg then !(ds.any fun z => PyData.eqv z p) else ds.any fun z => PyData.eqv z p) else none
  | _, _ => none
theorem inG_fine {neg : Bool} (d e : D) (z : SV) (h : inG neg d e = some z) : Fine z := by
  unfold inG at h
  split at h
  · split at h
    · cases h; exact fine_p _
    · cases h
  · split at h
    · cases h; exact fine_p _
    · cases h
  · cases h
def maxOf : List Int → Int
  | [] => 0
  | [x] => x
  | x :: xs => if maxOf xs ≤ x then x else maxOf xs
theorem maxOf_ok : ∀ (ns : List Int), ns ≠ [] → maxOf ns ∈ ns ∧ ∀ y ∈ ns, y ≤ maxOf ns
  | [], h => absurd rfl h
  | [x], _ => ⟨by simp [maxOf], fun y hy => by simp at hy; subst hy; exact Int.le_refl _⟩
  | x :: y :: r, _ => by
    obtain ⟨h1, h2⟩ := maxOf_ok (y :: r) (by simp)
    unfold maxOf
    split
    · rename_i h
      exact ⟨List.mem_cons_self, fun z hz => by
        rcases List.mem_cons.mp hz with rfl | hz
        · exact Int.le_refl _
        · exact Int.le_trans (h2 z hz) h⟩
    · rename_i h
      exact ⟨List.mem_cons_of_mem _ h1, fun z hz => by
        rcases List.mem_cons.mp hz with rfl | hz
        · omega
        · exact h2 z hz⟩
def maxG : List D → Option SV
  | [d] => (match (itemsL d).bind intsOf with
    | some (n :: ns) => pI (maxOf (n :: ns))
    | _ => none)
  | _ => none
theorem maxG_fine (d : List D) (z : SV) (h : maxG d = some z) : Fine z := by
  unfold maxG at h
  split at h
  · split at h
    · cases h; exact fine_p _
    · cases h
  · cases h
section
variable {K : PySem.W.Frag}
theorem o_in {neg : Bool} : Op2 K (rInA K neg) (inG neg) := by
  intro H A v u d e z Q hd he hg q
  unfold inG at hg
  split at hg
  · rename_i p ds e1 e2
    split at hg
    · rename_i hs
      cases hg
      exact ⟨p, ds, dp_rd hd e1, .inl (dp_rd he e2), hs.1, hs.2, res_p q (.bl _)⟩
    · cases hg
  · rename_i p ds e1 e2
    split at hg
    · rename_i hs
      cases hg
      exact ⟨p, ds, dp_rd hd e1, .inr (dp_rd he e2), hs.1, hs.2, res_p q (.bl _)⟩
    · cases hg
  · cases hg
theorem o_max : OpCs K (rMax K) maxG := by
  intro H A vs ds z Q hA hd hg q
  unfold maxG at hg
  split at hg
  · rename_i d
    obtain ⟨v, rfl, hv⟩ := rdL_1 hd
    split at hg
    · rename_i n ns e
      cases hg
      cases e2 : itemsL d with
      | none => rw [e2] at e; cases e
      | some xs =>
        rw [e2] at e
        obtain ⟨a, ys, rfl, h1, h2⟩ := rd_itemsL hv e2
        have e3 : intsOf xs = some (n :: ns) := e
        have e4 := intsOf_eq e3
        subst e4
        have e5 := h2.ints_of
        subst e5
        obtain ⟨m1, m2⟩ := maxOf_ok (n :: ns) (by simp)
        refine ⟨a, n :: ns, rfl, h1, by simp, fun m hm hy => ?_⟩
        have : m = maxOf (n :: ns) := by
          have := hy _ m1
          have := m2 m hm
          omega
        subst this
        exact res_p q (.int _)
    · cases hg
  · cases hg
end
end DL

namespace DL
open PySem L2
def AllP (e : En) (os : List Opd) : Prop := ∀ o ∈ os, match o with | .val _ => True | .slot i => ∃ d, e.sv i = some ⟨.p, d⟩
theorem wbE_p {e : En} {os : List Opd} (ds : List D) (h : AllP e os) : wbE os ds 0 e = e := by
  apply List.ext_getElem?
  intro j
  rw [wbE_get, Nat.zero_add]
  cases q : e[j]? with
  | none => rfl
  | some x =>
    show some (wb1 os ds j x) = some x
    congr 1
    cases x with
    | none => rfl
    | some sv =>
      obtain ⟨fl, d⟩ := sv
      by_cases np : fl = .p
      · subst np; rfl
      · rw [wb1_np np]
        cases w : wbAt j os ds with
        | none => rfl
        | some d' =>
          obtain ⟨i, h1, _⟩ := wbAt_some w
          obtain ⟨d2, h2⟩ := h _ (List.mem_of_getElem? h1)
          unfold En.sv at h2
          rw [q] at h2
          cases h2
          exact absurd rfl np
theorem lentS_p {e : En} : ∀ {os : List Opd}, AllP e os → lentS e os = []
  | [], _ => rfl
  | .val d :: os, h => by unfold lentS; exact lentS_p fun o ho => h o (List.mem_cons_of_mem _ ho)
  | .slot i :: os, h => by
    obtain ⟨d, hd⟩ := h (.slot i) List.mem_cons_self
    unfold lentS
    rw [hd]
    exact lentS_p fun o ho => h o (List.mem_cons_of_mem _ ho)
theorem callD_p {G : List SV → RF} {os : List Opd} {e : En} {args : List SV} {sv : SV} {ds : List D} (h : AllP e os) (ha : argL e os = some args) (hG : G args = .ret sv ds) (hl : ds.length = os.length) : callD G os e = .ok sv e := by
  unfold callD
  rw [ha]
  dsimp only
  rw [lentS_p h, if_pos List.nodup_nil, hG]
  dsimp only
  rw [if_pos hl, wbE_p ds h]
/-- f(x, <what F makes>, k = y): x, y slots that are read alone -/
theorem callK_p {G : List SV → RF} {F : En → R SV} {i k : Nat} {e e' : En} {d1 d2 : D} {z sv : SV} {ds : List D} (h1 : e.sv i ≠ none) (hF : F e = .ok z e') (g1 : e'.sv i = some ⟨.p, d1⟩) (g2 : e'.sv k = some ⟨.p, d2⟩)
    (hG : G [⟨.p, d1⟩, ⟨.p, z.d⟩, ⟨.p, d2⟩] = .ret sv ds) (hl : ds.length = 3) : callE G (appK 2 1 (consA (varE i) (consA (opd F) nilA)) (consA (varE k) nilA)) e = .ok sv e' := by
  have v1 : varE i e = .ok (.slot i) e := by
    unfold varE
    cases q : e.sv i with
    | none => exact absurd q h1
    | some _ => rfl
  have v2 : varE k e' = .ok (.slot k) e' := by unfold varE; rw [g2]
  have o1 : opd F e = .ok (.val z.d) e' := by unfold opd; rw [bindR_ok hF]
  have c : (appK 2 1 (consA (varE i) (consA (opd F) nilA)) (consA (varE k) nilA)) e = .ok [.slot i, .val z.d, .slot k] e' := by
    have c1 : consA (opd F) nilA e = .ok [.val z.d] e' := by unfold consA; rw [bindR_ok o1]; rfl
    have c2 : consA (varE i) (consA (opd F) nilA) e = .ok [.slot i, .val z.d] e' := by
      show bindR (varE i) (fun a => bindR (consA (opd F) nilA) fun as e => .ok (a :: as) e) e = _
      rw [bindR_ok v1, bindR_ok c1]
    have c3 : consA (varE k) nilA e' = .ok [.slot k] e' := by unfold consA; rw [bindR_ok v2]; rfl
    unfold appK
    rw [bindR_ok c2, bindR_ok c3]
    rfl
  unfold callE
  rw [bindR_ok c]
  refine callD_p (fun o ho => ?_) ?_ hG hl
  · have : o = .slot i ∨ o = .val z.d ∨ o = .slot k := by simpa using ho
    rcases this with rfl | rfl | rfl
    · exact ⟨_, g1⟩
    · trivial
    · exact ⟨_, g2⟩
  · simp [argL, argO, g1, g2]
theorem wb1_n (os : List Opd) (ds : List D) (j : Nat) : wb1 os ds j none = none := rfl
theorem wb1_p (os : List Opd) (ds : List D) (j : Nat) (d : D) : wb1 os ds j (some ⟨.p, d⟩) = some ⟨.p, d⟩ := rfl
theorem wb1_o (os : List Opd) (ds : List D) (j : Nat) (d : D) : wb1 os ds j (some ⟨.o, d⟩) = match wbAt j os ds with | some d' => some ⟨.o, d'⟩ | none => some ⟨.o, d⟩ := rfl
theorem wb1_b (os : List Opd) (ds : List D) (j : Nat) (d : D) : wb1 os ds j (some ⟨.b, d⟩) = match wbAt j os ds with | some d' => some ⟨.b, d'⟩ | none => some ⟨.b, d⟩ := rfl
theorem wb1_skip {os : List Opd} {ds : List D} {j : Nat} {x : Option SV} (h : wbAt j os ds = none) : wb1 os ds j x = x := by
  cases x with
  | none => rfl
  | some sv =>
    obtain ⟨fl, d⟩ := sv
    by_cases np : fl = .p
    · subst np; rfl
    · rw [wb1_np np, h]
theorem wb1_t (os : List Opd) (ds : List D) (j : Nat) (d : D) : wb1 os ds j (some ⟨.t, d⟩) = match wbAt j os ds with | some d' => some ⟨.t, d'⟩ | none => some ⟨.t, d⟩ := rfl
end DL

namespace DL
open PySem L2
structure KB where
  ks : List D
  ds : List Nat
  cs : List (List D)
def kbStep (s : KB) (h : Nat) : Option KB := match s.ds[h]?, s.ks[h]? with
  | some d, some k => (match s.cs[d / 2]? with
    | some c => if d % 2 = 0 then (if h < c.length then some ⟨s.ks, s.ds.set h (d + 1), s.cs.set (d / 2) (c.set h k)⟩ else none)
      else (match c[1 - h]? with | some y => some ⟨s.ks.set h (.tup [k, y]), s.ds.set h (d + 1), s.cs⟩ | none => none)
    | none => none)
  | _, _ => none
def kbRun : List D → KB → Option KB
  | [], s => some s
  | .int h :: r, s => if 0 ≤ h ∧ h ≤ 1 then (match kbStep s h.toNat with | some s' => kbRun r s' | none => none) else none
  | _, _ => none
def kbOut (r : Nat) (s : KB) (h : Nat) : D := if s.ds[h]? = some (2 * r) then s.ks.getD h .non else .non
def kbG : List SV → RF
  | [⟨.p, .tup [x0, x1]⟩, ⟨fl, .lst hs⟩, ⟨.p, .int r⟩] => if 0 ≤ r ∧ r ≤ 1000 ∧ (fl = .p ∨ fl = .b) then (match kbRun hs ⟨[x0, x1], [0, 0], List.replicate r.toNat [.non, .non]⟩ with
    | some s => .ret ⟨.o, .lst [kbOut r.toNat s 0, kbOut r.toNat s 1]⟩ [.tup [x0, x1], .lst hs, .int r]
    | none => .stuck) else .stuck
  | _ => .stuck
theorem kbG_len (args : List SV) (h : args.length ≠ 3) : kbG args = .stuck := by
  unfold kbG
  split
  · simp at h
  · rfl
theorem at_nat {α : Type} {xs : List α} {n : Nat} {v : α} (h : xs[n]? = some v) : atI xs (n : Int) = some v := atI_nat h
theorem ixN_nat' {n j : Nat} (hj : j < n) : ixN n (j : Int) = some j := by
  unfold ixN
  rw [if_pos (by omega), if_pos (by omega)]
  simp
section
variable {K : PySem.W.Frag}
/-- what stands while it runs: kn, dn, c and the cells as are new and nobody's -/
structure KbIn (K : PySem.W.Frag) (H0 : Hp) (A : List Addr) (c kn dn : Addr) (as : List Addr) (s : KB) (H : Hp) : Prop where
  ex : ∀ b o, H0 b = some o → H b = some o
  hk : ∃ kv, H kn = some (.lst kv) ∧ RpL K H (kn :: dn :: c :: as ++ A) kv s.ks
  hd : H dn = some (.lst (s.ds.map fun n => V.int (n : Nat)))
  hc : H c = some (.lst (as.map V.ref))
  len : as.length = s.cs.length
  lks : s.ks.length = 2
  lds : s.ds.length = 2
  cell : ∀ (j : Nat) a x, as[j]? = some a → s.cs[j]? = some x → ∃ xv, H a = some (.lst xv) ∧ RpL K H (kn :: dn :: c :: as ++ A) xv x
end
end DL

namespace DL
open PySem L2
section
variable {K : PySem.W.Frag}
def kbBody (K : PySem.W.Frag) : TS := tSeq (tAsg (tOp (rIx K) (tVar 3) (tOp (L2.rI CDivW fun i j => V.int (i / j)) (tOp (rIx K) (tVar 5) (tVar 6)) (tC (V.int 2)))) (gName 7))
  (tSeq (tIfS (tTest (tOp rEq (tOp (L2.rI (fun x j => 0 < j) fun i j => V.int (i % j)) (tOp (rIx K) (tVar 5) (tVar 6)) (tC (V.int 2))) (tC (V.int 0))))
      (tAsg (tOp (rIx K) (tVar 4) (tVar 6)) (gSub (tVar 7) (tVar 6) rSetL))
      (tAsg (tTup (tCons (tOp (rIx K) (tVar 4) (tVar 6)) (tCons (tOp (rIx K) (tVar 7) (tOp (rI0 fun i j => V.int (i - j)) (tC (V.int 1)) (tVar 6))) tNil))) (gSub (tVar 4) (tVar 6) rSetL)))
    (tAugS (tVar 5) (tVar 6) (tC (V.int 1)) (rGetL K) (ipI fun i j => i + j) rSetL))
def kbSt (v0 v1 : V) (r : Int) (c kn dn : Addr) (y6 y7 : Option V) : St := [some v0, some v1, some (.int r), some (.ref c), some (.ref kn), some (.ref dn), y6, y7, none]
structure KbSep (H0 : Hp) (A : List Addr) (c kn dn : Addr) (as : List Addr) : Prop where
  nd : as.Nodup
  c1 : c ∉ as
  k1 : kn ∉ as
  d1 : dn ∉ as
  kd : kn ≠ dn
  kc : kn ≠ c
  dc : dn ≠ c
  h0 : ∀ a ∈ kn :: dn :: c :: as, H0 a = none
/-- an object that is ours is written -/
theorem kb_upd {H : Hp} {B : List Addr} {p : Addr} {o : HO} (hp : p ∈ B) {vs : List V} {ds : List D} (h : RpL K H B vs ds) : RpL K (upd H p o) B vs ds :=
  h.mono (fun a u n e => by rw [upd_ne (fun z => n (by rw [z]; exact hp))]; exact e) fun a z => .inl z
theorem kb_new {H : Hp} {B : List Addr} {p : Addr} {o : HO} (hp : H p = none) {vs : List V} {ds : List D} (h : RpL K H B vs ds) : RpL K (upd H p o) B vs ds :=
  h.mono (fun a u n e => upd_kept hp a u e) fun a z => .inl z
theorem kb_turn {H0 H : Hp} {A : List Addr} {c kn dn : Addr} {as : List Addr} {s s' : KB} {h : Nat} {v0 v1 : V} {r : Int} {y7 : Option V} {T : Ends} (S : KbSep H0 A c kn dn as) (I : KbIn K H0 A c kn dn as s H) (hA : ∀ a ∈ A, H0 a ≠ none) (hh : h ≤ 1) (e : kbStep s h = some s')
    (q : ∀ y7 H', KbIn K H0 A c kn dn as s' H' → T.nx (kbSt v0 v1 r c kn dn (some (.int (h : Nat))) y7) H') : kbBody K T (kbSt v0 v1 r c kn dn (some (.int (h : Nat))) y7) H := by
  obtain ⟨kv, hk, rk⟩ := I.hk
  have hd := I.hd
  have hc := I.hc
  unfold kbStep at e
  have hlt : h < s.ds.length := by rw [I.lds]; omega
  have hlk : h < s.ks.length := by rw [I.lks]; omega
  rw [List.getElem?_eq_getElem hlt, List.getElem?_eq_getElem hlk] at e
  generalize hdv : s.ds[h] = d at e
  generalize hkd : s.ks[h] = k at e
  dsimp only at e
  have gd : (s.ds.map fun n => V.int (n : Nat))[h]? = some (.int (d : Nat)) := by rw [List.getElem?_map, List.getElem?_eq_getElem hlt, hdv]; rfl
  obtain ⟨kvh, gk, rkh⟩ := rk.get (show s.ks[h]? = some k by rw [List.getElem?_eq_getElem hlk, hkd])
  cases ec : s.cs[d / 2]? with
  | none => rw [ec] at e; cases e
  | some cx =>
    rw [ec] at e; dsimp only at e
    have hj : d / 2 < as.length := by rw [I.len]; exact (List.getElem?_eq_some_iff.mp ec).1
    generalize ha : as[d / 2] = a
    have ga : as[d / 2]? = some a := by rw [List.getElem?_eq_getElem hj, ha]
    have gar : (as.map V.ref)[d / 2]? = some (.ref a) := by rw [List.getElem?_map, ga]; rfl
    have ham : a ∈ as := List.mem_of_getElem? ga
    obtain ⟨xv, hx, rx⟩ := I.cell (d / 2) a cx ga ec
    have i2 : ((d : Nat) : Int) / 2 = ((d / 2 : Nat) : Int) := by omega
    have im : ((d : Nat) : Int) % 2 = ((d % 2 : Nat) : Int) := by omega
    -- the last statement: done[hand] += 1
    have last : ∀ (σ : St) (H1 : Hp) (s1 : KB), σ = kbSt v0 v1 r c kn dn (some (.int (h : Nat))) (some (.ref a)) → KbIn K H0 A c kn dn as s1 H1 → s1.ds = s.ds → s' = ⟨s1.ks, s.ds.set h (d + 1), s1.cs⟩ →
        tAugS (tVar 5) (tVar 6) (tC (V.int 1)) (rGetL K) (ipI fun i j => i + j) rSetL T σ H1 := by
      intro σ H1 s1 eσ I1 e1 e2
      subst eσ
      have hd1 := I1.hd
      rw [e1] at hd1
      refine ⟨.ref dn, rfl, .int (h : Nat), rfl, dn, _, (h : Nat), .int (d : Nat), rfl, rfl, by omega, .inl (.inl hd1), by simpa using gd, (d : Nat), 1, rfl, rfl, dn, _, (h : Nat), h, rfl, rfl, hd1, ixN_nat' (by rw [List.length_map]; exact hlt), ?_⟩
      refine q _ _ ?_
      subst e2
      obtain ⟨kv1, hk1, rk1⟩ := I1.hk
      have inB : dn ∈ kn :: dn :: c :: as ++ A := by simp
      refine ⟨fun b o eb => ?_, ⟨kv1, ?_, kb_upd inB rk1⟩, ?_, ?_, I1.len, I1.lks, by simp [I.lds], fun j b x gb gx => ?_⟩
      · have : b ≠ dn := fun z => by rw [z, S.h0 dn (by simp)] at eb; cases eb
        rw [upd_ne this]; exact I1.ex b o eb
      · rw [upd_ne S.kd]; exact hk1
      · rw [upd_same, List.map_set]; rfl
      · rw [upd_ne (Ne.symm S.dc)]; exact I1.hc
      · obtain ⟨xv, g1, g2⟩ := I1.cell j b x gb gx
        have : b ≠ dn := fun z => S.d1 (by rw [← z]; exact List.mem_of_getElem? gb)
        exact ⟨xv, by rw [upd_ne this]; exact g1, kb_upd inB g2⟩
    -- cell = cells[done[hand] // 2]
    refine ⟨.ref c, rfl, .ref dn, rfl, .int (h : Nat), rfl, .inl ⟨dn, _, (h : Nat), .int (d : Nat), rfl, rfl, .inl (.inl hd), at_nat gd, ?_⟩⟩
    refine ⟨(d : Nat), 2, rfl, rfl, ⟨by decide, by decide⟩, .inl ⟨c, _, ((d : Nat) : Int) / 2, .ref a, rfl, rfl, .inl (.inl hc), by rw [i2]; exact at_nat gar, ?_⟩⟩
    -- if done[hand] % 2 == 0
    refine ⟨.ref dn, rfl, .int (h : Nat), rfl, .inl ⟨dn, _, (h : Nat), .int (d : Nat), rfl, rfl, .inl (.inl hd), at_nat gd, ?_⟩⟩
    refine ⟨(d : Nat), 2, rfl, rfl, (show (0 : Int) < 2 by decide), rfl, _, rfl, ite2 (fun ev => ?_) (fun od => ?_)⟩
    · have ev' : d % 2 = 0 := by have := V.int.inj (of_decide_eq_true ev); omega
      rw [if_pos ev'] at e
      by_cases hl : h < cx.length
      · rw [if_pos hl] at e
        have e' := (Option.some.inj e).symm
        refine ⟨.ref kn, rfl, .int (h : Nat), rfl, .inl ⟨kn, kv, (h : Nat), kvh, rfl, rfl, .inl (.inl hk), at_nat gk, ?_⟩⟩
        refine ⟨.ref a, rfl, .int (h : Nat), rfl, a, xv, (h : Nat), h, rfl, rfl, hx, ixN_nat' (by rw [rx.length]; exact hl), ?_⟩
        refine last _ _ ⟨s.ks, s.ds, s.cs.set (d / 2) (cx.set h k)⟩ rfl ?_ rfl e'
        have inB : a ∈ kn :: dn :: c :: as ++ A := by simp [ham]
        refine ⟨fun b o eb => ?_, ⟨kv, ?_, kb_upd inB rk⟩, ?_, ?_, by simp [I.len], I.lks, I.lds, fun j b x gb gx => ?_⟩
        · have : b ≠ a := fun z => by rw [z, S.h0 a (by simp [ham])] at eb; cases eb
          rw [upd_ne this]; exact I.ex b o eb
        · rw [upd_ne (fun z => S.k1 (by rw [z]; exact ham))]; exact hk
        · rw [upd_ne (fun z => S.d1 (by rw [z]; exact ham))]; exact hd
        · rw [upd_ne (fun z => S.c1 (by rw [z]; exact ham))]; exact hc
        · by_cases hjj : j = d / 2
          · subst hjj
            rw [ga] at gb; cases gb
            rw [List.getElem?_set_self (by rw [← I.len]; exact hj)] at gx
            cases gx
            exact ⟨_, upd_same, kb_upd inB (rx.set rkh h)⟩
          · rw [List.getElem?_set_ne (Ne.symm hjj)] at gx
            obtain ⟨xv', g1, g2⟩ := I.cell j b x gb gx
            have : b ≠ a := fun z => hjj (by
              subst z
              obtain ⟨l1, f1⟩ := List.getElem?_eq_some_iff.mp gb
              obtain ⟨l2, f2⟩ := List.getElem?_eq_some_iff.mp ga
              exact (List.getElem_inj S.nd).mp (f1.trans f2.symm))
            exact ⟨xv', by rw [upd_ne this]; exact g1, kb_upd inB g2⟩
      · rw [if_neg hl] at e; cases e
    · have od' : ¬ d % 2 = 0 := fun z => od (decide_eq_true (by show V.int (((d : Nat) : Int) % 2) = V.int 0; rw [im, z]; rfl))
      rw [if_neg od'] at e
      cases ey : cx[1 - h]? with
      | none => rw [ey] at e; cases e
      | some y =>
        rw [ey] at e
        have e' := (Option.some.inj e).symm
        obtain ⟨yv, gy, ry⟩ := rx.get ey
        have i1 : (1 : Int) - ((h : Nat) : Int) = ((1 - h : Nat) : Int) := by omega
        refine ⟨.ref kn, rfl, .int (h : Nat), rfl, .inl ⟨kn, kv, (h : Nat), kvh, rfl, rfl, .inl (.inl hk), at_nat gk, ?_⟩⟩
        refine ⟨.ref a, rfl, .int (h : Nat), rfl, 1, (h : Nat), rfl, rfl, .inl ⟨a, xv, (1 : Int) - ((h : Nat) : Int), yv, rfl, rfl, .inl (.inl hx), by rw [i1]; exact at_nat gy, ?_⟩⟩
        refine ⟨by show 2 ≤ sizeLine; decide, fun tp ht => ?_⟩
        have nk : kn ≠ tp := ne_of_none hk ht
        have nd' : dn ≠ tp := ne_of_none hd ht
        have nc : c ≠ tp := ne_of_none hc ht
        have nA : ∀ b ∈ kn :: dn :: c :: as ++ A, b ≠ tp := fun b hb z => by
          subst z
          rcases List.mem_append.mp hb with hb | hb
          · rcases List.mem_cons.mp hb with e1 | hb
            · exact nk e1.symm
            · rcases List.mem_cons.mp hb with e1 | hb
              · exact nd' e1.symm
              · rcases List.mem_cons.mp hb with e1 | hb
                · exact nc e1.symm
                · obtain ⟨j, hj2, ej⟩ := List.mem_iff_getElem.mp hb
                  obtain ⟨xv2, g1, _⟩ := I.cell j b (s.cs[j]'(by rw [← I.len]; exact hj2)) (by rw [List.getElem?_eq_getElem hj2, ej]) (List.getElem?_eq_getElem _)
                  rw [g1] at ht; cases ht
          · cases q0 : H0 b with
            | none => exact hA b hb q0
            | some o => rw [I.ex b o q0] at ht; cases ht
        have rt : Rp K (upd H tp (.tup [kvh, yv])) (kn :: dn :: c :: as ++ A) (.ref tp) (.tup [k, y]) := by
          refine .tup ⟨fun z => nA tp z rfl, upd_same⟩ ?_
          exact kb_new ht (.cons rkh (.cons ry .nil))
        refine ⟨.ref kn, rfl, .int (h : Nat), rfl, kn, kv, (h : Nat), h, rfl, rfl, by rw [upd_ne nk]; exact hk, ixN_nat' (by rw [rk.length]; exact hlk), ?_⟩
        refine last _ _ ⟨s.ks.set h (.tup [k, y]), s.ds, s.cs⟩ rfl ?_ rfl e'
        have inB : kn ∈ kn :: dn :: c :: as ++ A := by simp
        refine ⟨fun b o eb => ?_, ⟨_, upd_same, kb_upd inB ((kb_new ht rk).set rt h)⟩, ?_, ?_, I.len, by simp [I.lks], I.lds, fun j b x gb gx => ?_⟩
        · have : b ≠ kn := fun z => by rw [z, S.h0 kn (by simp)] at eb; cases eb
          rw [upd_ne this]
          exact upd_kept ht b o (I.ex b o eb)
        · rw [upd_ne (Ne.symm S.kd)]; exact upd_kept ht _ _ hd
        · rw [upd_ne (Ne.symm S.kc)]; exact upd_kept ht _ _ hc
        · obtain ⟨xv', g1, g2⟩ := I.cell j b x gb gx
          have : b ≠ kn := fun z => S.k1 (by rw [← z]; exact List.mem_of_getElem? gb)
          exact ⟨xv', by rw [upd_ne this]; exact upd_kept ht _ _ g1, kb_upd inB (kb_new ht g2)⟩
end
end DL

namespace DL
open PySem L2
section
variable {K : PySem.W.Frag}
def kbAll (K : PySem.W.Frag) (aH : Addr) : TS := tSeq (tAsg (tLc (iRng1 (tCons (tVar 2) tNil)) (gName 8) tYes (tLst (tCons (tC V.non) (tCons (tC V.non) tNil))) [8]) (gName 3))
  (tSeq (tAsg (tCB (rListA K) (tCons (tVar 0) tNil)) (gName 4)) (tSeq (tAsg (tLst (tCons (tC (V.int 0)) (tCons (tC (V.int 0)) tNil))) (gName 5))
    (tSeq (tFor (iSeq K (tVar 1)) (gName 6) (kbBody K))
      (tRet (tLc (iSeq K (tC (V.ref aH))) (gName 6) tYes (tIf (tTest (tOp rEq (tOp (rIx K) (tVar 5) (tVar 6)) (tOp (rMulA) (tC (V.int 2)) (tVar 2)))) (tOp (rIx K) (tVar 4) (tVar 6)) (tC V.non)) [6])))))
theorem kb_all {aH : Addr} {H : Hp} {vs : List V} {Q : VK} {E : XK} (hH : KT K aH [.int 0, .int 1]) (h : spD0 K kbG vs H Q E) : kbAll K aH { nx := fun _ H' => Q .non H', rt := Q } (L2.start ["inputs", "weaving", "rounds", "cells", "knows", "done", "hand", "cell", "turn"] vs) H := by
  obtain ⟨args, W, fr, rel, p⟩ := h
  have lav : args.length = vs.length := by have := rel.len; simpa using this
  unfold kbG at p
  split at p
  case h_2 => exact p.elim
  rename_i x0 x1 fl hs r
  by_cases hc : 0 ≤ r ∧ r ≤ 1000 ∧ (fl = .p ∨ fl = .b)
  case neg => rw [if_neg hc] at p; exact p.elim
  rw [if_pos hc] at p
  cases ek : kbRun hs ⟨[x0, x1], [0, 0], List.replicate r.toNat [.non, .non]⟩ with
  | none => rw [ek] at p; exact p.elim
  | some sF =>
  rw [ek] at p; dsimp only at p
  -- the arguments
  have at' : ∀ (i : Nat) sv, [(⟨.p, .tup [x0, x1]⟩ : SV), ⟨fl, .lst hs⟩, ⟨.p, .int r⟩][i]? = some sv → ∃ v, vs[i]? = some v ∧ RdOk K H (W ++ fr) v sv.d := fun i sv q => by
    obtain ⟨v, h1, fp, h2⟩ := rel.sl i sv (by rw [sv_map]; exact q)
    rw [List.getElem?_map] at h1
    cases e : vs[i]? with
    | none => rw [e] at h1; cases h1
    | some u =>
      rw [e] at h1; cases h1
      refine ⟨_, rfl, ?_⟩
      refine h2.rd ?_
      match i, q with
      | 0, q => cases q; rfl
      | 1, q => cases q; rcases hc.2.2 with rfl | rfl <;> rfl
      | 2, q => cases q; rfl
      | i + 3, q => simp at q
  obtain ⟨v0, g0, q0⟩ := at' 0 _ rfl
  obtain ⟨v1, g1, q1⟩ := at' 1 _ rfl
  obtain ⟨v2, g2, q2⟩ := at' 2 _ rfl
  obtain rfl : vs = [v0, v1, v2] := by
    match vs, lav, g0, g1, g2 with
    | [a, b, c], _, g0, g1, g2 => simp at g0 g1 g2; rw [g0, g1, g2]
  obtain ⟨a0, xv, rfl, hx0, rx0⟩ := rd_tup q0
  obtain ⟨a1, hv, rfl, hx1, rx1⟩ := rd_lst q1
  have e2 := rd_int q2
  subst e2
  have rt : (r.toNat : Int) = r := by omega
  have hA : ∀ a ∈ W ++ fr, H a ≠ none := rel.all
  -- cells
  refine ⟨.int r, rfl, r, rfl, by omega, by omega, fun c hc0 => ?_⟩
  refine lc_range (lo := 0) (n := r.toNat) (fun i H' => ∃ as : List Addr, as.length = i ∧ as.Nodup ∧ c ∉ as ∧ H' c = some (.lst (as.map V.ref)) ∧ (∀ a ∈ as, H a = none ∧ H' a = some (.lst [.non, .non])) ∧ ∀ b o, H b = some o → H' b = some o)
    ⟨[], rfl, .nil, by simp, upd_same, by simp, fun b o e => upd_kept hc0 b o e⟩ (fun i H' hi ⟨as, l1, l2, l3, l4, l5, l6⟩ => ?_) (fun H1 ⟨as, l1, l2, l3, l4, l5, l6⟩ => ?_)
  · refine ⟨rfl, ?_⟩
    unfold tYes
    refine iteT ?_
    refine ⟨by show 2 ≤ sizeLine; decide, fun a ha => ?_⟩
    have nac : c ≠ a := ne_of_none l4 ha
    have na : a ∉ as := fun z => by rw [(l5 a z).2] at ha; cases ha
    have ha0 : H a = none := by
      cases e : H a with
      | none => rfl
      | some o => rw [l6 a o e] at ha; cases ha
    refine ⟨_, by rw [upd_ne nac]; exact l4, sz_lt (by rw [List.length_map]; omega), as ++ [a], by simp [l1], ?_, ?_, ?_, fun b hb => ?_, fun b o e => ?_⟩
    · rw [List.nodup_append]
      exact ⟨l2, by simp, fun x hx y hy z => na (by rw [List.mem_singleton.mp hy] at z; rw [← z]; exact hx)⟩
    · simp [l3, nac]
    · rw [upd_same, List.map_append]; rfl
    · rcases List.mem_append.mp hb with hb | hb
      · have nb : b ≠ a := fun z => na (by rw [← z]; exact hb)
        have nbc : b ≠ c := fun z => l3 (by rw [← z]; exact hb)
        exact ⟨(l5 b hb).1, by rw [upd_ne nbc, upd_ne nb]; exact (l5 b hb).2⟩
      · have e : b = a := List.mem_singleton.mp hb
        subst e
        exact ⟨ha0, by rw [upd_ne (Ne.symm nac), upd_same]⟩
    · have nb : b ≠ c := ne_of_none e hc0
      rw [upd_ne nb]
      exact upd_kept ha b o (l6 b o e)
  -- knows
  refine ⟨.ref a0, rfl, a0, xv, rfl, .inr (.inl (.inl (l6 _ _ hx0.2))), fun kn hkn => ?_⟩
  refine ⟨by show 2 ≤ sizeLine; decide, fun dn hdn => ?_⟩
  have nkd : kn ≠ dn := fun z => by rw [← z, upd_same] at hdn; cases hdn
  have nkc : kn ≠ c := fun z => by rw [z, l4] at hkn; cases hkn
  have ndc : dn ≠ c := fun z => by rw [z, upd_ne (Ne.symm nkc), l4] at hdn; cases hdn
  have nka : kn ∉ as := fun z => by rw [(l5 kn z).2] at hkn; cases hkn
  have nda : dn ∉ as := fun z => by rw [upd_ne (fun y => nkd y.symm), (l5 dn z).2] at hdn; cases hdn
  have back : ∀ b, H1 b = none → H b = none := fun b e => by
    cases q : H b with
    | none => rfl
    | some o => rw [l6 b o q] at e; cases e
  have hdn1 : H1 dn = none := by rw [upd_ne (Ne.symm nkd)] at hdn; exact hdn
  have S : KbSep H (W ++ fr) c kn dn as := ⟨l2, l3, nka, nda, nkd, nkc, ndc, fun a z => by
    rcases List.mem_cons.mp z with rfl | z
    · exact back _ hkn
    · rcases List.mem_cons.mp z with rfl | z
      · exact back _ hdn1
      · rcases List.mem_cons.mp z with rfl | z
        · exact hc0
        · exact (l5 a z).1⟩
  have hB : ∀ a, a ∈ kn :: dn :: c :: as ++ (W ++ fr) → a ∈ W ++ fr ∨ H a = none := fun a z => by
    rcases List.mem_append.mp z with z | z
    · exact .inr (S.h0 a z)
    · exact .inl z
  have I0 : KbIn K H (W ++ fr) c kn dn as ⟨[x0, x1], [0, 0], List.replicate r.toNat [.non, .non]⟩ (upd (upd H1 kn (.lst xv)) dn (.lst [.int 0, .int 0])) := by
    have ex : ∀ b o, H b = some o → (upd (upd H1 kn (.lst xv)) dn (.lst [.int 0, .int 0])) b = some o := fun b o e => upd_kept hdn b o (upd_kept hkn b o (l6 b o e))
    refine ⟨ex, ⟨xv, by rw [upd_ne nkd, upd_same], rx0.mono (fun a o _ e => ex a o e) hB⟩, upd_same, by rw [upd_ne (Ne.symm ndc), upd_ne (Ne.symm nkc)]; exact l4, by simp [l1], rfl, rfl, fun j a x ga gx => ⟨[.non, .non], ?_, ?_⟩⟩
    · have hm := List.mem_of_getElem? ga
      rw [upd_ne (fun z => nda (by rw [← z]; exact hm)), upd_ne (fun z => nka (by rw [← z]; exact hm))]
      exact (l5 a hm).2
    · rw [List.getElem?_replicate] at gx
      split at gx
      · cases gx; exact .cons .non (.cons .non .nil)
      · cases gx
  -- the loop
  have hint : ∀ (l : List D) (s s' : KB), kbRun l s = some s' → ∀ d ∈ l, ∃ h : Int, d = .int h := by
    intro l
    induction l with
    | nil => intro s s' _ d hd; simp at hd
    | cons y l ih =>
      intro s s' e d hd
      cases y with
      | int h =>
        unfold kbRun at e
        split at e
        · split at e
          · rcases List.mem_cons.mp hd with rfl | hd
            · exact ⟨h, rfl⟩
            · exact ih _ _ e d hd
          · cases e
        · cases e
      | _ => cases e
  refine ⟨.ref a1, rfl, a1, rfl, .inl ⟨⟨hv, .inl (.inl (I0.ex _ _ hx1))⟩, ?_⟩⟩
  refine for_list (xs := hv) (fun i σ H' => ∃ y6 y7 s, σ = kbSt (.ref a0) (.ref a1) r c kn dn y6 y7 ∧ KbIn K H (W ++ fr) c kn dn as s H' ∧ kbRun (hs.drop i) s = some sF) ⟨none, none, _, rfl, I0, by simpa using ek⟩
    (fun i σ H' _ ⟨_, _, _, _, I, _⟩ => .inl (.inl (I.ex _ _ hx1))) (fun i x σ H' hx ⟨y6, y7, s, eσ, I, er⟩ => ?_) (fun σ H' ⟨y6, y7, s, eσ, I, er⟩ => ?_)
  · subst eσ
    obtain ⟨d, gd, rd⟩ := rx1.get' hx
    have hi : i < hs.length := (List.getElem?_eq_some_iff.mp gd).1
    have ed : hs[i] = d := (List.getElem?_eq_some_iff.mp gd).2
    rw [List.drop_eq_getElem_cons hi, ed] at er
    obtain ⟨hh, rfl⟩ := hint _ _ _ er d List.mem_cons_self
    cases rd
    unfold kbRun at er
    split at er
    · rename_i hb
      split at er
      · rename_i s' es
        obtain ⟨n, rfl⟩ : ∃ n : Nat, hh = (n : Int) := ⟨hh.toNat, by omega⟩
        refine kb_turn (y7 := y7) S I hA (by omega) (by simpa using es) fun y7' H'' I' => ⟨_, y7', s', rfl, I', er⟩
      · cases er
    · cases er
  -- return
  · subst eσ
    have er' : s = sF := by
      rw [List.drop_eq_nil_of_le (by rw [rx1.length]; exact Nat.le_refl _)] at er
      unfold kbRun at er
      exact Option.some.inj er
    subst er'
    obtain ⟨kv, hk, rk⟩ := I.hk
    refine ⟨aH, rfl, .inr ⟨⟨_, .inr hH⟩, fun p' hp => ?_⟩⟩
    have pp : ∀ b o, H b = some o → b ≠ p' := fun b o e z => by rw [z] at e; rw [I.ex _ _ e] at hp; cases hp
    have n1 : kn ≠ p' := ne_of_none hk hp
    have n2 : dn ≠ p' := ne_of_none I.hd hp
    let B := kn :: dn :: c :: as ++ (W ++ fr)
    have hBp : ∀ b ∈ B, b ≠ p' := fun b hb z => by
      subst z
      rcases List.mem_append.mp hb with hb | hb
      · rcases List.mem_cons.mp hb with e1 | hb
        · exact n1 e1.symm
        · rcases List.mem_cons.mp hb with e1 | hb
          · exact n2 e1.symm
          · rcases List.mem_cons.mp hb with e1 | hb
            · rw [e1, I.hc] at hp; cases hp
            · obtain ⟨j, hj2, ej⟩ := List.mem_iff_getElem.mp hb
              obtain ⟨xv2, g1, _⟩ := I.cell j b (s.cs[j]'(by rw [← I.len]; exact hj2)) (by rw [List.getElem?_eq_getElem hj2, ej]) (List.getElem?_eq_getElem _)
              rw [g1] at hp; cases hp
      · cases q0 : H b with
        | none => exact hA b hb q0
        | some o => exact pp b o q0 rfl
    -- one item
    have item : ∀ (n : Nat) (σ : St) (H2 : Hp) (R : VK), n ≤ 1 → σ[2]? = some (some (.int r)) → σ[4]? = some (some (.ref kn)) → σ[5]? = some (some (.ref dn)) → σ[6]? = some (some (.int (n : Nat))) → H2 kn = some (.lst kv) → H2 dn = some (.lst (s.ds.map fun n => V.int (n : Nat))) →
        (∀ v, Rp K H' B v (kbOut r.toNat s n) → R v H2) → tIf (tTest (tOp rEq (tOp (rIx K) (tVar 5) (tVar 6)) (tOp (rMulA) (tC (V.int 2)) (tVar 2)))) (tOp (rIx K) (tVar 4) (tVar 6)) (tC V.non) σ H2 R := by
      intro n σ H2 R hn s2 s4 s5 s6 h4 h5 hR
      have hlt : n < s.ds.length := by rw [I.lds]; omega
      have hlk : n < s.ks.length := by rw [I.lks]; omega
      have gd : (s.ds.map fun n => V.int (n : Nat))[n]? = some (.int (s.ds[n] : Nat)) := by rw [List.getElem?_map, List.getElem?_eq_getElem hlt]; rfl
      obtain ⟨kx, gk, rkx⟩ := rk.get (List.getElem?_eq_getElem hlk)
      refine ⟨.ref dn, s5, .int (n : Nat), s6, .inl ⟨dn, _, (n : Nat), _, rfl, rfl, .inl (.inl h5), at_nat gd, ?_⟩⟩
      refine ⟨.int r, s2, .inl ⟨2, r, rfl, rfl, .inl ⟨by decide, by decide⟩, ?_⟩⟩
      refine ⟨rfl, _, rfl, ite2 (fun ev => ?_) (fun od => ?_)⟩
      · have e1 : ((s.ds[n] : Nat) : Int) = 2 * r := V.int.inj (of_decide_eq_true ev)
        refine ⟨.ref kn, s4, .int (n : Nat), s6, .inl ⟨kn, kv, (n : Nat), kx, rfl, rfl, .inl (.inl h4), at_nat gk, hR kx ?_⟩⟩
        have : kbOut r.toNat s n = s.ks[n] := by
          unfold kbOut
          rw [List.getElem?_eq_getElem hlt, if_pos (by congr 1; omega), List.getD_eq_getElem?_getD, List.getElem?_eq_getElem hlk]; rfl
        rw [this]; exact rkx
      · refine hR .non ?_
        have : kbOut r.toNat s n = .non := by
          unfold kbOut
          rw [List.getElem?_eq_getElem hlt, if_neg (fun z => od (decide_eq_true ?_))]
          have z' := Option.some.inj z
          show V.int ((s.ds[n] : Nat) : Int) = V.int (2 * r)
          congr 1; omega
        rw [this]; exact .non
    have okp : ∀ (av : List V) (b : Addr) (o : HO), b ≠ p' → H' b = some o → (upd H' p' (.lst av)) b = some o := fun av b o n e => by rw [upd_ne n]; exact e
    refine lc_tup (xs := [.int 0, .int 1]) (fun i H2 => ∃ av, H2 = upd H' p' (.lst av) ∧ av.length = i ∧ RpL K H' B av (([kbOut r.toNat s 0, kbOut r.toNat s 1]).take i)) ⟨[], rfl, rfl, .nil⟩ (fun _ _ _ _ => .inr hH) (fun i x H2 hx ⟨av, e2, l2, r2⟩ => ?_) (fun H2 ⟨av, e2, l2, r2⟩ => ?_)
    · subst e2
      have hi : i < 2 := (List.getElem?_eq_some_iff.mp hx).1
      have ex : x = .int (i : Nat) := by
        match i, hi, hx with
        | 0, _, hx => simp at hx; exact hx.symm
        | 1, _, hx => simp at hx; exact hx.symm
      subst ex
      refine ⟨rfl, ?_⟩
      unfold tYes
      refine iteT ?_
      refine item i _ _ _ (by omega) rfl rfl rfl rfl (okp _ _ _ n1 hk) (okp _ _ _ n2 I.hd) fun v hv => ⟨av, upd_same, sz_lt (by omega), av ++ [v], by rw [upd_upd], by simp [l2], ?_⟩
      have : ([kbOut r.toNat s 0, kbOut r.toNat s 1]).take (i + 1) = ([kbOut r.toNat s 0, kbOut r.toNat s 1]).take i ++ [kbOut r.toNat s i] := by
        match i, hi with
        | 0, _ => rfl
        | 1, _ => rfl
      rw [this]
      exact r2.append (.one hv)
    · subst e2
      have hpH : H p' = none := by
        cases q0 : H p' with
        | none => rfl
        | some o => exact absurd rfl (pp p' o q0)
      have kept : ∀ b o, H b = some o → (upd H' p' (.lst av)) b = some o := fun b o e => okp av b o (pp b o e) (I.ex b o e)
      have st : Step H W (upd H' p' (.lst av)) (p' :: W) := ⟨fun a o _ e => kept a o e, fun a z => by
        rcases List.mem_cons.mp z with rfl | z
        · exact .inr hpH
        · exact .inl z⟩
      have R2 := rel.keep st kept (fun a z => List.mem_cons_of_mem _ z) (fun a z => by
        rcases List.mem_cons.mp z with rfl | z
        · rw [upd_same]; simp
        · cases q0 : H a with
          | none => exact absurd q0 (rel.wt a z)
          | some o => rw [kept a o q0]; simp)
      obtain ⟨fps, f⟩ := rel.ex
      refine p (.ref p') _ (p' :: W) R2 st (.inr ⟨rfl, fps, [p'], f.keep st kept (fun a z => List.mem_cons_of_mem _ z), .inr ⟨.sh (.inl rfl) (.lst upd_same ?_), fun a z => by rw [List.mem_singleton.mp z]; exact List.mem_cons_self, fun _ a z => by rw [List.mem_singleton.mp z]; exact hpH⟩, fun j sw ej a z y => ?_⟩)
      · refine RpL.mono (H := H') (A := B) (fun a o n e => okp av a o (fun z => ?_) e) (fun a z => ?_) r2
        · rw [z, hp] at e; cases e
        · rcases List.mem_append.mp z with z | z
          · rcases List.mem_cons.mp z with rfl | z
            · exact .inr hp
            · exact .inl (List.mem_append_right _ (List.mem_append_left _ z))
          · exact .inl (List.mem_append_right _ (List.mem_append_right _ z))
      · rw [List.mem_singleton.mp z] at y
        obtain ⟨u, _, h2⟩ := f.sl j sw ej
        exact rel.wt p' (h2.inW p' y) hpH
end
end DL

namespace DL
open PySem L2
/-- a thing that may be known behind at most n rounds -/
def Kn : Nat → D → Prop
  | _, .int _ => True
  | _, .non => True
  | n + 1, .tup [a, b] => Kn n a ∧ Kn n b
  | _, _ => False
theorem Kn.up : ∀ {n : Nat} {d : D}, Kn n d → Kn (n + 1) d
  | n, .int _, _ => by cases n <;> trivial
  | n, .non, _ => by cases n <;> trivial
  | 0, .tup xs, h => by simp [Kn] at h
  | n + 1, .tup [a, b], h => ⟨Kn.up h.1, Kn.up h.2⟩
  | n + 1, .tup [], h => by cases h
  | n + 1, .tup [_], h => by cases h
  | n + 1, .tup (_ :: _ :: _ :: _), h => by cases h
  | n, .bl _, h => by cases n <;> cases h
  | n, .str _, h => by cases n <;> cases h
  | n, .opq _, h => by cases n <;> cases h
  | n, .lst _, h => by cases n <;> cases h
  | n, .frl _, h => by cases n <;> cases h
  | n, .frt _, h => by cases n <;> cases h
  | n, .dt _, h => by cases n <;> cases h
  | n, .dk _, h => by cases n <;> cases h
  | n, .obj _ _, h => by cases n <;> cases h
theorem Kn.le {n m : Nat} {d : D} (h : Kn n d) (l : n ≤ m) : Kn m d := by
  induction l with
  | refl => exact h
  | step _ ih => exact ih.up
theorem Kn.py : ∀ {n : Nat} {d : D}, Kn n d → ∃ p, toPy d = some p ∧ p.canLay0 = true ∧ p.depth ≤ n
  | n, .int i, _ => ⟨.int i, by unfold toPy; rfl, rfl, by simp [PyData.depth]⟩
  | n, .non, _ => ⟨.none, by unfold toPy; rfl, rfl, by simp [PyData.depth]⟩
  | 0, .tup xs, h => by simp [Kn] at h
  | n + 1, .tup [a, b], h => by
    obtain ⟨p, h1, h2, h3⟩ := Kn.py h.1
    obtain ⟨q, g1, g2, g3⟩ := Kn.py h.2
    refine ⟨.tuple [p, q], ?_, ?_, ?_⟩
    · simp [toPy, toPyL, h1, g1]
    · simp [PyData.canLay0, PyData.canLayAll0, h2, g2]
    · simp only [PyData.depth, PyData.depthAll]; omega
  | n + 1, .tup [], h => by cases h
  | n + 1, .tup [_], h => by cases h
  | n + 1, .tup (_ :: _ :: _ :: _), h => by cases h
  | n, .bl _, h => by cases n <;> cases h
  | n, .str _, h => by cases n <;> cases h
  | n, .opq _, h => by cases n <;> cases h
  | n, .lst _, h => by cases n <;> cases h
  | n, .frl _, h => by cases n <;> cases h
  | n, .frt _, h => by cases n <;> cases h
  | n, .dt _, h => by cases n <;> cases h
  | n, .dk _, h => by cases n <;> cases h
  | n, .obj _ _, h => by cases n <;> cases h
theorem shaped_of {p : PyData} (h1 : p.canLay0 = true) (h2 : p.depth ≤ 64) : SeqAt.shaped p = true := by
  unfold SeqAt.shaped
  rw [h1, decide_eq_true h2]; rfl
theorem eqD_self {d : D} {p : PyData} (h : toPy d = some p) (h1 : p.canLay0 = true) (h2 : p.depth ≤ 64) : eqD d d = some true := by
  unfold eqD
  rw [h]
  dsimp only
  rw [if_pos ⟨shaped_of h1 h2, shaped_of h1 h2⟩, SeqAt.eqv_refl p h1]
theorem eqD_int (i j : Int) : eqD (.int i) (.int j) = some (i == j) := by
  unfold eqD toPy
  dsimp only
  rw [if_pos ⟨shaped_of rfl (by simp [PyData.depth]), shaped_of rfl (by simp [PyData.depth])⟩]
  unfold PyData.eqv; rfl
/-- a list of two known things -/
theorem eqD_two {n : Nat} {a b : D} (ha : Kn n a) (hb : Kn n b) (hn : n ≤ 60) : eqD (.lst [a, b]) (.lst [a, b]) = some true := by
  obtain ⟨p, h1, h2, h3⟩ := ha.py
  obtain ⟨q, g1, g2, g3⟩ := hb.py
  refine eqD_self (p := .list [p, q]) ?_ ?_ ?_
  · simp [toPy, toPyL, h1, g1]
  · simp [PyData.canLay0, PyData.canLayAll0, h2, g2]
  · simp only [PyData.depth, PyData.depthAll]; omega
theorem toPyL_ints : ∀ ns : List Int, toPyL (ns.map D.int) = some (ns.map PyData.int)
  | [] => by unfold toPyL; rfl
  | n :: r => by rw [List.map_cons]; unfold toPyL; rw [toPyL_ints r]; unfold toPy; rfl
theorem eqD_ints (ns : List Int) : eqD (.lst (ns.map D.int)) (.lst (ns.map D.int)) = some true := by
  have hc : ∀ ns : List Int, PyData.canLayAll0 (ns.map PyData.int) = true ∧ PyData.depthAll (ns.map PyData.int) = 0 := by
    intro ns
    induction ns with
    | nil => exact ⟨rfl, rfl⟩
    | cons a r ih => simp [PyData.canLayAll0, PyData.depthAll, PyData.canLay0, PyData.depth, ih]
  refine eqD_self (p := .list (ns.map PyData.int)) ?_ ?_ ?_
  · simp [toPy, toPyL_ints]
  · simp [PyData.canLay0, hc]
  · simp only [PyData.depth, (hc ns).2]; omega
/-- [] is no list with items -/
theorem eqD_nil (n : Int) (ns : List Int) : eqD (.lst ((n :: ns).map D.int)) (.lst []) = some false := by
  unfold eqD
  have e1 : toPy (.lst ((n :: ns).map D.int)) = some (.list ((n :: ns).map PyData.int)) := by simp only [toPy, toPyL_ints]; rfl
  have e2 : toPy (.lst []) = some (.list []) := by simp [toPy, toPyL]
  have hc : ∀ ns : List Int, PyData.canLayAll0 (ns.map PyData.int) = true ∧ PyData.depthAll (ns.map PyData.int) = 0 := by
    intro ns
    induction ns with
    | nil => exact ⟨rfl, rfl⟩
    | cons a r ih => simp [PyData.canLayAll0, PyData.depthAll, PyData.canLay0, PyData.depth, ih]
  rw [e1, e2]
  dsimp only
  rw [if_pos ⟨shaped_of (by simp only [PyData.canLay0, (hc _).1]) (by simp only [PyData.depth, (hc _).2]; omega), shaped_of rfl (by simp [PyData.depth, PyData.depthAll])⟩]
  simp [PyData.eqv, PyData.eqvAll]
/-- the shape of a state -/
structure KbOk (r m : Nat) (s : KB) : Prop where
  ks : ∃ a b, s.ks = [a, b] ∧ Kn m a ∧ Kn m b
  cl : s.cs.length = r
  cs : ∀ c ∈ s.cs, ∃ x y, c = [x, y] ∧ Kn m x ∧ Kn m y
theorem kb_step_ok {r m : Nat} {s : KB} {h d0 d1 : Nat} (S : KbOk r m s) (ed : s.ds = [d0, d1]) (hh : h ≤ 1) (hd : (if h = 0 then d0 else d1) < 2 * r) :
    ∃ s', kbStep s h = some s' ∧ KbOk r (m + 1) s' ∧ s'.ds = (if h = 0 then [d0 + 1, d1] else [d0, d1 + 1]) := by
  obtain ⟨a, b, ek, ka, kb⟩ := S.ks
  have up : ∀ c ∈ s.cs, ∃ x y, c = [x, y] ∧ Kn (m + 1) x ∧ Kn (m + 1) y := fun c hc => by
    obtain ⟨x, y, e, h1, h2⟩ := S.cs c hc
    exact ⟨x, y, e, h1.up, h2.up⟩
  have go : ∀ (d : Nat), d < 2 * r → ∃ x y, s.cs[d / 2]? = some [x, y] ∧ Kn m x ∧ Kn m y := fun d hd => by
    have hl : d / 2 < s.cs.length := by rw [S.cl]; omega
    obtain ⟨x, y, e, h1, h2⟩ := S.cs _ (List.getElem_mem hl)
    exact ⟨x, y, by rw [List.getElem?_eq_getElem hl, e], h1, h2⟩
  have setOk : ∀ (k : Nat) (x y : D), Kn (m + 1) x → Kn (m + 1) y → ∀ c ∈ s.cs.set k [x, y], ∃ x y, c = [x, y] ∧ Kn (m + 1) x ∧ Kn (m + 1) y := fun k x y hx hy c hc => by
    rcases List.mem_or_eq_of_mem_set hc with hc | rfl
    · exact up c hc
    · exact ⟨x, y, rfl, hx, hy⟩
  unfold kbStep
  rw [ed, ek]
  have : h = 0 ∨ h = 1 := by omega
  rcases this with rfl | rfl
  · have hd' : d0 < 2 * r := by simpa using hd
    obtain ⟨x, y, ec, kx, ky⟩ := go d0 hd'
    by_cases ev : d0 % 2 = 0
    · refine ⟨⟨[a, b], [d0 + 1, d1], s.cs.set (d0 / 2) [a, y]⟩, by simp [ec, ev], ⟨⟨a, b, rfl, ka.up, kb.up⟩, by simp [S.cl], setOk _ _ _ ka.up ky.up⟩, by simp⟩
    · refine ⟨⟨[.tup [a, y], b], [d0 + 1, d1], s.cs⟩, by simp [ec, ev], ⟨⟨_, b, rfl, ⟨ka, ky⟩, kb.up⟩, S.cl, up⟩, by simp⟩
  · have hd' : d1 < 2 * r := by simpa using hd
    obtain ⟨x, y, ec, kx, ky⟩ := go d1 hd'
    by_cases ev : d1 % 2 = 0
    · refine ⟨⟨[a, b], [d0, d1 + 1], s.cs.set (d1 / 2) [x, b]⟩, by simp [ec, ev], ⟨⟨a, b, rfl, ka.up, kb.up⟩, by simp [S.cl], setOk _ _ _ kx.up kb.up⟩, by simp⟩
    · refine ⟨⟨[a, .tup [b, x]], [d0, d1 + 1], s.cs⟩, by simp [ec, ev], ⟨⟨a, _, rfl, ka.up, ⟨kb, kx⟩⟩, S.cl, up⟩, by simp⟩
/-- hands of a weaving: 0 or 1 -/
def Hands (hs : List Int) : Prop := ∀ h ∈ hs, 0 ≤ h ∧ h ≤ 1
theorem kb_run_ok {r : Nat} : ∀ (hs : List Int) {m : Nat} {s : KB} {d0 d1 : Nat}, KbOk r m s → s.ds = [d0, d1] → Hands hs → d0 + hs.count 0 ≤ 2 * r → d1 + hs.count 1 ≤ 2 * r →
    ∃ s', kbRun (hs.map D.int) s = some s' ∧ KbOk r (m + hs.length) s' ∧ s'.ds = [d0 + hs.count 0, d1 + hs.count 1]
  | [], m, s, d0, d1, S, ed, _, _, _ => ⟨s, rfl, S, by simpa using ed⟩
  | h :: hs, m, s, d0, d1, S, ed, hh, h0, h1 => by
    obtain ⟨g0, g1⟩ := hh h List.mem_cons_self
    have ht : Hands hs := fun x hx => hh x (List.mem_cons_of_mem _ hx)
    have : h = 0 ∨ h = 1 := by omega
    rcases this with rfl | rfl
    · have c0 : List.count (0 : Int) (0 :: hs) = hs.count 0 + 1 := by simp
      have c1 : List.count (1 : Int) (0 :: hs) = hs.count 1 := by simp
      rw [c0] at h0; rw [c1] at h1
      obtain ⟨s1, e1, S1, ed1⟩ := kb_step_ok (h := 0) S ed (by omega) (by simp; omega)
      obtain ⟨s2, e2, S2, ed2⟩ := kb_run_ok hs S1 (by simpa using ed1) ht (by omega) (by omega)
      refine ⟨s2, ?_, by rw [List.length_cons, show m + (hs.length + 1) = m + 1 + hs.length by omega]; exact S2, by rw [ed2, c0, c1]; congr 1; omega⟩
      simp [kbRun, e1, e2]
    · have c0 : List.count (0 : Int) (1 :: hs) = hs.count 0 := by simp
      have c1 : List.count (1 : Int) (1 :: hs) = hs.count 1 + 1 := by simp
      rw [c0] at h0; rw [c1] at h1
      obtain ⟨s1, e1, S1, ed1⟩ := kb_step_ok (h := 1) S ed (by omega) (by simp; omega)
      obtain ⟨s2, e2, S2, ed2⟩ := kb_run_ok hs S1 (by simpa using ed1) ht (by omega) (by omega)
      refine ⟨s2, ?_, by rw [List.length_cons, show m + (hs.length + 1) = m + 1 + hs.length by omega]; exact S2, by rw [ed2, c0, c1]; congr 2; omega⟩
      simp [kbRun, e1, e2]
theorem kb_init (r : Nat) (x y : Int) : KbOk r 0 ⟨[.int x, .int y], [0, 0], List.replicate r [.non, .non]⟩ :=
  ⟨⟨_, _, rfl, trivial, trivial⟩, by simp, fun c hc => ⟨_, _, (List.mem_replicate.mp hc).2, trivial, trivial⟩⟩
theorem kbOut_kn {r m : Nat} {s : KB} (S : KbOk r m s) (h : Nat) : Kn m (kbOut r s h) := by
  obtain ⟨a, b, ek, ka, kb⟩ := S.ks
  have non : Kn m .non := by cases m <;> trivial
  unfold kbOut
  split
  · rw [ek]
    match h with
    | 0 => exact ka
    | 1 => exact kb
    | h + 2 => exact non
  · exact non
end DL

namespace DL
open PySem L2
inductive Spt (x y : Int) : D → Nat → Nat → Int → Bool → Bool → Prop
  | base0 : 0 ≤ x → Spt x y (.int x) 0 0 0 true false
  | base1 : 0 ≤ y → Spt x y (.int y) 1 0 1 false true
  | lone {a : D} {h r : Nat} {m : Int} {f g : Bool} : Spt x y a h r m f g → Spt x y (.tup [a, .non]) h (r + 1) (3 * m) f g
  | see {a b : D} {h r : Nat} {m m' : Int} {f g f' g' : Bool} : h ≤ 1 → Spt x y a h r m f g → Spt x y b (1 - h) r m' f' g' → (m' - m = 1 ∨ m - m' = 1) → Spt x y (.tup [a, b]) h (r + 1) (3 * m + 2 * (m' - m)) (f || f') (g || g')
theorem Spt.hand {x y : Int} {d : D} {h r : Nat} {m : Int} {f g : Bool} (S : Spt x y d h r m f g) : h ≤ 1 := by
  induction S with
  | base0 _ => omega
  | base1 _ => omega
  | lone _ ih => exact ih
  | see hh _ _ _ _ _ => exact hh
theorem Spt.mir {x y : Int} {d : D} {h r : Nat} {m : Int} {f g : Bool} (S : Spt x y d h r m f g) : Spt y x d (1 - h) r (3 ^ r - m) g f := by
  induction S with
  | base0 hx => exact .base1 hx
  | base1 hy => exact .base0 hy
  | @lone a h r m f g _ ih =>
    have := Spt.lone ih
    rw [show (3 : Int) * (3 ^ r - m) = 3 ^ (r + 1) - 3 * m by rw [Int.pow_succ]; omega] at this
    exact this
  | @see a b h r m m' f g f' g' hh _ _ hn ih1 ih2 =>
    have := Spt.see (by omega) ih1 ih2 (by omega)
    rw [show (3 : Int) * (3 ^ r - m) + 2 * (3 ^ r - m' - (3 ^ r - m)) = 3 ^ (r + 1) - (3 * m + 2 * (m' - m)) by rw [Int.pow_succ]; omega] at this
    exact this
theorem Spt.notNon {x y : Int} {d : D} {h r : Nat} {m : Int} {f g : Bool} (S : Spt x y d h r m f g) : d ≠ .non := by
  cases S <;> simp
structure Et where
  d : D
  m : Int
  f : Bool
def Lone (e e' : Et) : Prop := e'.d = .tup [e.d, .non] ∧ e'.m = 3 * e.m ∧ e'.f = e.f
def See (e g e' : Et) : Prop := e'.d = .tup [e.d, g.d] ∧ e'.m = 3 * e.m + 2 * (g.m - e.m) ∧ e'.f = true
def cellOf (A : List Et) (d j : Nat) : D := if 2 * j < d then ((A[j]?).map (·.d)).getD .non else .non
structure Hist (x y : Int) (r d0 d1 : Nat) (A B : List Et) (s : KB) : Prop where
  ds : s.ds = [d0, d1]
  la : A.length = d0 / 2 + 1
  lb : B.length = d1 / 2 + 1
  ks : ∃ e g, A[d0 / 2]? = some e ∧ B[d1 / 2]? = some g ∧ s.ks = [e.d, g.d]
  cl : s.cs.length = r
  cs : ∀ j, j < r → s.cs[j]? = some [cellOf A d0 j, cellOf B d1 j]
  ga : ∀ (j : Nat) e, A[j]? = some e → Spt x y e.d 0 j e.m true e.f
  gb : ∀ (j : Nat) e, B[j]? = some e → Spt x y e.d 1 j e.m e.f true
  nb : ∀ (j : Nat) e g, A[j]? = some e → B[j]? = some g → g.m - e.m = 1 ∨ e.m - g.m = 1
  sa : ∀ (j : Nat) e e', A[j]? = some e → A[j + 1]? = some e' → Lone e e' ∨ ∃ g, B[j]? = some g ∧ See e g e'
  sb : ∀ (j : Nat) e e', B[j]? = some e → B[j + 1]? = some e' → Lone e e' ∨ ∃ g, A[j]? = some g ∧ See e g e'
theorem hist_init {x y : Int} (hx : 0 ≤ x) (hy : 0 ≤ y) (r : Nat) : Hist x y r 0 0 [⟨.int x, 0, false⟩] [⟨.int y, 1, false⟩] ⟨[.int x, .int y], [0, 0], List.replicate r [.non, .non]⟩ where
  ds := rfl
  la := rfl
  lb := rfl
  ks := ⟨_, _, rfl, rfl, rfl⟩
  cl := by simp
  cs := fun j hj => by simp [cellOf, hj]
  ga := fun j e h => by
    match j, h with
    | 0, h => cases h; exact .base0 hx
    | j + 1, h => simp at h
  gb := fun j e h => by
    match j, h with
    | 0, h => cases h; exact .base1 hy
    | j + 1, h => simp at h
  nb := fun j e g h1 h2 => by
    match j, h1 with
    | 0, h1 => cases h1; cases h2; exact .inl rfl
    | j + 1, h1 => simp at h1
  sa := fun j e e' h1 h2 => by simp at h2
  sb := fun j e e' h1 h2 => by simp at h2
theorem cellOf_snoc (A : List Et) (e : Et) (d j : Nat) (hl : A.length = d / 2 + 1) (ho : d % 2 = 1) : cellOf (A ++ [e]) (d + 1) j = cellOf A d j := by
  unfold cellOf
  by_cases h : 2 * j < d
  · rw [if_pos h, if_pos (by omega), List.getElem?_append_left (by omega)]
  · rw [if_neg h, if_neg (by omega)]
theorem cellOf_even (A : List Et) (d j : Nat) (he : d % 2 = 0) (hj : j ≠ d / 2) : cellOf A (d + 1) j = cellOf A d j := by
  unfold cellOf
  by_cases h : 2 * j < d
  · rw [if_pos h, if_pos (by omega)]
  · rw [if_neg h, if_neg (by omega)]
theorem snoc_get {α : Type} {A : List α} {e e' : α} {j : Nat} (h : (A ++ [e])[j]? = some e') : (j < A.length ∧ A[j]? = some e') ∨ (j = A.length ∧ e' = e) := by
  by_cases hj : j < A.length
  · rw [List.getElem?_append_left hj] at h; exact .inl ⟨hj, h⟩
  · have : j = A.length := by
      have := (List.getElem?_eq_some_iff.mp h).1
      simp at this; omega
    subst this
    simp at h; exact .inr ⟨rfl, h.symm⟩
theorem snoc_left {α : Type} {A : List α} {e e' : α} {j : Nat} (h : A[j]? = some e') : (A ++ [e])[j]? = some e' := by
  rw [List.getElem?_append_left (List.getElem?_eq_some_iff.mp h).1]; exact h
theorem get_lt {α : Type} {A : List α} {j : Nat} {e : α} (h : A[j]? = some e) : j < A.length := (List.getElem?_eq_some_iff.mp h).1
section
variable {x y : Int} {r d0 d1 : Nat} {A B : List Et} {s : KB}
theorem hist_put0 (S : Hist x y r d0 d1 A B s) (hd : d0 < 2 * r) (ev : d0 % 2 = 0) : ∃ s', kbStep s 0 = some s' ∧ Hist x y r (d0 + 1) d1 A B s' := by
  obtain ⟨e, g, ea, eb, ek⟩ := S.ks
  have hc := S.cs (d0 / 2) (by omega)
  refine ⟨⟨s.ks, [d0 + 1, d1], s.cs.set (d0 / 2) [e.d, cellOf B d1 (d0 / 2)]⟩, by simp [kbStep, S.ds, ek, hc, ev], ?_⟩
  refine ⟨rfl, by rw [S.la]; omega, S.lb, ⟨e, g, by rw [show (d0 + 1) / 2 = d0 / 2 by omega]; exact ea, eb, ek⟩, by simp [S.cl], fun j hj => ?_, S.ga, S.gb, S.nb, S.sa, S.sb⟩
  by_cases h : j = d0 / 2
  · subst h
    have : cellOf A (d0 + 1) (d0 / 2) = e.d := by unfold cellOf; rw [if_pos (by omega), ea]; rfl
    rw [this]; simp [S.cl, hj]
  · show (s.cs.set (d0 / 2) _)[j]? = _
    rw [List.getElem?_set_ne (fun z => h z.symm), cellOf_even A d0 j ev h]
    exact S.cs j hj
theorem hist_look0 (S : Hist x y r d0 d1 A B s) (hd : d0 < 2 * r) (od : d0 % 2 = 1) : ∃ s' e', kbStep s 0 = some s' ∧ Hist x y r (d0 + 1) d1 (A ++ [e']) B s' := by
  obtain ⟨e, g, ea, eb, ek⟩ := S.ks
  have hc := S.cs (d0 / 2) (by omega)
  have od' : ¬ d0 % 2 = 0 := by omega
  obtain ⟨e', hd', hm', hs', hsp⟩ : ∃ e' : Et, e'.d = .tup [e.d, cellOf B d1 (d0 / 2)] ∧ (∀ q, B[d0 / 2 + 1]? = some q → q.m - e'.m = 1 ∨ e'.m - q.m = 1) ∧ (Lone e e' ∨ ∃ q, B[d0 / 2]? = some q ∧ See e q e') ∧ Spt x y e'.d 0 (d0 / 2 + 1) e'.m true e'.f := by
    by_cases hb : 2 * (d0 / 2) < d1
    · have hl : d0 / 2 < B.length := by rw [S.lb]; omega
      have eg := List.getElem?_eq_getElem hl
      generalize B[d0 / 2] = q at eg
      have hn := S.nb _ _ _ ea eg
      have h1 := S.ga _ _ ea
      have h2 := S.gb _ _ eg
      have ec : cellOf B d1 (d0 / 2) = q.d := by unfold cellOf; rw [if_pos hb, eg]; rfl
      refine ⟨⟨.tup [e.d, q.d], 3 * e.m + 2 * (q.m - e.m), true⟩, by rw [ec], fun q' hq => ?_, .inr ⟨q, eg, rfl, rfl, rfl⟩, ?_⟩
      · rcases S.sb _ _ _ eg hq with ⟨_, z, _⟩ | ⟨w, ew, _, z, _⟩
        · rw [z]; dsimp only; omega
        · rw [ea] at ew; cases ew
          rw [z]; dsimp only; omega
      · have := Spt.see (by omega) h1 h2 hn
        simpa using this
    · have ec : cellOf B d1 (d0 / 2) = .non := by unfold cellOf; rw [if_neg hb]
      refine ⟨⟨.tup [e.d, .non], 3 * e.m, e.f⟩, by rw [ec], fun q' hq => ?_, .inl ⟨rfl, rfl, rfl⟩, .lone (S.ga _ _ ea)⟩
      have := get_lt hq
      rw [S.lb] at this; omega
  refine ⟨⟨[e'.d, g.d], [d0 + 1, d1], s.cs⟩, e', by simp [kbStep, S.ds, ek, hc, od', hd'], ?_⟩
  have e2 : (d0 + 1) / 2 = d0 / 2 + 1 := by omega
  have la := S.la
  refine ⟨rfl, by simp [la]; omega, S.lb, ⟨e', g, by rw [e2, ← la]; simp, eb, rfl⟩, S.cl, fun j hj => by rw [cellOf_snoc A e' d0 j la od]; exact S.cs j hj, fun j u hu => ?_, S.gb, fun j u v hu hv => ?_, fun j u u' hu hu' => ?_, fun j u u' hu hu' => ?_⟩
  · rcases snoc_get hu with ⟨_, h⟩ | ⟨rfl, rfl⟩
    · exact S.ga j u h
    · rw [la]; exact hsp
  · rcases snoc_get hu with ⟨_, h⟩ | ⟨rfl, rfl⟩
    · exact S.nb j u v h hv
    · rw [la] at hv; exact hm' v hv
  · rcases snoc_get hu' with ⟨h1, h⟩ | ⟨h1, rfl⟩
    · rcases snoc_get hu with ⟨_, h'⟩ | ⟨z, _⟩
      · exact S.sa j u u' h' h
      · omega
    · have : j = d0 / 2 := by omega
      subst this
      rcases snoc_get hu with ⟨_, h'⟩ | ⟨z, _⟩
      · rw [ea] at h'; cases h'; exact hs'
      · omega
  · rcases S.sb j u u' hu hu' with h | ⟨q, h1, h2⟩
    · exact .inl h
    · exact .inr ⟨q, snoc_left h1, h2⟩
theorem hist_put1 (S : Hist x y r d0 d1 A B s) (hd : d1 < 2 * r) (ev : d1 % 2 = 0) : ∃ s', kbStep s 1 = some s' ∧ Hist x y r d0 (d1 + 1) A B s' := by
  obtain ⟨g, e, eb, ea, ek⟩ := S.ks
  have hc := S.cs (d1 / 2) (by omega)
  refine ⟨⟨s.ks, [d0, d1 + 1], s.cs.set (d1 / 2) [cellOf A d0 (d1 / 2), e.d]⟩, by simp [kbStep, S.ds, ek, hc, ev], ?_⟩
  refine ⟨rfl, S.la, by rw [S.lb]; omega, ⟨g, e, eb, by rw [show (d1 + 1) / 2 = d1 / 2 by omega]; exact ea, ek⟩, by simp [S.cl], fun j hj => ?_, S.ga, S.gb, S.nb, S.sa, S.sb⟩
  by_cases h : j = d1 / 2
  · subst h
    have : cellOf B (d1 + 1) (d1 / 2) = e.d := by unfold cellOf; rw [if_pos (by omega), ea]; rfl
    rw [this]; simp [S.cl, hj]
  · show (s.cs.set (d1 / 2) _)[j]? = _
    rw [List.getElem?_set_ne (fun z => h z.symm), cellOf_even B d1 j ev h]
    exact S.cs j hj
theorem hist_look1 (S : Hist x y r d0 d1 A B s) (hd : d1 < 2 * r) (od : d1 % 2 = 1) : ∃ s' e', kbStep s 1 = some s' ∧ Hist x y r d0 (d1 + 1) A (B ++ [e']) s' := by
  obtain ⟨g, e, eb, ea, ek⟩ := S.ks
  have hc := S.cs (d1 / 2) (by omega)
  have od' : ¬ d1 % 2 = 0 := by omega
  obtain ⟨e', hd', hm', hs', hsp⟩ : ∃ e' : Et, e'.d = .tup [e.d, cellOf A d0 (d1 / 2)] ∧ (∀ q, A[d1 / 2 + 1]? = some q → q.m - e'.m = 1 ∨ e'.m - q.m = 1) ∧ (Lone e e' ∨ ∃ q, A[d1 / 2]? = some q ∧ See e q e') ∧ Spt x y e'.d 1 (d1 / 2 + 1) e'.m e'.f true := by
    by_cases hb : 2 * (d1 / 2) < d0
    · have hl : d1 / 2 < A.length := by rw [S.la]; omega
      have eg := List.getElem?_eq_getElem hl
      generalize A[d1 / 2] = q at eg
      have hn := S.nb _ _ _ eg ea
      have h1 := S.gb _ _ ea
      have h2 := S.ga _ _ eg
      have ec : cellOf A d0 (d1 / 2) = q.d := by unfold cellOf; rw [if_pos hb, eg]; rfl
      refine ⟨⟨.tup [e.d, q.d], 3 * e.m + 2 * (q.m - e.m), true⟩, by rw [ec], fun q' hq => ?_, .inr ⟨q, eg, rfl, rfl, rfl⟩, ?_⟩
      · rcases S.sa _ _ _ eg hq with ⟨_, z, _⟩ | ⟨w, ew, _, z, _⟩
        · rw [z]; dsimp only; omega
        · rw [ea] at ew; cases ew
          rw [z]; dsimp only; omega
      · have := Spt.see (by omega) h1 h2 (by omega)
        simpa using this
    · have ec : cellOf A d0 (d1 / 2) = .non := by unfold cellOf; rw [if_neg hb]
      refine ⟨⟨.tup [e.d, .non], 3 * e.m, e.f⟩, by rw [ec], fun q' hq => ?_, .inl ⟨rfl, rfl, rfl⟩, .lone (S.gb _ _ ea)⟩
      have := get_lt hq
      rw [S.la] at this; omega
  refine ⟨⟨[g.d, e'.d], [d0, d1 + 1], s.cs⟩, e', by simp [kbStep, S.ds, ek, hc, od', hd'], ?_⟩
  have e2 : (d1 + 1) / 2 = d1 / 2 + 1 := by omega
  have lb := S.lb
  refine ⟨rfl, S.la, by simp [lb]; omega, ⟨g, e', eb, by rw [e2, ← lb]; simp, rfl⟩, S.cl, fun j hj => by rw [cellOf_snoc B e' d1 j lb od]; exact S.cs j hj, S.ga, fun j u hu => ?_, fun j v u hv hu => ?_, fun j u u' hu hu' => ?_, fun j u u' hu hu' => ?_⟩
  · rcases snoc_get hu with ⟨_, h⟩ | ⟨rfl, rfl⟩
    · exact S.gb j u h
    · rw [lb]; exact hsp
  · rcases snoc_get hu with ⟨_, h⟩ | ⟨rfl, rfl⟩
    · exact S.nb j v u hv h
    · rw [lb] at hv; have := hm' v hv; omega
  · rcases S.sa j u u' hu hu' with h | ⟨q, h1, h2⟩
    · exact .inl h
    · exact .inr ⟨q, snoc_left h1, h2⟩
  · rcases snoc_get hu' with ⟨h1, h⟩ | ⟨h1, rfl⟩
    · rcases snoc_get hu with ⟨_, h'⟩ | ⟨z, _⟩
      · exact S.sb j u u' h' h
      · omega
    · have : j = d1 / 2 := by omega
      subst this
      rcases snoc_get hu with ⟨_, h'⟩ | ⟨z, _⟩
      · rw [ea] at h'; cases h'; exact hs'
      · omega
end
/-- the histories of a weaving -/
theorem hist_run {x y : Int} {r : Nat} : ∀ (hs : List Int) {s : KB} {d0 d1 : Nat} {A B : List Et}, Hist x y r d0 d1 A B s → Hands hs → d0 + hs.count 0 ≤ 2 * r → d1 + hs.count 1 ≤ 2 * r →
    ∃ s' A' B', kbRun (hs.map D.int) s = some s' ∧ Hist x y r (d0 + hs.count 0) (d1 + hs.count 1) A' B' s' ∧ (∃ A2, A' = A ++ A2) ∧ ∃ B2, B' = B ++ B2
  | [], s, d0, d1, A, B, S, _, _, _ => ⟨s, A, B, rfl, S, ⟨[], by simp⟩, [], by simp⟩
  | h :: hs, s, d0, d1, A, B, S, hh, h0, h1 => by
    obtain ⟨g0, g1⟩ := hh h List.mem_cons_self
    have ht : Hands hs := fun x hx => hh x (List.mem_cons_of_mem _ hx)
    have : h = 0 ∨ h = 1 := by omega
    rcases this with rfl | rfl
    · have c0 : List.count (0 : Int) (0 :: hs) = hs.count 0 + 1 := by simp
      have c1 : List.count (1 : Int) (0 :: hs) = hs.count 1 := by simp
      rw [c0] at h0; rw [c1] at h1
      obtain ⟨s1, A1, e1, S1, eA⟩ : ∃ s1 A1, kbStep s 0 = some s1 ∧ Hist x y r (d0 + 1) d1 A1 B s1 ∧ ∃ A2, A1 = A ++ A2 := by
        by_cases ev : d0 % 2 = 0
        · obtain ⟨s1, e1, S1⟩ := hist_put0 S (by omega) ev
          exact ⟨s1, A, e1, S1, [], by simp⟩
        · obtain ⟨s1, e', e1, S1⟩ := hist_look0 S (by omega) (by omega)
          exact ⟨s1, _, e1, S1, [e'], rfl⟩
      obtain ⟨s2, A', B', e2, S2, ⟨A3, eA3⟩, eB⟩ := hist_run hs S1 ht (by omega) (by omega)
      refine ⟨s2, A', B', by simp [kbRun, e1, e2], by rw [c0, c1, show d0 + (hs.count 0 + 1) = d0 + 1 + hs.count 0 by omega]; exact S2, ?_, eB⟩
      obtain ⟨A2, eA⟩ := eA
      exact ⟨A2 ++ A3, by rw [eA3, eA, List.append_assoc]⟩
    · have c0 : List.count (0 : Int) (1 :: hs) = hs.count 0 := by simp
      have c1 : List.count (1 : Int) (1 :: hs) = hs.count 1 + 1 := by simp
      rw [c0] at h0; rw [c1] at h1
      obtain ⟨s1, B1, e1, S1, eB⟩ : ∃ s1 B1, kbStep s 1 = some s1 ∧ Hist x y r d0 (d1 + 1) A B1 s1 ∧ ∃ B2, B1 = B ++ B2 := by
        by_cases ev : d1 % 2 = 0
        · obtain ⟨s1, e1, S1⟩ := hist_put1 S (by omega) ev
          exact ⟨s1, B, e1, S1, [], by simp⟩
        · obtain ⟨s1, e', e1, S1⟩ := hist_look1 S (by omega) (by omega)
          exact ⟨s1, _, e1, S1, [e'], rfl⟩
      obtain ⟨s2, A', B', e2, S2, eA, ⟨B3, eB3⟩⟩ := hist_run hs S1 ht (by omega) (by omega)
      refine ⟨s2, A', B', by simp [kbRun, e1, e2], by rw [c0, c1, show d1 + (hs.count 1 + 1) = d1 + 1 + hs.count 1 by omega]; exact S2, eA, ?_⟩
      obtain ⟨B2, eB⟩ := eB
      exact ⟨B2 ++ B3, by rw [eB3, eB, List.append_assoc]⟩
end DL

namespace DL
open PySem L2
def KB.mir (s : KB) : KB := ⟨s.ks.reverse, s.ds.reverse, s.cs.map List.reverse⟩
theorem kb_cell {r m : Nat} {s : KB} (S : KbOk r m s) {d : Nat} (hd : d < 2 * r) : ∃ x y, s.cs[d / 2]? = some [x, y] := by
  have hl : d / 2 < s.cs.length := by rw [S.cl]; omega
  obtain ⟨x, y, e, _, _⟩ := S.cs _ (List.getElem_mem hl)
  exact ⟨x, y, by rw [List.getElem?_eq_getElem hl, e]⟩
theorem kb_mir_step {r m : Nat} {s : KB} {h d0 d1 : Nat} (S : KbOk r m s) (ed : s.ds = [d0, d1]) (hh : h ≤ 1) (hd : (if h = 0 then d0 else d1) < 2 * r) : kbStep s.mir (1 - h) = (kbStep s h).map KB.mir := by
  obtain ⟨a, b, ek, _, _⟩ := S.ks
  have : h = 0 ∨ h = 1 := by omega
  rcases this with rfl | rfl
  · obtain ⟨x, y, ec⟩ := kb_cell S (d := d0) (by simpa using hd)
    have ec' : (s.cs.map List.reverse)[d0 / 2]? = some [y, x] := by rw [List.getElem?_map, ec]; rfl
    by_cases ev : d0 % 2 = 0
    · simp [kbStep, KB.mir, ed, ek, ec, ev, List.map_set]
    · simp [kbStep, KB.mir, ed, ek, ec, ev]
  · obtain ⟨x, y, ec⟩ := kb_cell S (d := d1) (by simpa using hd)
    by_cases ev : d1 % 2 = 0
    · simp [kbStep, KB.mir, ed, ek, ec, ev, List.map_set]
    · simp [kbStep, KB.mir, ed, ek, ec, ev]
theorem kb_mir_run {r : Nat} : ∀ (hs : List Int) {m : Nat} {s : KB} {d0 d1 : Nat}, KbOk r m s → s.ds = [d0, d1] → Hands hs → d0 + hs.count 0 ≤ 2 * r → d1 + hs.count 1 ≤ 2 * r →
    kbRun ((hs.map fun h => 1 - h).map D.int) s.mir = (kbRun (hs.map D.int) s).map KB.mir
  | [], m, s, d0, d1, S, ed, _, _, _ => rfl
  | h :: hs, m, s, d0, d1, S, ed, hh, h0, h1 => by
    obtain ⟨g0, g1⟩ := hh h List.mem_cons_self
    have ht : Hands hs := fun x hx => hh x (List.mem_cons_of_mem _ hx)
    have : h = 0 ∨ h = 1 := by omega
    rcases this with rfl | rfl
    · have c0 : List.count (0 : Int) (0 :: hs) = hs.count 0 + 1 := by simp
      have c1 : List.count (1 : Int) (0 :: hs) = hs.count 1 := by simp
      rw [c0] at h0; rw [c1] at h1
      obtain ⟨s1, e1, S1, ed1⟩ := kb_step_ok (h := 0) S ed (by omega) (by simp; omega)
      have e2 := kb_mir_step (h := 0) S ed (by omega) (by simp; omega)
      rw [e1] at e2
      have ih := kb_mir_run hs S1 (by simpa using ed1) ht (by omega) (by omega)
      have e2' : kbStep s.mir 1 = some s1.mir := e2
      simpa [kbRun, e1, e2'] using ih
    · have c0 : List.count (0 : Int) (1 :: hs) = hs.count 0 := by simp
      have c1 : List.count (1 : Int) (1 :: hs) = hs.count 1 + 1 := by simp
      rw [c0] at h0; rw [c1] at h1
      obtain ⟨s1, e1, S1, ed1⟩ := kb_step_ok (h := 1) S ed (by omega) (by simp; omega)
      have e2 := kb_mir_step (h := 1) S ed (by omega) (by simp; omega)
      rw [e1] at e2
      have ih := kb_mir_run hs S1 (by simpa using ed1) ht (by omega) (by omega)
      have e2' : kbStep s.mir 0 = some s1.mir := e2
      simpa [kbRun, e1, e2'] using ih
theorem kb_mir_out {r m : Nat} {s : KB} {d0 d1 : Nat} (S : KbOk r m s) (ed : s.ds = [d0, d1]) : kbOut r s.mir 0 = kbOut r s 1 ∧ kbOut r s.mir 1 = kbOut r s 0 := by
  obtain ⟨a, b, ek, _, _⟩ := S.ks
  constructor <;> simp [kbOut, KB.mir, ed, ek]
/-- two steps of unlike hands that both put, or both look, or of unlike rounds -/
theorem kb_comm {r m : Nat} {s : KB} {d0 d1 : Nat} (S : KbOk r m s) (ed : s.ds = [d0, d1]) (h0 : d0 < 2 * r) (h1 : d1 < 2 * r) (hc : ¬ (d0 / 2 = d1 / 2 ∧ d0 % 2 ≠ d1 % 2)) :
    (kbStep s 0).bind (kbStep · 1) = (kbStep s 1).bind (kbStep · 0) := by
  obtain ⟨a, b, ek, _, _⟩ := S.ks
  obtain ⟨x0, y0, ec0⟩ := kb_cell S h0
  obtain ⟨x1, y1, ec1⟩ := kb_cell S h1
  have l0 : d0 / 2 < s.cs.length := by rw [S.cl]; omega
  have l1 : d1 / 2 < s.cs.length := by rw [S.cl]; omega
  by_cases e : d0 / 2 = d1 / 2
  · rw [e] at ec0 l0
    rw [ec1] at ec0
    simp only [Option.some.injEq, List.cons.injEq, and_true] at ec0
    obtain ⟨rfl, rfl⟩ := ec0
    have hp : d0 % 2 = d1 % 2 := by
      by_cases q : d0 % 2 = d1 % 2
      · exact q
      · exact absurd ⟨e, q⟩ hc
    by_cases ev : d1 % 2 = 0
    · have g1 : s.cs[d1 / 2]'l1 = [x1, y1] := by
        have := List.getElem?_eq_getElem l1
        rw [ec1] at this
        simpa using this.symm
      simp [kbStep, ed, ek, ec1, e, hp, ev, l1, g1]
    · simp [kbStep, ed, ek, ec1, e, hp, ev]
  · have e' : ¬ d1 / 2 = d0 / 2 := fun z => e z.symm
    by_cases ev0 : d0 % 2 = 0 <;> by_cases ev1 : d1 % 2 = 0
    · simp [kbStep, ed, ek, ec0, ec1, e, e', ev0, ev1, List.getElem?_set_ne, List.set_comm _ _ e]
    · simp [kbStep, ed, ek, ec0, ec1, e, e', ev0, ev1, List.getElem?_set_ne]
    · simp [kbStep, ed, ek, ec0, ec1, e, e', ev0, ev1, List.getElem?_set_ne]
    · simp [kbStep, ed, ek, ec0, ec1, e, e', ev0, ev1]
theorem kbRun_app : ∀ (hs ks : List D) (s : KB), kbRun (hs ++ ks) s = (kbRun hs s).bind (kbRun ks)
  | [], ks, s => rfl
  | .int h :: r, ks, s => by
    simp only [List.cons_append, kbRun]
    split
    · cases kbStep s h.toNat with
      | none => rfl
      | some s' => exact kbRun_app r ks s'
    · rfl
  | .non :: r, ks, s => rfl
  | .bl _ :: r, ks, s => rfl
  | .str _ :: r, ks, s => rfl
  | .opq _ :: r, ks, s => rfl
  | .tup _ :: r, ks, s => rfl
  | .lst _ :: r, ks, s => rfl
  | .frl _ :: r, ks, s => rfl
  | .frt _ :: r, ks, s => rfl
  | .dt _ :: r, ks, s => rfl
  | .dk _ :: r, ks, s => rfl
  | .obj _ _ :: r, ks, s => rfl
theorem kb_two (s : KB) (h k : Nat) (hh : h ≤ 1) (hk : k ≤ 1) : kbRun [.int (h : Int), .int (k : Int)] s = (kbStep s h).bind (kbStep · k) := by
  have a1 : (0 : Int) ≤ h ∧ (h : Int) ≤ 1 := by omega
  have a2 : (0 : Int) ≤ k ∧ (k : Int) ≤ 1 := by omega
  simp only [kbRun, if_pos a1, if_pos a2, Int.toNat_natCast]
  cases kbStep s h with
  | none => rfl
  | some s' =>
    show (match kbStep s' k with | some s' => some s' | none => none) = kbStep s' k
    cases kbStep s' k <;> rfl
/-- the same weaving with two of its steps exchanged -/
theorem kb_swap {r m : Nat} {s : KB} {d0 d1 : Nat} (S : KbOk r m s) (ed : s.ds = [d0, d1]) (h0 : d0 < 2 * r) (h1 : d1 < 2 * r) (hc : ¬ (d0 / 2 = d1 / 2 ∧ d0 % 2 ≠ d1 % 2)) (rest : List D) :
    kbRun (.int 0 :: .int 1 :: rest) s = kbRun (.int 1 :: .int 0 :: rest) s := by
  have e1 := kbRun_app [.int 0, .int 1] rest s
  have e2 := kbRun_app [.int 1, .int 0] rest s
  have k1 := kb_two s 0 1 (by omega) (by omega)
  have k2 := kb_two s 1 0 (by omega) (by omega)
  have k1' : kbRun [.int 0, .int 1] s = (kbStep s 0).bind (kbStep · 1) := k1
  have k2' : kbRun [.int 1, .int 0] s = (kbStep s 1).bind (kbStep · 0) := k2
  rw [k1', kb_comm S ed h0 h1 hc, ← k2'] at e1
  exact e1.trans e2.symm
end DL

namespace DL
open PySem L2
theorem kb_step_keep {s s' : KB} {h k : Nat} (e : kbStep s k = some s') (hk : h ≠ k) : s'.ks[h]? = s.ks[h]? ∧ s'.ds[h]? = s.ds[h]? := by
  unfold kbStep at e
  split at e
  · split at e
    · split at e
      · split at e
        · cases e; exact ⟨rfl, List.getElem?_set_ne (fun z => hk z.symm)⟩
        · cases e
      · split at e
        · cases e; exact ⟨List.getElem?_set_ne (fun z => hk z.symm), List.getElem?_set_ne (fun z => hk z.symm)⟩
        · cases e
    · cases e
  · cases e
/-- steps of the other hand alone change nothing of a hand -/
theorem kb_run_keep {h : Nat} : ∀ (hs : List Int) {s s' : KB}, kbRun (hs.map D.int) s = some s' → (h : Int) ∉ hs → s'.ks[h]? = s.ks[h]? ∧ s'.ds[h]? = s.ds[h]?
  | [], s, s', e, _ => by cases e; exact ⟨rfl, rfl⟩
  | k :: hs, s, s', e, hn => by
    rw [List.map_cons] at e
    simp only [kbRun] at e
    split at e
    · rename_i hk
      cases q : kbStep s k.toNat with
      | none => rw [q] at e; cases e
      | some s1 =>
        rw [q] at e
        have ne : h ≠ k.toNat := fun z => hn (by rw [z]; simp [Int.toNat_of_nonneg hk.1])
        obtain ⟨h1, h2⟩ := kb_step_keep q ne
        obtain ⟨g1, g2⟩ := kb_run_keep hs e fun z => hn (List.mem_cons_of_mem _ z)
        exact ⟨g1.trans h1, g2.trans h2⟩
    · cases e
theorem kbOut_of {r : Nat} {s s' : KB} {h : Nat} (h1 : s'.ks[h]? = s.ks[h]?) (h2 : s'.ds[h]? = s.ds[h]?) : kbOut r s' h = kbOut r s h := by
  unfold kbOut
  rw [h2, List.getD_eq_getElem?_getD, List.getD_eq_getElem?_getD, h1]
/-- what a hand knows that saw nothing -/
def towerD (z : Int) : Nat → D
  | 0 => .int z
  | n + 1 => .tup [towerD z n, .non]
theorem tower0 {x y : Int} (hx : 0 ≤ x) : ∀ n : Nat, Spt x y (towerD x n) 0 n 0 true false
  | 0 => .base0 hx
  | n + 1 => by have := (tower0 hx n).lone (y := y); simpa [towerD] using this
theorem tower1 {x y : Int} (hy : 0 ≤ y) : ∀ n : Nat, Spt x y (towerD y n) 1 n (3 ^ n) false true
  | 0 => .base1 hy
  | n + 1 => by
    have := (tower1 hy n).lone (x := x)
    rw [show (3 : Int) * 3 ^ n = 3 ^ (n + 1) by rw [Int.pow_succ]; omega] at this
    exact this
theorem tower_ne (z : Int) (n : Nat) : towerD z n ≠ .non := by cases n <;> simp [towerD]
theorem rep2 {α : Type} (k : Nat) (d : α) : List.replicate (2 * (k + 1)) d = List.replicate (2 * k) d ++ [d, d] := by
  rw [show 2 * (k + 1) = 2 * k + 2 by omega, ← List.replicate_append_replicate]; rfl
theorem lone_run0 (x y : Int) (r : Nat) : ∀ k : Nat, k ≤ r → ∃ cs, kbRun (List.replicate (2 * k) (.int 0)) ⟨[.int x, .int y], [0, 0], List.replicate r [.non, .non]⟩ = some ⟨[towerD x k, .int y], [2 * k, 0], cs⟩ ∧ cs.length = r ∧ ∀ j, j < r → ∃ u, cs[j]? = some [u, .non]
  | 0, _ => ⟨_, rfl, by simp, fun j hj => ⟨.non, by simp [hj]⟩⟩
  | k + 1, hk => by
    obtain ⟨cs, e, hl, hc⟩ := lone_run0 x y r k (by omega)
    obtain ⟨u, eu⟩ := hc k (by omega)
    have e1 : kbStep ⟨[towerD x k, .int y], [2 * k, 0], cs⟩ 0 = some ⟨[towerD x k, .int y], [2 * k + 1, 0], cs.set k [towerD x k, .non]⟩ := by
      simp [kbStep, eu]
    have e2 : kbStep ⟨[towerD x k, .int y], [2 * k + 1, 0], cs.set k [towerD x k, .non]⟩ 0 = some ⟨[towerD x (k + 1), .int y], [2 * k + 2, 0], cs.set k [towerD x k, .non]⟩ := by
      have q : (2 * k + 1) / 2 = k := by omega
      have q2 : (2 * k + 1) % 2 = 1 := by omega
      simp [kbStep, q, q2, towerD, hl, (by omega : k < r)]
    have e3 := kb_two ⟨[towerD x k, .int y], [2 * k, 0], cs⟩ 0 0 (by omega) (by omega)
    refine ⟨cs.set k [towerD x k, .non], ?_, by simp [hl], fun j hj => ?_⟩
    · rw [rep2, kbRun_app, e]
      show kbRun [.int ((0 : Nat) : Int), .int ((0 : Nat) : Int)] _ = _
      rw [e3, e1]
      exact e2
    · by_cases h : j = k
      · subst h; exact ⟨towerD x j, by simp [hl, hj]⟩
      · rw [List.getElem?_set_ne (fun z => h z.symm)]; exact hc j hj
theorem lone_run1 (x y : Int) (r : Nat) : ∀ k : Nat, k ≤ r → ∃ cs, kbRun (List.replicate (2 * k) (.int 1)) ⟨[.int x, .int y], [0, 0], List.replicate r [.non, .non]⟩ = some ⟨[.int x, towerD y k], [0, 2 * k], cs⟩ ∧ cs.length = r ∧ ∀ j, j < r → ∃ u, cs[j]? = some [.non, u]
  | 0, _ => ⟨_, rfl, by simp, fun j hj => ⟨.non, by simp [hj]⟩⟩
  | k + 1, hk => by
    obtain ⟨cs, e, hl, hc⟩ := lone_run1 x y r k (by omega)
    obtain ⟨u, eu⟩ := hc k (by omega)
    have e1 : kbStep ⟨[.int x, towerD y k], [0, 2 * k], cs⟩ 1 = some ⟨[.int x, towerD y k], [0, 2 * k + 1], cs.set k [.non, towerD y k]⟩ := by
      simp [kbStep, eu]
    have e2 : kbStep ⟨[.int x, towerD y k], [0, 2 * k + 1], cs.set k [.non, towerD y k]⟩ 1 = some ⟨[.int x, towerD y (k + 1)], [0, 2 * k + 2], cs.set k [.non, towerD y k]⟩ := by
      have q : (2 * k + 1) / 2 = k := by omega
      have q2 : (2 * k + 1) % 2 = 1 := by omega
      simp [kbStep, q, q2, towerD, hl, (by omega : k < r)]
    have e3 := kb_two ⟨[.int x, towerD y k], [0, 2 * k], cs⟩ 1 1 (by omega) (by omega)
    refine ⟨cs.set k [.non, towerD y k], ?_, by simp [hl], fun j hj => ?_⟩
    · rw [rep2, kbRun_app, e]
      show kbRun [.int ((1 : Nat) : Int), .int ((1 : Nat) : Int)] _ = _
      rw [e3, e1]
      exact e2
    · by_cases h : j = k
      · subst h; exact ⟨towerD y j, by simp [hl, hj]⟩
      · rw [List.getElem?_set_ne (fun z => h z.symm)]; exact hc j hj
end DL

namespace DL
open PySem L2
abbrev ini (r : Nat) (x y : Int) : KB := ⟨[.int x, .int y], [0, 0], List.replicate r [.non, .non]⟩
theorem run_all {r : Nat} {x y : Int} (hx : 0 ≤ x) (hy : 0 ≤ y) {hs : List Int} (hh : Hands hs) (c0 : hs.count 0 ≤ 2 * r) (c1 : hs.count 1 ≤ 2 * r) :
    ∃ s A B, kbRun (hs.map D.int) (ini r x y) = some s ∧ KbOk r hs.length s ∧ s.ds = [hs.count 0, hs.count 1] ∧ Hist x y r (hs.count 0) (hs.count 1) A B s := by
  obtain ⟨s, A, B, k1, S, _⟩ := hist_run (r := r) hs (hist_init hx hy r) hh (by omega) (by omega)
  obtain ⟨s2, k2, S2, _⟩ := kb_run_ok (r := r) hs (kb_init r x y) rfl hh (by omega) (by omega)
  have : some s2 = some s := k2.symm.trans k1
  cases this
  rw [Nat.zero_add] at S2
  rw [Nat.zero_add, Nat.zero_add] at S
  exact ⟨s, A, B, k1, S2, S.ds, S⟩
theorem out_lt {r : Nat} {s : KB} {c0 c1 h : Nat} (ed : s.ds = [c0, c1]) (hh : h ≤ 1) (hn : (if h = 0 then c0 else c1) ≠ 2 * r) : kbOut r s h = .non := by
  unfold kbOut
  rw [ed]
  have : h = 0 ∨ h = 1 := by omega
  rcases this with rfl | rfl
  · rw [if_neg]; simpa using hn
  · rw [if_neg]; simpa using hn
theorem out_full {x y : Int} {r c0 c1 : Nat} {A B : List Et} {s : KB} (S : Hist x y r c0 c1 A B s) {h : Nat} (hh : h ≤ 1) (hf : (if h = 0 then c0 else c1) = 2 * r) : ∃ m f g, Spt x y (kbOut r s h) h r m f g := by
  obtain ⟨e, g, ea, eb, ek⟩ := S.ks
  unfold kbOut
  rw [S.ds, ek]
  have : h = 0 ∨ h = 1 := by omega
  rcases this with rfl | rfl
  · have e0 : c0 = 2 * r := by simpa using hf
    subst e0
    rw [if_pos (show [2 * r, c1][0]? = some (2 * r) from rfl)]
    have := S.ga _ _ ea
    rw [show 2 * r / 2 = r by omega] at this
    exact ⟨_, _, _, this⟩
  · have e0 : c1 = 2 * r := by simpa using hf
    subst e0
    rw [if_pos (show [c0, 2 * r][1]? = some (2 * r) from rfl)]
    have := S.gb _ _ eb
    rw [show 2 * r / 2 = r by omega] at this
    exact ⟨_, _, _, this⟩
theorem Spt.shape {x y : Int} {d : D} {h r : Nat} {m : Int} {f g : Bool} (S : Spt x y d h r m f g) : (∃ i, d = .int i) ∨ ∃ l, d = .tup l := by
  cases S with
  | base0 _ => exact .inl ⟨_, rfl⟩
  | base1 _ => exact .inl ⟨_, rfl⟩
  | lone _ => exact .inr ⟨_, rfl⟩
  | see _ _ _ _ => exact .inr ⟨_, rfl⟩
theorem Kn.eq {n : Nat} {d : D} (h : Kn n d) (hn : n ≤ 60) : eqD d d = some true := by
  obtain ⟨p, h1, h2, h3⟩ := h.py
  exact eqD_self h1 h2 (by omega)
/-- a known thing that is something is no None -/
theorem Kn.some_py {n : Nat} {d : D} (h : Kn n d) (hs : (∃ i, d = .int i) ∨ ∃ l, d = .tup l) : ∃ p, toPy d = some p ∧ p.canLay0 = true ∧ p.depth ≤ n ∧ PyData.eqv p .none = false := by
  obtain ⟨p, h1, h2, h3⟩ := h.py
  refine ⟨p, h1, h2, h3, ?_⟩
  rcases hs with ⟨i, rfl⟩ | ⟨l, rfl⟩
  · unfold toPy at h1; cases h1; unfold PyData.eqv; rfl
  · unfold toPy at h1
    cases q : toPyL l with
    | none => rw [q] at h1; cases h1
    | some ps => rw [q] at h1; cases h1; unfold PyData.eqv; rfl
theorem none_in {n : Nat} {a b : D} (ha : Kn n a) (hb : Kn n b) (hn : n ≤ 60) (sa : (∃ i, a = .int i) ∨ ∃ l, a = .tup l) (sb : (∃ i, b = .int i) ∨ ∃ l, b = .tup l) : inG false .non (.lst [a, b]) = pB false := by
  obtain ⟨p, p1, p2, p3, p4⟩ := ha.some_py sa
  obtain ⟨q, q1, q2, q3, q4⟩ := hb.some_py sb
  have e1 : toPy (.lst [a, b]) = some (.list [p, q]) := by simp [toPy, toPyL, p1, q1]
  unfold inG
  rw [e1]
  simp only [toPy]
  rw [if_pos ⟨shaped_of rfl (by simp [PyData.depth]), shaped_of (by simp [PyData.canLay0, PyData.canLayAll0, p2, q2]) (by simp only [PyData.depth, PyData.depthAll]; omega)⟩]
  simp [p4, q4]
/-- the first part of a weaving runs where the whole does -/
theorem run_pre {pre post : List Int} {s0 s : KB} (h : kbRun ((pre ++ post).map D.int) s0 = some s) : ∃ s1, kbRun (pre.map D.int) s0 = some s1 ∧ kbRun (post.map D.int) s1 = some s := by
  rw [List.map_append, kbRun_app] at h
  cases q : kbRun (pre.map D.int) s0 with
  | none => rw [q] at h; cases h
  | some s1 => rw [q] at h; exact ⟨s1, rfl, h⟩
theorem kbRun_same {hs : List D} {s0 a b : KB} (h1 : kbRun hs s0 = some a) (h2 : kbRun hs s0 = some b) : a = b := by
  rw [h1] at h2; cases h2; rfl
end DL

namespace DL
open PySem L2
/-- what was known so many rounds ahead -/
def aheadD : Nat → D → D
  | 0, d => d
  | n + 1, .tup [a, _] => aheadD n a
  | _ + 1, d => d
/-- the first l0 steps of hand 0, and l1 of hand 1 -/
def fstep : Nat → Nat → List Int → List Int
  | _, _, [] => []
  | l0, l1, h :: hs => if h = 0 then (if 0 < l0 then h :: fstep (l0 - 1) l1 hs else fstep l0 l1 hs) else (if 0 < l1 then h :: fstep l0 (l1 - 1) hs else fstep l0 l1 hs)
theorem fstep_mem : ∀ (hs : List Int) (l0 l1 : Nat) (z : Int), z ∈ fstep l0 l1 hs → z ∈ hs
  | [], _, _, z, h => by simp [fstep] at h
  | h :: hs, l0, l1, z, hz => by
    unfold fstep at hz
    split at hz
    · split at hz
      · rcases List.mem_cons.mp hz with rfl | hz
        · exact List.mem_cons_self
        · exact List.mem_cons_of_mem _ (fstep_mem hs _ _ z hz)
      · exact List.mem_cons_of_mem _ (fstep_mem hs _ _ z hz)
    · split at hz
      · rcases List.mem_cons.mp hz with rfl | hz
        · exact List.mem_cons_self
        · exact List.mem_cons_of_mem _ (fstep_mem hs _ _ z hz)
      · exact List.mem_cons_of_mem _ (fstep_mem hs _ _ z hz)
theorem fstep_len : ∀ (hs : List Int) (l0 l1 : Nat), (fstep l0 l1 hs).length ≤ hs.length
  | [], _, _ => by simp [fstep]
  | h :: hs, l0, l1 => by
    unfold fstep
    have a := fstep_len hs (l0 - 1) l1
    have b := fstep_len hs l0 (l1 - 1)
    have c := fstep_len hs l0 l1
    split <;> split <;> simp only [List.length_cons] <;> omega
theorem fstep_count : ∀ (hs : List Int) (l0 l1 : Nat), Hands hs → (fstep l0 l1 hs).count 0 = min l0 (hs.count 0) ∧ (fstep l0 l1 hs).count 1 = min l1 (hs.count 1)
  | [], _, _, _ => by simp [fstep]
  | h :: hs, l0, l1, hh => by
    have ht : Hands hs := fun z hz => hh z (List.mem_cons_of_mem _ hz)
    obtain ⟨g0, g1⟩ := hh h List.mem_cons_self
    have a := fstep_count hs (l0 - 1) l1 ht
    have b := fstep_count hs l0 (l1 - 1) ht
    have c := fstep_count hs l0 l1 ht
    unfold fstep
    have : h = 0 ∨ h = 1 := by omega
    rcases this with rfl | rfl
    · rw [if_pos rfl]
      have c0 : List.count (0 : Int) (0 :: hs) = hs.count 0 + 1 := by simp
      have c1 : List.count (1 : Int) (0 :: hs) = hs.count 1 := by simp
      rw [c0, c1]
      split
      · have d0 : ∀ l : List Int, List.count (0 : Int) (0 :: l) = l.count 0 + 1 := fun l => by simp
        have d1 : ∀ l : List Int, List.count (1 : Int) (0 :: l) = l.count 1 := fun l => by simp
        rw [d0, d1]; omega
      · omega
    · rw [if_neg (by decide)]
      have c0 : List.count (0 : Int) (1 :: hs) = hs.count 0 := by simp
      have c1 : List.count (1 : Int) (1 :: hs) = hs.count 1 + 1 := by simp
      rw [c0, c1]
      split
      · have d0 : ∀ l : List Int, List.count (0 : Int) (1 :: l) = l.count 0 := fun l => by simp
        have d1 : ∀ l : List Int, List.count (1 : Int) (1 :: l) = l.count 1 + 1 := fun l => by simp
        rw [d0, d1]; omega
      · omega
/-- a run of k rounds beside one of r: what it knows is what the other one knew -/
structure Beside (k : Nat) (s t : KB) (d0 d1 : Nat) : Prop where
  sd : s.ds = [d0, d1]
  td : t.ds = [min d0 (2 * k), min d1 (2 * k)]
  cs : t.cs = s.cs.take k
  ks : ∃ a b a' b', s.ks = [a, b] ∧ t.ks = [a', b'] ∧ a' = aheadD (d0 / 2 - k) a ∧ b' = aheadD (d1 / 2 - k) b
  cl : ∀ c ∈ s.cs, c.length = 2
theorem take_set {α : Type} (xs : List α) (k j : Nat) (v : α) (h : j < k) : (xs.set j v).take k = (xs.take k).set j v := List.take_set
theorem take_set_ge {α : Type} (xs : List α) (k j : Nat) (v : α) (h : k ≤ j) : (xs.set j v).take k = xs.take k := by
  rw [List.take_set, List.set_eq_of_length_le]
  rw [List.length_take]; omega
theorem beside0 {k d0 d1 : Nat} {s t s' : KB} (S : Beside k s t d0 d1) (e : kbStep s 0 = some s') :
    (if d0 < 2 * k then ∃ t', kbStep t 0 = some t' ∧ Beside k s' t' (d0 + 1) d1 else Beside k s' t (d0 + 1) d1) := by
  obtain ⟨a, b, a', b', e1, e2, e3, e4⟩ := S.ks
  have sd := S.sd
  have td := S.td
  have tc := S.cs
  have cl := S.cl
  obtain ⟨ks, ds, cs⟩ := s
  obtain ⟨ks', ds', cs'⟩ := t
  simp only at e1 e2 sd td tc cl
  subst e1 e2 sd td tc
  cases q : cs[d0 / 2]? with
  | none => simp [kbStep, q] at e
  | some c =>
    have cl2 := cl c (List.mem_of_getElem? q)
    obtain ⟨u, v, rfl⟩ : ∃ u v, c = [u, v] := by
      match c, cl2 with
      | [u, v], _ => exact ⟨u, v, rfl⟩
    by_cases lt : d0 < 2 * k
    · rw [if_pos lt]
      have m0 : min d0 (2 * k) = d0 := by omega
      have m1 : min (d0 + 1) (2 * k) = d0 + 1 := by omega
      have z0 : d0 / 2 - k = 0 := by omega
      have z1 : (d0 + 1) / 2 - k = 0 := by omega
      have q' : (cs.take k)[d0 / 2]? = some [u, v] := by rw [List.getElem?_take_of_lt (by omega), q]
      rw [z0] at e3
      have e3' : a' = a := e3
      subst e3'
      by_cases ev : d0 % 2 = 0
      · simp [kbStep, q, ev] at e
        subst e
        refine ⟨⟨[a', b'], [d0 + 1, min d1 (2 * k)], (cs.take k).set (d0 / 2) [a', v]⟩, by simp [kbStep, m0, q', ev], ⟨rfl, by simp [m1], (take_set _ _ _ _ (by omega)).symm, ⟨_, _, _, _, rfl, rfl, by rw [z1]; rfl, e4⟩, fun c hc => ?_⟩⟩
        rcases List.mem_or_eq_of_mem_set hc with hc | rfl
        · exact cl c hc
        · rfl
      · simp [kbStep, q, ev] at e
        subst e
        exact ⟨⟨[.tup [a', v], b'], [d0 + 1, min d1 (2 * k)], cs.take k⟩, by simp [kbStep, m0, q', ev], ⟨rfl, by simp [m1], rfl, ⟨_, _, _, _, rfl, rfl, by rw [z1]; rfl, e4⟩, cl⟩⟩
    · rw [if_neg lt]
      have m1 : min (d0 + 1) (2 * k) = min d0 (2 * k) := by omega
      by_cases ev : d0 % 2 = 0
      · simp [kbStep, q, ev] at e
        subst e
        refine ⟨rfl, by simp [m1], (take_set_ge _ _ _ _ (by omega)).symm, ⟨_, _, _, _, rfl, rfl, by rw [show (d0 + 1) / 2 - k = d0 / 2 - k by omega]; exact e3, e4⟩, fun c hc => ?_⟩
        rcases List.mem_or_eq_of_mem_set hc with hc | rfl
        · exact cl c hc
        · rfl
      · simp [kbStep, q, ev] at e
        subst e
        exact ⟨rfl, by simp [m1], rfl, ⟨_, _, _, _, rfl, rfl, by rw [show (d0 + 1) / 2 - k = (d0 / 2 - k) + 1 by omega]; exact e3, e4⟩, cl⟩
theorem beside1 {k d0 d1 : Nat} {s t s' : KB} (S : Beside k s t d0 d1) (e : kbStep s 1 = some s') :
    (if d1 < 2 * k then ∃ t', kbStep t 1 = some t' ∧ Beside k s' t' d0 (d1 + 1) else Beside k s' t d0 (d1 + 1)) := by
  obtain ⟨a, b, a', b', e1, e2, e3, e4⟩ := S.ks
  have sd := S.sd
  have td := S.td
  have tc := S.cs
  have cl := S.cl
  obtain ⟨ks, ds, cs⟩ := s
  obtain ⟨ks', ds', cs'⟩ := t
  simp only at e1 e2 sd td tc cl
  subst e1 e2 sd td tc
  cases q : cs[d1 / 2]? with
  | none => simp [kbStep, q] at e
  | some c =>
    have cl2 := cl c (List.mem_of_getElem? q)
    obtain ⟨u, v, rfl⟩ : ∃ u v, c = [u, v] := by
      match c, cl2 with
      | [u, v], _ => exact ⟨u, v, rfl⟩
    by_cases lt : d1 < 2 * k
    · rw [if_pos lt]
      have m0 : min d1 (2 * k) = d1 := by omega
      have m1 : min (d1 + 1) (2 * k) = d1 + 1 := by omega
      have z0 : d1 / 2 - k = 0 := by omega
      have z1 : (d1 + 1) / 2 - k = 0 := by omega
      have q' : (cs.take k)[d1 / 2]? = some [u, v] := by rw [List.getElem?_take_of_lt (by omega), q]
      rw [z0] at e4
      have e4' : b' = b := e4
      subst e4'
      by_cases ev : d1 % 2 = 0
      · simp [kbStep, q, ev] at e
        subst e
        refine ⟨⟨[a', b'], [min d0 (2 * k), d1 + 1], (cs.take k).set (d1 / 2) [u, b']⟩, by simp [kbStep, m0, q', ev], ⟨rfl, by simp [m1], (take_set _ _ _ _ (by omega)).symm, ⟨_, _, _, _, rfl, rfl, e3, by rw [z1]; rfl⟩, fun c hc => ?_⟩⟩
        rcases List.mem_or_eq_of_mem_set hc with hc | rfl
        · exact cl c hc
        · rfl
      · simp [kbStep, q, ev] at e
        subst e
        exact ⟨⟨[a', .tup [b', u]], [min d0 (2 * k), d1 + 1], cs.take k⟩, by simp [kbStep, m0, q', ev], ⟨rfl, by simp [m1], rfl, ⟨_, _, _, _, rfl, rfl, e3, by rw [z1]; rfl⟩, cl⟩⟩
    · rw [if_neg lt]
      have m1 : min (d1 + 1) (2 * k) = min d1 (2 * k) := by omega
      by_cases ev : d1 % 2 = 0
      · simp [kbStep, q, ev] at e
        subst e
        refine ⟨rfl, by simp [m1], (take_set_ge _ _ _ _ (by omega)).symm, ⟨_, _, _, _, rfl, rfl, e3, by rw [show (d1 + 1) / 2 - k = d1 / 2 - k by omega]; exact e4⟩, fun c hc => ?_⟩
        rcases List.mem_or_eq_of_mem_set hc with hc | rfl
        · exact cl c hc
        · rfl
      · simp [kbStep, q, ev] at e
        subst e
        exact ⟨rfl, by simp [m1], rfl, ⟨_, _, _, _, rfl, rfl, e3, by rw [show (d1 + 1) / 2 - k = (d1 / 2 - k) + 1 by omega]; exact e4⟩, cl⟩
theorem beside_run {k : Nat} : ∀ (hs : List Int) {s t s' : KB} {d0 d1 : Nat}, Hands hs → Beside k s t d0 d1 → kbRun (hs.map D.int) s = some s' →
    ∃ t', kbRun ((fstep (2 * k - d0) (2 * k - d1) hs).map D.int) t = some t' ∧ Beside k s' t' (d0 + hs.count 0) (d1 + hs.count 1)
  | [], s, t, s', d0, d1, _, S, e => by cases e; exact ⟨t, rfl, S⟩
  | h :: hs, s, t, s', d0, d1, hh, S, e => by
    obtain ⟨g0, g1⟩ := hh h List.mem_cons_self
    have ht : Hands hs := fun z hz => hh z (List.mem_cons_of_mem _ hz)
    have : h = 0 ∨ h = 1 := by omega
    rcases this with rfl | rfl
    · have c0 : List.count (0 : Int) (0 :: hs) = hs.count 0 + 1 := by simp
      have c1 : List.count (1 : Int) (0 :: hs) = hs.count 1 := by simp
      rw [List.map_cons] at e
      simp only [kbRun] at e
      rw [if_pos (by decide)] at e
      cases q : kbStep s (0 : Int).toNat with
      | none => rw [q] at e; cases e
      | some s1 =>
        rw [q] at e
        have b := beside0 S q
        rw [c0, c1, show d0 + (hs.count 0 + 1) = d0 + 1 + hs.count 0 by omega]
        unfold fstep
        rw [if_pos rfl]
        by_cases lt : d0 < 2 * k
        · rw [if_pos lt] at b
          obtain ⟨t1, b1, b2⟩ := b
          obtain ⟨t', r1, r2⟩ := beside_run hs ht b2 e
          refine ⟨t', ?_, r2⟩
          rw [if_pos (by omega), List.map_cons]
          simp only [kbRun]
          rw [if_pos (by decide), show (0 : Int).toNat = 0 from rfl, b1]
          rw [show 2 * k - d0 - 1 = 2 * k - (d0 + 1) by omega]
          exact r1
        · rw [if_neg lt] at b
          obtain ⟨t', r1, r2⟩ := beside_run hs ht b e
          refine ⟨t', ?_, r2⟩
          rw [if_neg (by omega), show 2 * k - d0 = 2 * k - (d0 + 1) by omega]
          exact r1
    · have c0 : List.count (0 : Int) (1 :: hs) = hs.count 0 := by simp
      have c1 : List.count (1 : Int) (1 :: hs) = hs.count 1 + 1 := by simp
      rw [List.map_cons] at e
      simp only [kbRun] at e
      rw [if_pos (by decide)] at e
      cases q : kbStep s (1 : Int).toNat with
      | none => rw [q] at e; cases e
      | some s1 =>
        rw [q] at e
        have b := beside1 S q
        rw [c0, c1, show d1 + (hs.count 1 + 1) = d1 + 1 + hs.count 1 by omega]
        unfold fstep
        rw [if_neg (by decide)]
        by_cases lt : d1 < 2 * k
        · rw [if_pos lt] at b
          obtain ⟨t1, b1, b2⟩ := b
          obtain ⟨t', r1, r2⟩ := beside_run hs ht b2 e
          refine ⟨t', ?_, r2⟩
          rw [if_pos (by omega), List.map_cons]
          simp only [kbRun]
          rw [if_pos (by decide), show (1 : Int).toNat = 1 from rfl, b1]
          rw [show 2 * k - d1 - 1 = 2 * k - (d1 + 1) by omega]
          exact r1
        · rw [if_neg lt] at b
          obtain ⟨t', r1, r2⟩ := beside_run hs ht b e
          refine ⟨t', ?_, r2⟩
          rw [if_neg (by omega), show 2 * k - d1 = 2 * k - (d1 + 1) by omega]
          exact r1
theorem beside_init {r k : Nat} (x y : Int) (h : k ≤ r) : Beside k (ini r x y) (ini k x y) 0 0 where
  sd := rfl
  td := by simp
  cs := by simp [List.take_replicate, Nat.min_eq_left h]
  ks := ⟨_, _, _, _, rfl, rfl, by rw [show 0 / 2 - k = 0 by omega]; rfl, by rw [show 0 / 2 - k = 0 by omega]; rfl⟩
  cl := fun c hc => by rw [(List.mem_replicate.mp hc).2]; rfl
/-- the first k rounds alone of a whole weaving -/
theorem first_rounds {r k : Nat} {x y : Int} {hs : List Int} {s : KB} (hk : k ≤ r) (hh : Hands hs) (c0 : hs.count 0 = 2 * r) (c1 : hs.count 1 = 2 * r) (e : kbRun (hs.map D.int) (ini r x y) = some s) :
    ∃ t, kbRun ((fstep (2 * k) (2 * k) hs).map D.int) (ini k x y) = some t ∧ kbOut k t 0 = aheadD (r - k) (kbOut r s 0) ∧ kbOut k t 1 = aheadD (r - k) (kbOut r s 1) := by
  obtain ⟨t, h1, S⟩ := beside_run (k := k) hs hh (beside_init x y hk) e
  obtain ⟨a, b, a', b', e1, e2, e3, e4⟩ := S.ks
  have sd := S.sd
  have td := S.td
  rw [c0, c1] at sd td
  rw [c0] at e3
  rw [c1] at e4
  have q : (0 + 2 * r) / 2 - k = r - k := by omega
  rw [q] at e3 e4
  refine ⟨t, h1, ?_, ?_⟩
  · simp [kbOut, sd, td, e1, e2, e3, show 2 * k ≤ 2 * r by omega]
  · simp [kbOut, sd, td, e1, e2, e4, show 2 * k ≤ 2 * r by omega]
end DL

namespace DL
open PySem L2
/-- what both hands know behind a whole weaving, and knew one round ahead -/
structure Last (x y : Int) (r : Nat) (w0 w1 l0 l1 b0 b1 : D) (M0 M1 m0 m1 : Int) : Prop where
  e0 : w0 = .tup [l0, b0]
  e1 : w1 = .tup [l1, b1]
  p0 : ∃ f g, Spt x y w0 0 (r + 1) M0 f g
  p1 : ∃ f g, Spt x y w1 1 (r + 1) M1 f g
  q0 : ∃ f g, Spt x y l0 0 r m0 f g
  q1 : ∃ f g, Spt x y l1 1 r m1 f g
  s0 : (b0 = .non ∧ M0 = 3 * m0) ∨ (b0 = l1 ∧ M0 = 3 * m0 + 2 * (m1 - m0))
  s1 : (b1 = .non ∧ M1 = 3 * m1) ∨ (b1 = l0 ∧ M1 = 3 * m1 + 2 * (m0 - m1))
  nb : m1 - m0 = 1 ∨ m0 - m1 = 1
  nB : M1 - M0 = 1 ∨ M0 - M1 = 1
theorem hist_last {x y : Int} {r : Nat} {A B : List Et} {s : KB} (S : Hist x y (r + 1) (2 * (r + 1)) (2 * (r + 1)) A B s) : ∃ l0 l1 b0 b1 M0 M1 m0 m1, Last x y r (kbOut (r + 1) s 0) (kbOut (r + 1) s 1) l0 l1 b0 b1 M0 M1 m0 m1 := by
  obtain ⟨e', g', ea, eb, ek⟩ := S.ks
  have d2 : 2 * (r + 1) / 2 = r + 1 := by omega
  rw [d2] at ea eb
  have la := S.la
  have lb := S.lb
  rw [d2] at la lb
  have ga : A[r]? = some A[r] := List.getElem?_eq_getElem (by omega)
  have gb : B[r]? = some B[r] := List.getElem?_eq_getElem (by omega)
  generalize A[r]'(by omega) = e at ga
  generalize B[r]'(by omega) = g at gb
  have o0 : kbOut (r + 1) s 0 = e'.d := by simp [kbOut, S.ds, ek]
  have o1 : kbOut (r + 1) s 1 = g'.d := by simp [kbOut, S.ds, ek]
  rw [o0, o1]
  have P0 := S.ga _ _ ea
  have P1 := S.gb _ _ eb
  have Q0 := S.ga _ _ ga
  have Q1 := S.gb _ _ gb
  have nb := S.nb _ _ _ ga gb
  have nB := S.nb _ _ _ ea eb
  have sa := S.sa _ _ _ ga ea
  have sb := S.sb _ _ _ gb eb
  have A0 : ∃ b0, e'.d = .tup [e.d, b0] ∧ ((b0 = .non ∧ e'.m = 3 * e.m) ∨ (b0 = g.d ∧ e'.m = 3 * e.m + 2 * (g.m - e.m))) := by
    rcases sa with ⟨h1, h2, _⟩ | ⟨u, h0, h1, h2, _⟩
    · exact ⟨_, h1, .inl ⟨rfl, h2⟩⟩
    · rw [gb] at h0; cases h0
      exact ⟨_, h1, .inr ⟨rfl, h2⟩⟩
  have A1 : ∃ b1, g'.d = .tup [g.d, b1] ∧ ((b1 = .non ∧ g'.m = 3 * g.m) ∨ (b1 = e.d ∧ g'.m = 3 * g.m + 2 * (e.m - g.m))) := by
    rcases sb with ⟨h1, h2, _⟩ | ⟨u, h0, h1, h2, _⟩
    · exact ⟨_, h1, .inl ⟨rfl, h2⟩⟩
    · rw [ga] at h0; cases h0
      exact ⟨_, h1, .inr ⟨rfl, h2⟩⟩
  obtain ⟨b0, u1, u2⟩ := A0
  obtain ⟨b1, v1, v2⟩ := A1
  exact ⟨e.d, g.d, b0, b1, e'.m, g'.m, e.m, g.m, u1, v1, ⟨_, _, P0⟩, ⟨_, _, P1⟩, ⟨_, _, Q0⟩, ⟨_, _, Q1⟩, u2, v2, nb, nB⟩
/-- x not in (None, y): false of None and of y -/
theorem notIn_none {n : Nat} {b l : D} (hl : Kn n l) (hn : n ≤ 60) (h : b = .non ∨ b = l) : inG true b (.tup [.non, l]) = pB false := by
  obtain ⟨q, q1, q2, q3⟩ := hl.py
  have e1 : toPy (.tup [.non, l]) = some (.tuple [.none, q]) := by simp [toPy, toPyL, q1]
  have sh : SeqAt.shaped (.list [.none, q]) = true := shaped_of (by simp [PyData.canLay0, PyData.canLayAll0, q2]) (by simp only [PyData.depth, PyData.depthAll]; omega)
  unfold inG
  rw [e1]
  rcases h with rfl | rfl
  · simp only [toPy]
    rw [if_pos ⟨shaped_of rfl (by simp [PyData.depth]), sh⟩]
    have : PyData.eqv .none .none = true := SeqAt.eqv_refl _ rfl
    simp [this]
  · rw [q1]
    dsimp only
    rw [if_pos ⟨shaped_of q2 (by omega), sh⟩]
    have : PyData.eqv q q = true := SeqAt.eqv_refl _ q2
    simp [this]
theorem notIn_three {i : Int} (h : i = -2 ∨ i = 0 ∨ i = 2) : inG true (.int i) (.tup [.int (-2), .int 0, .int 2]) = pB false := by
  have e1 : toPy (.tup [.int (-2), .int 0, .int 2]) = some (.tuple [.int (-2), .int 0, .int 2]) := by simp [toPy, toPyL]
  have sh : SeqAt.shaped (.list [.int (-2), .int 0, .int 2]) = true := shaped_of rfl (by simp [PyData.depth, PyData.depthAll])
  have si : SeqAt.shaped (.int i) = true := shaped_of rfl (by simp [PyData.depth])
  unfold inG
  rw [e1]
  simp only [toPy]
  rw [if_pos ⟨si, sh⟩]
  have ev : ∀ a b : Int, PyData.eqv (.int a) (.int b) = (a == b) := fun a b => by unfold PyData.eqv; rfl
  rcases h with rfl | rfl | rfl <;> simp [ev]
theorem Spt.kn {x y : Int} {d : D} {h r : Nat} {m : Int} {f g : Bool} (S : Spt x y d h r m f g) : Kn r d := by
  induction S with
  | base0 _ => trivial
  | base1 _ => trivial
  | @lone a h r m f g _ ih => exact ⟨ih, by cases r <;> trivial⟩
  | see _ _ _ _ ih1 ih2 => exact ⟨ih1, ih2⟩
theorem Spt.eq {x y : Int} {d : D} {h r : Nat} {m : Int} {f g : Bool} (S : Spt x y d h r m f g) (hr : r ≤ 60) : eqD d d = some true := S.kn.eq hr
end DL

namespace DL
open PySem PySem.Spec PyProof.Rows L2
def endsAs (i : Nat) (D : Ends) : Ends := { nx := fun t G => D.nx (t.set i none) G, rt := D.rt, bk := fun t G => D.bk (t.set i none) G, ct := fun t G => D.ct (t.set i none) G }
/-- what is asked of an exception that the first clause takes -/
def wFst (K : PySem.W.Frag) (c : Value) (i : Nat) (ts : Addr → Value → Option Addr → TS) (D : Ends) : WX := fun cl dd st hp =>
  PySem.W.exmOne K cl c = some true ∧ ∀ ax, hp ax = none → ts ax cl dd (endsAs i D) (st.set i (some (.ref ax))) hp
section
variable {X : Cx} {x n : Str} {c : Value} {i : Nat} {body suite : List Stmt} {b₀ : Stmt} {hds : List ExceptHandler} {np pos pos' : Pos} {tb : WX → TS} {ts : Addr → Value → Option Addr → TS}
theorem ps_try_fst (hst : X.stack = X.env :: X.outer) (hfm : X.env.frame = some X.env.locals) (nd : X.N.Nodup) (hsl : X.N[i]? = some n) (hlc : X.env.kindOf n = some .local) (hcl : Names X x c)
    (hbody : ∀ (Wi : WX) (pl : List (Addr × Obj)) (xx : Value → Shared → Prop), Takes (X.tr pl xx) Wi → PassesOwn (model X.prog X.w) X.A X.env xx → PSs (X.tr pl xx) body (tb Wi))
    (hsuite : ∀ (ax : Addr) (ob : Obj) (cl : Value) (dd : Option Addr) (pl : List (Addr × Obj)), Zc cl dd ob → (∃ fv, ob.data = .fields fv) → PSs (X.suite ax ((ax, ob) :: pl)) (b₀ :: suite) (ts ax cl dd)) :
    PS X (.Try body (.ExceptHandler (some (.Name x np)) (some n) (b₀ :: suite) pos' :: hds) [] [] pos) (fun D st hp => tb (wFst X.K c i ts D) D st hp) := by
  constructor
  intro pins sh st hp D inv want
  have good := inv.ok
  have frm : X.A.frames = some (X.env :: X.outer) := good.frames.trans (by rw [hst])
  apply wpAny_Try_except
  let clauses : List ExceptHandler := .ExceptHandler (some (.Name x np)) (some n) (b₀ :: suite) pos' :: hds
  let away : Value → Shared → Prop := fun ev sa => wpAny (model X.prog X.w) X.A (noteFrame ev X.env) (fun _ sb => wpAny (model X.prog X.w) X.A (setFlight ev none) (fun _ sc => wpAny (model X.prog X.w) X.A (handleBy ev X.env clauses) (SP X pins D) X.xe sc) X.xe sb) X.xe sa
  have caught : Takes (X.tr (X.pn ++ pins) away) (wFst X.K c i ts D) := by
    rintro uv sh2 ⟨ax, Bg, shI, pl2, st2, hp2, cl, dd, rfl, inv2', gr, ups, sky0, noA, sameOs, bare, match1, suiteWant⟩
    have inv2 : Inv X pins st2 hp2 shI := Inv.ofTry inv2' good
    have sky1 : Sky Bg (X.env :: X.outer) ax (Zc cl dd) X.env.locals sh2.heap := hst ▸ sky0
    show wpAny (model X.prog X.w) X.A (noteFrame (.ref ax) X.env) _ _ _
    apply Sky.land Zc.steady frm hfm sky1
    intro hA flA upA
    have invA : Inv X pins st2 hp2 { sh2 with heap := hA } := inv2.landed gr flA.1 (ups.trans upA) sameOs bare
    obtain ⟨obA, fvA, getA, zA, datA⟩ := flA.there
    have offFrames : ax ∉ frs (X.env :: X.outer) := by
      intro mem
      obtain ⟨_, ob', get', notF⟩ := (flA.2.2.1).mem mem
      rw [getA] at get'
      cases get'
      exact notF _ datA
    have notLoc : ax ≠ X.env.locals := by
      intro z
      exact offFrames (List.mem_filterMap.mpr ⟨X.env, List.mem_cons_self, by rw [hfm, z]⟩)
    have notFs : ax ∉ X.fs := by
      intro mem
      obtain ⟨en, inEn, q⟩ := List.mem_filterMap.mp mem
      exact offFrames (List.mem_filterMap.mpr ⟨en, List.mem_cons_of_mem _ inEn, q⟩)
    have suA := Inv.suite invA getA datA noA notLoc notFs
    apply wpAny_handleBy_cons (codeAny_handlers_test ?_) (fun q => by cases q)
    have typ : PySem.W.Looks (model X.prog X.w) hA (typeOf (.ref ax)) cl := by
      intro A' Q' E' s' k' q'
      exact wpAny_typeOf_ref (k' _ _ getA) (by rw [zA.1]; exact q')
    have isX := PySem.W.exm_one (M := model X.prog X.w) invA.kIn typ match1
    have named : ∀ {Q' E' : Value → Shared → Prop}, Q' c { sh2 with heap := hA } → wpAny (model X.prog X.w) (X.A.mark (some (.ref ax))) (eval (.Name x np) X.env) Q' E' { sh2 with heap := hA } := by
      intro Q' E' q'
      rcases hcl with ⟨isG, nDbg, inMod | ⟨notMod, inB, nNm⟩⟩
      · exact ld_glob (X := X.suite ax ((ax, obA) :: (X.pn ++ pins))) suA isG inMod q' nDbg
      · exact ld_blt (X := X.suite ax ((ax, obA) :: (X.pn ++ pins))) suA isG notMod inB q' nNm nDbg
    apply named
    apply isX.here
    apply codeAny_handlers_suite_as
    apply HandSPX.lands_againZ flA
    intro hB flB upB
    have invB : Inv X pins st2 hp2 { sh2 with heap := hB } := inv2.landed gr flB.1 ((ups.trans upA).trans upB) sameOs bare
    obtain ⟨obB, fvB, getB, zB, datB⟩ := flB.there
    have suB := Inv.suite invB getB datB noA notLoc notFs
    apply store_ok (X := X.suite ax ((ax, obB) :: (X.pn ++ pins))) (v := .ref ax) suB nd hsl (.inl hlc) rfl ?_ (.inr hlc)
    intro shC suC
    apply wpAny_mono ((hsuite ax obB cl dd (X.pn ++ pins) zB ⟨_, datB⟩).run [] shC _ hp2 _ suC (suiteWant ax noA)) ?_ (fun _ _ z => z.elim)
    intro flow shD fin
    have tidy : ∀ {stE : L2.St} {hpE : Hp} {Q' : Shared → Prop}, Inv (X.suite ax ((ax, obB) :: (X.pn ++ pins))) [] stE hpE shD → (∀ shF, Inv X pins (stE.set i none) hpE shF → Q' shF) →
        wpAny (model X.prog X.w) X.A (do bindName X.env n .none; unbindBehindTheSuite X.env n pos') (fun _ shF => Q' shF) X.xe shD := by
      intro stE hpE Q' suE q'
      exact gone_ok (Inv.unsuite suE good) nd hsl hlc q'
    cases flow with
    | next => obtain ⟨stE, hpE, suE, qE⟩ := fin; exact tidy suE fun shF iF => ⟨_, _, iF, qE⟩
    | brk => obtain ⟨stE, hpE, suE, qE⟩ := fin; exact tidy suE fun shF iF => ⟨_, _, iF, qE⟩
    | cont => obtain ⟨stE, hpE, suE, qE⟩ := fin; exact tidy suE fun shF iF => ⟨_, _, iF, qE⟩
    | ret rv => obtain ⟨vE, stE, hpE, suE, rE, qE⟩ := fin; exact tidy suE fun shF iF => ⟨_, _, _, iF, rE, qE⟩
  have ran := (hbody (wFst X.K c i ts D) (X.pn ++ pins) away caught PassesOwn.looking).run [] sh st hp D (Inv.toTry inv away) want
  apply wpAny_mono ran ?_ (fun _ _ z => z)
  intro flow shD fin
  cases flow with
  | next => obtain ⟨stE, hpE, iE, qE⟩ := fin; exact wpAny_execs_nil ⟨stE, hpE, Inv.ofTry iE good, qE⟩
  | brk => obtain ⟨stE, hpE, iE, qE⟩ := fin; exact ⟨stE, hpE, Inv.ofTry iE good, qE⟩
  | cont => obtain ⟨stE, hpE, iE, qE⟩ := fin; exact ⟨stE, hpE, Inv.ofTry iE good, qE⟩
  | ret rv => obtain ⟨vE, stE, hpE, iE, rE, qE⟩ := fin; exact ⟨vE, stE, hpE, Inv.ofTry iE good, rE, qE⟩
end
end DL

namespace DL
open PySem L2
def trE (tr : Value → Value) (E : XK) : XK := fun c d H => E (tr c) d H
/-- a def that may raise -/
def spX (tr : Value → Value) (K : PySem.W.Frag) (G : List SV → RF) : Sp := fun vs H Q E => spD K G vs H Q (trE tr E)
def raiseS (c : Value) : En → RS := fun e => .exc ⟨c, []⟩ e
/-- a call of a def that never raises, in a def that may -/
def callZ (G : List SV → RF) (fa : En → R (List Opd)) : En → R SV := bindR fa fun os e => match callD G os e with
  | .ok sv e' => .ok sv e'
  | _ => .stuck
noncomputable def anyA (g : Addr → RS) : RS := open Classical in if ∀ a, g a = g 0 then g 0 else .stuck
theorem anyA_const {g : Addr → RS} {r : RS} (h : ∀ a, g a = r) : anyA g = r := by
  unfold anyA
  rw [if_pos (fun a => (h a).trans (h 0).symm)]
  exact h 0
theorem anyA_at {g : Addr → RS} (h : anyA g ≠ .stuck) (a : Addr) : anyA g = g a := by
  unfold anyA at h ⊢
  by_cases q : ∀ a, g a = g 0
  · rw [if_pos q]; exact (q a).symm
  · rw [if_neg q] at h; exact absurd rfl h
def wipeR (i : Nat) : RS → RS
  | .nx e => .nx (e.set i none)
  | .bk e => .bk (e.set i none)
  | .ct e => .ct (e.set i none)
  | .ret sv e => .ret sv (e.set i none)
  | _ => .stuck
/-- try: what f makes, then k / except .. as slot i: suite -/
noncomputable def tryE (f : En → R SV) (k : SV → En → RS) (sub : Value → Option Bool) (i : Nat) (suite : Addr → Value → En → RS) : En → RS := fun e => match f e with
  | .ok sv e' => k sv e'
  | .exc x e' => if sub x.cls = some true ∧ x.fs = [] ∧ i < e'.length then anyA (fun a => wipeR i (suite a x.cls (e'.set i (some ⟨.p, .opq (.ref a)⟩)))) else .stuck
  | .stuck => .stuck
/-- isinstance(e, c), e the caught exception, of the sign s, in slot i -/
def isxE (isub : Value → Value → Option Bool) (i : Nat) (a : Addr) (s c : Value) : En → R SV := fun e => match e.sv i with
  | some ⟨.p, .opq (.ref b)⟩ => if b = a then (match isub s c with | some r => .ok ⟨.p, .bl r⟩ e | none => .stuck) else .stuck
  | _ => .stuck
section
variable {K : PySem.W.Frag} {E : XK} {tr : Value → Value} {F : Fm} {env : En} {σ : St} {H : Hp} {W : List Addr} {ts : TS} {t tk : TA}
theorem spX_len {np n : Nat} {body : En → RS} {vs : List V} {Q : VK} (h : spX tr K (defG np n body) vs H Q E) : vs.length = np :=
  spD_len (E := trE tr E) (fun args ne => by unfold defG; rw [if_neg ne]) h
theorem spX_stuck {vs : List V} {Q : VK} (h : spX tr K (fun _ => .stuck) vs H Q E) : False := by
  obtain ⟨args, W, fr, r, p⟩ := h
  exact p
theorem bodyX {body : En → RS} {N : List Str} {np : Nat} {vs : List V} {Q : VK} (hS : SS K (trE tr E) ts body) (hn : np ≤ N.length) (h : spX tr K (defG np N.length body) vs H Q E) : ts { nx := fun _ H' => Q .non H', rt := Q } (L2.start N vs) H := by
  have hl := spX_len h
  refine body_ok (N := N) hS (by omega) ?_
  obtain ⟨args, W, fr, r, p⟩ := h
  have lav : args.length = vs.length := by have := r.len; simpa using this
  refine ⟨args, W, fr, r, ?_⟩
  unfold defG at p
  rw [if_pos (by omega)] at p
  exact p
theorem ss_raise {c : Value} {C : Addr} (h : tr c = .ref C) : SS K (trE tr E) (fun _ σ H => (fun (_ : St) (H : Hp) (Q : XK) => Q (.ref C) none H) σ H fun cls d H' => E cls d H') (raiseS c) := by
  intro F env σ H W T r p
  have := p c none σ H W r (Step.refl H W) ⟨rfl, rfl⟩
  unfold trE at this
  rw [h] at this
  exact this
/-- f(..), f may raise, in a def that may, or where nothing may leave (E0) -/
theorem sf_callX {G : List SV → RF} {fa : En → R (List Opd)} (ha : SA K (trE tr E) t fa) : SF K (trE tr E) (tCall (spX tr K G) [] E t) (callE G fa) := sf_call ha
theorem sf_callX0 {G : List SV → RF} {fa : En → R (List Opd)} (ha : SA K E0 t fa) : SF K E0 (tCall (spX tr K G) [] E0 t) (callE G fa) := sf_call (E := E0) ha
theorem sf_callXS {G : List SV → RF} {fa : En → R (List Opd)} (ha : SA K (trE tr E) t fa) : SF K (trE tr E) (fun σ H Q => t σ H fun vs H1 => spX tr K G vs H1 Q E) (callE G fa) := by
  intro F env σ H W Q r p
  have := sf_call ha F env σ H W Q r p
  unfold tCall at this
  unfold spX
  simpa only [List.append_nil] using this
theorem post_any {α β : Type} {rel : α → Fm → En → St → Hp → List Addr → β → Prop} {E' : XK} {Q : β → Hp → Prop} {a : α} {e : En} (p : Post rel K E F σ H W Q (.ok a e)) : Post rel K E' F σ H W Q (.ok a e) := p
theorem callZ_ok {G : List SV → RF} {os : List Opd} {vs : List V} {Q : VK} (r : Rel K F env σ H W) (ho : RelOs K F σ H W os vs) (p : Post (rV K) K E F σ H W Q (match callD G os env with | .ok sv e' => .ok sv e' | _ => .stuck)) : spD K G vs H Q E0 := by
  refine callD_ok (E := E0) r ho ?_
  cases q : callD G os env with
  | ok sv e => rw [q] at p; exact p
  | exc x e => rw [q] at p; exact p.elim
  | stuck => rw [q] at p; exact p.elim
theorem sf_callZ {G : List SV → RF} {fa : En → R (List Opd)} (ha : SA K E t fa) {E' : XK} : SF K E (tCall (spD0 K G) [] E' t) (callZ G fa) := by
  intro F env σ H W Q r p
  refine Sn.go (t := t) ha r p fun e H W os vs rel s rv p => ?_
  rw [List.append_nil]
  exact callZ_ok rel rv p
theorem sf_callKX {G : List SV → RF} {n m : Nat} {fa fk : En → R (List Opd)} (ha : SA K (trE tr E) t fa) (hk : SA K (trE tr E) tk fk) : SF K (trE tr E) (tCallK (spX tr K G) (gK n m) E t tk) (callE G (appK n m fa fk)) := by
  intro F env σ H W Q r p
  unfold callE appK at p
  rw [show bindR (bindR fa fun a => bindR fk fun b e => if a.length = n ∧ b.length = m then .ok (a ++ b) e else .stuck) (callD G) env = bindR fa (fun a => bindR fk fun b e => if a.length = n ∧ b.length = m then callD G (a ++ b) e else .stuck) env from by
    unfold bindR
    cases fa env with
    | ok a e =>
      dsimp only
      cases fk e with
      | ok b e2 =>
        dsimp only
        by_cases hl : a.length = n ∧ b.length = m
        · rw [if_pos hl, if_pos hl]
        · rw [if_neg hl, if_neg hl]
      | exc x e2 => rfl
      | stuck => rfl
    | exc x e => rfl
    | stuck => rfl] at p
  refine Sn.go (t := t) ha r p fun e1 H1 W1 os vs rel1 s1 rv p => ?_
  refine Sn.go (t := tk) hk rel1 p fun e2 H2 W2 ps ws rel2 s2 ru p => ?_
  by_cases hl : os.length = n ∧ ps.length = m
  · rw [if_pos hl] at p
    have l1 := rv.len
    have l2 := ru.len
    unfold gK
    rw [if_pos ⟨by omega, by omega⟩]
    exact callD_ok rel2 ((rv.step s2).append ru) p
  · rw [if_neg hl] at p; exact p.elim
/-- slot i holds nothing any more -/
theorem Rel.unset (r : Rel K F env σ H W) (i : Nat) : Rel K F (env.set i none) (σ.set i none) H W := by
  by_cases hi : i < env.length
  · obtain ⟨fps, f⟩ := r.ex
    refine ⟨by simp [r.len], ⟨fps, fun j sw e => ?_, (f.forget hi).dj⟩, fun j sw e b => ?_, r.trk, r.frt, r.dis, r.wt⟩
    · rw [En.sv_set hi] at e
      by_cases hj : j = i
      · rw [if_pos hj] at e; cases e
      · rw [if_neg hj] at e
        rw [List.getElem?_set_ne (fun z => hj z.symm)]
        exact f.sl j sw e
    · rw [En.sv_set hi] at e
      by_cases hj : j = i
      · rw [if_pos hj] at e; cases e
      · rw [if_neg hj] at e
        rw [List.getElem?_set_ne (fun z => hj z.symm)]
        exact r.bor j sw e b
  · have l := r.len
    rw [List.set_eq_of_length_le (by omega), List.set_eq_of_length_le (by omega)]
    exact r
theorem Rel.forget' (r : Rel K F env σ H W) (i : Nat) : Rel K F (env.set i none) σ H W := by
  by_cases hi : i < env.length
  · exact r.forget hi
  · rw [List.set_eq_of_length_le (by omega)]; exact r
theorem sv_set_none {e : En} {i j : Nat} {sw : SV} (h : En.sv (e.set i none) j = some sw) : e.sv j = some sw := by
  by_cases hi : i < e.length
  · rw [En.sv_set hi] at h
    by_cases hj : j = i
    · rw [if_pos hj] at h; cases h
    · rw [if_neg hj] at h; exact h
  · rw [List.set_eq_of_length_le (by omega)] at h; exact h
theorem Fps.forget' {fps : Nat → List Addr} (f : Fps K F env σ H W fps) (i : Nat) : Fps K F (env.set i none) σ H W fps := ⟨fun j sw e => f.sl j sw (sv_set_none e), fun j k sj sk ej ek => f.dj j k sj sk (sv_set_none ej) (sv_set_none ek)⟩
theorem rV.forget {sv : SV} {v : V} (rv : rV K sv F env σ H W v) (i : Nat) : rV K sv F (env.set i none) σ H W v := by
  rcases rv with h | ⟨ow, fps, fp, f, h, dj⟩
  · exact .inl h
  · exact .inr ⟨ow, fps, fp, f.forget' i, h, fun j sw ej => dj j sw (sv_set_none ej)⟩
theorem post_suite {i : Nat} {T : Ends} {r : RS} (p : PostS K E F H W T (wipeR i r)) : PostS K E0 F H W (endsAs i T) r := by
  cases r with
  | nx e => exact fun σ' H' W' r' s' => p (σ'.set i none) H' W' (r'.unset i) s'
  | bk e => exact fun σ' H' W' r' s' => p (σ'.set i none) H' W' (r'.unset i) s'
  | ct e => exact fun σ' H' W' r' s' => p (σ'.set i none) H' W' (r'.unset i) s'
  | ret sv e => exact fun v σ' H' W' r' s' rv => p v σ' H' W' (r'.forget' i) s' (rv.forget i)
  | exc x e => exact p.elim
  | stuck => exact p.elim
/-- how a try goes on behind its call -/
structure Goes (K : PySem.W.Frag) (k : SV → En → RS) (kt : Ends → St → V → Hp → Prop) : Prop where
  go : ∀ (E : XK) F e σ H W sv v T, Rel K F e σ H W → rV K sv F e σ H W v → PostS K E F H W T (k sv e) → kt T σ v H
theorem goes_ret : Goes K (fun sv e => .ret sv e) (fun D _ v H => D.rt v H) := ⟨fun E F e σ H W sv v T r rv p => p v σ H W r (Step.refl H W) rv⟩
theorem goes_drop : Goes K (fun _ e => .nx e) (fun D σ _ H => D.nx σ H) := ⟨fun E F e σ H W sv v T r rv p => p σ H W r (Step.refl H W)⟩
theorem ss_tryE {te : XK → TE} {tsu : Addr → Value → Option Addr → TS} {f : En → R SV} {k : SV → En → RS} {kt : Ends → St → V → Hp → Prop} {sub : Value → Option Bool} {i : Nat} {suite : Addr → Value → En → RS} {c : Value} {Eo : XK}
    (hf : ∀ E, SF K (trE tr E) (te E) f) (hk : Goes K k kt) (hm : ∀ s, sub s = some true → PySem.W.exmOne K (tr s) c = some true) (hs : ∀ a s, SS K E0 (tsu a (tr s) none) (suite a s)) :
    SS K Eo (fun D σ H => te (WE (wFst K c i tsu D) σ) σ H fun v H1 => kt D σ v H1) (tryE f k sub i suite) := by
  intro F env σ H W T r p
  refine hf (WE (wFst K c i tsu T) σ) F env σ H W _ r ?_
  unfold tryE at p
  cases q : f env with
  | ok sv e =>
    rw [q] at p
    exact fun v H' W' r' s' rv => hk.go Eo F e σ H' W' sv v T r' rv (PostS.from s' p)
  | exc x e =>
    rw [q] at p
    dsimp only at p
    by_cases hc : sub x.cls = some true ∧ x.fs = [] ∧ i < e.length
    · rw [if_pos hc] at p
      intro cc d H' W' r' s' hx
      obtain ⟨h1, h2⟩ := hx
      subst h1
      have hd : d = none := by
        cases d with
        | none => rfl
        | some a => exact absurd hc.2.1 h2.1
      subst hd
      refine ⟨hm _ hc.1, fun ax hax => ?_⟩
      have ns : anyA (fun a => wipeR i (suite a x.cls (e.set i (some ⟨.p, .opq (.ref a)⟩)))) ≠ .stuck := fun z => by rw [z] at p; exact p
      rw [anyA_at ns ax] at p
      refine hs ax x.cls F _ _ H' W' _ (r'.storeP (d := .opq (.ref ax)) (v := .ref ax) hc.2.2 (.opq _)) ?_
      exact post_suite (PostS.from s' p)
    · rw [if_neg hc] at p; exact p.elim
  | stuck => rw [q] at p; exact p.elim
/-- isinstance(e, c) in a suite, whatever the class cl and the dict dd of what was caught -/
def rIsA (K : PySem.W.Frag) (cl : Value) (dd : Option Addr) (a : Addr) : List V → Hp → VK → Prop := fun xs H Q => ∃ D, cl = .ref D ∧ dd = none ∧ ExcC K D ∧ rIsE K D a xs H Q
theorem call_isA {X : Cx} (hK : X.K = K) {a : Addr} {cl : Value} {dd : Option Addr} {oe : Obj} {pn : List (Addr × Obj)} (hz : Zc cl dd oe) (hf : ∃ vs, oe.data = .fields vs) : CallR (X.suite a ((a, oe) :: pn)) (.builtin "isinstance") (rIsA K cl dd a) := by
  subst hK
  intro pins s σ H xs us Q I r h
  obtain ⟨D, rfl, rfl, C, q⟩ := h
  exact call_isE C hz hf pins s σ H xs us Q I r q
/-- what stands of the classes of the program: signs, and what they are to each other -/
structure SubOk (K : PySem.W.Frag) (tr : Value → Value) (isub : Value → Value → Option Bool) : Prop where
  at_ : ∀ s c b, isub s c = some b → ∃ D, tr s = .ref D ∧ ExcC K D ∧ PySem.W.kitOne K (.ref D) (tr c) = some b
theorem sf_isx {isub : Value → Value → Option Bool} (S : SubOk K tr isub) {i : Nat} {a : Addr} {s c : Value} {cv : V} (hc : ∀ u, RelV cv u → u = tr c) : SF K E (tCB (rIsA K (tr s) none a) (tCons (tVar i) (tCons (tC cv) tNil))) (isxE isub i a s c) := by
  intro F env σ H W Q r p
  unfold isxE at p
  split at p
  · rename_i b q
    split at p
    · rename_i e
      subst e
      split at p
      · rename_i rb qb
        obtain ⟨D, h1, h2, h3⟩ := S.at_ s c rb qb
        obtain ⟨v, g1, fp, g2⟩ := r.sl i _ q
        have ev : v = .ref b := by
          rcases g2 with ⟨_, _, g2⟩ | ⟨n, _⟩
          · cases g2; rfl
          · exact absurd rfl n.np
        subst ev
        exact ⟨_, g1, D, h1, rfl, h2, cv, tr c, rb, rfl, hc, h3, p _ H W r (Step.refl H W) (.inl ⟨rfl, .bl _⟩)⟩
      · exact p.elim
    · exact p.elim
  · exact p.elim
end
theorem a_raiseS (c : Value) (e : En) : raiseS c e = .exc ⟨c, []⟩ e := rfl
theorem a_callZ (G : List SV → RF) (fa : En → R (List Opd)) (e : En) : callZ G fa e = (bindR fa fun os e => match callD G os e with
  | .ok sv e' => .ok sv e'
  | _ => .stuck) e := rfl
theorem a_isxE (isub : Value → Value → Option Bool) (i : Nat) (a : Addr) (s c : Value) (e : En) : isxE isub i a s c e = (match e.sv i with
  | some ⟨.p, .opq (.ref b)⟩ => if b = a then (match isub s c with | some r => .ok ⟨.p, .bl r⟩ e | none => .stuck) else .stuck
  | _ => .stuck) := rfl
theorem tryE_ok {f : En → R SV} {k : SV → En → RS} {sub : Value → Option Bool} {i : Nat} {suite : Addr → Value → En → RS} {e e' : En} {sv : SV} (h : f e = .ok sv e') : tryE f k sub i suite e = k sv e' := by unfold tryE; rw [h]
theorem tryE_exc {f : En → R SV} {k : SV → En → RS} {sub : Value → Option Bool} {i : Nat} {suite : Addr → Value → En → RS} {e e' : En} {c : Value} {r : RS} (h : f e = .exc ⟨c, []⟩ e') (hs : sub c = some true) (hi : i < e'.length)
    (hr : ∀ a, wipeR i (suite a c (e'.set i (some ⟨.p, .opq (.ref a)⟩))) = r) : tryE f k sub i suite e = r := by
  unfold tryE
  rw [h]
  dsimp only
  rw [if_pos ⟨hs, rfl, hi⟩]
  exact anyA_const hr
end DL

namespace DL
open PySem L2
/-- d[k], where k is there -/
def dixE (fd fk : En → R Opd) : En → R SV := bindR fd fun o => bindR fk fun k e => match o.get e, k.get e with
  | some x, some kd => (match dGet x kd with | some (some d) => .ok ⟨.p, d⟩ e | _ => .stuck)
  | _, _ => .stuck
/-- k in d, k not in d -/
def dinN (neg : Bool) (fk fd : En → R Opd) : En → R SV := bindR fk fun k => bindR fd fun o e => match o.get e, k.get e with
  | some x, some kd => (match dGet x kd with | some w => .ok ⟨.p, .bl (if neg then !w.isSome else w.isSome)⟩ e | none => .stuck)
  | _, _ => .stuck
abbrev dinE (fk fd : En → R Opd) : En → R SV := dinN false fk fd
def callPZ (G : List SV → RF) (fa : En → R (List Opd)) : En → R SV := bindR fa fun os e => match pureL os e with
  | some (ds, e') => (match callD G (ds.map Opd.val) e' with
    | .ok sv e2 => .ok sv e2
    | _ => .stuck)
  | none => .stuck
section
variable {K : PySem.W.Frag} {E : XK} {tr : Value → Value} {F : Fm} {env : En} {σ : St} {H : Hp} {W : List Addr} {ta tb te to tl td ty tv : TE} {t : TA}
theorem sf_dix {fd fk : En → R Opd} (hd : SE K E td fd) (hk : SE K E ty fk) : SF K E (tDGet td ty) (dixE fd fk) := by
  intro F env σ H W Q rel p
  refine Sn.go (t := td) hd rel p fun e1 H1 W1 o v rel1 s1 rv p => ?_
  refine Sn.go (t := ty) hk rel1 p fun e2 H2 W2 k w rel2 s2 rk p => ?_
  have rv2 := RelO.step s2 rv
  cases q1 : o.get e2 with
  | none => rw [q1] at p; exact p.elim
  | some d2 =>
    cases q3 : k.get e2 with
    | none => rw [q1, q3] at p; exact p.elim
    | some kd =>
      rw [q1, q3] at p
      dsimp only at p
      cases q4 : dGet d2 kd with
      | none => rw [q4] at p; exact p.elim
      | some ow =>
        rw [q4] at p
        cases ow with
        | none => exact p.elim
        | some d =>
          obtain ⟨a, w', rfl, g1, _, g2⟩ := dGet_ok (rel2.get rv2 q1) (rel2.get rk q3) q4
          obtain ⟨y, rfl, m2⟩ := g2 d rfl
          exact ⟨a, y, rfl, g1, p _ H2 W2 rel2 (Step.refl _ _) (.inl ⟨rfl, m2⟩)⟩
theorem din_core {fd fk : En → R Opd} {neg : Bool} (hk : SE K E ty fk) (hd : SE K E td fd) : SF K E (fun σ H Q => ty σ H fun y H1 => td σ H1 fun x H2 => ∃ a o, x = .ref a ∧ DGet H2 a y o ∧ Q (.bl (if neg then !o.isSome else o.isSome)) H2) (dinN neg fk fd) := by
  intro F env σ H W Q rel p
  refine Sn.go (t := ty) hk rel p fun e1 H1 W1 k w rel1 s1 rk p => ?_
  refine Sn.go (t := td) hd rel1 p fun e2 H2 W2 o v rel2 s2 rv p => ?_
  have rk2 := RelO.step s2 rk
  cases q1 : o.get e2 with
  | none => rw [q1] at p; exact p.elim
  | some d2 =>
    cases q3 : k.get e2 with
    | none => rw [q1, q3] at p; exact p.elim
    | some kd =>
      rw [q1, q3] at p
      dsimp only at p
      cases q4 : dGet d2 kd with
      | none => rw [q4] at p; exact p.elim
      | some ow =>
        rw [q4] at p
        obtain ⟨a, w', rfl, g1, g2, g3⟩ := dGet_ok (rel2.get rv q1) (rel2.get rk2 q3) q4
        have key : w'.isSome = ow.isSome := by
          cases ow with
          | none => rw [g2 rfl]; rfl
          | some d => obtain ⟨v, m1, m2⟩ := g3 d rfl; rw [m1]; rfl
        refine ⟨a, _, rfl, g1, ?_⟩
        rw [key]
        exact p _ H2 W2 rel2 (Step.refl _ _) (.inl ⟨rfl, .bl _⟩)
theorem sf_din {fd fk : En → R Opd} (hk : SE K E ty fk) (hd : SE K E td fd) : SF K E (tDIn ty td) (dinE fk fd) := din_core (neg := false) hk hd
theorem sf_dnotin {fd fk : En → R Opd} (hk : SE K E ty fk) (hd : SE K E td fd) : SF K E (tDNotIn ty td) (dinN true fk fd) := din_core (neg := true) hk hd
theorem sf_callPZ {G : List SV → RF} {fa : En → R (List Opd)} (ha : SA K E t fa) {E' : XK} : SF K E (tCall (spD0 K G) [] E' t) (callPZ G fa) := by
  intro F env σ H W Q r p
  refine Sn.go (t := t) ha r p fun e H W os vs rel s rv p => ?_
  rw [List.append_nil]
  cases q : pureL os e with
  | none => rw [q] at p; exact p.elim
  | some de =>
    obtain ⟨ds, e2⟩ := de
    rw [q] at p
    obtain ⟨W2, r2, s2, hd⟩ := pureL_ok rel rv q
    exact callZ_ok r2 (RelOs.vals hd) (Post.from s2 p)
end
theorem a_dixE (fd fk : En → R Opd) (e : En) : dixE fd fk e = (bindR fd fun o => bindR fk fun k e => match o.get e, k.get e with
  | some x, some kd => (match dGet x kd with | some (some d) => .ok ⟨.p, d⟩ e | _ => .stuck)
  | _, _ => .stuck) e := rfl
theorem a_dinN (neg : Bool) (fk fd : En → R Opd) (e : En) : dinN neg fk fd e = (bindR fk fun k => bindR fd fun o e => match o.get e, k.get e with
  | some x, some kd => (match dGet x kd with | some w => .ok ⟨.p, .bl (if neg then !w.isSome else w.isSome)⟩ e | none => .stuck)
  | _, _ => .stuck) e := rfl
theorem a_callPZ (G : List SV → RF) (fa : En → R (List Opd)) (e : En) : callPZ G fa e = (bindR fa fun os e => match pureL os e with
  | some (ds, e') => (match callD G (ds.map Opd.val) e' with
    | .ok sv e2 => .ok sv e2
    | _ => .stuck)
  | none => .stuck) e := rfl
theorem ex_body0 {K : PySem.W.Frag} {E : XK} {H : Hp} {X : Cx} {b : List Stmt} {ts : TS} {body : En → RS} {N : List Str} {np : Nat} {vs : List V} {Q : VK} (hp : PSs X b ts) (hS : SS K E0 ts body) (hn : np ≤ N.length) (h : spD0 K (defG np N.length body) vs H Q E) :
    ∃ t, PSs X b t ∧ t { nx := fun _ H' => Q .non H', rt := Q } (L2.start N vs) H := ⟨ts, hp, body0 hS hn h⟩
theorem ex_bodyX {K : PySem.W.Frag} {E : XK} {H : Hp} {tr : Value → Value} {X : Cx} {b : List Stmt} {ts : TS} {body : En → RS} {N : List Str} {np : Nat} {vs : List V} {Q : VK} (hp : PSs X b ts) (hS : SS K (trE tr E) ts body) (hn : np ≤ N.length) (h : spX tr K (defG np N.length body) vs H Q E) :
    ∃ t, PSs X b t ∧ t { nx := fun _ H' => Q .non H', rt := Q } (L2.start N vs) H := ⟨ts, hp, bodyX hS hn h⟩
/-- a, b = x, y -/
def parS (i j : Nat) (fa : En → R (List Opd)) : En → RS := bindS fa fun os e => match pureL os e with
  | some ([a, b], e') => if i < e'.length ∧ j < e'.length then .nx ((e'.set i (some ⟨.p, a⟩)).set j (some ⟨.p, b⟩)) else .stuck
  | _ => .stuck
theorem ss_par {K : PySem.W.Frag} {E : XK} {t : TA} {i j : Nat} {fa : En → R (List Opd)} (ha : SA K E t fa) : SS K E (tPar i j t) (parS i j fa) := by
  intro F env σ H W T r p
  refine Sn.goS (t := t) ha r p fun e H W os vs rel s rv p => ?_
  cases q : pureL os e with
  | none => rw [q] at p; exact p.elim
  | some de =>
    obtain ⟨ds, e'⟩ := de
    rw [q] at p
    obtain ⟨W1, r1, s1, k1⟩ := pureL_ok rel rv q
    match ds, k1, p with
    | [a, b], .cons ka (.cons kb .nil), p =>
      dsimp only at p
      by_cases hl : i < e'.length ∧ j < e'.length
      · rw [if_pos hl] at p
        exact ⟨_, _, rfl, p _ H W1 ((r1.storeP hl.1 ka).storeP (by simp [hl.2]) kb) s1⟩
      · rw [if_neg hl] at p; exact p.elim
    | [], _, p => exact p.elim
    | [_], _, p => exact p.elim
    | _ :: _ :: _ :: _, _, p => exact p.elim
theorem a_parS (i j : Nat) (fa : En → R (List Opd)) (e : En) : parS i j fa e = (bindS fa fun os e => match pureL os e with
  | some ([a, b], e') => if i < e'.length ∧ j < e'.length then .nx ((e'.set i (some ⟨.p, a⟩)).set j (some ⟨.p, b⟩)) else .stuck
  | _ => .stuck) e := rfl
/-- what except C and isinstance(e, C) ask of a class of the program -/
theorem kitCls_ref {K : PySem.W.Frag} {t : Value} {C : Addr} {b : Bool} (h2 : PySem.W.isClsIn K C = true) (h3 : PySem.W.typeIn K (.ref C) = some (.type "type")) (h4 : PySem.W.subIn K t (.ref C) = some b) : PySem.W.kitCls K t (.ref C) = some b := by
  have e2 : ((PySem.W.clsIn K C).isSome && PySem.W.typeIn K (.ref C) == some (.type "type")) = true := by
    have h2' : (PySem.W.clsIn K C).isSome = true := h2
    rw [h2', h3]; rfl
  show (if ((PySem.W.clsIn K C).isSome && PySem.W.typeIn K (.ref C) == some (.type "type")) = true then PySem.W.subIn K t (.ref C) else none) = some b
  rw [if_pos e2]; exact h4
theorem exm_ref {K : PySem.W.Frag} {t : Value} {C : Addr} {b : Bool} (h1 : PySem.W.subIn K (.ref C) (.type "BaseException") = some true) (h2 : PySem.W.isClsIn K C = true) (h3 : PySem.W.typeIn K (.ref C) = some (.type "type")) (h4 : PySem.W.subIn K t (.ref C) = some b) : PySem.W.exmOne K t (.ref C) = some b := by
  have e1 : (PySem.W.subIn K (.ref C) (.type "BaseException") == some true) = true := by rw [h1]; rfl
  unfold PySem.W.exmOne
  rw [if_pos e1]; exact kitCls_ref h2 h3 h4
theorem kit_ref {K : PySem.W.Frag} {D C : Addr} {b : Bool} (h2 : PySem.W.isClsIn K C = true) (h3 : PySem.W.typeIn K (.ref C) = some (.type "type")) (h4 : PySem.W.subIn K (.ref D) (.ref C) = some b) (hd : D = C → b = true) : PySem.W.kitOne K (.ref D) (.ref C) = some b := by
  unfold PySem.W.kitOne
  by_cases e : D = C
  · subst e
    rw [if_pos (by exact beq_self_eq_true _), hd rfl]
  · rw [if_neg (by simpa using e)]; exact kitCls_ref h2 h3 h4
theorem kit_type {K : PySem.W.Frag} {D : Addr} {n : String} {b : Bool} (hm : PySem.W.kitMeta n = true) (h4 : PySem.W.subIn K (.ref D) (.type n) = some b) : PySem.W.kitOne K (.ref D) (.type n) = some b := by
  unfold PySem.W.kitOne
  rw [if_neg (by intro z; exact Bool.noConfusion z)]
  show (if PySem.W.kitMeta n = true then PySem.W.subIn K (.ref D) (.type n) else none) = some b
  rw [if_pos hm]; exact h4
end DL

namespace DL
open PySem L2
theorem Spt.par {x y : Int} {d : D} {h r : Nat} {m : Int} {f g : Bool} (S : Spt x y d h r m f g) : m % 2 = h := by
  induction S with
  | base0 _ => rfl
  | base1 _ => rfl
  | lone _ ih => omega
  | see _ _ _ _ ih1 ih2 => omega
theorem Spt.rng {x y : Int} {d : D} {h r : Nat} {m : Int} {f g : Bool} (S : Spt x y d h r m f g) : 0 ≤ m ∧ m ≤ 3 ^ r := by
  induction S with
  | base0 _ => exact ⟨by omega, by simp⟩
  | base1 _ => exact ⟨by omega, by simp⟩
  | lone _ ih => rw [Int.pow_succ]; omega
  | see _ _ _ _ ih1 ih2 => rw [Int.pow_succ]; omega
theorem Spt.flags {x y : Int} {d : D} {h r : Nat} {m : Int} {f g : Bool} (S : Spt x y d h r m f g) : (h = 0 → f = true ∧ (g = false → m = 0)) ∧ (h = 1 → g = true ∧ (f = false → m = 3 ^ r)) := by
  induction S with
  | base0 _ => exact ⟨fun _ => ⟨rfl, fun _ => rfl⟩, fun z => by omega⟩
  | base1 _ => exact ⟨fun z => by omega, fun _ => ⟨rfl, fun _ => by simp⟩⟩
  | lone _ ih =>
    refine ⟨fun z => ⟨(ih.1 z).1, fun w => ?_⟩, fun z => ⟨(ih.2 z).1, fun w => ?_⟩⟩
    · rw [(ih.1 z).2 w]; rfl
    · rw [(ih.2 z).2 w, Int.pow_succ]; omega
  | @see a b h r m m' f g f' g' hh _ _ _ ih1 ih2 =>
    refine ⟨fun z => ⟨?_, fun w => ?_⟩, fun z => ⟨?_, fun w => ?_⟩⟩
    · rw [(ih1.1 z).1]; rfl
    · rw [(ih2.2 (by omega)).1] at w; simp at w
    · rw [(ih1.2 z).1]; rfl
    · rw [(ih2.1 (by omega)).1] at w; simp at w
section
variable {x y : Int} {r d0 d1 : Nat} {A B : List Et} {s : KB}
theorem hist_look0m (S : Hist x y r d0 d1 A B s) (hd : d0 < 2 * r) (od : d0 % 2 = 1) : ∃ s' e e', kbStep s 0 = some s' ∧ Hist x y r (d0 + 1) d1 (A ++ [e']) B s' ∧ A[d0 / 2]? = some e ∧
    ((2 * (d0 / 2) < d1 ∧ ∃ q, B[d0 / 2]? = some q ∧ e'.m = 3 * e.m + 2 * (q.m - e.m)) ∨ (¬ 2 * (d0 / 2) < d1 ∧ e'.m = 3 * e.m)) := by
  obtain ⟨s', e', h1, h2⟩ := hist_look0 S hd od
  obtain ⟨e, g, ea, eb, ek⟩ := S.ks
  refine ⟨s', e, e', h1, h2, ea, ?_⟩
  have hc := S.cs (d0 / 2) (by omega)
  have od' : ¬ d0 % 2 = 0 := by omega
  have la := S.la
  have hs : s'.ks = [.tup [e.d, cellOf B d1 (d0 / 2)], g.d] := by
    have : kbStep s 0 = some ⟨[.tup [e.d, cellOf B d1 (d0 / 2)], g.d], [d0 + 1, d1], s.cs⟩ := by simp [kbStep, S.ds, ek, hc, od']
    rw [h1] at this; cases this; rfl
  obtain ⟨e2, g2, ea2, _, ek2⟩ := h2.ks
  have e2' : (d0 + 1) / 2 = d0 / 2 + 1 := by omega
  have : e2 = e' := by
    rw [e2', ← la] at ea2
    simpa using ea2.symm
  subst this
  rw [hs] at ek2
  have ed : e2.d = .tup [e.d, cellOf B d1 (d0 / 2)] := by
    have := ek2; simp at this; exact this.1.symm
  have sa := h2.sa (d0 / 2) e e2 (snoc_left ea) (by rw [← e2']; exact h2.ks.choose_spec.choose_spec.1 ▸ ea2)
  by_cases hb : 2 * (d0 / 2) < d1
  · have hl : d0 / 2 < B.length := by rw [S.lb]; omega
    have eg := List.getElem?_eq_getElem hl
    generalize B[d0 / 2] = q at eg
    have ec : cellOf B d1 (d0 / 2) = q.d := by unfold cellOf; rw [if_pos hb, eg]; rfl
    rcases sa with ⟨z, _, _⟩ | ⟨q2, eq2, _, z, _⟩
    · rw [ed, ec] at z
      have : q.d = .non := by simpa using z
      exact absurd this (S.gb _ _ eg).notNon
    · rw [eg] at eq2; cases eq2
      exact .inl ⟨hb, q, eg, z⟩
  · have ec : cellOf B d1 (d0 / 2) = .non := by unfold cellOf; rw [if_neg hb]
    rcases sa with ⟨_, z, _⟩ | ⟨q2, eq2, z, _, _⟩
    · exact .inr ⟨hb, z⟩
    · rw [ed, ec] at z
      have : q2.d = .non := by simp at z; exact z.symm
      exact absurd this (S.gb _ _ eq2).notNon
theorem hist_look1m (S : Hist x y r d0 d1 A B s) (hd : d1 < 2 * r) (od : d1 % 2 = 1) : ∃ s' e e', kbStep s 1 = some s' ∧ Hist x y r d0 (d1 + 1) A (B ++ [e']) s' ∧ B[d1 / 2]? = some e ∧
    ((2 * (d1 / 2) < d0 ∧ ∃ q, A[d1 / 2]? = some q ∧ e'.m = 3 * e.m + 2 * (q.m - e.m)) ∨ (¬ 2 * (d1 / 2) < d0 ∧ e'.m = 3 * e.m)) := by
  obtain ⟨s', e', h1, h2⟩ := hist_look1 S hd od
  obtain ⟨g, e, eb, ea, ek⟩ := S.ks
  refine ⟨s', e, e', h1, h2, ea, ?_⟩
  have hc := S.cs (d1 / 2) (by omega)
  have od' : ¬ d1 % 2 = 0 := by omega
  have lb := S.lb
  have hs : s'.ks = [g.d, .tup [e.d, cellOf A d0 (d1 / 2)]] := by
    have : kbStep s 1 = some ⟨[g.d, .tup [e.d, cellOf A d0 (d1 / 2)]], [d0, d1 + 1], s.cs⟩ := by simp [kbStep, S.ds, ek, hc, od']
    rw [h1] at this; cases this; rfl
  obtain ⟨g2, e2, _, ea2, ek2⟩ := h2.ks
  have e2' : (d1 + 1) / 2 = d1 / 2 + 1 := by omega
  have : e2 = e' := by
    rw [e2', ← lb] at ea2
    simpa using ea2.symm
  subst this
  rw [hs] at ek2
  have ed : e2.d = .tup [e.d, cellOf A d0 (d1 / 2)] := by
    have := ek2; simp at this; exact this.2.symm
  have sb := h2.sb (d1 / 2) e e2 (snoc_left ea) (by rw [← e2']; exact ea2)
  by_cases hb : 2 * (d1 / 2) < d0
  · have hl : d1 / 2 < A.length := by rw [S.la]; omega
    have eg := List.getElem?_eq_getElem hl
    generalize A[d1 / 2] = q at eg
    have ec : cellOf A d0 (d1 / 2) = q.d := by unfold cellOf; rw [if_pos hb, eg]; rfl
    rcases sb with ⟨z, _, _⟩ | ⟨q2, eq2, _, z, _⟩
    · rw [ed, ec] at z
      have : q.d = .non := by simpa using z
      exact absurd this (S.ga _ _ eg).notNon
    · rw [eg] at eq2; cases eq2
      exact .inl ⟨hb, q, eg, z⟩
  · have ec : cellOf A d0 (d1 / 2) = .non := by unfold cellOf; rw [if_neg hb]
    rcases sb with ⟨_, z, _⟩ | ⟨q2, eq2, z, _, _⟩
    · exact .inr ⟨hb, z⟩
    · rw [ed, ec] at z
      have : q2.d = .non := by simp at z; exact z.symm
      exact absurd this (S.ga _ _ eq2).notNon
end
theorem getT_cons (k k' : List Key) (d : D) (r : List (List Key × D)) : getT ((k, d) :: r) k' = if k = k' then some d else getT r k' := by
  unfold getT
  rw [List.find?_cons]
  by_cases e : k = k' <;> simp [e]
theorem getT_none_any (kvs : List (List Key × D)) (k : List Key) (h : getT kvs k = none) : (kvs.any fun kv => decide (kv.1 = k)) = false := by
  induction kvs with
  | nil => rfl
  | cons a r ih =>
    obtain ⟨k', d⟩ := a
    rw [getT_cons] at h
    by_cases e : k' = k
    · rw [if_pos e] at h; cases h
    · rw [if_neg e] at h
      rw [List.any_cons, ih h]; simp [e]
theorem getT_app (kvs : List (List Key × D)) (k k' : List Key) (d : D) : getT (kvs ++ [(k, d)]) k' = match getT kvs k' with | some v => some v | none => if k = k' then some d else none := by
  induction kvs with
  | nil => rw [List.nil_append, getT_cons]; rfl
  | cons a r ih =>
    obtain ⟨k2, d2⟩ := a
    rw [List.cons_append, getT_cons, getT_cons]
    by_cases e : k2 = k'
    · rw [if_pos e, if_pos e]
    · rw [if_neg e, if_neg e]; exact ih
theorem getT_put_new (kvs : List (List Key × D)) (k k' : List Key) (d : D) (h : getT kvs k = none) : getT (putT kvs k d) k' = if k = k' then some d else getT kvs k' := by
  unfold putT
  rw [if_neg (by rw [getT_none_any kvs k h]; simp), getT_app]
  by_cases e : k = k'
  · subst e; rw [h, if_pos rfl]
  · simp only [if_neg e]; cases getT kvs k' <;> rfl
theorem putT_new_len (kvs : List (List Key × D)) (k : List Key) (d : D) (h : getT kvs k = none) : (putT kvs k d).length = kvs.length + 1 := by
  unfold putT
  rw [if_neg (by rw [getT_none_any kvs k h]; simp)]
  simp
end DL

namespace DL
open PySem L2
def immK {κ : Type} : List (κ × D) → Bool
  | [] => true
  | (_, d) :: r => imm d && immK r
/-- a thing of one's own in which nothing changeable stands is held with all that stands in it -/
def treeOK : SV → Bool
  | ⟨.p, d⟩ => imm d
  | ⟨.o, .lst ds⟩ => immL ds
  | ⟨.o, .dt es⟩ => immK es
  | ⟨.o, .dk es⟩ => immK es
  | ⟨.o, .obj _ fs⟩ => immK fs
  | ⟨.t, _⟩ => true
  | _ => false
section
variable {K : PySem.W.Frag} {E : XK} {F : Fm} {env env' : En} {σ : St} {H H' : Hp} {W W' A : List Addr} {te : TE} {fps : Nat → List Addr}
theorem TrL.of_imm : ∀ {ds : List D} {vs : List V}, RpL K H A vs ds → immL ds = true → TrL K H A vs ds []
  | [], _, h, _ => by cases h; exact .nil
  | d :: ds, _, h, i => by
    cases h with
    | cons h r =>
      simp only [immL, Bool.and_eq_true] at i
      exact .cons (f := []) (.imm i.1 h) (TrL.of_imm r i.2)
theorem TrK.of_imm {κ : Type} : ∀ {ds : List (κ × D)} {vs : List (κ × V)}, RpK K H A vs ds → immK ds = true → TrK K H A vs ds []
  | [], _, h, _ => by cases h; exact .nil
  | d :: ds, _, h, i => by
    cases h with
    | cons h r =>
      simp only [immK, Bool.and_eq_true] at i
      exact .cons (f := []) (.imm i.1 h) (TrK.of_imm r i.2)
theorem Ow.tree {a : Addr} {d : D} (h : Ow K H A a d) (i : treeOK ⟨.o, d⟩ = true) : Tr K H A (.ref a) d [a] := by
  cases h with
  | lst h r => exact .lst h (TrL.of_imm r i)
  | dt h r => exact .dt h (TrK.of_imm r i)
  | dk h r => exact .dk h (TrK.of_imm r i)
  | obj c m h g r => exact .obj c m h g (TrK.of_imm r i)
theorem rV.tree {sv : SV} {v : V} (r : Rel K F env σ H W) (h : rV K sv F env σ H W v) (i : treeOK sv = true) : rV K ⟨.t, sv.d⟩ F env σ H W v := by
  obtain ⟨fl, d⟩ := sv
  rcases h with ⟨e, h⟩ | ⟨ow, fps, fp, f, h, dj⟩
  · have e' : fl = .p := e
    subst e'
    obtain ⟨fps, f⟩ := r.ex
    exact .inr ⟨rfl, fps, [], f, .inr ⟨.tr (.inl rfl) (.imm i h) List.nodup_nil, fun a z => (by cases z), fun _ a z => (by cases z)⟩, fun _ _ _ a z => by cases z⟩
  · obtain ⟨k1, k2, k3⟩ := h.hd (own_np ow).1
    refine .inr ⟨rfl, fps, fp, f, .inr ⟨?_, k2, fun _ => k3 ow⟩, dj⟩
    cases k1 with
    | sh e k1 =>
      have e' : fl = .o ∨ fl = .b := e
      rcases e' with rfl | rfl
      · exact .tr (.inl rfl) (k1.tree i) (by simp)
      · cases i
    | tr e k1 n => exact .tr (.inl rfl) k1 n
/-- what is given out is held with all that stands in it -/
def ownE (f : En → R SV) : En → R SV := bindR f fun sv e => if treeOK sv = true then .ok ⟨.t, sv.d⟩ e else .stuck
theorem sf_own {f : En → R SV} (h : SF K E te f) : SF K E te (ownE f) := by
  intro F env σ H W Q r p
  refine Sn.go (t := te) h r p fun e H W sv v rel s rv p => ?_
  by_cases i : treeOK sv = true
  · rw [if_pos i] at p
    exact p v H W rel (Step.refl H W) (rv.tree rel i)
  · rw [if_neg i] at p; exact p.elim
/-- what no slot holds is set aside -/
theorem Rel.frameF (r : Rel K F env σ H W) (f : Fps K F env σ H W fps) (B : List Addr) (hB : ∀ a ∈ B, a ∈ W) (hn : ∀ j sw, env.sv j = some sw → ∀ a ∈ B, a ∉ fps j) : Rel K ⟨B ++ F.fr, F.h0, F.s0⟩ env σ H (cutW W B) := by
  have hg : ∀ a, a ∈ cutW W B ++ (B ++ F.fr) → a ∈ W ++ F.fr ∨ H a = none := fun a z => by
    rcases List.mem_append.mp z with z | z
    · exact .inl (List.mem_append_left _ (mem_cutW.mp z).1)
    · rcases List.mem_append.mp z with z | z
      · exact .inl (List.mem_append_left _ (hB a z))
      · exact .inl (List.mem_append_right _ z)
  refine ⟨r.len, ⟨fps, fun i sv e => ?_, f.dj⟩, r.bor, r.trk, fun a z => ?_, fun a z y => ?_, fun a z => r.wt a (mem_cutW.mp z).1⟩
  · obtain ⟨v, h1, h2⟩ := f.sl i sv e
    exact ⟨v, h1, h2.mono (fun _ _ _ e => e) hg (fun a z => ⟨mem_cutW.mpr ⟨h2.inW a z, fun y => hn i sv e a y z⟩, fun _ e => e⟩) rfl⟩
  · rcases List.mem_append.mp z with z | z
    · exact r.wt a (hB a z)
    · exact r.frt a z
  · rcases List.mem_append.mp y with y | y
    · exact (mem_cutW.mp z).2 y
    · exact r.dis a (mem_cutW.mp z).1 y
end

inductive Md where | k | t deriving DecidableEq
def accept : Md → SV → Option D
  | .k, sv => some sv.d
  | .t, sv => if treeOK sv = true then some sv.d else none
def Md.fl : Md → Fl | .k => .o | .t => .t
def AccOk (md : Md) (K : PySem.W.Frag) (H : Hp) (A : List Addr) (av : List V) (acc : List D) (fp : List Addr) : Prop := match md with
  | .k => fp = [] ∧ RpL K H A av acc
  | .t => TrL K H A av acc fp ∧ fp.Nodup
open Classical in
noncomputable def cLoop (md : Md) (s : Src) (vs : List Nat) (asg : D → En → Option En) (test : En → R Bool) (elt : En → R SV) : List D → En → List D → R (List D)
  | [], e, acc => if Grd s e then .ok acc e else .stuck
  | d :: ds, e, acc => if Grd s e then (match asg d e with
    | none => .stuck
    | some e1 => match test e1 with
      | .ok true e2 => (match elt e2 with
        | .ok sv e3 => (match accept md sv with
          | some y => if acc.length < 100000 then cLoop md s vs asg test elt ds (wipeE e3 vs) (acc ++ [y]) else .stuck
          | none => .stuck)
        | _ => .stuck)
      | .ok false e2 => cLoop md s vs asg test elt ds (wipeE e2 vs) acc
      | _ => .stuck) else .stuck
noncomputable def compM (md : Md) (fs : En → R Src) (vs : List Nat) (asg : D → En → Option En) (test : En → R Bool) (elt : En → R SV) : En → R SV := bindR fs fun s e =>
  match cLoop md s vs asg test elt s.ds (wipeE e vs) [] with
  | .ok acc e' => .ok ⟨md.fl, .lst acc⟩ (restE e e' vs)
  | _ => .stuck
open Classical in
noncomputable def cLoop2 (md : Md) (s : Src) (vs : List Nat) (asg : D → En → Option En) (test : En → R Bool) (fs1 : En → R Src) (vs1 : List Nat) (asg1 : D → En → Option En) (test1 : En → R Bool) (elt : En → R SV) : List D → En → List D → R (List D)
  | [], e, acc => if Grd s e then .ok acc e else .stuck
  | d :: ds, e, acc => if Grd s e then (match asg d e with
    | none => .stuck
    | some e1 => match test e1 with
      | .ok true e2 => (match fs1 e2 with
        | .ok s1 e3 => (match cLoop md s1 vs1 asg1 test1 elt s1.ds (wipeE e3 vs1) acc with
          | .ok acc' e4 => cLoop2 md s vs asg test fs1 vs1 asg1 test1 elt ds (wipeE e4 vs) acc'
          | _ => .stuck)
        | _ => .stuck)
      | .ok false e2 => cLoop2 md s vs asg test fs1 vs1 asg1 test1 elt ds (wipeE e2 vs) acc
      | _ => .stuck) else .stuck
noncomputable def comp2M (md : Md) (fs : En → R Src) (vs : List Nat) (asg : D → En → Option En) (test : En → R Bool) (fs1 : En → R Src) (vs1 : List Nat) (asg1 : D → En → Option En) (test1 : En → R Bool) (elt : En → R SV) : En → R SV := bindR fs fun s e =>
  match cLoop2 md s vs asg test fs1 vs1 asg1 test1 elt s.ds (wipeE e vs) [] with
  | .ok acc e' => .ok ⟨md.fl, .lst acc⟩ (restE e e' vs)
  | _ => .stuck
section
variable {K : PySem.W.Frag} {E : XK} {F : Fm} {env env' : En} {σ : St} {H H' H1 : Hp} {W W' W1 A A' : List Addr} {te : TE} {tt tt1 : TT} {fps : Nat → List Addr} {md : Md}
theorem AccOk.mono {av : List V} {acc : List D} {fp : List Addr} (hp : ∀ a o, a ∉ A → H a = some o → H' a = some o) (hg : ∀ a, a ∈ A' → a ∈ A ∨ H a = none) (hf : ∀ a ∈ fp, ∀ o, H a = some o → H' a = some o) (h : AccOk md K H A av acc fp) : AccOk md K H' A' av acc fp := by
  cases md with
  | k => exact ⟨h.1, h.2.mono hp hg⟩
  | t => exact ⟨h.1.mono hp hg hf, h.2⟩
theorem TrL.length : ∀ {vs : List V} {ds : List D} {fp : List Addr}, TrL K H A vs ds fp → vs.length = ds.length := fun {vs ds} => by
  induction ds generalizing vs with
  | nil => intro fp h; cases h; rfl
  | cons d ds ih => intro fp h; cases h with | cons _ r => rw [List.length_cons, List.length_cons, ih r]
theorem AccOk.length {av : List V} {acc : List D} {fp : List Addr} (h : AccOk md K H A av acc fp) : av.length = acc.length := by
  cases md with
  | k => exact h.2.length
  | t => exact h.1.length
theorem TrL.snoc : ∀ {ds : List D} {vs : List V} {fp fq : List Addr} {v : V} {d : D}, TrL K H A vs ds fp → Tr K H A v d fq → TrL K H A (vs ++ [v]) (ds ++ [d]) (fp ++ fq)
  | [], _, _, fq, v, d, h, g => by
    cases h
    have := TrL.cons g .nil
    rw [List.append_nil] at this
    exact this
  | _ :: ds, _, _, fq, v, d, h, g => by
    cases h with
    | cons a r =>
      rw [List.append_assoc]
      exact .cons a (TrL.snoc r g)
/-- where a comprehension stands: what is collected is set aside -/
structure LS (md : Md) (K : PySem.W.Frag) (F : Fm) (τ : St) (D : Addr) (H1 : Hp) (X1 : List Addr) (en : En) (H : Hp) (W : List Addr) (acc : List DL.D) : Prop where
  ex : ∃ av fp B, Rel K ⟨B ++ F.fr, F.h0, F.s0⟩ en τ H W ∧ Step H1 X1 H (B ++ W) ∧ H D = some (.lst av) ∧ AccOk md K H (W ++ (B ++ F.fr)) av acc fp ∧ (∀ a, a ∈ B ↔ a = D ∨ a ∈ fp) ∧ D ∉ fp ∧ (∀ a ∈ fp, F.h0 a = none)
theorem LS.wipe {τ : St} {D : Addr} {X1 : List Addr} {en : En} {acc : List DL.D} (l : LS md K F τ D H1 X1 en H W acc) (vs : List Nat) : LS md K F (L2.wipe τ vs) D H1 X1 (wipeE en vs) H W acc := by
  obtain ⟨av, fp, B, r, h⟩ := l.ex
  exact ⟨⟨av, fp, B, r.wipe vs, h⟩⟩
theorem wipe_wipe {τ : St} {vs ws : List Nat} (h : ∀ i ∈ ws, i ∈ vs) : L2.wipe (L2.wipe τ ws) vs = L2.wipe τ vs := by
  refine List.ext_getElem? fun j => ?_
  by_cases hj : j ∈ vs
  · have key : ∀ (τ : St) (ws : List Nat), j ∈ ws → j < τ.length → (L2.wipe τ ws)[j]? = some none := by
      intro τ ws
      induction ws with
      | nil => intro h; simp at h
      | cons w ws ih =>
        intro h hl
        unfold L2.wipe
        by_cases hw : w = j
        · subst hw
          exact List.getElem?_set_self (by rw [wipe_length]; exact hl)
        · rw [List.getElem?_set_ne hw]
          exact ih (by simpa [Ne.symm hw] using h) hl
    by_cases hl : j < τ.length
    · rw [key _ vs hj (by rw [wipe_length]; exact hl), key τ vs hj hl]
    · rw [List.getElem?_eq_none (by rw [wipe_length, wipe_length]; omega), List.getElem?_eq_none (by rw [wipe_length]; omega)]
  · rw [wipe_out hj, wipe_out hj, wipe_out (fun z => hj (h j z))]
theorem Step.addB {B : List Addr} (s : Step H W H' W') (d : ∀ a ∈ B, a ∉ W) : Step H (B ++ W) H' (B ++ W') := ⟨fun a o n q => s.pres a o (fun z => n (List.mem_append_right _ z)) q, fun a z => by
  rcases List.mem_append.mp z with z | z
  · exact .inl (List.mem_append_left _ z)
  · rcases s.grow a z with z | z
    · exact .inl (List.mem_append_right _ z)
    · exact .inr z⟩
/-- one thing more is collected -/
theorem LS.add {τ : St} {D : Addr} {X1 : List Addr} {en : En} {acc : List DL.D} {B fp : List Addr} {av : List V} {y : V} {sv : SV} {yd : DL.D} (r : Rel K ⟨B ++ F.fr, F.h0, F.s0⟩ en τ H W) (st : Step H1 X1 H (B ++ W)) (hD : H D = some (.lst av)) (ha : AccOk md K H (W ++ (B ++ F.fr)) av acc fp)
    (hB : ∀ a, a ∈ B ↔ a = D ∨ a ∈ fp) (nD : D ∉ fp) (h0 : ∀ a ∈ fp, F.h0 a = none) (ry : rV K sv ⟨B ++ F.fr, F.h0, F.s0⟩ en τ H W y) (hy : accept md sv = some yd) :
    ∃ W2, LS md K F τ D H1 X1 en (upd H D (.lst (av ++ [y]))) W2 (acc ++ [yd]) := by
  have hDB : D ∈ B := (hB D).mpr (.inl rfl)
  have upd_st : ∀ {X : List Addr}, Step H1 X1 H X → D ∈ X → Step H1 X1 (upd H D (.lst (av ++ [y]))) X := fun s hX => ⟨fun a u n q => by
    rw [upd_ne (fun z => (s.grow D hX).elim (fun w => n (by rw [z]; exact w)) (fun w => by rw [z, w] at q; cases q))]
    exact s.pres a u n q, s.grow⟩
  cases md with
  | k =>
    have e : sv.d = yd := by simpa [accept] using hy
    subst e
    obtain ⟨W2, r2, s2, k2⟩ := keep_fresh r ry
    obtain ⟨e1, ha⟩ := ha
    subst e1
    have hk : ∀ a u, a ∉ W2 ++ (B ++ F.fr) → H a = some u → (upd H D (.lst (av ++ [y]))) a = some u := fun a u n q => by
      rw [upd_ne (fun z => n (by rw [z]; exact List.mem_append_right _ (List.mem_append_left _ hDB)))]; exact q
    have dBW : ∀ a ∈ B, a ∉ W := fun a z y => r.dis a y (List.mem_append_left _ z)
    refine ⟨W2, ⟨⟨av ++ [y], [], B, r2.fwrite _ (List.mem_append_left _ hDB), upd_st (st.trans (s2.addB dBW)) (List.mem_append_left _ hDB), upd_same, ⟨rfl, ?_⟩, hB, nD, h0⟩⟩⟩
    exact RpL.mono hk (fun a z => .inl z) ((s2.rpL (Fr := B ++ F.fr) ha).append (.one k2))
  | t =>
    have it : treeOK sv = true := by
      by_cases q : treeOK sv = true
      · exact q
      · simp [accept, q] at hy
    have e : sv.d = yd := by simpa [accept, it] using hy
    subst e
    have rt := ry.tree r it
    rcases rt with ⟨z, _⟩ | ⟨_, fps, fq, f, h, dj⟩
    · cases z
    · obtain ⟨k1, k2, k3⟩ := h.hd (fun z => by cases z)
      have r2 := r.frameF f fq k2 dj
      have e2 : fq ++ (B ++ F.fr) = (fq ++ B) ++ F.fr := (List.append_assoc _ _ _).symm
      rw [show (⟨fq ++ (⟨B ++ F.fr, F.h0, F.s0⟩ : Fm).fr, (⟨B ++ F.fr, F.h0, F.s0⟩ : Fm).h0, (⟨B ++ F.fr, F.h0, F.s0⟩ : Fm).s0⟩ : Fm) = ⟨(fq ++ B) ++ F.fr, F.h0, F.s0⟩ from by rw [← e2]] at r2
      obtain ⟨ha, hnd⟩ := ha
      have nqB : ∀ a ∈ fq, a ∉ B := fun a z y => r.dis a (k2 a z) (List.mem_append_left _ y)
      have nDq : D ∉ fq := fun z => nqB D z hDB
      have sub : ∀ a, a ∈ cutW W fq ++ ((fq ++ B) ++ F.fr) → a ∈ W ++ (B ++ F.fr) ∨ H a = none := fun a z => by
        rcases List.mem_append.mp z with z | z
        · exact .inl (List.mem_append_left _ (mem_cutW.mp z).1)
        · rcases List.mem_append.mp z with z | z
          · rcases List.mem_append.mp z with z | z
            · exact .inl (List.mem_append_left _ (k2 a z))
            · exact .inl (List.mem_append_right _ (List.mem_append_left _ z))
          · exact .inl (List.mem_append_right _ (List.mem_append_right _ z))
      have hk : ∀ a u, a ∉ W ++ (B ++ F.fr) → H a = some u → (upd H D (.lst (av ++ [y]))) a = some u := fun a u n q => by
        rw [upd_ne (fun z => n (by rw [z]; exact List.mem_append_right _ (List.mem_append_left _ hDB)))]; exact q
      have hne : ∀ a, a ≠ D → ∀ o, H a = some o → (upd H D (.lst (av ++ [y]))) a = some o := fun a n o q => by rw [upd_ne n]; exact q
      have stB : Step H1 X1 H ((fq ++ B) ++ cutW W fq) := st.trans (Step.sub fun a z => by
        rcases List.mem_append.mp z with z | z
        · rcases List.mem_append.mp z with z | z
          · exact List.mem_append_right _ (k2 a z)
          · exact List.mem_append_left _ z
        · exact List.mem_append_right _ (mem_cutW.mp z).1)
      cases k1 with
      | sh e _ => rcases e with e | e <;> cases e
      | tr _ k1 n =>
        refine ⟨cutW W fq, ⟨⟨av ++ [y], fp ++ fq, fq ++ B, r2.fwrite _ (List.mem_append_left _ (List.mem_append_right _ hDB)), upd_st stB (List.mem_append_left _ (List.mem_append_right _ hDB)), upd_same, ⟨?_, ?_⟩, fun a => ?_, fun z => ?_, fun a z => ?_⟩⟩⟩
        · exact (TrL.snoc ha k1).mono hk sub (fun a z o q => hne a (fun e => by
            rw [e] at z
            rcases List.mem_append.mp z with z | z
            · exact nD z
            · exact nDq z) o q)
        · exact List.nodup_append.mpr ⟨hnd, n, fun a z b y e => by
            subst e
            exact nqB a y ((hB a).mpr (.inr z))⟩
        · constructor
          · intro z
            rcases List.mem_append.mp z with z | z
            · exact .inr (List.mem_append_right _ z)
            · rcases (hB a).mp z with z | z
              · exact .inl z
              · exact .inr (List.mem_append_left _ z)
          · intro z
            rcases z with z | z
            · exact List.mem_append_right _ ((hB a).mpr (.inl z))
            · rcases List.mem_append.mp z with z | z
              · exact List.mem_append_right _ ((hB a).mpr (.inr z))
              · exact List.mem_append_left _ z
        · rcases List.mem_append.mp z with z | z
          · exact nD z
          · exact nDq z
        · rcases List.mem_append.mp z with z | z
          · exact h0 a z
          · exact k3 rfl a z
/-- what is collected stays -/
theorem LS.kept {τ : St} {D : Addr} {en : En} {acc : List DL.D} {B fp : List Addr} {av : List V} (r : Rel K ⟨B ++ F.fr, F.h0, F.s0⟩ en τ H W) (s : Step H W H' W') (hD : H D = some (.lst av)) (ha : AccOk md K H (W ++ (B ++ F.fr)) av acc fp) (hB : ∀ a, a ∈ B ↔ a = D ∨ a ∈ fp) :
    H' D = some (.lst av) ∧ AccOk md K H' (W' ++ (B ++ F.fr)) av acc fp := by
  have nB : ∀ a ∈ B, a ∉ W := fun a z y => r.dis a y (List.mem_append_left _ z)
  exact ⟨s.pres D _ (nB D ((hB D).mpr (.inl rfl))) hD, ha.mono (s.pF (Fr := B ++ F.fr)) (s.gF (Fr := B ++ F.fr)) (fun a z o q => s.pres a o (nB a ((hB a).mpr (.inr z))) q)⟩
/-- the source of a walk, at a later state -/
theorem it_at {s : Src} {J : It} {As X1 B : List Addr} {τ : St} {en : En} (it : ItOk K F.s0 s As H1 J) (hX : ∀ a ∈ X1, a ∈ As) (hF : ∀ a ∈ F.fr, a ∈ As) (r : Rel K ⟨B ++ F.fr, F.h0, F.s0⟩ en τ H W) (st : Step H1 X1 H (B ++ W)) (hG : Grd s en) :
    (∀ i d, s.ds[i]? = some d → J.go i H ∧ ∀ x H'', J.yld i H x H'' → (H'' = H ∨ ∃ q o, H q = none ∧ H'' = upd H q o) ∧ Rp K H'' (W ++ (B ++ F.fr)) x d) ∧ (∀ i, s.ds.length ≤ i → J.stop i H) := by
  refine it (W ++ (B ++ F.fr)) H (fun a o n q => st.pres a o (fun z => n (hX a z)) q) (fun a z => ?_) r.all (r.grd hG)
  have key : a ∈ B ++ W → a ∈ As ∨ H1 a = none := fun z => (st.grow a z).imp (hX a) id
  rcases List.mem_append.mp z with z | z
  · exact key (List.mem_append_right _ z)
  · rcases List.mem_append.mp z with z | z
    · exact key (List.mem_append_left _ z)
    · exact .inl (hF a z)
/-- the walk of one clause -/
theorem lc_loop {g : TG} {is vs : List Nat} {asg : DL.D → En → Option En} {test : En → R Bool} {elt : En → R SV} (hg : SG K g is asg) (hs : ∀ i ∈ is, i ∈ vs) (ht : SB K E0 tt test) (he : SF K E0 te elt)
    {τ : St} {D : Addr} {s : Src} {J : It} {e eF : En} {acc0 accF : List DL.D} {As X1 : List Addr} {Fin : Hp → Prop}
    (it : ItOk K F.s0 s As H1 J) (hX : ∀ a ∈ X1, a ∈ As) (hF : ∀ a ∈ F.fr, a ∈ As) (l : LS md K F (L2.wipe τ vs) D H1 X1 e H W acc0)
    (hc : cLoop md s vs asg test elt s.ds e acc0 = .ok accF eF) (fin : ∀ H' W', LS md K F (L2.wipe τ vs) D H1 X1 eF H' W' accF → Fin H') :
    ∃ Wv : Nat → Nat → Hp → Prop, (∃ m, Wv 0 m H) ∧ ∀ i m H', Wv i m H' → (J.stop i H' ∧ Fin H') ∨ (J.go i H' ∧ ∃ Nx : Hp → Prop, (∀ H'', Nx H'' → ∃ m', m' < m ∧ Wv (i + 1) m' H'') ∧ ∀ x H2, J.yld i H' x H2 → g x (L2.wipe τ vs) H2 fun σ2 H3 => L2.wipe σ2 vs = L2.wipe τ vs ∧ tt σ2 H3 fun b H4 =>
      if b = true then te σ2 H4 fun y H5 => ∃ acc, H5 D = some (.lst acc) ∧ acc.length < sizeLine ∧ Nx (upd H5 D (.lst (acc ++ [y]))) else Nx H4) := by
  refine ⟨fun i m H' => m = s.ds.length - i ∧ i ≤ s.ds.length ∧ ∃ en W' acc, LS md K F (L2.wipe τ vs) D H1 X1 en H' W' acc ∧ cLoop md s vs asg test elt (s.ds.drop i) en acc = .ok accF eF, ⟨s.ds.length, by simp, Nat.zero_le _, e, W, acc0, l, by simpa using hc⟩, ?_⟩
  rintro i m H2 ⟨rfl, hi, en, W2, acc, l2, hc⟩
  obtain ⟨av, fp, B, r2, st2, hD2, ha2, hB, nD, h0⟩ := l2.ex
  by_cases hlt : i < s.ds.length
  · rw [List.drop_eq_getElem_cons hlt] at hc
    unfold cLoop at hc
    by_cases hG : Grd s en
    · rw [if_pos hG] at hc
      obtain ⟨k1, _⟩ := it_at it hX hF r2 st2 hG
      obtain ⟨go, yl⟩ := k1 i _ (List.getElem?_eq_getElem hlt)
      refine .inr ⟨go, fun H' => i + 1 ≤ s.ds.length ∧ ∃ en W' acc, LS md K F (L2.wipe τ vs) D H1 X1 en H' W' acc ∧ cLoop md s vs asg test elt (s.ds.drop (i + 1)) en acc = .ok accF eF, fun H' z => ⟨s.ds.length - (i + 1), by omega, rfl, z.1, z.2⟩, fun x H3 y => ?_⟩
      obtain ⟨gr, rx⟩ := yl x H3 y
      obtain ⟨r3, s3⟩ := r2.grown gr
      cases ea : asg s.ds[i] en with
      | none => rw [ea] at hc; cases hc
      | some e1 =>
        rw [ea] at hc; dsimp only at hc
        refine hg _ en (L2.wipe τ vs) H3 W2 x _ e1 _ r3 rx ea fun σ4 H4 W4 r4 s4 a4 => ⟨wipe_agree a4 hs, ?_⟩
        have s24 := s3.trans s4
        have wst : L2.wipe σ4 vs = L2.wipe τ vs := wipe_agree a4 hs
        have dBW : ∀ a ∈ B, a ∉ W2 := fun a z y => r2.dis a y (List.mem_append_left _ z)
        refine ht _ e1 σ4 H4 W4 _ r4 ?_
        cases qt : test e1 with
        | exc x e => rw [qt] at hc; cases hc
        | stuck => rw [qt] at hc; cases hc
        | ok b e2 =>
          rw [qt] at hc
          intro b' H5 W5 r5 s5 eb
          have eb' : b = b' := eb
          subst eb'
          have s25 := s24.trans s5
          cases b with
          | false =>
            dsimp only at hc
            obtain ⟨h5, k5⟩ := LS.kept r2 s25 hD2 ha2 hB
            refine ⟨by omega, wipeE e2 vs, W5, acc, ?_, hc⟩
            have : LS md K F σ4 D H1 X1 e2 H5 W5 acc := ⟨⟨av, fp, B, r5, st2.trans (s25.addB dBW), h5, k5, hB, nD, h0⟩⟩
            have := this.wipe vs
            rw [wst] at this
            exact this
          | true =>
            dsimp only at hc
            show te σ4 H5 _
            refine he _ e2 σ4 H5 W5 _ r5 ?_
            cases qe : elt e2 with
            | exc x e => rw [qe] at hc; cases hc
            | stuck => rw [qe] at hc; cases hc
            | ok sv e3 =>
              rw [qe] at hc; dsimp only at hc
              intro y H6 W6 r6 s6 ry
              cases qp : accept md sv with
              | none => rw [qp] at hc; cases hc
              | some yd =>
                rw [qp] at hc; dsimp only at hc
                by_cases hz : acc.length < 100000
                · rw [if_pos hz] at hc
                  have s26 := s25.trans s6
                  obtain ⟨h6, k6⟩ := LS.kept r2 s26 hD2 ha2 hB
                  obtain ⟨W7, l7⟩ := LS.add r6 (st2.trans (s26.addB dBW)) h6 k6 hB nD h0 ry qp
                  refine ⟨av, h6, sz_lt (by rw [k6.length]; exact hz), by omega, wipeE e3 vs, W7, acc ++ [yd], ?_, hc⟩
                  have := l7.wipe vs
                  rw [wst] at this
                  exact this
                · rw [if_neg hz] at hc; cases hc
    · rw [if_neg hG] at hc; cases hc
  · have e0 : i = s.ds.length := by omega
    subst e0
    rw [List.drop_length] at hc
    unfold cLoop at hc
    by_cases hG : Grd s en
    · rw [if_pos hG] at hc
      cases hc
      obtain ⟨_, k2⟩ := it_at it hX hF r2 st2 hG
      exact .inl ⟨k2 _ (Nat.le_refl _), fin H2 W2 l2⟩
    · rw [if_neg hG] at hc; cases hc
/-- two clauses -/
theorem lc_loop2 {g g1 : TG} {is is1 vs vs1 : List Nat} {asg asg1 : DL.D → En → Option En} {test test1 : En → R Bool} {fs1 : En → R Src} {wi1 : TI} {elt : En → R SV} (hg : SG K g is asg) (hs : ∀ i ∈ is, i ∈ vs) (ht : SB K E0 tt test)
    (hi1 : SI K E0 wi1 fs1) (hg1 : SG K g1 is1 asg1) (hs1 : ∀ i ∈ is1, i ∈ vs1) (hv : ∀ i ∈ vs1, i ∈ vs) (ht1 : SB K E0 tt1 test1) (he : SF K E0 te elt)
    {τ : St} {D : Addr} {s : Src} {J : It} {e eF : En} {acc0 accF : List DL.D} {As X1 : List Addr} {Fin : Hp → Prop}
    (it : ItOk K F.s0 s As H1 J) (hX : ∀ a ∈ X1, a ∈ As) (hF : ∀ a ∈ F.fr, a ∈ As) (l : LS md K F (L2.wipe τ vs) D H1 X1 e H W acc0)
    (hc : cLoop2 md s vs asg test fs1 vs1 asg1 test1 elt s.ds e acc0 = .ok accF eF) (fin : ∀ H' W', LS md K F (L2.wipe τ vs) D H1 X1 eF H' W' accF → Fin H') :
    ∃ Wv : Nat → Nat → Hp → Prop, (∃ m, Wv 0 m H) ∧ ∀ i m H', Wv i m H' → (J.stop i H' ∧ Fin H') ∨ (J.go i H' ∧ ∃ Nx : Hp → Prop, (∀ H'', Nx H'' → ∃ m', m' < m ∧ Wv (i + 1) m' H'') ∧ ∀ x H2, J.yld i H' x H2 → g x (L2.wipe τ vs) H2 fun σ2 H3 => L2.wipe σ2 vs = L2.wipe τ vs ∧ tt σ2 H3 fun b H4 =>
      if b = true then wi1 σ2 H4 fun J1 H4 => ∃ W1 : Nat → Nat → Hp → Prop, (∃ m, W1 0 m H4) ∧ ∀ j k H, W1 j k H →
        (J1.stop j H ∧ Nx H) ∨ (J1.go j H ∧ ∃ Nx1 : Hp → Prop, (∀ H', Nx1 H' → ∃ k', k' < k ∧ W1 (j + 1) k' H') ∧ ∀ x H', J1.yld j H x H' → g1 x (L2.wipe σ2 vs1) H' fun σ3 H5 => L2.wipe σ3 vs1 = L2.wipe σ2 vs1 ∧ tt1 σ3 H5 fun b H6 =>
          if b = true then te σ3 H6 fun y H7 => ∃ acc, H7 D = some (.lst acc) ∧ acc.length < sizeLine ∧ Nx1 (upd H7 D (.lst (acc ++ [y]))) else Nx1 H6)
      else Nx H4) := by
  refine ⟨fun i m H' => m = s.ds.length - i ∧ i ≤ s.ds.length ∧ ∃ en W' acc, LS md K F (L2.wipe τ vs) D H1 X1 en H' W' acc ∧ cLoop2 md s vs asg test fs1 vs1 asg1 test1 elt (s.ds.drop i) en acc = .ok accF eF, ⟨s.ds.length, by simp, Nat.zero_le _, e, W, acc0, l, by simpa using hc⟩, ?_⟩
  rintro i m H2 ⟨rfl, hi, en, W2, acc, l2, hc⟩
  obtain ⟨av, fp, B, r2, st2, hD2, ha2, hB, nD, h0⟩ := l2.ex
  by_cases hlt : i < s.ds.length
  · rw [List.drop_eq_getElem_cons hlt] at hc
    unfold cLoop2 at hc
    by_cases hG : Grd s en
    · rw [if_pos hG] at hc
      obtain ⟨k1, _⟩ := it_at it hX hF r2 st2 hG
      obtain ⟨go, yl⟩ := k1 i _ (List.getElem?_eq_getElem hlt)
      refine .inr ⟨go, fun H' => i + 1 ≤ s.ds.length ∧ ∃ en W' acc, LS md K F (L2.wipe τ vs) D H1 X1 en H' W' acc ∧ cLoop2 md s vs asg test fs1 vs1 asg1 test1 elt (s.ds.drop (i + 1)) en acc = .ok accF eF, fun H' z => ⟨s.ds.length - (i + 1), by omega, rfl, z.1, z.2⟩, fun x H3 y => ?_⟩
      obtain ⟨gr, rx⟩ := yl x H3 y
      obtain ⟨r3, s3⟩ := r2.grown gr
      cases ea : asg s.ds[i] en with
      | none => rw [ea] at hc; cases hc
      | some e1 =>
        rw [ea] at hc; dsimp only at hc
        refine hg _ en (L2.wipe τ vs) H3 W2 x _ e1 _ r3 rx ea fun σ4 H4 W4 r4 s4 a4 => ⟨wipe_agree a4 hs, ?_⟩
        have s24 := s3.trans s4
        have wst : L2.wipe σ4 vs = L2.wipe τ vs := wipe_agree a4 hs
        have dBW : ∀ a ∈ B, a ∉ W2 := fun a z y => r2.dis a y (List.mem_append_left _ z)
        refine ht _ e1 σ4 H4 W4 _ r4 ?_
        cases qt : test e1 with
        | exc x e => rw [qt] at hc; cases hc
        | stuck => rw [qt] at hc; cases hc
        | ok b e2 =>
          rw [qt] at hc
          intro b' H5 W5 r5 s5 eb
          have eb' : b = b' := eb
          subst eb'
          have s25 := s24.trans s5
          cases b with
          | false =>
            dsimp only at hc
            obtain ⟨h5, k5⟩ := LS.kept r2 s25 hD2 ha2 hB
            refine ⟨by omega, wipeE e2 vs, W5, acc, ?_, hc⟩
            have : LS md K F σ4 D H1 X1 e2 H5 W5 acc := ⟨⟨av, fp, B, r5, st2.trans (s25.addB dBW), h5, k5, hB, nD, h0⟩⟩
            have := this.wipe vs
            rw [wst] at this
            exact this
          | true =>
            dsimp only at hc
            show wi1 σ4 H5 _
            refine hi1 _ e2 σ4 H5 W5 _ r5 ?_
            cases qe : fs1 e2 with
            | exc x e => rw [qe] at hc; cases hc
            | stuck => rw [qe] at hc; cases hc
            | ok s1 e3 =>
              rw [qe] at hc; dsimp only at hc
              intro J1 H6 W6 r6 s6 it1
              have s26 := s25.trans s6
              obtain ⟨h6, k6⟩ := LS.kept r2 s26 hD2 ha2 hB
              cases qi : cLoop md s1 vs1 asg1 test1 elt s1.ds (wipeE e3 vs1) acc with
              | exc x e => rw [qi] at hc; cases hc
              | stuck => rw [qi] at hc; cases hc
              | ok acc' e4 =>
                rw [qi] at hc; dsimp only at hc
                have st6 : Step H1 X1 H6 (B ++ W6) := st2.trans (s26.addB dBW)
                refine lc_loop (F := F) (H1 := H6) (X1 := B ++ W6) (As := W6 ++ (B ++ F.fr)) hg1 hs1 ht1 he it1 (fun a z => ?_) (fun a z => List.mem_append_right _ (List.mem_append_right _ z)) (W := W6) ⟨⟨av, fp, B, r6.wipe vs1, Step.refl _ _, h6, k6, hB, nD, h0⟩⟩ qi fun H' W' l' => ?_
                · rcases List.mem_append.mp z with z | z
                  · exact List.mem_append_right _ (List.mem_append_left _ z)
                  · exact List.mem_append_left _ z
                · obtain ⟨av', fp', B', r', st', rest⟩ := (l'.wipe vs).ex
                  rw [wipe_wipe hv, wst] at r'
                  exact ⟨by omega, wipeE e4 vs, W', acc', ⟨⟨av', fp', B', r', st6.trans st', rest⟩⟩, hc⟩
    · rw [if_neg hG] at hc; cases hc
  · have e0 : i = s.ds.length := by omega
    subst e0
    rw [List.drop_length] at hc
    unfold cLoop2 at hc
    by_cases hG : Grd s en
    · rw [if_pos hG] at hc
      cases hc
      obtain ⟨_, k2⟩ := it_at it hX hF r2 st2 hG
      exact .inl ⟨k2 _ (Nat.le_refl _), fin H2 W2 l2⟩
    · rw [if_neg hG] at hc; cases hc
/-- behind a comprehension -/
theorem Rel.restB {e : En} {B : List Addr} {vs : List Nat} (r : Rel K F env σ H1 W1) (s : Step H1 W1 H (B ++ W)) (r2 : Rel K ⟨B ++ F.fr, F.h0, F.s0⟩ e (L2.wipe σ vs) H W) :
    Rel K F (restE env e vs) σ H (B ++ W) ∧ ∃ fps, Fps K F (restE env e vs) σ H (B ++ W) fps ∧ ∀ j sw, (restE env e vs).sv j = some sw → ∀ a ∈ B, a ∉ fps j := by
  have eq1 : ∀ a, a ∈ (B ++ W) ++ F.fr → a ∈ W ++ (B ++ F.fr) ∨ H a = none := fun a z => by
    rcases List.mem_append.mp z with z | z
    · rcases List.mem_append.mp z with z | z
      · exact .inl (List.mem_append_right _ (List.mem_append_left _ z))
      · exact .inl (List.mem_append_left _ z)
    · exact .inl (List.mem_append_right _ (List.mem_append_right _ z))
  have hk : ∀ a u, a ∉ W ++ (B ++ F.fr) → H a = some u → H a = some u := fun _ _ _ e => e
  obtain ⟨fps, f⟩ := r2.ex
  have F2 : Fps K F (restE env e vs) σ H (B ++ W) (fun j => if j ∈ vs then [] else fps j) := by
    refine ⟨fun j sv q => ?_, fun j k sj sk ej ek hjk a z => ?_⟩
    · rcases restE_sv q with ⟨h1, h2, h3⟩ | ⟨h1, h2⟩
      · obtain ⟨v, g1, fp, g2⟩ := r.sl j sv h3
        rw [if_pos h1]
        refine ⟨v, g1, .inl ⟨h2, rfl, ?_⟩⟩
        rcases g2 with ⟨_, _, g2⟩ | ⟨n, _⟩
        · exact g2.mono s.pF s.gF
        · exact absurd h2 n.np
      · obtain ⟨v, g1, g2⟩ := f.sl j sv h2
        rw [wipe_out h1] at g1
        rw [if_neg h1]
        exact ⟨v, g1, g2.mono hk eq1 (fun a z => ⟨List.mem_append_right _ (g2.inW a z), fun _ e => e⟩) rfl⟩
    · by_cases h1 : j ∈ vs
      · rw [if_pos h1] at z; cases z
      · rw [if_neg h1] at z
        by_cases h2 : k ∈ vs
        · rw [if_pos h2]; intro y; cases y
        · rw [if_neg h2]
          rcases restE_sv ej with ⟨q, _⟩ | ⟨_, q1⟩
          · exact absurd q h1
          · rcases restE_sv ek with ⟨q, _⟩ | ⟨_, q2⟩
            · exact absurd q h2
            · exact f.dj j k sj sk q1 q2 hjk a z
  refine ⟨⟨by rw [restE_len, r2.len, wipe_length], ⟨_, F2⟩, fun j sv q b => ?_, r2.trk, fun a z => r2.frt a (List.mem_append_right _ z), fun a z y => ?_, fun a z => ?_⟩, _, F2, fun j sw ej a za y => ?_⟩
  · rcases restE_sv q with ⟨h1, h2, h3⟩ | ⟨h1, h2⟩
    · rw [h2] at b; cases b
    · have := r2.bor j sv h2 b
      rw [wipe_out h1] at this
      exact this
  · rcases s.grow a z with z | z
    · exact r.dis a z y
    · exact r.frt a y z
  · rcases List.mem_append.mp z with z | z
    · exact r2.frt _ (List.mem_append_left _ z)
    · exact r2.wt a z
  · by_cases h1 : j ∈ vs
    · rw [if_pos h1] at y; cases y
    · rw [if_neg h1] at y
      rcases restE_sv ej with ⟨q, _⟩ | ⟨_, q1⟩
      · exact absurd q h1
      · obtain ⟨v, _, g2⟩ := f.sl j sw q1
        exact r2.dis a (g2.inW a y) (List.mem_append_left _ za)
/-- the list that was collected -/
theorem LS.out {Q : VK} {D : Addr} {e eF : En} {acc : List DL.D} {vs : List Nat} (r : Rel K F e σ H1 W1) (hD1 : H1 D = none) (l : LS md K F (L2.wipe σ vs) D H1 W1 eF H W acc) (p : Post (rV K) K E F σ H1 W1 Q (.ok ⟨md.fl, .lst acc⟩ (restE e eF vs))) : Q (.ref D) H := by
  obtain ⟨av, fp, B, r2, st, hD, ha, hB, nD, h0⟩ := l.ex
  obtain ⟨R2, fps, f, nj⟩ := r.restB st r2
  have eq1 : ∀ a, a ∈ (B ++ W) ++ F.fr → a ∈ W ++ (B ++ F.fr) ∨ H a = none := fun a z => by
    rcases List.mem_append.mp z with z | z
    · rcases List.mem_append.mp z with z | z
      · exact .inl (List.mem_append_right _ (List.mem_append_left _ z))
      · exact .inl (List.mem_append_left _ z)
    · exact .inl (List.mem_append_right _ (List.mem_append_right _ z))
  refine p (.ref D) H (B ++ W) R2 st ?_
  cases md with
  | k =>
    obtain ⟨e1, ha⟩ := ha
    refine .inr ⟨rfl, fps, [D], f, .inr ⟨.sh (.inl rfl) (.lst hD (ha.mono (fun _ _ _ e => e) eq1)), fun a z => ?_, fun _ a z => ?_⟩, fun j sw ej a z => ?_⟩
    · rw [List.mem_singleton.mp z]; exact List.mem_append_left _ ((hB D).mpr (.inl rfl))
    · rw [List.mem_singleton.mp z]; exact r.trk D hD1
    · rw [List.mem_singleton.mp z]; exact nj j sw ej D ((hB D).mpr (.inl rfl))
  | t =>
    obtain ⟨ha, hn⟩ := ha
    have inB : ∀ a ∈ D :: fp, a ∈ B := fun a z => (hB a).mpr (by
      rcases List.mem_cons.mp z with z | z
      · exact .inl z
      · exact .inr z)
    refine .inr ⟨rfl, fps, D :: fp, f, .inr ⟨.tr (.inl rfl) (.lst hD (ha.mono (fun _ _ _ e => e) eq1 fun _ _ _ e => e)) (List.nodup_cons.mpr ⟨nD, hn⟩), fun a z => List.mem_append_left _ (inB a z), fun _ a z => ?_⟩, fun j sw ej a z => nj j sw ej a (inB a z)⟩
    rcases List.mem_cons.mp z with z | z
    · rw [z]; exact r.trk D hD1
    · exact h0 a z
theorem LS.start {D : Addr} {e : En} (r : Rel K F e σ H1 W1) (hD : H1 D = none) (vs : List Nat) : LS md K F (L2.wipe σ vs) D H1 W1 (wipeE e vs) (upd H1 D (.lst [])) W1 [] := by
  refine ⟨⟨[], [], [D], (r.frame (.lst []) hD).wipe vs, Step.newW hD, upd_same, ?_, fun a => by simp, by simp, fun a z => by cases z⟩⟩
  cases md with
  | k => exact ⟨rfl, .nil⟩
  | t => exact ⟨.nil, List.nodup_nil⟩
theorem sf_lcM {wi : TI} {g : TG} {is vs : List Nat} {asg : DL.D → En → Option En} {fs : En → R Src} {test : En → R Bool} {elt : En → R SV} (hi : SI K E wi fs) (hg : SG K g is asg) (hs : ∀ i ∈ is, i ∈ vs) (ht : SB K E0 tt test) (he : SF K E0 te elt) :
    SF K E (tLc wi g tt te vs) (compM md fs vs asg test elt) := by
  intro F env σ H W Q r p
  refine Sn.go (t := wi) hi r p fun e H1 W1 s J rel s1 it p => ?_
  intro Dl hD
  cases qc : cLoop md s vs asg test elt s.ds (wipeE e vs) [] with
  | exc x e' => rw [qc] at p; exact p.elim
  | stuck => rw [qc] at p; exact p.elim
  | ok accF eF =>
    rw [qc] at p
    exact lc_loop hg hs ht he it (fun a z => List.mem_append_left _ z) (fun a z => List.mem_append_right _ z) (LS.start rel hD vs) qc fun H' W' l' => l'.out rel hD p
theorem sf_lc2M {wi wi1 : TI} {g g1 : TG} {is is1 vs vs1 : List Nat} {asg asg1 : DL.D → En → Option En} {fs fs1 : En → R Src} {test test1 : En → R Bool} {elt : En → R SV} (hi : SI K E wi fs) (hg : SG K g is asg) (hs : ∀ i ∈ is, i ∈ vs) (ht : SB K E0 tt test)
    (hi1 : SI K E0 wi1 fs1) (hg1 : SG K g1 is1 asg1) (hs1 : ∀ i ∈ is1, i ∈ vs1) (hv : ∀ i ∈ vs1, i ∈ vs) (ht1 : SB K E0 tt1 test1) (he : SF K E0 te elt) :
    SF K E (tLc2 wi g tt wi1 g1 tt1 te vs vs1) (comp2M md fs vs asg test fs1 vs1 asg1 test1 elt) := by
  intro F env σ H W Q r p
  refine Sn.go (t := wi) hi r p fun e H1 W1 s J rel s1 it p => ?_
  intro Dl hD
  cases qc : cLoop2 md s vs asg test fs1 vs1 asg1 test1 elt s.ds (wipeE e vs) [] with
  | exc x e' => rw [qc] at p; exact p.elim
  | stuck => rw [qc] at p; exact p.elim
  | ok accF eF =>
    rw [qc] at p
    exact lc_loop2 hg hs ht hi1 hg1 hs1 hv ht1 he it (fun a z => List.mem_append_left _ z) (fun a z => List.mem_append_right _ z) (LS.start rel hD vs) qc fun H' W' l' => l'.out rel hD p
end
end DL

namespace DL
open PySem L2
/-- neither a tuple nor an instance's own dict -/
def NTO (H : Hp) (a : Addr) : Prop := (∀ xs, H a ≠ some (.tup xs)) ∧ ∀ x, H a ≠ some (.own x)
section
variable {K : PySem.W.Frag} {E : XK} {F : Fm} {env env' : En} {σ : St} {H H' : Hp} {W W' A A' B : List Addr} {te : TE} {tt : TT} {fps : Nat → List Addr}
mutual
theorem imm_avoid (hA : ∀ a ∈ A', a ∈ A ∨ NTO H a) : ∀ (d : D) {v : V}, imm d = true → Rp K H A v d → Rp K H A' v d
  | .non, _, _, h => by cases h; exact .non
  | .bl b, _, _, h => by cases h; exact .bl b
  | .int i, _, _, h => by cases h; exact .int i
  | .str x, _, _, h => by cases h; exact .str x
  | .opq v, _, _, h => by cases h; exact .opq v
  | .tup ds, _, i, h => by
    cases h with
    | tup h r =>
      unfold imm at i
      exact .tup ⟨fun z => (hA _ z).elim h.1 (fun q => q.1 _ h.2), h.2⟩ (immL_avoid hA ds i r)
  | .frt ds, _, i, h => by
    cases h with
    | frt h r =>
      unfold imm at i
      exact .frt h (immL_avoid hA ds i r)
  | .lst ds, _, i, h => by simp [imm] at i
  | .frl ds, _, i, h => by simp [imm] at i
  | .dt ds, _, i, h => by simp [imm] at i
  | .dk ds, _, i, h => by simp [imm] at i
  | .obj c ds, _, i, h => by simp [imm] at i
theorem immL_avoid (hA : ∀ a ∈ A', a ∈ A ∨ NTO H a) : ∀ (ds : List D) {vs : List V}, immL ds = true → RpL K H A vs ds → RpL K H A' vs ds
  | [], _, _, h => by cases h; exact .nil
  | d :: ds, _, i, h => by
    cases h with
    | cons h r =>
      simp only [immL, Bool.and_eq_true] at i
      exact .cons (imm_avoid hA d i.1 h) (immL_avoid hA ds i.2 r)
end
theorem immK_avoid {κ : Type} (hA : ∀ a ∈ A', a ∈ A ∨ NTO H a) : ∀ (ds : List (κ × D)) {vs : List (κ × V)}, immK ds = true → RpK K H A vs ds → RpK K H A' vs ds
  | [], _, _, h => by cases h; exact .nil
  | d :: ds, _, i, h => by
    cases h with
    | cons h r =>
      simp only [immK, Bool.and_eq_true] at i
      exact .cons (imm_avoid hA _ i.1 h) (immK_avoid hA ds i.2 r)
mutual
theorem Tr.avoid (hA : ∀ a ∈ A', a ∈ A ∨ NTO H a) : ∀ {v : V} {d : D} {fp : List Addr}, Tr K H A v d fp → Tr K H A' v d fp
  | _, d, _, .imm i h => .imm i (imm_avoid hA d i h)
  | _, _, _, .tup n h r => .tup (fun z => (hA _ z).elim n (fun q => q.1 _ h)) h (TrL.avoid hA r)
  | _, _, _, .lst h r => .lst h (TrL.avoid hA r)
  | _, _, _, .dt h r => .dt h (TrK.avoid hA r)
  | _, _, _, .dk h r => .dk h (TrK.avoid hA r)
  | _, _, _, .obj c m h g r => .obj c (fun z => (hA _ z).elim m (fun q => q.2 _ g)) h g (TrK.avoid hA r)
theorem TrL.avoid (hA : ∀ a ∈ A', a ∈ A ∨ NTO H a) : ∀ {v : List V} {d : List D} {fp : List Addr}, TrL K H A v d fp → TrL K H A' v d fp
  | _, _, _, .nil => .nil
  | _, _, _, .cons h r => .cons (Tr.avoid hA h) (TrL.avoid hA r)
theorem TrK.avoid (hA : ∀ a ∈ A', a ∈ A ∨ NTO H a) : ∀ {κ : Type} {v : List (κ × V)} {d : List (κ × D)} {fp : List Addr}, TrK K H A v d fp → TrK K H A' v d fp
  | _, _, _, _, .nil => .nil
  | _, _, _, _, .cons h r => .cons (Tr.avoid hA h) (TrK.avoid hA r)
end
mutual
theorem Tr.nto : ∀ {v : V} {d : D} {fp : List Addr}, Tr K H A v d fp → ∀ a ∈ fp, NTO H a
  | _, _, _, .imm _ _, a, z => by cases z
  | _, _, _, .tup n h r, a, z => TrL.nto r a z
  | _, _, _, .lst h r, a, z => by
    rcases List.mem_cons.mp z with z | z
    · rw [z]; exact ⟨fun xs e => (by rw [h] at e; cases e), fun xs e => (by rw [h] at e; cases e)⟩
    · exact TrL.nto r a z
  | _, _, _, .dt h r, a, z => by
    rcases List.mem_cons.mp z with z | z
    · rw [z]; exact ⟨fun xs e => (by rw [h] at e; cases e), fun xs e => (by rw [h] at e; cases e)⟩
    · exact TrK.nto r a z
  | _, _, _, .dk h r, a, z => by
    rcases List.mem_cons.mp z with z | z
    · rw [z]; exact ⟨fun xs e => (by rw [h] at e; cases e), fun xs e => (by rw [h] at e; cases e)⟩
    · exact TrK.nto r a z
  | _, _, _, .obj c m h g r, a, z => by
    rcases List.mem_cons.mp z with z | z
    · rw [z]; exact ⟨fun xs e => (by rw [h] at e; cases e), fun xs e => (by rw [h] at e; cases e)⟩
    · exact TrK.nto r a z
theorem TrL.nto : ∀ {v : List V} {d : List D} {fp : List Addr}, TrL K H A v d fp → ∀ a ∈ fp, NTO H a
  | _, _, _, .nil, a, z => by cases z
  | _, _, _, .cons h r, a, z => by
    rcases List.mem_append.mp z with z | z
    · exact Tr.nto h a z
    · exact TrL.nto r a z
theorem TrK.nto : ∀ {κ : Type} {v : List (κ × V)} {d : List (κ × D)} {fp : List Addr}, TrK K H A v d fp → ∀ a ∈ fp, NTO H a
  | _, _, _, _, .nil, a, z => by cases z
  | _, _, _, _, .cons h r, a, z => by
    rcases List.mem_append.mp z with z | z
    · exact Tr.nto h a z
    · exact TrK.nto r a z
end
/-- nothing changeable stands in a thing of one's own -/
def shImm : D → Bool
  | .lst ds => immL ds
  | .dt es => immK es
  | .dk es => immK es
  | .obj _ fs => immK fs
  | _ => false
theorem Ow.avoid (hA : ∀ a ∈ A', a ∈ A ∨ NTO H a) {a : Addr} {d : D} (i : shImm d = true) (h : Ow K H A a d) : Ow K H A' a d := by
  cases h with
  | lst h r => exact .lst h (immL_avoid hA _ i r)
  | dt h r => exact .dt h (immK_avoid hA _ i r)
  | dk h r => exact .dk h (immK_avoid hA _ i r)
  | obj c m h g r => exact .obj c (fun z => (hA _ z).elim m (fun q => q.2 _ g)) h g (immK_avoid hA _ i r)
theorem Rp.avoidSh (hA : ∀ a ∈ A', a ∈ A ∨ NTO H a) {a : Addr} {d : D} (i : shImm d = true) (n : a ∉ A') (h : Rp K H A (.ref a) d) : Rp K H A' (.ref a) d := by
  cases h with
  | lst _ h r => exact .lst n h (immL_avoid hA _ i r)
  | dt _ h r => exact .dt n h (immK_avoid hA _ i r)
  | dk _ h r => exact .dk n h (immK_avoid hA _ i r)
  | obj c _ m h g r => exact .obj c n (fun z => (hA _ z).elim m (fun q => q.2 _ g)) h g (immK_avoid hA _ i r)
  | _ => cases i
def unl1 : Option SV → Option SV → Option SV
  | some ⟨.p, d⟩, _ => some ⟨.p, d⟩
  | some ⟨.o, _⟩, some ⟨.o, d⟩ => if shImm d = true then some ⟨.o, d⟩ else none
  | some ⟨.o, _⟩, some ⟨.p, d⟩ => if shImm d = true then some ⟨.p, d⟩ else none
  | some ⟨.b, _⟩, some ⟨.b, d⟩ => if shImm d = true then some ⟨.b, d⟩ else none
  | some ⟨.t, _⟩, some ⟨.t, d⟩ => some ⟨.t, d⟩
  | some ⟨.u, _⟩, some ⟨.u, d⟩ => some ⟨.u, d⟩
  | _, _ => none
theorem unl1_fl {s0 s1 sw : SV} (h : unl1 (some s0) (some s1) = some sw) (b : sw.fl.lent = true) : s0.fl.lent = true := by
  obtain ⟨fl0, d0⟩ := s0
  obtain ⟨fl1, d1⟩ := s1
  have two : ∀ fl : Fl, fl.lent = false → (if shImm d1 = true then some (⟨fl, d1⟩ : SV) else none) ≠ some sw := fun fl n q => by
    by_cases hi : shImm d1 = true
    · rw [if_pos hi] at q; cases q; rw [show (SV.mk fl d1).fl = fl from rfl, n] at b; cases b
    · rw [if_neg hi] at q; cases q
  cases fl0 with
  | b => rfl
  | u => rfl
  | p => cases h; cases b
  | o =>
    cases fl1 with
    | o => exact absurd h (two .o rfl)
    | p => exact absurd h (two .p rfl)
    | _ => cases h
  | t =>
    cases fl1 with
    | t => cases h; cases b
    | _ => cases h
def unlL : En → En → En
  | x :: xs, y :: ys => unl1 x y :: unlL xs ys
  | [], _ => []
  | _ :: xs, [] => none :: unlL xs []
theorem unlL_len : ∀ (e e' : En), (unlL e e').length = e.length
  | [], _ => by unfold unlL; rfl
  | _ :: e, [] => by simp [unlL, unlL_len e []]
  | _ :: e, _ :: e' => by simp [unlL, unlL_len e e']
theorem unl1_n (x : Option SV) : unl1 x none = none ∨ ∃ d, x = some ⟨.p, d⟩ ∧ unl1 x none = some ⟨.p, d⟩ := by
  match x with
  | none => exact .inl rfl
  | some ⟨.p, d⟩ => exact .inr ⟨d, rfl, rfl⟩
  | some ⟨.o, d⟩ => exact .inl rfl
  | some ⟨.b, d⟩ => exact .inl rfl
  | some ⟨.t, d⟩ => exact .inl rfl
  | some ⟨.u, d⟩ => exact .inl rfl
theorem unlL_sv : ∀ (e e' : En) (j : Nat) (sv : SV), (unlL e e').sv j = some sv → (e.sv j = some sv ∧ sv.fl = .p) ∨ ∃ s0 s1, e.sv j = some s0 ∧ e'.sv j = some s1 ∧ unl1 (some s0) (some s1) = some sv ∧ s0.fl ≠ .p
  | [], e', j, sv, h => by simp [unlL, En.sv] at h
  | x :: e, [], 0, sv, h => by simp [unlL, En.sv] at h
  | x :: e, [], j + 1, sv, h => by
    have h' : (unlL e []).sv j = some sv := by simpa [unlL, En.sv] using h
    rcases unlL_sv e [] j sv h' with ⟨h1, h2⟩ | ⟨s0, s1, h1, h2, _⟩
    · exact .inl ⟨by simpa [En.sv] using h1, h2⟩
    · simp [En.sv] at h2
  | x :: e, y :: e', 0, sv, h => by
    have h' : unl1 x y = some sv := by simpa [unlL, En.sv] using h
    cases x with
    | none => cases h'
    | some s0 =>
      obtain ⟨fl, d⟩ := s0
      by_cases np : fl = .p
      · subst np
        have : sv = ⟨.p, d⟩ := by
          have h2 : unl1 (some ⟨.p, d⟩) y = some ⟨.p, d⟩ := by cases y <;> rfl
          rw [h2] at h'; cases h'; rfl
        subst this
        exact .inl ⟨rfl, rfl⟩
      · cases y with
        | none => cases fl <;> first | exact absurd rfl np | cases h'
        | some s1 => exact .inr ⟨⟨fl, d⟩, s1, rfl, rfl, h', np⟩
  | x :: e, y :: e', j + 1, sv, h => by
    have h' : (unlL e e').sv j = some sv := by simpa [unlL, En.sv] using h
    rcases unlL_sv e e' j sv h' with ⟨h1, h2⟩ | ⟨s0, s1, h1, h2, h3⟩
    · exact .inl ⟨by simpa [En.sv] using h1, h2⟩
    · exact .inr ⟨s0, s1, by simpa [En.sv] using h1, by simpa [En.sv] using h2, h3⟩
theorem Hd.tre {fl : Fl} {v : V} {d : D} {fp : List Addr} (h : Hd K H A fl v d fp) (ht : fl = .t ∨ fl = .u) : Tr K H A v d fp ∧ fp.Nodup := by
  cases h with
  | sh q _ => rcases ht with rfl | rfl <;> rcases q with q | q <;> cases q
  | tr _ q n => exact ⟨q, n⟩
open Classical in
/-- the slot is held again -/
theorem Fps.unlock {i : Nat} {sv : SV} {v : V} {g : Nat → List Addr} (r : Rel K F env σ H W) (f : Fps K F env σ H W fps) (e : env.sv i = some sv) (hs : σ[i]? = some (some v)) (ht : sv.fl = .t ∨ sv.fl = .u) (st : Step H (cutW W (fps i)) H' W') (f' : Fps K F env' σ H' W' g) :
    Fps K F ((unlL env env').set i (some sv)) σ H' (fps i ++ W') (fun j => if j = i then fps i else if ∃ s2, (unlL env env').sv j = some s2 ∧ s2.fl ≠ .p then g j else []) ∧ (∀ a ∈ fps i, a ∉ W') ∧ (∀ a, a ∈ (fps i ++ W') ++ F.fr → a ∈ W' ++ F.fr ∨ NTO H' a) := by
  have hi : i < (unlL env env').length := by rw [unlL_len]; exact En.sv_lt e
  obtain ⟨u, hu, hv⟩ := f.sl i sv e
  rw [hs] at hu; cases hu
  obtain ⟨k1, k2, k3⟩ := hv.hd (by rcases ht with q | q <;> rw [q] <;> decide)
  obtain ⟨tr, _⟩ := k1.tre ht
  have pr : ∀ a o, a ∉ W ++ F.fr → H a = some o → H' a = some o := fun a o n q => st.pres a o (fun z => n (List.mem_append_left _ (mem_cutW.mp z).1)) q
  have prI : ∀ a ∈ fps i, ∀ o, H a = some o → H' a = some o := fun a z o q => st.pres a o (fun y => (mem_cutW.mp y).2 z) q
  have gr : ∀ a, a ∈ (fps i ++ W') ++ F.fr → a ∈ W ++ F.fr ∨ H a = none := fun a z => by
    rcases List.mem_append.mp z with z | z
    · rcases List.mem_append.mp z with z | z
      · exact .inl (List.mem_append_left _ (k2 a z))
      · rcases st.grow a z with z | z
        · exact .inl (List.mem_append_left _ (mem_cutW.mp z).1)
        · exact .inr z
    · exact .inl (List.mem_append_right _ z)
  have nW' : ∀ a ∈ fps i, a ∉ W' := fun a z y => by
    rcases st.grow a y with y | y
    · exact (mem_cutW.mp y).2 z
    · exact r.wt a (k2 a z) y
  have tr' : Tr K H' ((fps i ++ W') ++ F.fr) v sv.d (fps i) := tr.mono pr gr prI
  have nto : ∀ a ∈ fps i, NTO H' a := tr'.nto
  have av : ∀ a, a ∈ (fps i ++ W') ++ F.fr → a ∈ W' ++ F.fr ∨ NTO H' a := fun a z => by
    rcases List.mem_append.mp z with z | z
    · rcases List.mem_append.mp z with z | z
      · exact .inr (nto a z)
      · exact .inl (List.mem_append_left _ z)
    · exact .inl (List.mem_append_right _ z)
  refine ⟨⟨fun j sw ej => ?_, fun j k sj sk ej ek hjk a z y => ?_⟩, nW', av⟩
  · rw [En.sv_set hi] at ej
    by_cases hj : j = i
    · rw [if_pos hj] at ej; cases ej
      rw [if_pos hj, hj]
      exact ⟨v, hs, hv.mono pr gr (fun a z => ⟨List.mem_append_left _ z, prI a z⟩) rfl⟩
    · rw [if_neg hj] at ej
      rw [if_neg hj]
      rcases unlL_sv env env' j sw ej with ⟨h1, h2⟩ | ⟨s0, s1, h1, h2, h3, h4⟩
      · rw [if_neg (fun ⟨s2, q1, q2⟩ => by rw [ej] at q1; cases q1; exact q2 h2)]
        obtain ⟨u, g1, g2⟩ := f.sl j sw h1
        refine ⟨u, g1, ?_⟩
        rcases g2 with ⟨q1, q2, q3⟩ | ⟨q, _⟩
        · exact .inl ⟨q1, rfl, q3.mono pr gr⟩
        · exact absurd h2 q.np
      · obtain ⟨u, g1, g2⟩ := f'.sl j s1 h2
        obtain ⟨u0, m1, m2⟩ := f.sl j s0 h1
        rw [g1] at m1; cases m1
        refine ⟨u, g1, ?_⟩
        obtain ⟨fl0, d0⟩ := s0
        obtain ⟨fl1, d1⟩ := s1
        have shc : ∀ (fl : Fl), (fl = .o ∨ fl = .b) → fl1 = fl → sw = ⟨fl, d1⟩ → shImm d1 = true → SvOk K F H' (fps i ++ W') sw u (if ∃ s2, (unlL env env').sv j = some s2 ∧ s2.fl ≠ .p then g j else []) := fun fl hf e1 e2 hi => by
          subst e1; subst e2
          rw [if_pos ⟨_, ej, fun z => by rcases hf with w | w <;> rw [show (SV.mk fl1 d1).fl = fl1 from rfl, w] at z <;> cases z⟩]
          obtain ⟨a, w1, w2, w3, w4, w5⟩ := g2.sh hf
          subst w1
          rw [w2]
          refine .inr ⟨.sh hf (w4.avoid av hi), fun b z => by rw [List.mem_singleton.mp z]; exact List.mem_append_right _ w3, fun q b z => ?_⟩
          rw [List.mem_singleton.mp z]
          rcases hf with w | w
          · exact w5 w
          · rw [show (SV.mk fl1 d1).fl = fl1 from rfl, w] at q; cases q
        have trc : ∀ (fl : Fl), (fl = .t ∨ fl = .u) → fl1 = fl → sw = ⟨fl, d1⟩ → SvOk K F H' (fps i ++ W') sw u (if ∃ s2, (unlL env env').sv j = some s2 ∧ s2.fl ≠ .p then g j else []) := fun fl hf e1 e2 => by
          subst e1; subst e2
          rw [if_pos ⟨_, ej, fun z => by rcases hf with w | w <;> rw [show (SV.mk fl1 d1).fl = fl1 from rfl, w] at z <;> cases z⟩]
          obtain ⟨w1, w2, w3⟩ := g2.hd (fun z => by rcases hf with w | w <;> rw [show (SV.mk fl1 d1).fl = fl1 from rfl, w] at z <;> cases z)
          obtain ⟨w4, n⟩ := w1.tre hf
          exact .inr ⟨.tr hf (w4.avoid av) n, fun b z => List.mem_append_right _ (w2 b z), w3⟩
        cases fl0 with
        | p => exact absurd rfl h4
        | o =>
          cases fl1 with
          | o =>
            have h3' : (if shImm d1 = true then some (⟨.o, d1⟩ : SV) else none) = some sw := h3
            by_cases hi : shImm d1 = true
            · rw [if_pos hi] at h3'
              cases h3'
              exact shc .o (.inl rfl) rfl rfl hi
            · rw [if_neg hi] at h3'; cases h3'
          | p =>
            have h3' : (if shImm d1 = true then some (⟨.p, d1⟩ : SV) else none) = some sw := h3
            by_cases hi : shImm d1 = true
            · rw [if_pos hi] at h3'
              cases h3'
              rw [if_neg (fun ⟨s2, q1, q2⟩ => by rw [ej] at q1; cases q1; exact q2 rfl)]
              rcases g2 with ⟨_, _, g2⟩ | ⟨q, _⟩
              · obtain ⟨a, w1, w2, _⟩ := m2.sh (.inl rfl)
                subst w1
                refine .inl ⟨rfl, rfl, g2.avoidSh av hi fun z => ?_⟩
                have na : a ∉ W' ++ F.fr := by cases g2 <;> first | assumption | (cases hi)
                rcases List.mem_append.mp z with z | z
                · rcases List.mem_append.mp z with z | z
                  · exact f.dj j i _ _ h1 e hj a (by rw [w2]; exact List.mem_cons_self) z
                  · exact na (List.mem_append_left _ z)
                · exact na (List.mem_append_right _ z)
              · exact absurd rfl q.np
            · rw [if_neg hi] at h3'; cases h3'
          | b => cases h3
          | t => cases h3
          | u => cases h3
        | b =>
          cases fl1 with
          | b =>
            have h3' : (if shImm d1 = true then some (⟨.b, d1⟩ : SV) else none) = some sw := h3
            by_cases hi : shImm d1 = true
            · rw [if_pos hi] at h3'
              cases h3'
              exact shc .b (.inr rfl) rfl rfl hi
            · rw [if_neg hi] at h3'; cases h3'
          | _ => cases h3
        | t =>
          cases fl1 with
          | t => cases h3; exact trc .t (.inl rfl) rfl rfl
          | _ => cases h3
        | u =>
          cases fl1 with
          | u => cases h3; exact trc .u (.inr rfl) rfl rfl
          | _ => cases h3
  · have inW' : ∀ {j : Nat} {sj : SV}, j ≠ i → En.sv ((unlL env env').set i (some sv)) j = some sj → ∀ a, a ∈ (if j = i then fps i else if ∃ s2, (unlL env env').sv j = some s2 ∧ s2.fl ≠ .p then g j else []) → a ∈ g j ∧ ∃ s1, env'.sv j = some s1 := fun {j sj} hj ej a z => by
      rw [En.sv_set hi, if_neg hj] at ej
      rw [if_neg hj] at z
      split at z
      · rename_i hx
        refine ⟨z, ?_⟩
        obtain ⟨s2, q1, q2⟩ := hx
        rcases unlL_sv env env' j s2 q1 with ⟨_, h2⟩ | ⟨s0, s1, _, h2, _⟩
        · exact absurd h2 q2
        · exact ⟨s1, h2⟩
      · cases z
    by_cases hj : j = i
    · have hk : k ≠ i := fun w => hjk (hj.trans w.symm)
      rw [if_pos hj] at z
      obtain ⟨q1, s1, q2⟩ := inW' hk ek a y
      obtain ⟨_, _, w⟩ := f'.sl k s1 q2
      exact nW' a z (w.inW a q1)
    · obtain ⟨q1, s1, q2⟩ := inW' hj ej a z
      by_cases hk : k = i
      · rw [if_pos hk] at y
        obtain ⟨_, _, w⟩ := f'.sl j s1 q2
        exact nW' a y (w.inW a q1)
      · obtain ⟨q3, s3, q4⟩ := inW' hk ek a y
        exact f'.dj j k s1 s3 q2 q4 hjk a q1 q3
theorem Rel.unlock {i : Nat} {sv : SV} {v : V} (r : Rel K F env σ H W) (f : Fps K F env σ H W fps) (e : env.sv i = some sv) (hs : σ[i]? = some (some v)) (ht : sv.fl = .t ∨ sv.fl = .u) (st : Step H (cutW W (fps i)) H' W') (r' : Rel K F env' σ H' W') :
    Rel K F ((unlL env env').set i (some sv)) σ H' (fps i ++ W') ∧ Step H W H' (fps i ++ W') := by
  obtain ⟨g, f'⟩ := r'.ex
  obtain ⟨F2, nW', av⟩ := Fps.unlock r f e hs ht st f'
  have hi : i < (unlL env env').length := by rw [unlL_len]; exact En.sv_lt e
  obtain ⟨u, hu, hv⟩ := f.sl i sv e
  refine ⟨⟨by rw [List.length_set, unlL_len]; exact r.len, ⟨_, F2⟩, fun j sw ej b => ?_, fun a q => r'.trk a q, fun a z => r'.frt a z, fun a z y => ?_, fun a z => ?_⟩, ⟨fun a o n q => st.pres a o (fun z => n (mem_cutW.mp z).1) q, fun a z => ?_⟩⟩
  · rw [En.sv_set hi] at ej
    by_cases hj : j = i
    · rw [if_pos hj] at ej; cases ej
      rw [hj]; exact r.bor i sv e b
    · rw [if_neg hj] at ej
      rcases unlL_sv env env' j sw ej with ⟨h1, h2⟩ | ⟨s0, s1, h1, h2, h3, h4⟩
      · exact r.bor j sw h1 b
      · exact r.bor j s0 h1 (unl1_fl h3 b)
  · rcases List.mem_append.mp z with z | z
    · exact r.dis a (hv.inW a z) y
    · exact r'.dis a z y
  · rcases List.mem_append.mp z with z | z
    · obtain ⟨o, q⟩ := Option.ne_none_iff_exists'.mp (r.wt a (hv.inW a z))
      rw [st.pres a o (fun y => (mem_cutW.mp y).2 z) q]; simp
    · exact r'.wt a z
  · rcases List.mem_append.mp z with z | z
    · exact .inl (hv.inW a z)
    · rcases st.grow a z with z | z
      · exact .inl (mem_cutW.mp z).1
      · exact .inr z
theorem rV.unlock {i : Nat} {sv z : SV} {v u : V} (r : Rel K F env σ H W) (f : Fps K F env σ H W fps) (e : env.sv i = some sv) (hs : σ[i]? = some (some v)) (ht : sv.fl = .t ∨ sv.fl = .u) (st : Step H (cutW W (fps i)) H' W') (r' : Rel K F env' σ H' W') (rz : rV K z F env' σ H' W' u) (hz : treeOK z = true) :
    rV K z F ((unlL env env').set i (some sv)) σ H' (fps i ++ W') u := by
  obtain ⟨fl, d⟩ := z
  have hi : i < (unlL env env').length := by rw [unlL_len]; exact En.sv_lt e
  rcases rz with ⟨e1, h⟩ | ⟨ow, g, fp, f', h, dj⟩
  · obtain ⟨g, f'⟩ := r'.ex
    obtain ⟨_, _, av⟩ := Fps.unlock r f e hs ht st f'
    have e1' : fl = .p := e1
    subst e1'
    exact .inl ⟨rfl, imm_avoid av d hz h⟩
  · obtain ⟨F2, nW', av⟩ := Fps.unlock r f e hs ht st f'
    obtain ⟨k1, k2, k3⟩ := h.hd (own_np ow).1
    refine .inr ⟨ow, _, fp, F2, .inr ⟨?_, fun a z => List.mem_append_right _ (k2 a z), k3⟩, fun j sw ej a z y => ?_⟩
    · cases fl with
      | o =>
        obtain ⟨a, w1, w2, w3, w4, w5⟩ := h.sh (.inl rfl)
        subst w1
        rw [w2]
        refine .sh (.inl rfl) (w4.avoid av ?_)
        cases d <;> simp_all [treeOK, shImm]
      | t =>
        obtain ⟨w1, n⟩ := k1.tre (.inl rfl)
        exact .tr (.inl rfl) (w1.avoid av) n
      | p => cases ow
      | b => cases ow
      | u => cases ow
    · by_cases hj : j = i
      · rw [if_pos hj] at y
        exact nW' a y (k2 a z)
      · rw [if_neg hj] at y
        split at y
        · rename_i hx
          obtain ⟨s2, q1, q2⟩ := hx
          rcases unlL_sv env env' j s2 q1 with ⟨_, h2⟩ | ⟨s0, s1, _, h2, _⟩
          · exact q2 h2
          · exact dj j s1 h2 a z y
        · cases y
/-- slot i, held with all that stands in it, is read alone for the while -/
def lockG {α : Type} (chk : α → Bool) (i : Nat) (f : En → R α) : En → R α := fun e => match e.sv i with
  | some ⟨.t, d⟩ => (match f (e.set i (some ⟨.p, d⟩)) with
    | .ok a e' => if chk a = true then .ok a ((unlL e e').set i (some ⟨.t, d⟩)) else .stuck
    | _ => .stuck)
  | some ⟨.u, d⟩ => (match f (e.set i (some ⟨.p, d⟩)) with
    | .ok a e' => if chk a = true then .ok a ((unlL e e').set i (some ⟨.u, d⟩)) else .stuck
    | _ => .stuck)
  | _ => .stuck
theorem lockG_eq {α : Type} {chk : α → Bool} {i : Nat} {f : En → R α} {e : En} {sv : SV} (he : e.sv i = some sv) (ht : sv.fl = .t ∨ sv.fl = .u) : lockG chk i f e = (match f (e.set i (some ⟨.p, sv.d⟩)) with
    | .ok a e' => if chk a = true then .ok a ((unlL e e').set i (some sv)) else .stuck
    | _ => .stuck) := by
  unfold lockG
  rw [he]
  obtain ⟨fl, d⟩ := sv
  rcases ht with q | q <;> (have q' : fl = _ := q; subst q'; rfl)
theorem lockG_np {α : Type} {chk : α → Bool} {i : Nat} {f : En → R α} {e : En} (h : ¬ ∃ sv, e.sv i = some sv ∧ (sv.fl = .t ∨ sv.fl = .u)) : lockG chk i f e = .stuck := by
  unfold lockG
  split
  · rename_i d q; exact absurd ⟨_, q, .inl rfl⟩ h
  · rename_i d q; exact absurd ⟨_, q, .inr rfl⟩ h
  · rfl
theorem Rel.lock {i : Nat} {sv : SV} {v : V} (r : Rel K F env σ H W) (f : Fps K F env σ H W fps) (e : env.sv i = some sv) (hs : σ[i]? = some (some v)) : Rel K F (env.set i (some ⟨.p, sv.d⟩)) σ H (cutW W (fps i)) := by
  have hi : i < env.length := En.sv_lt e
  obtain ⟨u, h1, h2⟩ := f.sl i sv e
  rw [hs] at h1; cases h1
  have s : Step H W H (cutW W (fps i)) := Step.cut _
  have key : Rp K H (cutW W (fps i) ++ F.fr) v sv.d := by
    rcases h2 with ⟨_, _, h⟩ | ⟨h, hw, _⟩
    · exact s.rp h
    · exact (h.mono s.pF s.gF fun _ _ _ q => q).rp (cut_out r hw)
  refine ⟨by simp [r.len], ⟨fun j => if j = i then [] else fps j, fun j sw ej => ?_, fun j k sj sk ej ek hjk b z => ?_⟩, fun j sw ej b => ?_, r.trk, r.frt, fun b z => r.dis b (mem_cutW.mp z).1, fun b z => r.wt b (mem_cutW.mp z).1⟩
  · rw [En.sv_set hi] at ej
    by_cases hj : j = i
    · rw [if_pos hj] at ej; cases ej
      rw [hj, if_pos rfl]
      exact ⟨_, hs, .p key⟩
    · rw [if_neg hj] at ej
      obtain ⟨u, g1, g2⟩ := f.sl j sw ej
      refine ⟨u, g1, ?_⟩
      rw [if_neg hj]
      exact g2.mono s.pF s.gF (fun b z => ⟨mem_cutW.mpr ⟨g2.inW b z, f.dj j i sw sv ej e hj b z⟩, fun _ q => q⟩) rfl
  · rw [En.sv_set hi] at ej ek
    by_cases hj : j = i
    · rw [if_pos hj] at z; cases z
    · rw [if_neg hj] at z ej
      by_cases hk : k = i
      · rw [if_pos hk]; intro y; cases y
      · rw [if_neg hk] at ek ⊢
        exact f.dj j k sj sk ej ek hjk b z
  · rw [En.sv_set hi] at ej
    by_cases hj : j = i
    · rw [if_pos hj] at ej; cases ej; cases b
    · rw [if_neg hj] at ej
      exact r.bor j sw ej b
theorem sn_lock {α β : Type} {rel : α → Fm → En → St → Hp → List Addr → β → Prop} {chk : α → Bool} {i : Nat} {t : St → Hp → (β → Hp → Prop) → Prop} {f : En → R α} (h : Sn rel K E t f)
    (hr : ∀ {F : Fm} {env env' : En} {σ : St} {H H' : Hp} {W W' : List Addr} {fps : Nat → List Addr} {sv : SV} {v : V} {a : α} {b : β}, Rel K F env σ H W → Fps K F env σ H W fps → env.sv i = some sv → σ[i]? = some (some v) → (sv.fl = .t ∨ sv.fl = .u) → Step H (cutW W (fps i)) H' W' → Rel K F env' σ H' W' → rel a F env' σ H' W' b → chk a = true → rel a F ((unlL env env').set i (some sv)) σ H' (fps i ++ W') b) : Sn rel K E t (lockG chk i f) := by
  intro F env σ H W Q r p
  by_cases hx : ∃ sv, env.sv i = some sv ∧ (sv.fl = .t ∨ sv.fl = .u)
  · obtain ⟨sv, he, ht⟩ := hx
    rw [lockG_eq he ht] at p
    obtain ⟨fps, fp⟩ := r.ex
    obtain ⟨v, hs, _⟩ := fp.sl i sv he
    refine h F _ σ H _ Q (r.lock fp he hs) ?_
    cases q : f (env.set i (some ⟨.p, sv.d⟩)) with
    | stuck => rw [q] at p; exact p
    | exc x e => rw [q] at p; exact p.elim
    | ok a e' =>
      rw [q] at p
      dsimp only at p
      by_cases hc : chk a = true
      · rw [if_pos hc] at p
        intro b H' W' r' s' rb
        obtain ⟨R2, S2⟩ := r.unlock fp he hs ht s' r'
        exact p b H' _ R2 S2 (hr r fp he hs ht s' r' rb hc)
      · rw [if_neg hc] at p; exact p.elim
  · rw [lockG_np hx] at p; exact p.elim
abbrev lockE (i : Nat) (f : En → R SV) : En → R SV := lockG treeOK i f
abbrev lockB (i : Nat) (f : En → R Bool) : En → R Bool := lockG (fun _ => true) i f
theorem sf_lock {i : Nat} {f : En → R SV} (h : SF K E te f) : SF K E te (lockE i f) := sn_lock h fun r f e hs ht st r' rb hc => rV.unlock r f e hs ht st r' rb hc
theorem sb_lock {i : Nat} {f : En → R Bool} (h : SB K E tt f) : SB K E tt (lockB i f) := sn_lock h fun _ _ _ _ _ _ _ rb _ => rb
end
end DL

namespace DL
open PySem L2
inductive Stp where | ix (n : Nat) | key (k : List Key) | kk (k : Key) | fld (f : Str)
def updK {κ : Type} [DecidableEq κ] : List (κ × D) → κ → D → List (κ × D)
  | [], _, _ => []
  | (k', d) :: r, k, z => if k' = k then (k', z) :: r else (k', d) :: updK r k z
def navD : D → List Stp → Option D
  | d, [] => some d
  | .lst ds, .ix n :: π => (match ds[n]? with | some d => navD d π | none => none)
  | .tup ds, .ix n :: π => (match ds[n]? with | some d => navD d π | none => none)
  | .dt es, .key k :: π => (match getT es k with | some d => navD d π | none => none)
  | .dk es, .kk k :: π => (match getT es k with | some d => navD d π | none => none)
  | .obj _ fs, .fld f :: π => (match getT fs f with | some d => navD d π | none => none)
  | _, _ => none
def updD : D → List Stp → D → D
  | _, [], z => z
  | .lst ds, .ix n :: π, z => (match ds[n]? with | some d => .lst (ds.set n (updD d π z)) | none => .lst ds)
  | .tup ds, .ix n :: π, z => (match ds[n]? with | some d => .tup (ds.set n (updD d π z)) | none => .tup ds)
  | .dt es, .key k :: π, z => (match getT es k with | some d => .dt (updK es k (updD d π z)) | none => .dt es)
  | .dk es, .kk k :: π, z => (match getT es k with | some d => .dk (updK es k (updD d π z)) | none => .dk es)
  | .obj c fs, .fld f :: π, z => (match getT fs f with | some d => .obj c (updK fs f (updD d π z)) | none => .obj c fs)
  | d, _, _ => d
inductive NavH (H : Hp) : V → List Stp → V → Prop
  | nil {v : V} : NavH H v [] v
  | lst {a : Addr} {xs : List V} {n : Nat} {v w : V} {π : List Stp} : H a = some (.lst xs) → xs[n]? = some v → NavH H v π w → NavH H (.ref a) (.ix n :: π) w
  | tup {a : Addr} {xs : List V} {n : Nat} {v w : V} {π : List Stp} : H a = some (.tup xs) → xs[n]? = some v → NavH H v π w → NavH H (.ref a) (.ix n :: π) w
  | key {a : Addr} {xs : List (List Key × V)} {k : List Key} {v w : V} {π : List Stp} : H a = some (.dT xs) → valV xs k = some v → NavH H v π w → NavH H (.ref a) (.key k :: π) w
  | kk {a : Addr} {xs : List (Key × V)} {k : Key} {v w : V} {π : List Stp} : H a = some (.dK xs) → valV xs k = some v → NavH H v π w → NavH H (.ref a) (.kk k :: π) w
  | fld {a C dx : Addr} {xs : List (Str × V)} {k : Str} {v w : V} {π : List Stp} : H a = some (.ins C dx xs) → valV xs k = some v → NavH H v π w → NavH H (.ref a) (.fld k :: π) w
section
variable {K : PySem.W.Frag} {E : XK} {F : Fm} {env env' : En} {σ : St} {H H' : Hp} {W W' A A' B : List Addr} {te to : TE} {t : TA} {tt : TT} {fps : Nat → List Addr}
theorem NavH.snoc : ∀ {π : List Stp} {v w u : V} {s : Stp}, NavH H v π w → NavH H w [s] u → NavH H v (π ++ [s]) u
  | _, _, _, _, _, .nil, g => g
  | _, _, _, _, _, .lst h1 h2 r, g => .lst h1 h2 (NavH.snoc r g)
  | _, _, _, _, _, .tup h1 h2 r, g => .tup h1 h2 (NavH.snoc r g)
  | _, _, _, _, _, .key h1 h2 r, g => .key h1 h2 (NavH.snoc r g)
  | _, _, _, _, _, .kk h1 h2 r, g => .kk h1 h2 (NavH.snoc r g)
  | _, _, _, _, _, .fld h1 h2 r, g => .fld h1 h2 (NavH.snoc r g)
theorem navD_snoc : ∀ (π : List Stp) (d : D) (s : Stp), navD d (π ++ [s]) = (navD d π).bind fun z => navD z [s]
  | [], d, s => by simp [navD]
  | .ix n :: π, d, s => by
    cases d <;> simp only [navD, List.cons_append, Option.bind_none]
    all_goals (split; exact navD_snoc π _ s; rfl)
  | .key n :: π, d, s => by
    cases d <;> simp only [navD, List.cons_append, Option.bind_none]
    all_goals (split; exact navD_snoc π _ s; rfl)
  | .kk n :: π, d, s => by
    cases d <;> simp only [navD, List.cons_append, Option.bind_none]
    all_goals (split; exact navD_snoc π _ s; rfl)
  | .fld n :: π, d, s => by
    cases d <;> simp only [navD, List.cons_append, Option.bind_none]
    all_goals (split; exact navD_snoc π _ s; rfl)
/-- where a path leads stays, and what stands there -/
theorem NavH.rp : ∀ {π : List Stp} {v w : V} {d z : D}, NavH H v π w → Rp K H A v d → navD d π = some z → Rp K H A w z ∧ ∀ H' : Hp, (∀ a o, a ∉ A → H a = some o → H' a = some o) → NavH H' v π w
  | [], _, _, d, z, .nil, r, e => by simp [navD] at e; subst e; exact ⟨r, fun _ _ => .nil⟩
  | .ix n :: π, _, w, d, z, .lst h1 h2 g, r, e => by
    cases r with
    | lst na h r =>
      rw [h1] at h; cases h
      rename_i ds
      cases q : ds[n]? with
      | none => simp [navD, q] at e
      | some dd =>
        obtain ⟨u, g1, g2⟩ := r.get q
        rw [h2] at g1; cases g1
        obtain ⟨k1, k2⟩ := NavH.rp g g2 (by simpa [navD, q] using e)
        exact ⟨k1, fun H' hp => .lst (hp _ _ na h1) h2 (k2 H' hp)⟩
    | tup h r => have := h.2; rw [h1] at this; cases this
    | frl h r => simp [navD] at e
    | frt h r => simp [navD] at e
    | opq v => simp [navD] at e
    | dt na h r => simp [navD] at e
    | dk na h r => simp [navD] at e
    | obj c na m h g r => simp [navD] at e
  | .ix n :: π, _, w, d, z, .tup h1 h2 g, r, e => by
    cases r with
    | tup h r =>
      have := h.2
      rw [h1] at this; cases this
      rename_i ds
      cases q : ds[n]? with
      | none => simp [navD, q] at e
      | some dd =>
        obtain ⟨u, g1, g2⟩ := r.get q
        rw [h2] at g1; cases g1
        obtain ⟨k1, k2⟩ := NavH.rp g g2 (by simpa [navD, q] using e)
        exact ⟨k1, fun H' hp => .tup (hp _ _ h.1 h1) h2 (k2 H' hp)⟩
    | lst na h r => rw [h1] at h; cases h
    | frl h r => simp [navD] at e
    | frt h r => simp [navD] at e
    | opq v => simp [navD] at e
    | dt na h r => simp [navD] at e
    | dk na h r => simp [navD] at e
    | obj c na m h g r => simp [navD] at e
  | .key n :: π, _, w, d, z, .key h1 h2 g, r, e => by
    cases r with
    | dt na h r =>
      rcases h with h | ⟨o, h⟩ <;> rw [h1] at h <;> cases h
      rename_i ds
      cases q : getT ds n with
      | none => simp [navD, q] at e
      | some dd =>
        obtain ⟨u, g1, g2⟩ := (r.val n).2 dd q
        rw [h2] at g1; cases g1
        obtain ⟨k1, k2⟩ := NavH.rp g g2 (by simpa [navD, q] using e)
        exact ⟨k1, fun H' hp => .key (hp _ _ na h1) h2 (k2 H' hp)⟩
    | _ => simp [navD] at e
  | .kk n :: π, _, w, d, z, .kk h1 h2 g, r, e => by
    cases r with
    | dk na h r =>
      rcases h with h | ⟨o, h⟩ <;> rw [h1] at h <;> cases h
      rename_i ds
      cases q : getT ds n with
      | none => simp [navD, q] at e
      | some dd =>
        obtain ⟨u, g1, g2⟩ := (r.val n).2 dd q
        rw [h2] at g1; cases g1
        obtain ⟨k1, k2⟩ := NavH.rp g g2 (by simpa [navD, q] using e)
        exact ⟨k1, fun H' hp => .kk (hp _ _ na h1) h2 (k2 H' hp)⟩
    | _ => simp [navD] at e
  | .fld n :: π, _, w, d, z, .fld h1 h2 g, r, e => by
    cases r with
    | obj c na m h g' r =>
      rw [h1] at h; cases h
      rename_i ds
      cases q : getT ds n with
      | none => simp [navD, q] at e
      | some dd =>
        obtain ⟨u, g1, g2⟩ := (r.val n).2 dd q
        rw [h2] at g1; cases g1
        obtain ⟨k1, k2⟩ := NavH.rp g g2 (by simpa [navD, q] using e)
        exact ⟨k1, fun H' hp => .fld (hp _ _ na h1) h2 (k2 H' hp)⟩
    | _ => simp [navD] at e
theorem imm_nav : ∀ (π : List Stp) {d z : D}, imm d = true → navD d π = some z → imm z = true
  | [], d, z, i, e => by simp [navD] at e; subst e; exact i
  | .ix n :: π, d, z, i, e => by
    cases d with
    | tup ds =>
      cases q : ds[n]? with
      | none => simp [navD, q] at e
      | some dd =>
        refine imm_nav π (d := dd) ?_ (by simpa [navD, q] using e)
        have key : ∀ (ds : List D) (n : Nat) (dd : D), immL ds = true → ds[n]? = some dd → imm dd = true := by
          intro ds
          induction ds with
          | nil => intro n dd _ q; simp at q
          | cons x xs ih =>
            intro n dd i q
            simp only [immL, Bool.and_eq_true] at i
            cases n with
            | zero => simp at q; subst q; exact i.1
            | succ n => exact ih n dd i.2 (by simpa using q)
        exact key ds n dd (by simpa [imm] using i) q
    | _ => first | (simp [imm] at i; done) | (simp [navD] at e; done)
  | .key n :: π, d, z, i, e => by cases d <;> first | (simp [imm] at i; done) | (simp [navD] at e; done)
  | .kk n :: π, d, z, i, e => by cases d <;> first | (simp [imm] at i; done) | (simp [navD] at e; done)
  | .fld n :: π, d, z, i, e => by cases d <;> first | (simp [imm] at i; done) | (simp [navD] at e; done)
/-- one of the things in a list -/
theorem TrL.focus : ∀ {ds : List D} {vs : List V} {f : List Addr} {n : Nat} {v : V} {d : D}, TrL K H A vs ds f → vs[n]? = some v → ds[n]? = some d → ∃ f1 fn f2, f = f1 ++ (fn ++ f2) ∧ Tr K H A v d fn ∧
    ∀ (H' : Hp) (d' : D) (fn' : List Addr), (∀ a o, a ∉ A → H a = some o → H' a = some o) → (∀ a ∈ f1 ++ f2, ∀ o, H a = some o → H' a = some o) → Tr K H' A v d' fn' → TrL K H' A vs (ds.set n d') (f1 ++ (fn' ++ f2))
  | [], _, _, n, v, d, h, _, e => by simp at e
  | _ :: ds, _, _, 0, v, d, h, e1, e2 => by
    cases h with
    | cons h r =>
      rename_i v0 vs0 fa fb
      simp at e1 e2
      subst e1; subst e2
      exact ⟨[], fa, fb, rfl, h, fun H' d' fn' hp hk h' => by
        rw [List.nil_append, List.set_cons_zero]
        exact .cons h' (r.mono hp (fun a z => .inl z) fun a z => hk a (by simpa using z))⟩
  | _ :: ds, _, _, n + 1, v, d, h, e1, e2 => by
    cases h with
    | cons h r =>
      rename_i v0 vs0 fa fb
      obtain ⟨f1, fn, f2, k1, k2, k3⟩ := TrL.focus (n := n) r (by simpa using e1) (by simpa using e2)
      refine ⟨fa ++ f1, fn, f2, by rw [k1, List.append_assoc], k2, fun H' d' fn' hp hk h' => ?_⟩
      rw [List.append_assoc, List.set_cons_succ]
      exact .cons (h.mono hp (fun a z => .inl z) fun a z => hk a (by simp [z])) (k3 H' d' fn' hp (fun a z => hk a (by
        rcases List.mem_append.mp z with z | z <;> simp [z])) h')
theorem TrK.focus {κ : Type} [DecidableEq κ] {k : κ} : ∀ {ds : List (κ × D)} {vs : List (κ × V)} {f : List Addr} {v : V} {d : D}, TrK K H A vs ds f → valV vs k = some v → getT ds k = some d → ∃ f1 fn f2, f = f1 ++ (fn ++ f2) ∧ Tr K H A v d fn ∧
    ∀ (H' : Hp) (d' : D) (fn' : List Addr), (∀ a o, a ∉ A → H a = some o → H' a = some o) → (∀ a ∈ f1 ++ f2, ∀ o, H a = some o → H' a = some o) → Tr K H' A v d' fn' → TrK K H' A vs (updK ds k d') (f1 ++ (fn' ++ f2))
  | [], _, _, v, d, h, _, e => by simp [getT] at e
  | (k0, d0) :: ds, _, _, v, d, h, e1, e2 => by
    cases h with
    | @cons _ _ v0 _ vs0 _ fa fb h r =>
      by_cases hk : k0 = k
      · rw [valV_pos (p := (k0, v0)) hk] at e1
        have e2' : getT ((k0, d0) :: ds) k = some d0 := by unfold getT; rw [List.find?_cons]; simp [hk]
        rw [e2'] at e2
        cases e1; cases e2
        refine ⟨[], fa, fb, rfl, h, fun H' d' fn' hp hk2 h' => ?_⟩
        unfold updK
        rw [if_pos hk, List.nil_append]
        exact .cons h' (r.mono hp (fun a z => .inl z) fun a z => hk2 a (by simpa using z))
      · rw [valV_neg (p := (k0, v0)) hk] at e1
        have e2' : getT ((k0, d0) :: ds) k = getT ds k := by unfold getT; rw [List.find?_cons]; simp [hk]
        rw [e2'] at e2
        obtain ⟨f1, fn, f2, k1, k2, k3⟩ := TrK.focus r e1 e2
        refine ⟨fa ++ f1, fn, f2, by rw [k1, List.append_assoc], k2, fun H' d' fn' hp hk2 h' => ?_⟩
        unfold updK
        rw [if_neg hk, List.append_assoc]
        exact .cons (h.mono hp (fun a z => .inl z) fun a z => hk2 a (by simp [z])) (k3 H' d' fn' hp (fun a z => hk2 a (by
          rcases List.mem_append.mp z with z | z <;> simp [z])) h')
/-- the list at the end of a path, and the whole once it is another one -/
def SetOk (K : PySem.W.Frag) (H : Hp) (A : List Addr) (v : V) (l : Addr) (xs : List D) (fp : List Addr) (up : D → D) : Prop :=
  ∃ xv f1, H l = some (.lst xv) ∧ TrL K H A xv xs f1 ∧ f1.Nodup ∧ (∀ a ∈ f1, a ∈ fp) ∧ l ∉ f1 ∧ l ∈ fp ∧ ∀ (H' : Hp) (yv : List V) (ys : List D) (fy : List Addr), (∀ a o, a ≠ l → H a = some o → H' a = some o) → H' l = some (.lst yv) → TrL K H' A yv ys fy → (∀ a ∈ fy, a ∈ f1) → fy.Nodup →
    ∃ fp', Tr K H' A v (up (.lst ys)) fp' ∧ (∀ a ∈ fp', a ∈ fp) ∧ fp'.Nodup
/-- from a part to the whole -/
theorem SetOk.lift {v w : V} {l : Addr} {xs : List D} {f1 fn f2 pre : List Addr} {up : D → D} {mk : D → D} (h : SetOk K H A v l xs fn up) (nd : (pre ++ (f1 ++ (fn ++ f2))).Nodup) (hA : ∀ a ∈ pre ++ (f1 ++ (fn ++ f2)), a ∈ A)
    (k : ∀ (H' : Hp) (d' : D) (fn' : List Addr), (∀ a o, a ∉ A → H a = some o → H' a = some o) → (∀ a ∈ pre ++ (f1 ++ f2), ∀ o, H a = some o → H' a = some o) → Tr K H' A v d' fn' → Tr K H' A w (mk d') (pre ++ (f1 ++ (fn' ++ f2)))) :
    SetOk K H A w l xs (pre ++ (f1 ++ (fn ++ f2))) (fun z => mk (up z)) := by
  obtain ⟨xv, g1, e1, e2, e3, e4, e5, e6, e7⟩ := h
  have nl : ∀ a ∈ pre ++ (f1 ++ f2), a ≠ l := fun a z e => by
    subst e
    simp only [List.nodup_append, List.mem_append] at nd
    rcases List.mem_append.mp z with z | z
    · exact nd.2.2 a z a (.inr (.inl e6)) rfl
    · rcases List.mem_append.mp z with z | z
      · exact nd.2.1.2.2 a z a (.inl e6) rfl
      · exact nd.2.1.2.1.2.2 a e6 a z rfl
  refine ⟨xv, g1, e1, e2, e3, fun a z => ?_, e5, ?_, fun H' yv ys fy hp hl ht hs hn => ?_⟩
  · simp [e4 a z]
  · simp [e6]
  · obtain ⟨fp', t1, t2, t3⟩ := e7 H' yv ys fy hp hl ht hs hn
    refine ⟨_, k H' _ fp' (fun a o n q => hp a o (fun e => n (by rw [e]; exact hA l (by simp [e6]))) q) (fun a z o q => hp a o (nl a z) q) t1, fun a z => ?_, ?_⟩
    · rcases List.mem_append.mp z with z | z
      · simp [z]
      · rcases List.mem_append.mp z with z | z
        · simp [z]
        · rcases List.mem_append.mp z with z | z
          · simp [t2 a z]
          · simp [z]
    · simp only [List.nodup_append, List.mem_append] at nd ⊢
      refine ⟨nd.1, ⟨nd.2.1.1, ⟨t3, nd.2.1.2.1.2.1, fun a z b y => nd.2.1.2.1.2.2 a (t2 a z) b y⟩, fun a z b y => ?_⟩, fun a z b y => ?_⟩
      · rcases y with y | y
        · exact nd.2.1.2.2 a z b (.inl (t2 b y))
        · exact nd.2.1.2.2 a z b (.inr y)
      · rcases y with y | y | y
        · exact nd.2.2 a z b (.inl y)
        · exact nd.2.2 a z b (.inr (.inl (t2 b y)))
        · exact nd.2.2 a z b (.inr (.inr y))
theorem Tr.setAt : ∀ {π : List Stp} {v : V} {l : Addr} {d : D} {xs : List D} {fp : List Addr}, Tr K H A v d fp → fp.Nodup → (∀ a ∈ fp, a ∈ A) → NavH H v π (.ref l) → navD d π = some (.lst xs) → SetOk K H A v l xs fp (updD d π)
  | [], _, l, d, xs, fp, t, nd, hA, .nil, e => by
    simp [navD] at e; subst e
    cases t with
    | imm i _ => cases i
    | lst h r =>
      rename_i xv f1
      refine ⟨xv, f1, h, r, (List.nodup_cons.mp nd).2, fun a z => List.mem_cons_of_mem _ z, (List.nodup_cons.mp nd).1, List.mem_cons_self, fun H' yv ys fy hp hl ht hs hn => ⟨l :: fy, ?_, fun a z => ?_, ?_⟩⟩
      · simp only [updD]; exact .lst hl ht
      · rcases List.mem_cons.mp z with z | z
        · rw [z]; exact List.mem_cons_self
        · exact List.mem_cons_of_mem _ (hs a z)
      · exact List.nodup_cons.mpr ⟨fun z => (List.nodup_cons.mp nd).1 (hs l z), hn⟩
  | .ix n :: π, .ref a, l, d, xs, fp, t, nd, hA, .lst h1 h2 g, e => by
    cases t with
    | imm i _ => exact absurd (imm_nav _ i e) (by simp [DL.imm])
    | tup _ h _ => rw [h1] at h; cases h
    | dt h _ => rw [h1] at h; cases h
    | dk h _ => rw [h1] at h; cases h
    | obj _ _ h _ _ => rw [h1] at h; cases h
    | @lst _ _ ds f h r =>
      rw [h1] at h; cases h
      cases q : ds[n]? with
      | none => simp [navD, q] at e
      | some dd =>
        obtain ⟨f1, fn, f2, k1, k2, k3⟩ := r.focus h2 q
        subst k1
        have nd' : ([a] ++ (f1 ++ (fn ++ f2))).Nodup := nd
        have hA' : ∀ b ∈ [a] ++ (f1 ++ (fn ++ f2)), b ∈ A := hA
        have sub := Tr.setAt k2 (by simp only [List.nodup_append] at nd'; exact nd'.2.1.2.1.1) (fun b z => hA' b (by simp [z])) g (by simpa [navD, q] using e)
        have := sub.lift (w := .ref a) (pre := [a]) (mk := fun z => .lst (ds.set n z)) nd' hA' (fun H' d' fn' hp hk t' => .lst (hk a (by simp) _ h1) (k3 H' d' fn' hp (fun b z => hk b (by simp at z ⊢; exact .inr z)) t'))
        simpa [updD, q] using this
  | .ix n :: π, .ref a, l, d, xs, fp, t, nd, hA, .tup h1 h2 g, e => by
    cases t with
    | imm i _ => exact absurd (imm_nav _ i e) (by simp [DL.imm])
    | lst h _ => rw [h1] at h; cases h
    | dt h _ => rw [h1] at h; cases h
    | dk h _ => rw [h1] at h; cases h
    | obj _ _ h _ _ => rw [h1] at h; cases h
    | @tup _ _ ds f na h r =>
      rw [h1] at h; cases h
      cases q : ds[n]? with
      | none => simp [navD, q] at e
      | some dd =>
        obtain ⟨f1, fn, f2, k1, k2, k3⟩ := r.focus h2 q
        subst k1
        have nd' : (([] : List Addr) ++ (f1 ++ (fn ++ f2))).Nodup := nd
        have hA' : ∀ b ∈ ([] : List Addr) ++ (f1 ++ (fn ++ f2)), b ∈ A := hA
        have sub := Tr.setAt k2 (by simp only [List.nodup_append] at nd'; exact nd'.2.1.2.1.1) (fun b z => hA' b (by simp [z])) g (by simpa [navD, q] using e)
        have := sub.lift (w := .ref a) (pre := []) (mk := fun z => .tup (ds.set n z)) nd' hA' (fun H' d' fn' hp hk t' => .tup na (hp _ _ na h1) (k3 H' d' fn' hp (fun b z => hk b (by simpa using z)) t'))
        simpa [updD, q] using this
  | .key n :: π, .ref a, l, d, xs, fp, t, nd, hA, .key h1 h2 g, e => by
    cases t with
    | imm i _ => exact absurd (imm_nav _ i e) (by simp [DL.imm])
    | tup _ h _ => rw [h1] at h; cases h
    | lst h _ => rw [h1] at h; cases h
    | dk h _ => rw [h1] at h; cases h
    | obj _ _ h _ _ => rw [h1] at h; cases h
    | @dt _ _ ds f h r =>
      rw [h1] at h; cases h
      cases q : getT ds n with
      | none => simp [navD, q] at e
      | some dd =>
        obtain ⟨f1, fn, f2, k1, k2, k3⟩ := r.focus h2 q
        subst k1
        have nd' : ([a] ++ (f1 ++ (fn ++ f2))).Nodup := nd
        have hA' : ∀ b ∈ [a] ++ (f1 ++ (fn ++ f2)), b ∈ A := hA
        have sub := Tr.setAt k2 (by simp only [List.nodup_append] at nd'; exact nd'.2.1.2.1.1) (fun b z => hA' b (by simp [z])) g (by simpa [navD, q] using e)
        have := sub.lift (w := .ref a) (pre := [a]) (mk := fun z => .dt (updK ds n z)) nd' hA' (fun H' d' fn' hp hk t' => .dt (hk a (by simp) _ h1) (k3 H' d' fn' hp (fun b z => hk b (by simp at z ⊢; exact .inr z)) t'))
        simpa [updD, q] using this
  | .kk n :: π, .ref a, l, d, xs, fp, t, nd, hA, .kk h1 h2 g, e => by
    cases t with
    | imm i _ => exact absurd (imm_nav _ i e) (by simp [DL.imm])
    | tup _ h _ => rw [h1] at h; cases h
    | lst h _ => rw [h1] at h; cases h
    | dt h _ => rw [h1] at h; cases h
    | obj _ _ h _ _ => rw [h1] at h; cases h
    | @dk _ _ ds f h r =>
      rw [h1] at h; cases h
      cases q : getT ds n with
      | none => simp [navD, q] at e
      | some dd =>
        obtain ⟨f1, fn, f2, k1, k2, k3⟩ := r.focus h2 q
        subst k1
        have nd' : ([a] ++ (f1 ++ (fn ++ f2))).Nodup := nd
        have hA' : ∀ b ∈ [a] ++ (f1 ++ (fn ++ f2)), b ∈ A := hA
        have sub := Tr.setAt k2 (by simp only [List.nodup_append] at nd'; exact nd'.2.1.2.1.1) (fun b z => hA' b (by simp [z])) g (by simpa [navD, q] using e)
        have := sub.lift (w := .ref a) (pre := [a]) (mk := fun z => .dk (updK ds n z)) nd' hA' (fun H' d' fn' hp hk t' => .dk (hk a (by simp) _ h1) (k3 H' d' fn' hp (fun b z => hk b (by simp at z ⊢; exact .inr z)) t'))
        simpa [updD, q] using this
  | .fld n :: π, .ref a, l, d, xs, fp, t, nd, hA, .fld h1 h2 g, e => by
    cases t with
    | imm i _ => exact absurd (imm_nav _ i e) (by simp [DL.imm])
    | tup _ h _ => rw [h1] at h; cases h
    | lst h _ => rw [h1] at h; cases h
    | dt h _ => rw [h1] at h; cases h
    | dk h _ => rw [h1] at h; cases h
    | @obj _ C dx c _ ds f cn m h gg r =>
      rw [h1] at h; cases h
      cases q : getT ds n with
      | none => simp [navD, q] at e
      | some dd =>
        obtain ⟨f1, fn, f2, k1, k2, k3⟩ := r.focus h2 q
        subst k1
        have nd' : ([a] ++ (f1 ++ (fn ++ f2))).Nodup := nd
        have hA' : ∀ b ∈ [a] ++ (f1 ++ (fn ++ f2)), b ∈ A := hA
        have sub := Tr.setAt k2 (by simp only [List.nodup_append] at nd'; exact nd'.2.1.2.1.1) (fun b z => hA' b (by simp [z])) g (by simpa [navD, q] using e)
        have := sub.lift (w := .ref a) (pre := [a]) (mk := fun z => .obj c (updK ds n z)) nd' hA' (fun H' d' fn' hp hk t' => .obj cn m (hk a (by simp) _ h1) (hp _ _ m gg) (k3 H' d' fn' hp (fun b z => hk b (by simp at z ⊢; exact .inr z)) t'))
        simpa [updD, q] using this
end
end DL

namespace DL
open PySem L2
/-- where a path from slot i, locked, leads -/
def rN (K : PySem.W.Frag) (i : Nat) : List Stp → Fm → En → St → Hp → List Addr → V → Prop := fun π F _ σ H W v => ∃ root d z, σ[i]? = some (some root) ∧ Rp K H (W ++ F.fr) root d ∧ navD d π = some z ∧ NavH H root π v
def pthV (i : Nat) : En → R (List Stp) := fun e => match e.sv i with | some ⟨.p, _⟩ => .ok [] e | _ => .stuck
def stepIx : D → Int → Option Nat
  | .lst ds, n => ixN ds.length n
  | .tup ds, n => ixN ds.length n
  | _, _ => none
def pthI (i : Nat) (f : En → R (List Stp)) (fj : En → R Opd) : En → R (List Stp) := bindR f fun π => bindR fj fun j e => match e.sv i, j.get e with
  | some ⟨.p, d⟩, some (.int n) => (match navD d π with
    | some z => (match stepIx z n with | some m => .ok (π ++ [.ix m]) e | none => .stuck)
    | none => .stuck)
  | _, _ => .stuck
def Fl.tr : Fl → Bool | .t => true | .u => true | _ => false
def pairA (f : En → R (List Stp)) (fa : En → R (List Opd)) : En → R (List Stp × List Opd) := bindR f fun π => bindR fa fun os e => .ok (π, os) e
def mutPS (i : Nat) (k : List D → List D → Option (D × List D)) (f : En → R (List Stp)) (fa : En → R (List Opd)) : En → RS := fun e => match e.sv i with
  | some ⟨fl, d⟩ => if fl.tr = true then (match pairA f fa (e.set i (some ⟨.p, d⟩)) with
    | .ok (π, os) e' => (match getL os e', navD d π with
      | some ds, some (.lst xs) => if immL ds = true then (match k ds xs with
        | some (_, ys) => .nx ((unlL e e').set i (some ⟨fl, updD d π (.lst ys)⟩))
        | none => .stuck) else .stuck
      | _, _ => .stuck)
    | _ => .stuck) else .stuck
  | none => .stuck
def OpT (K : PySem.W.Frag) (r : V → List V → Hp → VK → Prop) (k : List D → List D → Option (D × List D)) : Prop := ∀ H A l vs ds xv xs fp z ys (Q : VK), H l = some (.lst xv) → TrL K H A xv xs fp → RpL K H A vs ds → immL ds = true → k ds xs = some (z, ys) →
  (∀ w yv fy, TrL K H A yv ys fy → (∀ a ∈ fy, a ∈ fp) → (fp.Nodup → fy.Nodup) → Q w (upd H l (.lst yv))) → r (.ref l) vs H Q
section
variable {K : PySem.W.Frag} {E : XK} {F : Fm} {env env' : En} {σ : St} {H H' : Hp} {W W' A A' B : List Addr} {ta tb te to : TE} {t : TA} {tt : TT} {fps : Nat → List Addr}
theorem tr_of {fl : Fl} (h : fl.tr = true) : fl = .t ∨ fl = .u := by cases fl <;> simp_all [Fl.tr]
theorem slot_rp {i : Nat} {d : D} {v : V} (r : Rel K F env σ H W) (e : env.sv i = some ⟨.p, d⟩) (hs : σ[i]? = some (some v)) : Rp K H (W ++ F.fr) v d := by
  obtain ⟨u, h1, fp, h2⟩ := r.sl i _ e
  rw [hs] at h1; cases h1
  rcases h2 with ⟨_, _, h⟩ | ⟨h, _⟩
  · exact h
  · exact absurd rfl h.np
theorem rN.step {i : Nat} {π : List Stp} {e e' : En} {v : V} (s : Step H W H' W') (h : rN K i π F e σ H W v) : rN K i π F e' σ H' W' v := by
  obtain ⟨root, d, z, h1, h2, h3, h4⟩ := h
  exact ⟨root, d, z, h1, s.rp h2, h3, (h4.rp h2 h3).2 H' s.pF⟩
theorem sp_var {i : Nat} : Sn (rN K i) K E (tVar i) (pthV i) := by
  intro F env σ H W Q r p
  unfold pthV at p
  split at p
  · rename_i d q
    obtain ⟨v, h1, _⟩ := r.sl i _ q
    exact ⟨v, h1, p v H W r (Step.refl H W) ⟨v, d, d, h1, slot_rp r q h1, by simp [navD], .nil⟩⟩
  · exact p.elim
theorem ixN_lt {n m : Nat} {i : Int} (h : ixN n i = some m) : m < n := by
  unfold ixN at h
  split at h <;> (try split at h) <;> simp_all <;> omega
theorem at_ixN {α : Type} {xs : List α} {i : Int} {m : Nat} {v : α} (h : ixN xs.length i = some m) (hv : xs[m]? = some v) : atI xs i = some v := by
  unfold atI
  rw [h]; exact hv
theorem sp_ix {i : Nat} {f : En → R (List Stp)} {fj : En → R Opd} (hf : Sn (rN K i) K E ta f) (hj : SE K E tb fj) : Sn (rN K i) K E (tOp (rIx K) ta tb) (pthI i f fj) := by
  intro F env σ H W Q rel p
  refine Sn.go (t := ta) hf rel p fun e1 H1 W1 π v rel1 s1 rv p => ?_
  refine Sn.go (t := tb) hj rel1 p fun e2 H2 W2 j w rel2 s2 rj p => ?_
  cases q1 : e2.sv i with
  | none => rw [q1] at p; exact p.elim
  | some sv =>
    obtain ⟨fl, d⟩ := sv
    cases fl with
    | p =>
      cases q2 : j.get e2 with
      | none => rw [q1, q2] at p; exact p.elim
      | some jd =>
        rw [q1, q2] at p
        cases jd with
        | int n =>
          dsimp only at p
          cases q3 : navD d π with
          | none => rw [q3] at p; exact p.elim
          | some z =>
            rw [q3] at p
            dsimp only at p
            cases q4 : stepIx z n with
            | none => rw [q4] at p; exact p.elim
            | some m =>
              rw [q4] at p
              obtain ⟨root, d0, z0, h1, h2, h3, h4⟩ := rN.step (e' := e2) s2 rv
              have rr := slot_rp rel2 q1 h1
              obtain ⟨rz, _⟩ := h4.rp rr q3
              have hw := rd_int (rel2.get rj q2)
              have fin : ∀ (ds : List D) (dd : D), ds[m]? = some dd → navD z [.ix m] = some dd → ∀ u, NavH H2 v [.ix m] u → Q u H2 := fun ds dd e1 e2 u hu => by
                refine p u H2 W2 rel2 (Step.refl _ _) ⟨root, d, dd, h1, rr, ?_, h4.snoc hu⟩
                rw [navD_snoc, q3]; exact e2
              cases z with
              | lst ds =>
                have q4' : ixN ds.length n = some m := q4
                cases rz with
                | @lst a xs _ na h r =>
                  have hm := ixN_lt q4'
                  have e2 := List.getElem?_eq_getElem hm
                  obtain ⟨u, g1, g2⟩ := r.get e2
                  exact .inl ⟨a, xs, n, u, rfl, hw, .inl (.inl h), at_ixN (by rw [r.length]; exact q4') g1, fin ds _ e2 (by simp [navD, e2]) u (.lst h g1 .nil)⟩
              | tup ds =>
                have q4' : ixN ds.length n = some m := q4
                cases rz with
                | @tup a xs _ h r =>
                  have hm := ixN_lt q4'
                  have e2 := List.getElem?_eq_getElem hm
                  obtain ⟨u, g1, g2⟩ := r.get e2
                  exact .inr (.inl ⟨a, xs, n, u, rfl, hw, h.sq, at_ixN (by rw [r.length]; exact q4') g1, fin ds _ e2 (by simp [navD, e2]) u (.tup h.2 g1 .nil)⟩)
              | _ => cases q4
        | _ => exact p.elim
    | _ => rw [q1] at p; exact p.elim
theorem rdL_imm : ∀ {ds : List D} {vs : List V}, RdL K H A vs ds → immL ds = true → RpL K H A vs ds
  | [], _, h, _ => by cases h; exact .nil
  | d :: ds, _, h, i => by
    cases h with
    | cons h r =>
      simp only [immL, Bool.and_eq_true] at i
      refine .cons ?_ (rdL_imm r i.2)
      rcases h with h | ⟨a, e, h⟩
      · exact h
      · cases h <;> simp [imm] at i
theorem ss_mutP {i : Nat} {r : V → List V → Hp → VK → Prop} {k : List D → List D → Option (D × List D)} {f : En → R (List Stp)} {fa : En → R (List Opd)} (ho : OpT K r k) (hf : Sn (rN K i) K E to f) (ha : SA K E t fa) : SS K E (tDrop (tBM K "list" r to t)) (mutPS i k f fa) := by
  intro F env σ H W T rel p
  unfold mutPS at p
  cases he : env.sv i with
  | none => rw [he] at p; exact p.elim
  | some sv =>
    obtain ⟨fl, d⟩ := sv
    rw [he] at p
    dsimp only at p
    by_cases ht : fl.tr = true
    · rw [if_pos ht] at p
      obtain ⟨fps, fp⟩ := rel.ex
      obtain ⟨root, hs, hsv⟩ := fp.sl i _ he
      have r1 := rel.lock fp he hs
      have rp1 : Rp K H (cutW W (fps i) ++ F.fr) root d := slot_rp r1 (by rw [En.sv_set (En.sv_lt he), if_pos rfl]) hs
      show to σ H _
      refine hf F _ σ H _ _ r1 ?_
      unfold pairA bindR at p
      cases q1 : f (env.set i (some ⟨.p, d⟩)) with
      | stuck => rw [q1] at p; exact p.elim
      | exc x e => rw [q1] at p; exact p.elim
      | ok π e1 =>
        rw [q1] at p
        dsimp only at p
        intro x H1 W1 rel1 s1 rn1
        cases q2 : fa e1 with
        | stuck => rw [q2] at p; exact p.elim
        | exc x e => rw [q2] at p; exact p.elim
        | ok os e2 =>
          rw [q2] at p
          dsimp only at p
          cases q3 : getL os e2 with
          | none => rw [q3] at p; exact p.elim
          | some ds =>
            rw [q3] at p
            cases q4 : navD d π with
            | none => rw [q4] at p; exact p.elim
            | some z =>
              rw [q4] at p
              cases z with
              | lst xs =>
                dsimp only at p
                by_cases hi : immL ds = true
                · rw [if_pos hi] at p
                  cases q5 : k ds xs with
                  | none => rw [q5] at p; exact p.elim
                  | some zy =>
                    obtain ⟨z, ys⟩ := zy
                    rw [q5] at p
                    dsimp only at p
                    obtain ⟨root', d0, z0, m1, m2, m3, m4⟩ := rn1
                    rw [hs] at m1; cases m1
                    obtain ⟨rx, st4⟩ := m4.rp (s1.rp rp1) q4
                    cases rx with
                    | @lst l xv _ nl hl rl =>
                      refine ⟨.inl ⟨rfl, _, .inl (.inl hl)⟩, ?_⟩
                      refine ha F e1 σ H1 W1 _ rel1 ?_
                      rw [q2]
                      intro vs H2 W2 rel2 s2 ros
                      have s12 := s1.trans s2
                      obtain ⟨g, f2⟩ := rel2.ex
                      have ht' : (SV.mk fl d).fl = .t ∨ (SV.mk fl d).fl = .u := tr_of ht
                      obtain ⟨F2, nW', av⟩ := Fps.unlock rel fp he hs ht' s12 f2
                      obtain ⟨R2, S2⟩ := rel.unlock fp he hs ht' s12 rel2
                      have hi2 : i < (unlL env e2).length := by rw [unlL_len]; exact En.sv_lt he
                      have ei : En.sv ((unlL env e2).set i (some ⟨fl, d⟩)) i = some ⟨fl, d⟩ := by rw [En.sv_set hi2, if_pos rfl]
                      obtain ⟨root2, w1, w2⟩ := F2.sl i _ ei
                      rw [hs] at w1; cases w1
                      rw [if_pos rfl] at w2
                      obtain ⟨k1, k2, k3⟩ := w2.hd (fun z => by rcases ht' with w | w <;> rw [w] at z <;> cases z)
                      obtain ⟨tr, nd⟩ := k1.tre ht'
                      have nav2 : NavH H2 root π (.ref l) := st4 H2 s2.pF
                      obtain ⟨xv2, f1, e1, e2', e3, e4, e5, e6, e7⟩ := Tr.setAt tr nd (fun a z => List.mem_append_left _ (k2 a z)) nav2 q4
                      have rds : RpL K H2 ((fps i ++ W2) ++ F.fr) vs ds := immL_avoid av ds hi (rdL_imm (getL_ok rel2 ros q3) hi)
                      refine ho H2 ((fps i ++ W2) ++ F.fr) l vs ds xv2 xs f1 z ys _ e1 e2' rds hi q5 fun w yv fy ty hsub hnd => ?_
                      have lA : l ∈ (fps i ++ W2) ++ F.fr := List.mem_append_left _ (k2 l e6)
                      have ty' : TrL K (upd H2 l (.lst yv)) ((fps i ++ W2) ++ F.fr) yv ys fy := ty.mono (fun a o n q => by rw [upd_ne (fun e => n (by rw [e]; exact lA))]; exact q) (fun a z => .inl z) (fun a z o q => by
                        rw [upd_ne (fun e => e5 (by rw [← e]; exact hsub a z))]; exact q)
                      obtain ⟨fp', t1, t2, t3⟩ := e7 (upd H2 l (.lst yv)) yv ys fy (fun a o n q => by rw [upd_ne n]; exact q) upd_same ty' hsub (hnd e3)
                      have R3 := R2.writeG F2 ei hs (by rw [if_pos rfl]; exact e6) (.tr ht' t1 t3) (fun b z => k2 b (t2 b z)) (fun q b z => k3 q b (t2 b z)) (fun j sw ej hj b z y => F2.dj j i sw _ ej ei hj b y (by rw [if_pos rfl]; exact t2 b z))
                      rw [List.set_set] at R3
                      exact p σ _ _ R3 (S2.trans (Step.mut (k2 l e6)))
                · rw [if_neg hi] at p; exact p.elim
              | _ => exact p.elim
    · rw [if_neg ht] at p; exact p.elim
theorem ss_mutP0 {i : Nat} {r : V → List V → Hp → VK → Prop} {k : List D → List D → Option (D × List D)} {f : En → R (List Stp)} (ho : OpT K r k) (hf : Sn (rN K i) K E to f) : SS K E (tDrop (tBM0 K "list" r to)) (mutPS i k f nilA) := fun F env σ H W T rel p => ss_mutP (t := tNil) ho hf sa_nil F env σ H W T rel p
theorem t_append : OpT K rAppend appendK := by
  intro H A l vs ds xv xs fp z ys Q hl hx hv hi hk q
  match ds, hv, hi, hk with
  | [d], .cons hd .nil, hi, hk =>
    have hk' : (if xs.length < 100000 then some (D.non, xs ++ [d]) else none) = some (z, ys) := hk
    by_cases hz : xs.length < 100000
    · rw [if_pos hz] at hk'
      cases hk'
      simp only [immL, Bool.and_true] at hi
      have := TrL.snoc hx (.imm hi hd)
      rw [List.append_nil] at this
      exact ⟨l, xv, _, rfl, rfl, hl, sz_lt (by rw [hx.length]; exact hz), q _ _ fp this (fun a z => z) id⟩
    · rw [if_neg hz] at hk'; cases hk'
theorem TrL.dropLast : ∀ {ds : List D} {vs : List V} {f : List Addr}, TrL K H A vs ds f → ∃ g, TrL K H A vs.dropLast ds.dropLast g ∧ (∀ a ∈ g, a ∈ f) ∧ (f.Nodup → g.Nodup)
  | [], _, _, h => by cases h; exact ⟨[], .nil, fun a z => z, id⟩
  | [d], _, _, h => by
    cases h with
    | cons h r =>
      cases r
      exact ⟨[], .nil, fun a z => (by cases z), fun _ => List.nodup_nil⟩
  | d :: d2 :: ds, _, _, h => by
    cases h with
    | cons h r =>
      rename_i v vs fa fb
      obtain ⟨g, g1, g2, g3⟩ := TrL.dropLast r
      refine ⟨fa ++ g, ?_, fun a z => ?_, fun n => ?_⟩
      · cases r with
        | cons h2 r2 => exact .cons h g1
      · rcases List.mem_append.mp z with z | z
        · exact List.mem_append_left _ z
        · exact List.mem_append_right _ (g2 a z)
      · rw [List.nodup_append] at n ⊢
        exact ⟨n.1, g3 n.2.1, fun a z b y => n.2.2 a z b (g2 b y)⟩
theorem t_pop : OpT K rPop popK := by
  intro H A l vs ds xv xs fp z ys Q hl hx hv hi hk q
  match ds, hv, hk with
  | [], .nil, hk =>
    have hk' : (xs[xs.length - 1]?).map (fun d => (d, xs.dropLast)) = some (z, ys) := hk
    cases e : xs[xs.length - 1]? with
    | none => rw [e] at hk'; cases hk'
    | some d =>
      rw [e] at hk'
      cases hk'
      obtain ⟨g, g1, g2, g3⟩ := hx.dropLast
      have hlen := hx.length
      have hlt : xv.length - 1 < xv.length := by
        have := (List.getElem?_eq_some_iff.mp e).1
        omega
      exact ⟨l, xv, _, rfl, rfl, hl, List.getElem?_eq_getElem hlt, q _ _ g g1 g2 g3⟩
  | _ :: _, .cons _ _, hk => cases hk
theorem t_clear : OpT K rClear clearK := by
  intro H A l vs ds xv xs fp z ys Q hl hx hv hi hk q
  match ds, hv, hk with
  | [], .nil, hk => cases hk; exact ⟨l, xv, rfl, rfl, hl, q _ _ [] .nil (fun a z => by cases z) (fun _ => List.nodup_nil)⟩
  | _ :: _, .cons _ _, hk => cases hk
end
end DL

namespace DL
open PySem L2
/-- things held, by no slot -/
def rTs (K : PySem.W.Frag) : List D → Fm → En → St → Hp → List Addr → List V → Prop := fun ds F e σ H W vs => ∃ fps fp, Fps K F e σ H W fps ∧ TrL K H (W ++ F.fr) vs ds fp ∧ fp.Nodup ∧ (∀ a ∈ fp, a ∈ W) ∧ (∀ a ∈ fp, F.h0 a = none) ∧ ∀ j sw, e.sv j = some sw → ∀ a ∈ fp, a ∉ fps j
def nilT : En → R (List D) := fun e => .ok [] e
def consT (f : En → R SV) (g : En → R (List D)) : En → R (List D) := bindR f fun sv e => if treeOK sv = true then bindR g (fun ds e' => .ok (sv.d :: ds) e') e else .stuck
def lstT (g : En → R (List D)) : En → R SV := bindR g fun ds e => if ds.length ≤ 100000 then .ok ⟨.t, .lst ds⟩ e else .stuck
def tupT (g : En → R (List D)) : En → R SV := bindR g fun ds e => if ds.length ≤ 100000 then .ok ⟨.t, .tup ds⟩ e else .stuck
section
variable {K : PySem.W.Frag} {E : XK} {F : Fm} {env env' : En} {σ : St} {H H' : Hp} {W W' A A' B : List Addr} {ta tb te to : TE} {t tr : TA} {tt : TT} {fps : Nat → List Addr}
theorem st_nil : Sn (rTs K) K E tNil nilT := fun F env σ H W Q r p => by
  obtain ⟨fps, f⟩ := r.ex
  exact p [] H W r (Step.refl H W) ⟨fps, [], f, .nil, List.nodup_nil, fun a z => (by cases z), fun a z => (by cases z), fun _ _ _ a z => by cases z⟩
/-- what was set aside is there again -/
theorem Rel.unframe (r : Rel K F env σ H W) (s : Step H W H' (B ++ W')) (r2 : Rel K ⟨B ++ F.fr, F.h0, F.s0⟩ env' σ H' W') : Rel K F env' σ H' (B ++ W') ∧ ∀ g, Fps K ⟨B ++ F.fr, F.h0, F.s0⟩ env' σ H' W' g → Fps K F env' σ H' (B ++ W') g ∧ ∀ j sw, env'.sv j = some sw → ∀ a ∈ B, a ∉ g j := by
  have eq1 : ∀ a, a ∈ (B ++ W') ++ F.fr → a ∈ W' ++ (B ++ F.fr) ∨ H' a = none := fun a z => by
    rcases List.mem_append.mp z with z | z
    · rcases List.mem_append.mp z with z | z
      · exact .inl (List.mem_append_right _ (List.mem_append_left _ z))
      · exact .inl (List.mem_append_left _ z)
    · exact .inl (List.mem_append_right _ (List.mem_append_right _ z))
  have key : ∀ g, Fps K ⟨B ++ F.fr, F.h0, F.s0⟩ env' σ H' W' g → Fps K F env' σ H' (B ++ W') g ∧ ∀ j sw, env'.sv j = some sw → ∀ a ∈ B, a ∉ g j := fun g f => ⟨⟨fun j sv q => by
      obtain ⟨v, g1, g2⟩ := f.sl j sv q
      exact ⟨v, g1, g2.mono (fun _ _ _ e => e) eq1 (fun a z => ⟨List.mem_append_right _ (g2.inW a z), fun _ e => e⟩) rfl⟩, f.dj⟩, fun j sw ej a za y => by
      obtain ⟨v, _, g2⟩ := f.sl j sw ej
      exact r2.dis a (g2.inW a y) (List.mem_append_left _ za)⟩
  obtain ⟨g, f⟩ := r2.ex
  refine ⟨⟨r2.len, ⟨g, (key g f).1⟩, r2.bor, r2.trk, fun a z => r2.frt a (List.mem_append_right _ z), fun a z y => ?_, fun a z => ?_⟩, key⟩
  · rcases s.grow a z with z | z
    · exact r.dis a z y
    · exact r.frt a y z
  · rcases List.mem_append.mp z with z | z
    · exact r2.frt _ (List.mem_append_left _ z)
    · exact r2.wt a z
theorem st_cons {f : En → R SV} {g : En → R (List D)} (h1 : SF K E ta f) (h2 : Sn (rTs K) K E tr g) : Sn (rTs K) K E (tCons ta tr) (consT f g) := by
  intro F env σ H W Q r p
  refine Sn.go (t := ta) h1 r p fun e H W sv v rel s rv p => ?_
  by_cases it : treeOK sv = true
  · rw [if_pos it] at p
    rcases rv.tree rel it with ⟨z, _⟩ | ⟨_, fps, fq, fp, h, dj⟩
    · cases z
    · obtain ⟨k1, k2, k3⟩ := h.hd (fun z => by cases z)
      obtain ⟨tq, nq⟩ := k1.tre (.inl rfl)
      have r1 := rel.frameF fp fq k2 dj
      have back : ∀ {H' : Hp} {W' : List Addr}, Step H (cutW W fq) H' W' → Step H W H' (fq ++ W') := fun s' => ⟨fun a o n q => s'.pres a o (fun z => n (mem_cutW.mp z).1) q, fun a z => by
        rcases List.mem_append.mp z with z | z
        · exact .inl (k2 a z)
        · rcases s'.grow a z with z | z
          · exact .inl (mem_cutW.mp z).1
          · exact .inr z⟩
      refine h2 _ e σ H (cutW W fq) _ r1 ?_
      unfold bindR at p
      cases q : g e with
      | stuck => rw [q] at p; exact p
      | exc x e' =>
        rw [q] at p
        intro c d H' W' r' s' hx
        refine p c d H' (fq ++ W') (rel.unframe (back s') r').1 (back s') ⟨hx.1, ?_⟩
        have hx2 := hx.2
        cases d with
        | none => exact hx2
        | some a =>
          obtain ⟨nf, fs, w1, w2⟩ := hx2
          refine ⟨nf, fs, w1, fun f y q => ?_⟩
          obtain ⟨v, g1, g2⟩ := w2 f y q
          refine ⟨v, g1, g2.mono (fun _ _ _ e => e) fun a z => .inl ?_⟩
          rcases List.mem_append.mp z with z | z
          · rcases List.mem_append.mp z with z | z
            · exact List.mem_append_right _ (List.mem_append_left _ z)
            · exact List.mem_append_left _ z
          · exact List.mem_append_right _ (List.mem_append_right _ z)
      | ok ds e' =>
        rw [q] at p
        dsimp only at p
        intro vs H' W' r' s' rt
        obtain ⟨R2, kk⟩ := rel.unframe (back s') r'
        obtain ⟨gf, fr2, f', tl, nd, hW, h0, dj2⟩ := rt
        obtain ⟨F2, nj⟩ := kk gf f'
        have sub : ∀ a, a ∈ (fq ++ W') ++ F.fr → a ∈ W' ++ (fq ++ F.fr) ∨ H' a = none := fun a z => by
          rcases List.mem_append.mp z with z | z
          · rcases List.mem_append.mp z with z | z
            · exact .inl (List.mem_append_right _ (List.mem_append_left _ z))
            · exact .inl (List.mem_append_left _ z)
          · exact .inl (List.mem_append_right _ (List.mem_append_right _ z))
        have nqW : ∀ a ∈ fq, a ∉ W' := fun a z y => r'.dis a y (List.mem_append_left _ z)
        have tq' : Tr K H' ((fq ++ W') ++ F.fr) v sv.d fq := tq.mono (back s').pF (back s').gF fun a z o w => s'.pres a o (fun y => (mem_cutW.mp y).2 z) w
        refine p (v :: vs) H' (fq ++ W') R2 (back s') ⟨gf, fq ++ fr2, F2, .cons tq' (tl.mono (fun _ _ _ e => e) sub fun _ _ _ e => e), ?_, fun a z => ?_, fun a z => ?_, fun j sw ej a z => ?_⟩
        · exact List.nodup_append.mpr ⟨nq, nd, fun a z b y e => by subst e; exact nqW a z (hW a y)⟩
        · rcases List.mem_append.mp z with z | z
          · exact List.mem_append_left _ z
          · exact List.mem_append_right _ (hW a z)
        · rcases List.mem_append.mp z with z | z
          · exact k3 rfl a z
          · exact h0 a z
        · rcases List.mem_append.mp z with z | z
          · exact nj j sw ej a z
          · exact dj2 j sw ej a z
  · rw [if_neg it] at p; exact p.elim
theorem sf_lstT {g : En → R (List D)} (h : Sn (rTs K) K E t g) : SF K E (tLst t) (lstT g) := by
  intro F env σ H W Q r p
  refine Sn.go (t := t) h r p fun e H W ds vs rel s rt p => ?_
  obtain ⟨fps, fp, f, tl, nd, hW, h0, dj⟩ := rt
  by_cases hz : ds.length ≤ 100000
  · rw [if_pos hz] at p
    refine ⟨sz_of (by rw [tl.length]; exact hz), fun a ha => ?_⟩
    have s2 : Step H W (upd H a (.lst vs)) (a :: W) := Step.newW ha
    have na : a ∉ fp := fun z => rel.wt a (hW a z) ha
    refine p (.ref a) _ (a :: W) (rel.newW ha) s2 (.inr ⟨rfl, fps, a :: fp, f.keep s2 (upd_kept ha) (fun _ z => List.mem_cons_of_mem _ z), .inr ⟨.tr (.inl rfl) (.lst upd_same (tl.mono s2.pF s2.gF fun b _ o q => upd_kept ha b o q)) (List.nodup_cons.mpr ⟨na, nd⟩), fun b z => ?_, fun _ b z => ?_⟩, fun j sw ej b z y => ?_⟩)
    · rcases List.mem_cons.mp z with z | z
      · rw [z]; exact List.mem_cons_self
      · exact List.mem_cons_of_mem _ (hW b z)
    · rcases List.mem_cons.mp z with z | z
      · rw [z]; exact rel.trk a ha
      · exact h0 b z
    · rcases List.mem_cons.mp z with z | z
      · obtain ⟨u, _, w⟩ := f.sl j sw ej
        rw [z] at y
        exact rel.wt a (w.inW a y) ha
      · exact dj j sw ej b z y
  · rw [if_neg hz] at p; exact p.elim
theorem sf_tupT {g : En → R (List D)} (h : Sn (rTs K) K E t g) : SF K E (tTup t) (tupT g) := by
  intro F env σ H W Q r p
  refine Sn.go (t := t) h r p fun e H W ds vs rel s rt p => ?_
  obtain ⟨fps, fp, f, tl, nd, hW, h0, dj⟩ := rt
  by_cases hz : ds.length ≤ 100000
  · rw [if_pos hz] at p
    refine ⟨sz_of (by rw [tl.length]; exact hz), fun a ha => ?_⟩
    have s2 : Step H W (upd H a (.tup vs)) W := Step.new ha
    refine p (.ref a) _ W (rel.newP ha) s2 (.inr ⟨rfl, fps, fp, f.keep s2 (upd_kept ha) (fun _ z => z), .inr ⟨.tr (.inl rfl) (.tup (fun z => ?_) upd_same (tl.mono s2.pF s2.gF fun b _ o q => upd_kept ha b o q)) nd, hW, fun _ => h0⟩, dj⟩)
    rcases List.mem_append.mp z with z | z
    · exact rel.wt a z ha
    · exact rel.frt a z ha
  · rw [if_neg hz] at p; exact p.elim
end
theorem cLoop_map {md : Md} {s : Src} {vs : List Nat} {asg : D → En → Option En} {test : En → R Bool} {elt : En → R SV} {e : En} (hG : Grd s e) (b : D → Bool) (f : D → D) : ∀ (ds : List D) (acc : List D), acc.length + ds.length ≤ 100000 →
    (∀ d ∈ ds, ∃ e1 e2, asg d e = some e1 ∧ test e1 = .ok (b d) e2 ∧ (b d = false → wipeE e2 vs = e) ∧ (b d = true → ∃ sv e3, elt e2 = .ok sv e3 ∧ accept md sv = some (f d) ∧ wipeE e3 vs = e)) →
    cLoop md s vs asg test elt ds e acc = .ok (acc ++ (ds.filter b).map f) e
  | [], acc, _, _ => by simp [cLoop, hG]
  | d :: ds, acc, hl, h => by
    obtain ⟨e1, e2, h1, h2, h3, h4⟩ := h d List.mem_cons_self
    unfold cLoop
    rw [if_pos hG, h1]
    dsimp only
    rw [h2]
    simp only [List.length_cons] at hl
    cases hb : b d with
    | false =>
      dsimp only
      rw [h3 hb, cLoop_map hG b f ds acc (by omega) fun d hd => h d (List.mem_cons_of_mem _ hd)]
      simp [hb]
    | true =>
      obtain ⟨sv, e3, g1, g2, g3⟩ := h4 hb
      dsimp only
      rw [g1]
      dsimp only
      rw [g2]
      dsimp only
      rw [if_pos (by omega), g3, cLoop_map hG b f ds (acc ++ [f d]) (by rw [List.length_append, List.length_singleton]; omega) fun d hd => h d (List.mem_cons_of_mem _ hd)]
      simp [hb]
theorem cLoop2_map {md : Md} {s : Src} {vs vs1 : List Nat} {asg asg1 : D → En → Option En} {test test1 : En → R Bool} {fs1 : En → R Src} {elt : En → R SV} {e : En} (hG : Grd s e) (f : D → List D) : ∀ (ds : List D) (acc : List D), acc.length + (ds.flatMap f).length ≤ 90000 →
    (∀ d ∈ ds, ∀ acc : List D, acc.length + (f d).length ≤ 90000 → ∃ e1 e2 s1 e3 e4, asg d e = some e1 ∧ test e1 = .ok true e2 ∧ fs1 e2 = .ok s1 e3 ∧ cLoop md s1 vs1 asg1 test1 elt s1.ds (wipeE e3 vs1) acc = .ok (acc ++ f d) e4 ∧ wipeE e4 vs = e) →
    cLoop2 md s vs asg test fs1 vs1 asg1 test1 elt ds e acc = .ok (acc ++ ds.flatMap f) e
  | [], acc, _, _ => by simp [cLoop2, hG]
  | d :: ds, acc, hl, h => by
    rw [List.flatMap_cons, List.length_append] at hl
    obtain ⟨e1, e2, s1, e3, e4, h1, h2, h3, h4, h5⟩ := h d List.mem_cons_self acc (by omega)
    unfold cLoop2
    rw [if_pos hG, h1]
    dsimp only
    rw [h2]
    dsimp only
    rw [h3]
    dsimp only
    rw [h4]
    dsimp only
    rw [h5, cLoop2_map hG f ds (acc ++ f d) (by rw [List.length_append]; omega) fun d hd => h d (List.mem_cons_of_mem _ hd), List.flatMap_cons, List.append_assoc]
theorem a_ownE (f : En → R SV) (e : En) : ownE f e = (bindR f fun sv e => if treeOK sv = true then .ok ⟨.t, sv.d⟩ e else .stuck) e := rfl
theorem a_lockG {α : Type} (chk : α → Bool) (i : Nat) (f : En → R α) (e : En) : lockG chk i f e = (match e.sv i with
  | some ⟨.t, d⟩ => (match f (e.set i (some ⟨.p, d⟩)) with
    | .ok a e' => if chk a = true then .ok a ((unlL e e').set i (some ⟨.t, d⟩)) else .stuck
    | _ => .stuck)
  | some ⟨.u, d⟩ => (match f (e.set i (some ⟨.p, d⟩)) with
    | .ok a e' => if chk a = true then .ok a ((unlL e e').set i (some ⟨.u, d⟩)) else .stuck
    | _ => .stuck)
  | _ => .stuck) := rfl
theorem a_compM (md : Md) (fs : En → R Src) (vs : List Nat) (asg : D → En → Option En) (test : En → R Bool) (elt : En → R SV) (e : En) : compM md fs vs asg test elt e = (bindR fs fun s e =>
  match cLoop md s vs asg test elt s.ds (wipeE e vs) [] with
  | .ok acc e' => .ok ⟨md.fl, .lst acc⟩ (restE e e' vs)
  | _ => .stuck) e := rfl
theorem a_comp2M (md : Md) (fs : En → R Src) (vs : List Nat) (asg : D → En → Option En) (test : En → R Bool) (fs1 : En → R Src) (vs1 : List Nat) (asg1 : D → En → Option En) (test1 : En → R Bool) (elt : En → R SV) (e : En) : comp2M md fs vs asg test fs1 vs1 asg1 test1 elt e = (bindR fs fun s e =>
  match cLoop2 md s vs asg test fs1 vs1 asg1 test1 elt s.ds (wipeE e vs) [] with
  | .ok acc e' => .ok ⟨md.fl, .lst acc⟩ (restE e e' vs)
  | _ => .stuck) e := rfl
theorem a_pthV (i : Nat) (e : En) : pthV i e = (match e.sv i with | some ⟨.p, _⟩ => .ok [] e | _ => .stuck) := rfl
theorem a_pthI (i : Nat) (f : En → R (List Stp)) (fj : En → R Opd) (e : En) : pthI i f fj e = (bindR f fun π => bindR fj fun j e => match e.sv i, j.get e with
  | some ⟨.p, d⟩, some (.int n) => (match navD d π with
    | some z => (match stepIx z n with | some m => .ok (π ++ [.ix m]) e | none => .stuck)
    | none => .stuck)
  | _, _ => .stuck) e := rfl
theorem a_pairA (f : En → R (List Stp)) (fa : En → R (List Opd)) (e : En) : pairA f fa e = (bindR f fun π => bindR fa fun os e => .ok (π, os) e) e := rfl
theorem a_mutPS (i : Nat) (k : List D → List D → Option (D × List D)) (f : En → R (List Stp)) (fa : En → R (List Opd)) (e : En) : mutPS i k f fa e = (match e.sv i with
  | some ⟨fl, d⟩ => if fl.tr = true then (match pairA f fa (e.set i (some ⟨.p, d⟩)) with
    | .ok (π, os) e' => (match getL os e', navD d π with
      | some ds, some (.lst xs) => if immL ds = true then (match k ds xs with
        | some (_, ys) => .nx ((unlL e e').set i (some ⟨fl, updD d π (.lst ys)⟩))
        | none => .stuck) else .stuck
      | _, _ => .stuck)
    | _ => .stuck) else .stuck
  | none => .stuck) := rfl
theorem a_nilT (e : En) : nilT e = .ok [] e := rfl
theorem a_consT (f : En → R SV) (g : En → R (List D)) (e : En) : consT f g e = (bindR f fun sv e => if treeOK sv = true then bindR g (fun ds e' => .ok (sv.d :: ds) e') e else .stuck) e := rfl
theorem a_lstT (g : En → R (List D)) (e : En) : lstT g e = (bindR g fun ds e => if ds.length ≤ 100000 then .ok ⟨.t, .lst ds⟩ e else .stuck) e := rfl
theorem a_tupT (g : En → R (List D)) (e : En) : tupT g e = (bindR g fun ds e => if ds.length ≤ 100000 then .ok ⟨.t, .tup ds⟩ e else .stuck) e := rfl
end DL

namespace DL
open PySem L2
def IsDO : HO → Prop
  | .dK _ => True
  | .dT _ => True
  | _ => False
/-- the dict at d is locked, or set free -/
structure Ch (d : Addr) (u : HO) (od : Obj) (H H' : Hp) : Prop where
  ne : ∀ a, a ≠ d → H' a = H a
  h : H d = some u ∨ H d = some (.frz od u)
  h' : H' d = some u ∨ H' d = some (.frz od u)
section
variable {K : PySem.W.Frag} {E : XK} {F : Fm} {env env' : En} {σ : St} {H H' : Hp} {W W' A A' B : List Addr} {ta tb te to td : TE} {t tr : TA} {tt : TT} {ts : TS} {fps : Nat → List Addr} {d : Addr} {u : HO} {od : Obj}
theorem Ch.symm (c : Ch d u od H H') : Ch d u od H' H := ⟨fun a n => (c.ne a n).symm, c.h', c.h⟩
theorem Ch.lock (hu : H d = some u) : Ch d u od H (upd H d (.frz od u)) := ⟨fun a n => upd_ne n, .inl hu, .inr upd_same⟩
theorem Ch.free (hu : H d = some (.frz od u)) : Ch d u od H (upd H d u) := ⟨fun a n => upd_ne n, .inr hu, .inl upd_same⟩
theorem Ch.at (c : Ch d u od H H') (hu : IsDO u) {a : Addr} {o : HO} (h : H a = some o) (hn : ¬ IsDO o) (hf : ∀ x y, o ≠ .frz x y ∨ ¬ IsDO y) : H' a = some o := by
  by_cases e : a = d
  · subst e
    rcases c.h with q | q <;> rw [q] at h <;> cases h
    · exact absurd hu hn
    · rcases hf od u with z | z
      · exact absurd rfl z
      · exact absurd hu z
  · rw [c.ne a e]; exact h
theorem Ch.rdD (c : Ch d u od H H') (hu : IsDO u) {a : Addr} {o : HO} (ho : IsDO o) (h : Rd H a o) : Rd H' a o := by
  by_cases e : a = d
  · subst e
    have : u = o := by
      rcases c.h with q | q
      · rcases h with h | ⟨x, h⟩ <;> rw [q] at h <;> cases h
        · rfl
        · exact hu.elim
      · rcases h with h | ⟨x, h⟩ <;> rw [q] at h <;> cases h
        · exact ho.elim
        · rfl
    subst this
    rcases c.h' with q | q
    · exact .inl q
    · exact .inr ⟨od, q⟩
  · unfold Rd
    rw [c.ne a e]; exact h
theorem Ch.rdL (c : Ch d u od H H') (hu : IsDO u) {a : Addr} {xs : List V} (h : Rd H a (.lst xs)) : Rd H' a (.lst xs) := by
  rcases h with h | ⟨x, h⟩
  · exact .inl (c.at hu h (fun z => z) fun x y => .inl (fun z => by cases z))
  · exact .inr ⟨x, c.at hu h (fun z => z) fun x y => (by
      by_cases e : y = .lst xs
      · exact .inr (by rw [e]; exact fun z => z)
      · exact .inl (fun z => by cases z; exact e rfl))⟩
mutual
theorem Rp.ch (c : Ch d u od H H') (hu : IsDO u) : ∀ {v : V} {x : D}, Rp K H A v x → Rp K H' A v x
  | _, _, .non => .non
  | _, _, .bl b => .bl b
  | _, _, .int i => .int i
  | _, _, .str x => .str x
  | _, _, .opq v => .opq v
  | _, _, .tup h r => .tup ⟨h.1, c.at hu h.2 (fun z => z) fun x y => .inl (fun z => by cases z)⟩ (RpL.ch c hu r)
  | _, _, .lst n h r => .lst n (c.at hu h (fun z => z) fun x y => .inl (fun z => by cases z)) (RpL.ch c hu r)
  | _, _, .frl h r => .frl (h.elim (fun h => .inl ⟨h.1, c.rdL hu h.2⟩) .inr) (RpL.ch c hu r)
  | _, _, .frt h r => .frt h (RpL.ch c hu r)
  | _, _, .dt n h r => .dt n (c.rdD hu trivial h) (RpK.ch c hu r)
  | _, _, .dk n h r => .dk n (c.rdD hu trivial h) (RpK.ch c hu r)
  | _, _, .obj cn n m h g r => .obj cn n m (c.at hu h (fun z => z) fun x y => .inl (fun z => by cases z)) (c.at hu g (fun z => z) fun x y => .inl (fun z => by cases z)) (RpK.ch c hu r)
theorem RpL.ch (c : Ch d u od H H') (hu : IsDO u) : ∀ {v : List V} {x : List D}, RpL K H A v x → RpL K H' A v x
  | _, _, .nil => .nil
  | _, _, .cons h r => .cons (Rp.ch c hu h) (RpL.ch c hu r)
theorem RpK.ch (c : Ch d u od H H') (hu : IsDO u) : ∀ {κ : Type} {v : List (κ × V)} {x : List (κ × D)}, RpK K H A v x → RpK K H' A v x
  | _, _, _, .nil => .nil
  | _, _, _, .cons h r => .cons (Rp.ch c hu h) (RpK.ch c hu r)
end
mutual
theorem Tr.ch (c : Ch d u od H H') (hu : IsDO u) : ∀ {v : V} {x : D} {fp : List Addr}, Tr K H A v x fp → d ∉ fp → Tr K H' A v x fp
  | _, _, _, .imm i h, _ => .imm i (h.ch c hu)
  | _, _, _, .tup n h r, k => .tup n (c.at hu h (fun z => z) fun x y => .inl (fun z => by cases z)) (TrL.ch c hu r k)
  | _, _, _, .lst h r, k => .lst (by rw [c.ne _ (fun z => k (by rw [z]; exact List.mem_cons_self))]; exact h) (TrL.ch c hu r fun z => k (List.mem_cons_of_mem _ z))
  | _, _, _, .dt h r, k => .dt (by rw [c.ne _ (fun z => k (by rw [z]; exact List.mem_cons_self))]; exact h) (TrK.ch c hu r fun z => k (List.mem_cons_of_mem _ z))
  | _, _, _, .dk h r, k => .dk (by rw [c.ne _ (fun z => k (by rw [z]; exact List.mem_cons_self))]; exact h) (TrK.ch c hu r fun z => k (List.mem_cons_of_mem _ z))
  | _, _, _, .obj cn m h g r, k => .obj cn m (by rw [c.ne _ (fun z => k (by rw [z]; exact List.mem_cons_self))]; exact h) (c.at hu g (fun z => z) fun x y => .inl (fun z => by cases z)) (TrK.ch c hu r fun z => k (List.mem_cons_of_mem _ z))
theorem TrL.ch (c : Ch d u od H H') (hu : IsDO u) : ∀ {v : List V} {x : List D} {fp : List Addr}, TrL K H A v x fp → d ∉ fp → TrL K H' A v x fp
  | _, _, _, .nil, _ => .nil
  | _, _, _, .cons h r, k => .cons (Tr.ch c hu h fun z => k (List.mem_append_left _ z)) (TrL.ch c hu r fun z => k (List.mem_append_right _ z))
theorem TrK.ch (c : Ch d u od H H') (hu : IsDO u) : ∀ {κ : Type} {v : List (κ × V)} {x : List (κ × D)} {fp : List Addr}, TrK K H A v x fp → d ∉ fp → TrK K H' A v x fp
  | _, _, _, _, .nil, _ => .nil
  | _, _, _, _, .cons h r, k => .cons (Tr.ch c hu h fun z => k (List.mem_append_left _ z)) (TrK.ch c hu r fun z => k (List.mem_append_right _ z))
end
theorem Ow.ch (c : Ch d u od H H') (hu : IsDO u) {a : Addr} {x : D} (h : Ow K H A a x) (n : a ≠ d) : Ow K H' A a x := by
  have e := c.ne a n
  cases h with
  | lst h r => exact .lst (by rw [e]; exact h) (r.ch c hu)
  | dt h r => exact .dt (by rw [e]; exact h) (r.ch c hu)
  | dk h r => exact .dk (by rw [e]; exact h) (r.ch c hu)
  | obj cn m h g r => exact .obj cn m (by rw [e]; exact h) (c.at hu g (fun z => z) fun x y => .inl (fun z => by cases z)) (r.ch c hu)
theorem SvOk.ch (c : Ch d u od H H') (hu : IsDO u) {sv : SV} {v : V} {fp : List Addr} (h : SvOk K F H W sv v fp) (n : d ∉ W) : SvOk K F H' W sv v fp := by
  rcases h with ⟨e, e2, h⟩ | ⟨h, hw, h0⟩
  · exact .inl ⟨e, e2, h.ch c hu⟩
  · refine .inr ⟨?_, hw, h0⟩
    have nf : d ∉ fp := fun z => n (hw d z)
    cases h with
    | sh e h => exact .sh e (h.ch c hu fun z => nf (by rw [← z]; exact List.mem_cons_self))
    | tr e h nd => exact .tr e (h.ch c hu nf) nd
theorem Fps.ch (c : Ch d u od H H') (hu : IsDO u) (f : Fps K F env σ H W fps) (n : d ∉ W) : Fps K F env σ H' W fps := ⟨fun i sv e => let ⟨v, h1, h2⟩ := f.sl i sv e; ⟨v, h1, h2.ch c hu n⟩, f.dj⟩
theorem Ch.none (c : Ch d u od H H') (a : Addr) : H a = none ↔ H' a = none := by
  by_cases e : a = d
  · subst e
    rcases c.h with q | q <;> rcases c.h' with q' | q' <;> rw [q, q'] <;> simp
  · rw [c.ne a e]
theorem Rel.ch (c : Ch d u od H H') (hu : IsDO u) (r : Rel K F env σ H W) (n : d ∉ W) : Rel K F env σ H' W :=
  ⟨r.len, let ⟨fps, f⟩ := r.ex; ⟨fps, f.ch c hu n⟩, r.bor, fun a q => r.trk a ((c.none a).mpr q), fun a z q => r.frt a z ((c.none a).mpr q), r.dis, fun a z q => r.wt a z ((c.none a).mpr q)⟩
theorem rV.ch (c : Ch d u od H H') (hu : IsDO u) {sv : SV} {v : V} (h : rV K sv F env σ H W v) (n : d ∉ W) : rV K sv F env σ H' W v := by
  rcases h with ⟨e, h⟩ | ⟨ow, fps, fp, f, h, dj⟩
  · exact .inl ⟨e, h.ch c hu⟩
  · exact .inr ⟨ow, fps, fp, f.ch c hu n, h.ch c hu n, dj⟩
theorem XOk.ch (c : Ch d u od H H') (hu : IsDO u) {x : Xc} {cl : Value} {dd : Option Addr} (h : XOk K F H W x cl dd) : XOk K F H' W x cl dd := by
  obtain ⟨h1, h2⟩ := h
  refine ⟨h1, ?_⟩
  cases dd with
  | none => exact h2
  | some a =>
    obtain ⟨nf, vs, w1, w2⟩ := h2
    refine ⟨nf, vs, c.at hu w1 (fun z => z) (fun x y => .inl (fun z => by cases z)), fun f y q => ?_⟩
    obtain ⟨v, g1, g2⟩ := w2 f y q
    exact ⟨v, g1, g2.ch c hu⟩
theorem NavH.det : ∀ {π : List Stp} {v w w' : V}, NavH H v π w → NavH H v π w' → w = w'
  | _, _, _, _, .nil, .nil => rfl
  | _, _, _, _, .lst h1 h2 r, g => by
    cases g with
    | lst k1 k2 s => rw [h1] at k1; cases k1; rw [h2] at k2; cases k2; exact NavH.det r s
    | tup k1 k2 s => rw [h1] at k1; cases k1
  | _, _, _, _, .tup h1 h2 r, g => by
    cases g with
    | lst k1 k2 s => rw [h1] at k1; cases k1
    | tup k1 k2 s => rw [h1] at k1; cases k1; rw [h2] at k2; cases k2; exact NavH.det r s
  | _, _, _, _, .key h1 h2 r, g => by
    cases g with
    | key k1 k2 s => rw [h1] at k1; cases k1; rw [h2] at k2; cases k2; exact NavH.det r s
  | _, _, _, _, .kk h1 h2 r, g => by
    cases g with
    | kk k1 k2 s => rw [h1] at k1; cases k1; rw [h2] at k2; cases k2; exact NavH.det r s
  | _, _, _, _, .fld h1 h2 r, g => by
    cases g with
    | fld k1 k2 s => rw [h1] at k1; cases k1; rw [h2] at k2; cases k2; exact NavH.det r s
end
end DL

namespace DL
open PySem L2
def tLockOr (t : TS) : TS := fun D σ H => tLock t D σ H ∨ t D σ H
theorem ps_lockOr {X : Cx} {st : Stmt} {t : TS} (h : PS X st t) : PS X st (tLockOr t) := ⟨fun pins s σ H D I q => q.elim (fun q => (ps_lock h).run pins s σ H D I q) (fun q => h.run pins s σ H D I q)⟩
def kD : Key → D
  | .inl i => .int i
  | .inr x => .str x
def itemsOf : D → Option (List D)
  | .dk es => some (es.map fun e => .tup [kD e.1, e.2])
  | _ => none
def keysOf : D → Option (List D)
  | .dk es => some (es.map fun e => kD e.1)
  | _ => none
def okP : List Stp → Bool
  | [] => true
  | .ix _ :: r => okP r
  | .fld _ :: r => okP r
  | _ => false
def noX : RS → RS
  | .exc _ _ => .stuck
  | r => r
noncomputable def forD (i : Nat) (f : En → R (List Stp)) (ex : D → Option (List D)) (asg : D → En → Option En) (body : En → RS) : En → RS := fun e => match e.sv i with
  | some ⟨.p, d⟩ => (match f e with
    | .ok π e1 => (match (navD d π).bind ex with
      | some ds => if okP π = true then noX (loopS ⟨ds, none⟩ asg body ds e1) else .stuck
      | none => .stuck)
    | _ => .stuck)
  | _ => .stuck
section
variable {K : PySem.W.Frag} {E : XK} {F : Fm} {env env' : En} {σ : St} {H H' : Hp} {W W' A A' B : List Addr} {ta tb te to td : TE} {t tr : TA} {tt : TT} {ts : TS} {fps : Nat → List Addr} {d : Addr} {u : HO} {od : Obj}
theorem nav_ex : ∀ {π : List Stp} {v : V} {x z : D}, Rp K H A v x → navD x π = some z → okP π = true → ∃ w, NavH H v π w ∧ Rp K H A w z
  | [], v, x, z, r, e, _ => by simp [navD] at e; subst e; exact ⟨v, .nil, r⟩
  | .ix n :: π, v, x, z, r, e, o => by
    cases r with
    | lst na h r =>
      rename_i ds
      cases q : ds[n]? with
      | none => simp [navD, q] at e
      | some dd =>
        obtain ⟨u, g1, g2⟩ := r.get q
        obtain ⟨w, k1, k2⟩ := nav_ex (π := π) g2 (by simpa [navD, q] using e) (by simpa [okP] using o)
        exact ⟨w, .lst h g1 k1, k2⟩
    | tup h r =>
      rename_i ds
      cases q : ds[n]? with
      | none => simp [navD, q] at e
      | some dd =>
        obtain ⟨u, g1, g2⟩ := r.get q
        obtain ⟨w, k1, k2⟩ := nav_ex (π := π) g2 (by simpa [navD, q] using e) (by simpa [okP] using o)
        exact ⟨w, .tup h.2 g1 k1, k2⟩
    | _ => simp [navD] at e
  | .fld n :: π, v, x, z, r, e, o => by
    cases r with
    | obj c na m h g r =>
      rename_i ds
      cases q : getT ds n with
      | none => simp [navD, q] at e
      | some dd =>
        obtain ⟨u, g1, g2⟩ := (r.val n).2 dd q
        obtain ⟨w, k1, k2⟩ := nav_ex (π := π) g2 (by simpa [navD, q] using e) (by simpa [okP] using o)
        exact ⟨w, .fld h g1 k1, k2⟩
    | _ => simp [navD] at e
  | .key n :: π, v, x, z, r, e, o => by simp [okP] at o
  | .kk n :: π, v, x, z, r, e, o => by simp [okP] at o
theorem NavH.ch (c : Ch d u od H H') (hu : IsDO u) : ∀ {π : List Stp} {v w : V}, okP π = true → NavH H v π w → NavH H' v π w
  | _, _, _, _, .nil => .nil
  | _, _, _, o, .lst h1 h2 r => .lst (c.at hu h1 (fun z => z) fun x y => .inl (fun z => by cases z)) h2 (NavH.ch c hu (by simpa [okP] using o) r)
  | _, _, _, o, .tup h1 h2 r => .tup (c.at hu h1 (fun z => z) fun x y => .inl (fun z => by cases z)) h2 (NavH.ch c hu (by simpa [okP] using o) r)
  | _, _, _, o, .key h1 h2 r => by simp [okP] at o
  | _, _, _, o, .kk h1 h2 r => by simp [okP] at o
  | _, _, _, o, .fld h1 h2 r => .fld (c.at hu h1 (fun z => z) fun x y => .inl (fun z => by cases z)) h2 (NavH.ch c hu (by simpa [okP] using o) r)
theorem RpK.get {κ : Type} : ∀ {es : List (κ × D)} {vs : List (κ × V)} {i : Nat} {k : κ} {x : D}, RpK K H A vs es → es[i]? = some (k, x) → ∃ v, vs[i]? = some (k, v) ∧ Rp K H A v x
  | [], _, i, k, x, h, e => by simp at e
  | (k0, d0) :: es, _, 0, k, x, h, e => by
    cases h with
    | cons h r => simp at e; obtain ⟨rfl, rfl⟩ := e; exact ⟨_, rfl, h⟩
  | (k0, d0) :: es, _, i + 1, k, x, h, e => by
    cases h with
    | cons h r =>
      obtain ⟨v, g1, g2⟩ := RpK.get (i := i) r (by simpa using e)
      exact ⟨v, by simpa using g1, g2⟩
theorem rp_kD (k : Key) : Rp K H A (kV k) (kD k) := by
  cases k with
  | inl i => exact .int i
  | inr x => exact .str x
theorem it_items {es : List (Key × D)} {kvs : List (Key × V)} {o : Obj} (s0 : St) (n : d ∉ A) (h : H d = some (.frz o (.dK kvs))) (r : RpK K H A kvs es) : ItOk K s0 ⟨es.map fun e => .tup [kD e.1, e.2], none⟩ A H (Iti d o kvs) := by
  intro A' H' hp hg hA _
  have h' := hp d _ n h
  have r' := r.mono hp hg
  refine ⟨fun i x q => ?_, fun i hi => ⟨h', by rw [r'.length]; simpa using hi⟩⟩
  rw [List.getElem?_map] at q
  cases e : es[i]? with
  | none => rw [e] at q; cases q
  | some kx =>
    obtain ⟨k, dx⟩ := kx
    rw [e] at q; cases q
    obtain ⟨v, g1, g2⟩ := r'.get e
    refine ⟨⟨h', by
      have := (List.getElem?_eq_some_iff.mp g1).1
      exact this⟩, fun x H'' ⟨T, k', v', q1, q2, q3, q4⟩ => ?_⟩
    rw [g1] at q1; cases q1
    subst q2; subst q4
    refine ⟨.inr ⟨T, _, q3, rfl⟩, .tup ⟨fun z => hA T z q3, upd_same⟩ (.cons (rp_kD k) (.cons ?_ .nil))⟩
    exact g2.mono (fun a o _ e => upd_kept q3 a o e) (fun a z => .inl z)
theorem it_keys {es : List (Key × D)} {kvs : List (Key × V)} {o : Obj} (s0 : St) (n : d ∉ A) (h : H d = some (.frz o (.dK kvs))) (r : RpK K H A kvs es) : ItOk K s0 ⟨es.map fun e => kD e.1, none⟩ A H (Itk d o kvs) := by
  intro A' H' hp hg hA _
  have h' := hp d _ n h
  have r' := r.mono hp hg
  refine ⟨fun i x q => ?_, fun i hi => ⟨h', by rw [r'.length]; simpa using hi⟩⟩
  rw [List.getElem?_map] at q
  cases e : es[i]? with
  | none => rw [e] at q; cases q
  | some kx =>
    obtain ⟨k, dx⟩ := kx
    rw [e] at q; cases q
    obtain ⟨v, g1, g2⟩ := r'.get e
    refine ⟨⟨h', (List.getElem?_eq_some_iff.mp g1).1⟩, fun x H'' ⟨q1, k', v', q2, q3⟩ => ?_⟩
    rw [g1] at q2; cases q2
    subst q1; subst q3
    exact ⟨.inl rfl, rp_kD k⟩
theorem PostS.noX {T : Ends} : ∀ {r : RS}, PostS K E F H W T (noX r) → PostS K E F H W T r
  | .nx _, p => p
  | .ret _ _, p => p
  | .bk _, p => p
  | .ct _, p => p
  | .exc _ _, p => p.elim
  | .stuck, p => p
/-- from the locked dict back -/
theorem step_free (hd : H d = some u) (n : d ∉ W) {H' : Hp} {W' : List Addr} (s : Step (upd H d (.frz od u)) W H' W') : H' d = some (.frz od u) ∧ d ∉ W' ∧ Step H W (upd H' d u) W' := by
  have h1 : H' d = some (.frz od u) := s.pres d _ n upd_same
  refine ⟨h1, fun z => ?_, fun a o na q => ?_, fun a z => ?_⟩
  · rcases s.grow d z with z | z
    · exact n z
    · rw [upd_same] at z; cases z
  · by_cases e : a = d
    · subst e
      rw [upd_same, ← hd]; exact q
    · rw [upd_ne e]
      exact s.pres a o na (by rw [upd_ne e]; exact q)
  · rcases s.grow a z with z | z
    · exact .inl z
    · by_cases e : a = d
      · subst e; rw [upd_same] at z; cases z
      · rw [upd_ne e] at z; exact .inr z
theorem PostS.lockd {T : Ends} (hd : H d = some u) (hu : IsDO u) (n : d ∉ W) : ∀ {r : RS}, PostS K E F H W T (DL.noX r) → PostS K E F (upd H d (.frz od u)) W ⟨fun σ' H' => H' d = some (.frz od u) ∧ T.nx σ' (upd H' d u), fun v H' => H' d = some (.frz od u) ∧ T.rt v (upd H' d u), fun σ' H' => H' d = some (.frz od u) ∧ T.bk σ' (upd H' d u), fun σ' H' => H' d = some (.frz od u) ∧ T.ct σ' (upd H' d u)⟩ r
  | .nx _, p => fun σ' H' W' r' s' => let ⟨h1, h2, h3⟩ := step_free hd n s'; ⟨h1, p σ' _ W' (r'.ch (Ch.free h1) hu h2) h3⟩
  | .ret _ _, p => fun v σ' H' W' r' s' rv => let ⟨h1, h2, h3⟩ := step_free hd n s'; ⟨h1, p v σ' _ W' (r'.ch (Ch.free h1) hu h2) h3 (rv.ch (Ch.free h1) hu h2)⟩
  | .bk _, p => fun σ' H' W' r' s' => let ⟨h1, h2, h3⟩ := step_free hd n s'; ⟨h1, p σ' _ W' (r'.ch (Ch.free h1) hu h2) h3⟩
  | .ct _, p => fun σ' H' W' r' s' => let ⟨h1, h2, h3⟩ := step_free hd n s'; ⟨h1, p σ' _ W' (r'.ch (Ch.free h1) hu h2) h3⟩
  | .exc _ _, p => p.elim
  | .stuck, p => p
theorem for_core {H1 : Hp} {W1 : List Addr} {g : TG} {is : List Nat} {asg : D → En → Option En} {body : En → RS} (hg : SG K g is asg) (hb : SS K E ts body) {s : Src} {J : It} {e : En} {T : Ends} (rel : Rel K F e σ H1 W1) (it : ItOk K F.s0 s (W1 ++ F.fr) H1 J) (p : PostS K E F H1 W1 T (loopS s asg body s.ds e)) :
    ∃ Wv : Nat → Nat → St → Hp → Prop, (∃ m, Wv 0 m σ H1) ∧ ∀ i m σ H, Wv i m σ H → (J.stop i H ∧ T.nx σ H) ∨ (J.go i H ∧ ∃ N : St → Hp → Prop, (∀ σ' H', N σ' H' → ∃ m', m' < m ∧ Wv (i + 1) m' σ' H') ∧ ∀ x H', J.yld i H x H' → g x σ H' fun σ2 H2 => ts { T with nx := N, ct := N, bk := T.nx } σ2 H2) := by
  refine ⟨fun i m σ' H' => m = s.ds.length - i ∧ i ≤ s.ds.length ∧ ∃ en W', Rel K F en σ' H' W' ∧ Step H1 W1 H' W' ∧ PostS K E F H' W' T (loopS s asg body (s.ds.drop i) en), ⟨s.ds.length, by simp, Nat.zero_le _, e, W1, rel, Step.refl _ _, by simpa using p⟩, ?_⟩
  rintro i m σ2 H2 ⟨rfl, hi, en, W2, r2, s2, p2⟩
  by_cases hlt : i < s.ds.length
  · rw [List.drop_eq_getElem_cons hlt] at p2
    unfold loopS at p2
    by_cases hG : Grd s en
    · rw [if_pos hG] at p2
      obtain ⟨k1, k2⟩ := it (W2 ++ F.fr) H2 s2.pF s2.gF r2.all (r2.grd hG)
      obtain ⟨go, yl⟩ := k1 i _ (List.getElem?_eq_getElem hlt)
      refine .inr ⟨go, fun σ' H' => s.ds.length - (i + 1) < s.ds.length - i ∧ i + 1 ≤ s.ds.length ∧ ∃ en W', Rel K F en σ' H' W' ∧ Step H1 W1 H' W' ∧ PostS K E F H' W' T (loopS s asg body (s.ds.drop (i + 1)) en), fun σ' H' ⟨q1, q2, q3⟩ => ⟨_, q1, rfl, q2, q3⟩, fun x H3 y => ?_⟩
      obtain ⟨gr, rx⟩ := yl x H3 y
      obtain ⟨r3, s3⟩ := r2.grown gr
      cases ea : asg s.ds[i] en with
      | none => rw [ea] at p2; exact p2.elim
      | some e1 =>
        rw [ea] at p2; dsimp only at p2
        refine hg F en σ2 H3 W2 x _ e1 _ r3 rx ea fun σ4 H4 W4 r4 s4 _ => hb F e1 σ4 H4 W4 _ r4 ?_
        have s24 := s3.trans s4
        cases q : body e1 with
        | nx e2 => rw [q] at p2; exact fun σ5 H5 W5 r5 s5 => ⟨by omega, by omega, e2, W5, r5, s2.trans (s24.trans s5), PostS.from (s24.trans s5) p2⟩
        | ct e2 => rw [q] at p2; exact fun σ5 H5 W5 r5 s5 => ⟨by omega, by omega, e2, W5, r5, s2.trans (s24.trans s5), PostS.from (s24.trans s5) p2⟩
        | bk e2 => rw [q] at p2; exact fun σ5 H5 W5 r5 s5 => p2 σ5 H5 W5 r5 (s24.trans s5)
        | ret sv e2 => rw [q] at p2; exact fun v σ5 H5 W5 r5 s5 => p2 v σ5 H5 W5 r5 (s24.trans s5)
        | exc x e2 => rw [q] at p2; exact fun c d σ5 H5 W5 r5 s5 => p2 c d σ5 H5 W5 r5 (s24.trans s5)
        | stuck => rw [q] at p2; exact p2.elim
    · rw [if_neg hG] at p2; exact p2.elim
  · have e0 : i = s.ds.length := by omega
    subst e0
    rw [List.drop_length] at p2
    unfold loopS at p2
    by_cases hG : Grd s en
    · rw [if_pos hG] at p2
      obtain ⟨_, k2⟩ := it (W2 ++ F.fr) H2 s2.pF s2.gF r2.all (r2.grd hG)
      exact .inl ⟨k2 _ (Nat.le_refl _), p2 σ2 H2 W2 r2 (Step.refl _ _)⟩
    · rw [if_neg hG] at p2; exact p2.elim
/-- a dict is walked: wi the walk, mkJ its turns -/
theorem ss_forD {i : Nat} {f : En → R (List Stp)} {g : TG} {is : List Nat} {asg : D → En → Option En} {body : En → RS} {ex : D → Option (List D)} {wi : TI} {mkJ : Addr → Obj → List (Key × V) → It} (hf : Sn (rN K i) K E td f) (hg : SG K g is asg) (hb : SS K E ts body)
    (hx : ∀ x ds, ex x = some ds → ∃ es, x = .dk es)
    (hw : ∀ σ H R, (td σ H fun x H1 => ∃ d o kvs, x = .ref d ∧ H1 d = some (.frz o (.dK kvs)) ∧ R (mkJ d o kvs) H1) → wi σ H R)
    (hit : ∀ {H : Hp} {A : List Addr} {d : Addr} {es : List (Key × D)} {kvs : List (Key × V)} {o : Obj} {ds : List D} (s0 : St), ex (.dk es) = some ds → d ∉ A → H d = some (.frz o (.dK kvs)) → RpK K H A kvs es → ItOk K s0 ⟨ds, none⟩ A H (mkJ d o kvs)) :
    SS K E (tLockOr (tFor wi g ts)) (forD i f ex asg body) := by
  intro F env σ H W T rel p
  unfold forD at p
  split at p
  · rename_i x qi
    obtain ⟨root, hs, _⟩ := rel.sl i _ qi
    have rp := slot_rp rel qi hs
    cases qf : f env with
    | stuck => rw [qf] at p; exact p.elim
    | exc x e => rw [qf] at p; exact p.elim
    | ok π e1 =>
      rw [qf] at p
      dsimp only at p
      cases qz : navD x π with
      | none => rw [qz] at p; exact p.elim
      | some z =>
        rw [qz] at p
        cases qx : ex z with
        | none => rw [show (some z).bind ex = ex z from rfl, qx] at p; exact p.elim
        | some ds =>
          rw [show (some z).bind ex = ex z from rfl, qx] at p
          dsimp only at p
          by_cases ok : okP π = true
          · rw [if_pos ok] at p
            obtain ⟨es, rfl⟩ := hx z ds qx
            obtain ⟨w, nav, rw0⟩ := nav_ex rp qz ok
            cases rw0 with
            | @dk dd kvs _ na hrd rk =>
              have nW : dd ∉ W := fun z => na (List.mem_append_left _ z)
              have nF : dd ∉ F.fr := fun z => na (List.mem_append_right _ z)
              -- the walk where the dict is locked
              have walk : ∀ (Hl : Hp) (o : Obj) (T' : Ends), Rel K F env σ Hl W → Hl dd = some (.frz o (.dK kvs)) → Rp K Hl (W ++ F.fr) root x → NavH Hl root π (.ref dd) → RpK K Hl (W ++ F.fr) kvs es → PostS K E F Hl W T' (loopS ⟨ds, none⟩ asg body ds e1) → tFor wi g ts T' σ Hl := by
                intro Hl o T' rl hl rpl nl rkl pl
                refine hw σ Hl _ (hf F env σ Hl W _ rl ?_)
                rw [qf]
                intro v H1 W1 rel1 s1 rn
                obtain ⟨root', d', z', m1, m2, m3, m4⟩ := rn
                rw [hs] at m1; cases m1
                have n1 := (nl.rp rpl qz).2 H1 s1.pF
                have ev := m4.det n1
                subst ev
                have nd1 : dd ∉ W1 ++ F.fr := fun z => by
                  rcases List.mem_append.mp z with z | z
                  · rcases s1.grow dd z with z | z
                    · exact nW z
                    · rw [hl] at z; cases z
                  · exact nF z
                have hd1 : H1 dd = some (.frz o (.dK kvs)) := s1.pres dd _ nW hl
                exact ⟨dd, o, kvs, rfl, hd1, for_core (s := ⟨ds, none⟩) hg hb rel1 (hit F.s0 qx nd1 hd1 (s1.rpK rkl)) (PostS.from s1 pl)⟩
              rcases hrd with hd | ⟨o, hd⟩
              · refine .inl ⟨dd, .dK kvs, hd, trivial, fun od => ?_⟩
                have c : Ch dd (.dK kvs) od H (upd H dd (.frz od (.dK kvs))) := Ch.lock hd
                exact walk _ od _ (rel.ch c trivial nW) upd_same (rp.ch c trivial) (nav.ch c trivial ok) (rk.ch c trivial) (PostS.lockd hd trivial nW p)
              · exact .inr (walk H o T rel hd rp nav rk p.noX)
          · rw [if_neg ok] at p; exact p.elim
  · exact p.elim
theorem ss_forItems {i : Nat} {f : En → R (List Stp)} {g : TG} {is : List Nat} {asg : D → En → Option En} {body : En → RS} (hf : Sn (rN K i) K E td f) (hg : SG K g is asg) (hb : SS K E ts body) : SS K E (tLockOr (tFor (iItems td) g ts)) (forD i f itemsOf asg body) :=
  ss_forD (mkJ := Iti) hf hg hb (fun x ds e => by cases x <;> first | exact ⟨_, rfl⟩ | cases e) (fun σ H R h => h) (fun s0 e n h r => by cases e; exact it_items s0 n h r)
theorem ss_forKeys {i : Nat} {f : En → R (List Stp)} {g : TG} {is : List Nat} {asg : D → En → Option En} {body : En → RS} (hf : Sn (rN K i) K E td f) (hg : SG K g is asg) (hb : SS K E ts body) : SS K E (tLockOr (tFor (iKeysM td) g ts)) (forD i f keysOf asg body) :=
  ss_forD (mkJ := Itk) hf hg hb (fun x ds e => by cases x <;> first | exact ⟨_, rfl⟩ | cases e) (fun σ H R h => h) (fun s0 e n h r => by cases e; exact it_keys s0 n h r)
theorem a_forD (i : Nat) (f : En → R (List Stp)) (ex : D → Option (List D)) (asg : D → En → Option En) (body : En → RS) (e : En) : forD i f ex asg body e = (match e.sv i with
  | some ⟨.p, d⟩ => (match f e with
    | .ok π e1 => (match (navD d π).bind ex with
      | some ds => if okP π = true then noX (loopS ⟨ds, none⟩ asg body ds e1) else .stuck
      | none => .stuck)
    | _ => .stuck)
  | _ => .stuck) := rfl
end
end DL

namespace DL
open PySem L2
def minOf : List Int → Int
  | [] => 0
  | [x] => x
  | x :: xs => if x ≤ minOf xs then x else minOf xs
theorem minOf_ok : ∀ (ns : List Int), ns ≠ [] → minOf ns ∈ ns ∧ ∀ y ∈ ns, minOf ns ≤ y
  | [], h => absurd rfl h
  | [x], _ => ⟨by simp [minOf], fun y hy => by simp at hy; subst hy; exact Int.le_refl _⟩
  | x :: y :: r, _ => by
    obtain ⟨h1, h2⟩ := minOf_ok (y :: r) (by simp)
    unfold minOf
    split
    · rename_i h
      exact ⟨List.mem_cons_self, fun z hz => by
        rcases List.mem_cons.mp hz with rfl | hz
        · exact Int.le_refl _
        · exact Int.le_trans h (h2 z hz)⟩
    · rename_i h
      exact ⟨List.mem_cons_of_mem _ h1, fun z hz => by
        rcases List.mem_cons.mp hz with rfl | hz
        · omega
        · exact h2 z hz⟩
def minG : List D → Option SV
  | [d] => (match (itemsL d).bind intsOf with | some (n :: ns) => pI (minOf (n :: ns)) | _ => none)
  | _ => none
theorem minG_fine (d : List D) (z : SV) (h : minG d = some z) : Fine z := by
  unfold minG at h
  split at h
  · split at h
    · cases h; exact fine_p _
    · cases h
  · cases h
def insI (x : Int) : List Int → List Int
  | [] => [x]
  | y :: r => if x ≤ y then x :: y :: r else y :: insI x r
def sortI : List Int → List Int
  | [] => []
  | x :: r => insI x (sortI r)
theorem insI_perm (x : Int) : ∀ r, (insI x r).Perm (x :: r)
  | [] => .refl _
  | y :: r => by
    unfold insI
    split
    · exact .refl _
    · exact ((insI_perm x r).cons y).trans (.swap x y r)
theorem sortI_perm : ∀ r, (sortI r).Perm r
  | [] => .refl _
  | x :: r => (insI_perm x (sortI r)).trans ((sortI_perm r).cons x)
theorem insI_sorted (x : Int) : ∀ r : List Int, r.Pairwise (· ≤ ·) → (insI x r).Pairwise (· ≤ ·)
  | [], _ => by simp [insI]
  | y :: r, h => by
    unfold insI
    obtain ⟨h1, h2⟩ := List.pairwise_cons.mp h
    split
    · rename_i hxy
      refine List.pairwise_cons.mpr ⟨fun z hz => ?_, h⟩
      rcases List.mem_cons.mp hz with rfl | hz
      · exact hxy
      · exact Int.le_trans hxy (h1 z hz)
    · rename_i hxy
      refine List.pairwise_cons.mpr ⟨fun z hz => ?_, insI_sorted x r h2⟩
      rcases List.mem_cons.mp ((insI_perm x r).mem_iff.mp hz) with rfl | hz
      · omega
      · exact h1 z hz
theorem sortI_sorted : ∀ r : List Int, (sortI r).Pairwise (· ≤ ·)
  | [] => .nil
  | x :: r => insI_sorted x _ (sortI_sorted r)
theorem sortI_uniq {ys ns : List Int} (hp : ys.Perm ns) (hs : ys.Pairwise (· ≤ ·)) : ys = sortI ns :=
  (hp.trans (sortI_perm ns).symm).eq_of_pairwise (fun a b _ _ h1 h2 => Int.le_antisymm h1 h2) hs (sortI_sorted ns)
def keysI : List (Key × D) → Option (List Int)
  | [] => some []
  | (.inl i, _) :: r => (keysI r).map (i :: ·)
  | _ => none
def sortG : List D → Option SV
  | [.dk es] => (match keysI es with | some ks => if ks.length < 64 then nL ((sortI ks).map D.int) else none | none => none)
  | [d] => (match (itemsL d).bind intsOf with | some ns => nL ((sortI ns).map D.int) | none => none)
  | _ => none
theorem sortG_fine (d : List D) (z : SV) (h : sortG d = some z) : Fine z := by
  unfold sortG at h
  split at h
  · split at h
    · split at h
      · cases h; exact fine_l _
      · cases h
    · cases h
  · split at h
    · cases h; exact fine_l _
    · cases h
  · cases h
section
variable {X : Cx} {K : PySem.W.Frag} {E : XK} {F : Fm} {env : En} {σ : St} {H : Hp} {W A : List Addr} {ta tb te to td ty tv tx : TE} {t : TA}
theorem o_min : OpCs K (rMin K) minG := by
  intro H A vs ds z Q hA hd hg q
  unfold minG at hg
  split at hg
  · rename_i d
    obtain ⟨v, rfl, hv⟩ := rdL_1 hd
    split at hg
    · rename_i n ns e
      cases hg
      cases e2 : itemsL d with
      | none => rw [e2] at e; cases e
      | some xs =>
        rw [e2] at e
        obtain ⟨a, ys, rfl, h1, h2⟩ := rd_itemsL hv e2
        have e3 : intsOf xs = some (n :: ns) := e
        have e4 := intsOf_eq e3
        subst e4
        have e5 := h2.ints_of
        subst e5
        obtain ⟨m1, m2⟩ := minOf_ok (n :: ns) (by simp)
        refine ⟨a, n :: ns, rfl, h1, by simp, fun m hm hy => ?_⟩
        have : m = minOf (n :: ns) := by
          have := hy _ m1
          have := m2 m hm
          omega
        rw [this]
        exact res_p q (.int _)
    · cases hg
  · cases hg
def rSortDI : List V → Hp → VK → Prop := fun xs H Q => ∃ (a : Addr) (kvs : List (Key × V)) (ks : List Int), xs = [.ref a] ∧ Rd H a (.dK kvs) ∧ kvs.map (·.1) = ks.map Sum.inl ∧ ks.length < 64 ∧ ∀ (ys : List Int) (p : Addr), ys.Perm ks → ys.Pairwise (· ≤ ·) → H p = none → Q (.ref p) (upd H p (.lst (ys.map V.int)))
def rSortA (K : PySem.W.Frag) : List V → Hp → VK → Prop := fun xs H Q => rSortedI K xs H Q ∨ rSortDI xs H Q
theorem call_sortA (h : X.K = K) (hc : X.calm = true) : CallR X (.builtin "sorted") (rSortA K) := h ▸ callr_or cr_sortedI (call_sortedDI hc)
theorem keysI_ok : ∀ {es : List (Key × D)} {kvs : List (Key × V)} {ks : List Int}, RpK K H A kvs es → keysI es = some ks → kvs.map (·.1) = ks.map Sum.inl
  | [], _, ks, h, e => by cases h; simp [keysI] at e; subst e; rfl
  | (.inl i, d0) :: es, _, ks, h, e => by
    cases h with
    | cons h r =>
      cases q : keysI es with
      | none => simp [keysI, q] at e
      | some k2 =>
        have e' : i :: k2 = ks := by simpa [keysI, q] using e
        subst e'
        rw [List.map_cons, List.map_cons, keysI_ok r q]
  | (.inr x, d0) :: es, _, ks, h, e => by simp [keysI] at e
theorem o_sort : OpCs K (rSortA K) sortG := by
  intro H A vs ds z Q hA hd hg q
  unfold sortG at hg
  split at hg
  · rename_i es
    obtain ⟨v, rfl, hv⟩ := rdL_1 hd
    obtain ⟨a, kvs, rfl, h1, h2⟩ := rd_dk hv
    split at hg
    · rename_i ks e
      split at hg
      · rename_i hz
        cases hg
        refine .inr ⟨a, kvs, ks, rfl, h1, keysI_ok h2 e, hz, fun ys p hp hs hn => ?_⟩
        rw [sortI_uniq hp hs]
        exact q p _ hn (RpL.ints _)
      · cases hg
    · cases hg
  · rename_i d _
    obtain ⟨v, rfl, hv⟩ := rdL_1 hd
    split at hg
    · rename_i ns e
      cases hg
      cases e2 : itemsL d with
      | none => rw [e2] at e; cases e
      | some xs =>
        rw [e2] at e
        obtain ⟨a, ys, rfl, h1, h2⟩ := rd_itemsL hv e2
        have e3 : intsOf xs = some ns := e
        have e4 := intsOf_eq e3
        subst e4
        have e5 := h2.ints_of
        subst e5
        refine .inl ⟨a, ns, rfl, h1, fun ys p hp hs hn => ?_⟩
        rw [sortI_uniq hp hs]
        exact q p _ hn (RpL.ints _)
    · cases hg
  · cases hg
/-- list(range(n)) -/
def lrE (f : En → R Opd) : En → R SV := bindR f fun o e => match o.get e with
  | some (.int n) => if 0 ≤ n ∧ n ≤ 100000 then .ok ⟨.o, .lst (rangeD 0 n.toNat)⟩ e else .stuck
  | _ => .stuck
theorem sf_lr {f : En → R Opd} (h : SE K E te f) : SF K E (tLstRg (tRg1 te)) (lrE f) := by
  intro F env σ H W Q r p
  refine Sn.go (t := te) h r p fun e H W o v rel s rv p => ?_
  cases q : o.get e with
  | none => rw [q] at p; exact p.elim
  | some d =>
    rw [q] at p
    cases d with
    | int n =>
      dsimp only at p
      by_cases hz : 0 ≤ n ∧ n ≤ 100000
      · rw [if_pos hz] at p
        have hv := rd_int (rel.get rv q)
        refine ⟨n, hv, RgOk.of_le (by omega) (by omega) (by omega) hz.1, fun a ha => ?_⟩
        have e1 : rgV 0 n = ((List.range n.toNat).map fun (k : Nat) => (0 : Int) + (k : Int)).map V.int := by
          unfold rgV
          rw [List.map_map, Int.sub_zero]; rfl
        have e2 : rangeD 0 n.toNat = ((List.range n.toNat).map fun (k : Nat) => (0 : Int) + (k : Int)).map D.int := by
          unfold rangeD
          rw [List.map_map]; rfl
        rw [e2] at p
        rw [e1]
        exact (res_of rel p (.inr ⟨rfl, _, rfl⟩)) a _ ha (RpL.ints _)
      · rw [if_neg hz] at p; exact p.elim
    | _ => exact p.elim
/-- d.setdefault(k, v) of the dict in slot i, int or text keys -/
def setdE (i : Nat) (fk : En → R Opd) (fv : En → R Opd) : En → R SV := fun e0 => match e0.sv i with
  | some ⟨_, .dk _⟩ => bindR fk (fun k => bindR fv fun v e => match k.get e, pureO v e with
    | some kd, some (x, e') => (match e'.sv i with
      | some ⟨fl, .dk es⟩ => if fl.sh = true ∧ es.length < 100000 then (match keyD kd with
        | some ks => (match getT es ks with
          | some y => .ok ⟨.p, y⟩ e'
          | none => .ok ⟨.p, x⟩ (e'.set i (some ⟨fl, .dk (putT es ks x)⟩)))
        | none => .stuck) else .stuck
      | _ => .stuck)
    | _, _ => .stuck) e0
  | _ => .stuck
theorem SvOk.isDk {sv : SV} {v : V} {fp : List Addr} {es : List (Key × D)} (h : SvOk K F H W sv v fp) (e : sv.d = .dk es) : ∃ a, v = .ref a ∧ IsD H a := by
  obtain ⟨fl, d⟩ := sv
  have e' : d = .dk es := e
  subst e'
  rcases h with ⟨_, _, h⟩ | ⟨h, _⟩
  · cases h with | dk n h r => exact ⟨_, rfl, .inl ⟨_, h⟩⟩
  · cases h with
    | sh _ h => cases h with | dk h r => exact ⟨_, rfl, .inl ⟨_, .inl h⟩⟩
    | tr _ h _ =>
      cases h with
      | imm i _ => cases i
      | dk h r => exact ⟨_, rfl, .inl ⟨_, .inl h⟩⟩
theorem sf_setd {i : Nat} {fk fv : En → R Opd} (hk : SE K E ty fk) (hv : SE K E tx fv) : SF K E (tDSetd (tVar i) ty tx) (setdE i fk fv) := by
  intro F env σ H W Q rel p
  unfold setdE at p
  split at p
  · rename_i fl0 es0 q0
    obtain ⟨v0, hs, fp0, h0⟩ := rel.sl i _ q0
    obtain ⟨a, rfl, hd⟩ := h0.isDk rfl
    refine ⟨.ref a, hs, a, rfl, hd, ?_⟩
    refine Sn.go (t := ty) hk rel p fun e1 H1 W1 k w rel1 s1 rk p => ?_
    refine Sn.go (t := tx) hv rel1 p fun e2 H2 W2 o z rel2 s2 ro p => ?_
    have rk2 := RelO.step s2 rk
    cases q1 : k.get e2 with
    | none => rw [q1] at p; exact p.elim
    | some kd =>
      cases q2 : pureO o e2 with
      | none => rw [q1, q2] at p; exact p.elim
      | some xe =>
        obtain ⟨x, e3⟩ := xe
        rw [q1, q2] at p
        dsimp only at p
        obtain ⟨W3, rel3, s3, rz⟩ := pureO_ok rel2 ro q2
        cases q3 : e3.sv i with
        | none => rw [q3] at p; exact p.elim
        | some sv =>
          rw [q3] at p
          obtain ⟨fl, dd⟩ := sv
          cases dd with
          | dk es =>
            dsimp only at p
            by_cases hc : fl.sh = true ∧ es.length < 100000
            · rw [if_pos hc] at p
              cases q4 : keyD kd with
              | none => rw [q4] at p; exact p.elim
              | some ks =>
                rw [q4] at p
                dsimp only at p
                obtain ⟨v3, g1, fp3, g2⟩ := rel3.sl i _ q3
                rw [hs] at g1; cases g1
                obtain ⟨b, e4, _, hb, hw, _⟩ := g2.sh (sh_of hc.1)
                cases e4
                cases hw with
                | @dk kvs _ hl hr =>
                  obtain ⟨n1, n2⟩ := hr.val ks
                  refine ⟨kvs, ks, hl, key_ok (rel2.get rk2 q1) q4, sz_lt (by rw [hr.length]; exact hc.2), fun y hy => ?_, fun hy => ?_⟩
                  · cases qg : getT es ks with
                    | none => rw [n1 qg] at hy; cases hy
                    | some yd =>
                      rw [qg] at p
                      obtain ⟨y', m1, m2⟩ := n2 yd qg
                      rw [m1] at hy; cases hy
                      exact p _ H2 W3 rel3 s3 (rV.p m2)
                  · cases qg : getT es ks with
                    | some yd => obtain ⟨y', m1, _⟩ := n2 yd qg; rw [m1] at hy; cases hy
                    | none =>
                      rw [qg] at p
                      have st : Step H2 W3 (upd H2 a (.dK (putK kvs ks z))) W3 := Step.mut hb
                      exact p z _ W3 (rel3.write q3 (sh_of hc.1) hs (.dk upd_same (st.rpK (hr.put rz)))) (s3.trans st) (rV.p (st.rp rz))
            · rw [if_neg hc] at p; exact p.elim
          | _ => exact p.elim
  · exact p.elim
theorem a_setdE (i : Nat) (fk : En → R Opd) (fv : En → R Opd) (e0 : En) : setdE i fk fv e0 = (match e0.sv i with
  | some ⟨_, .dk _⟩ => bindR fk (fun k => bindR fv fun v e => match k.get e, pureO v e with
    | some kd, some (x, e') => (match e'.sv i with
      | some ⟨fl, .dk es⟩ => if fl.sh = true ∧ es.length < 100000 then (match keyD kd with
        | some ks => (match getT es ks with
          | some y => .ok ⟨.p, y⟩ e'
          | none => .ok ⟨.p, x⟩ (e'.set i (some ⟨fl, .dk (putT es ks x)⟩)))
        | none => .stuck) else .stuck
      | _ => .stuck)
    | _, _ => .stuck) e0
  | _ => .stuck) := rfl
theorem a_lrE (f : En → R Opd) (e : En) : lrE f e = (bindR f fun o e => match o.get e with
  | some (.int n) => if 0 ≤ n ∧ n ≤ 100000 then .ok ⟨.o, .lst (rangeD 0 n.toNat)⟩ e else .stuck
  | _ => .stuck) e := rfl
end
end DL

namespace My
open PySem L2 DL
def topS (i : Nat) : Stmt := PySem.Challenge.pw_twoalone_k15_whole_the_line_of_places.main.body.getD i (.Pass ⟨0, 0, 0, 0⟩)
abbrev s_is_from : Stmt := topS 11
abbrev N_is_from : List Str := ["thing", "low", "high"]
theorem sc_is_from : FnScope N_is_from ["thing", "low", "high"] (defScope s_is_from) := ⟨rfl, rfl, rfl, by decide +kernel, rfl, by decide +kernel, by decide +kernel⟩
noncomputable def m_is_from : En → RS :=
  (seqS (ifS (orT (notT (testV (callB isiG (consA (varE 0) (consA (opd (constE (.opq (.ty "int")))) nilA))))) (orT (testV (callB isiG (consA (varE 0) (consA (opd (constE (.opq (.ty "bool")))) nilA)))) (testV (op2 (cmpG (fun i j => decide (i < j))) (varE 0) (varE 1))))) (retS (constE (.bl false))) .nx) (retS (orV (op2 (isNG false) (varE 2) (opd (constE .non))) (op2 (cmpG (fun i j => decide (i ≤ j))) (varE 0) (varE 2)))))
noncomputable def G_is_from : List SV → RF := defG 3 3 m_is_from
abbrev s_sure_rounds : Stmt := topS 12
abbrev N_sure_rounds : List Str := ["rounds", "most"]
theorem sc_sure_rounds : FnScope N_sure_rounds ["rounds", "most"] (defScope s_sure_rounds) := ⟨rfl, rfl, rfl, by decide +kernel, rfl, by decide +kernel, by decide +kernel⟩
noncomputable def m_sure_rounds : En → RS :=
  (ifS (notT (testV (callE G_is_from (consA (varE 0) (consA (opd (constE (.int 0))) (consA (varE 1) nilA)))))) (fun _ => .stuck) .nx)
noncomputable def G_sure_rounds : List SV → RF := defG 2 2 m_sure_rounds
abbrev s_is_weaving : Stmt := topS 13
abbrev N_is_weaving : List Str := ["thing", "steps", "hand"]
theorem sc_is_weaving : FnScope N_is_weaving ["thing", "steps"] (defScope s_is_weaving) := ⟨rfl, rfl, rfl, by decide +kernel, rfl, by decide +kernel, by decide +kernel⟩
noncomputable def m_is_weaving : En → RS :=
  (seqS (ifS (orT (notT (testV (callB isiG (consA (varE 0) (consA (opd (constE (.opq (.ty "list")))) nilA))))) (notT (testV (callB (allG false) (consA (opd (compE (seqI (varE 0)) [2] (nameG 2) (fun e => .ok true e) (opd (callE G_is_from (consA (varE 2) (consA (opd (constE (.int 0))) (consA (opd (constE (.int 1))) nilA))))))) nilA))))) (retS (constE (.bl false))) .nx) (retS (callB (allG false) (consA (opd (compE (seqI (opd (constE (.frt [.int 0, .int 1])))) [2] (nameG 2) (fun e => .ok true e) (opd (op2 (cmpG (fun i j => decide (i ≤ j))) (opd (methL countG (varE 0) (consA (varE 2) nilA))) (varE 1))))) nilA))))
noncomputable def G_is_weaving : List SV → RF := defG 2 3 m_is_weaving
abbrev s_sure_weaving : Stmt := topS 14
abbrev N_sure_weaving : List Str := ["weaving", "steps"]
theorem sc_sure_weaving : FnScope N_sure_weaving ["weaving", "steps"] (defScope s_sure_weaving) := ⟨rfl, rfl, rfl, by decide +kernel, rfl, by decide +kernel, by decide +kernel⟩
noncomputable def m_sure_weaving : En → RS :=
  (ifS (notT (testV (callE G_is_weaving (consA (varE 0) (consA (varE 1) nilA))))) (fun _ => .stuck) .nx)
noncomputable def G_sure_weaving : List SV → RF := defG 2 2 m_sure_weaving
abbrev s_known_behind : Stmt := topS 15
abbrev G_known_behind : List SV → RF := kbG
abbrev s_known : Stmt := topS 16
abbrev N_known : List Str := ["inputs", "weaving", "rounds", "one"]
theorem sc_known : FnScope N_known ["inputs", "weaving", "rounds"] (defScope s_known) := ⟨rfl, rfl, rfl, by decide +kernel, rfl, by decide +kernel, by decide +kernel⟩
noncomputable def m_known : En → RS :=
  (seqS (dropS (callE G_sure_rounds (consA (varE 2) (consA (opd (constE (.int 5))) nilA)))) (seqS (ifS (orT (notT (testV (callB isiG (consA (varE 0) (consA (opd (constE (.opq (.ty "tuple")))) nilA))))) (orT (testV (op2 (eqG true) (opd (callB lenG (consA (varE 0) nilA))) (opd (constE (.int 2))))) (notT (testV (callB (allG false) (consA (opd (compE (seqI (varE 0)) [3] (nameG 3) (fun e => .ok true e) (opd (callE G_is_from (consA (varE 3) (consA (opd (constE (.int 0))) (consA (opd (constE .non)) nilA))))))) nilA)))))) (fun _ => .stuck) .nx) (seqS (dropS (callE G_sure_weaving (consA (varE 1) (consA (opd (op2 mulG (opd (constE (.int 2))) (varE 2))) nilA)))) (retS (callE G_known_behind (consA (varE 0) (consA (varE 1) (consA (varE 2) nilA))))))))
noncomputable def G_known : List SV → RF := defG 3 4 m_known
abbrev s_weavings : Stmt := topS 17
abbrev N_weavings : List Str := ["rounds", "found", "step", "row", "hand"]
theorem sc_weavings : FnScope N_weavings ["rounds"] (defScope s_weavings) := ⟨rfl, rfl, rfl, by decide +kernel, rfl, by decide +kernel, by decide +kernel⟩
noncomputable def m_weavings : En → RS :=
  (seqS (dropS (callE G_sure_rounds (consA (varE 0) (consA (opd (constE (.int 3))) nilA)))) (seqS (setS 1 (lstT (consT (lstT nilT) nilT))) (seqS (forS (rng1 (consA (opd (op2 mulG (opd (constE (.int 4))) (varE 0))) nilA)) (nameG 2) (setS 1 (comp2M .t (seqI (varE 1)) [3, 4] (nameG 3) (fun e => .ok true e) (seqI (opd (constE (.frt [.int 0, .int 1])))) [4] (nameG 4) (testV (op2 (cmpG (fun i j => decide (i < j))) (opd (methL countG (varE 3) (consA (varE 4) nilA))) (opd (op2 mulG (opd (constE (.int 2))) (varE 0))))) (ownE (op2 addG (varE 3) (opd (lstE (consA (varE 4) nilA)))))))) (retVarS 1))))
noncomputable def G_weavings : List SV → RF := defG 1 5 m_weavings
abbrev s_sure_hand : Stmt := topS 19
abbrev N_sure_hand : List Str := ["hand"]
theorem sc_sure_hand : FnScope N_sure_hand ["hand"] (defScope s_sure_hand) := ⟨rfl, rfl, rfl, by decide +kernel, rfl, by decide +kernel, by decide +kernel⟩
noncomputable def m_sure_hand : En → RS :=
  (ifS (notT (testV (callE G_is_from (consA (varE 0) (consA (opd (constE (.int 0))) (consA (opd (constE (.int 1))) nilA)))))) (fun _ => .stuck) .nx)
noncomputable def G_sure_hand : List SV → RF := defG 1 1 m_sure_hand
abbrev s_both_of : Stmt := topS 22
abbrev N_both_of : List Str := ["one", "other", "first", "second"]
theorem sc_both_of : FnScope N_both_of ["one", "other"] (defScope s_both_of) := ⟨rfl, rfl, rfl, by decide +kernel, rfl, by decide +kernel, by decide +kernel⟩
noncomputable def m_both_of : En → RS :=
  (retS (callB tupleG (consA (opd (compE (zipI (consA (varE 0) (consA (varE 1) nilA))) [2, 3] (tupG 2 (consG (nameG 2) (consG (nameG 3) nilG))) (fun e => .ok true e) (opd (ifE (testV (op2 (isNG false) (varE 2) (opd (constE .non)))) (keepE (varE 3)) (keepE (varE 2)))))) nilA)))
noncomputable def G_both_of : List SV → RF := defG 2 4 m_both_of
abbrev s_fit : Stmt := topS 21
abbrev N_fit : List Str := ["one", "other", "first", "second"]
theorem sc_fit : FnScope N_fit ["one", "other"] (defScope s_fit) := ⟨rfl, rfl, rfl, by decide +kernel, rfl, by decide +kernel, by decide +kernel⟩
noncomputable def m_fit : En → RS :=
  (retS (callB (allG false) (consA (opd (compE (zipI (consA (varE 0) (consA (varE 1) nilA))) [2, 3] (tupG 2 (consG (nameG 2) (consG (nameG 3) nilG))) (fun e => .ok true e) (opd (orV (op2 (isNG false) (varE 2) (opd (constE .non))) (orV (op2 (isNG false) (varE 3) (opd (constE .non))) (op2 (eqG false) (varE 2) (varE 3))))))) nilA)))
noncomputable def G_fit : List SV → RF := defG 2 4 m_fit
abbrev s_spot_of : Stmt := topS 20
abbrev N_spot_of : List Str := ["thing", "hand", "most", "rounds", "mine", "inputs", "others", "its", "more", "one"]
theorem sc_spot_of : FnScope N_spot_of ["thing", "hand", "most"] (defScope s_spot_of) := ⟨rfl, rfl, rfl, by decide +kernel, rfl, by decide +kernel, by decide +kernel⟩
noncomputable def m_spot_of (Gr : List SV → RF) : En → RS :=
  (seqS (ifS (testV (callE G_is_from (consA (varE 0) (consA (opd (constE (.int 0))) (consA (opd (constE .non)) nilA))))) (retS (tupE (consA (opd (constE (.int 0))) (consA (varE 1) (consA (opd (callB tupleG (consA (opd (compE (seqI (opd (constE (.frt [.int 0, .int 1])))) [9] (nameG 9) (fun e => .ok true e) (opd (ifE (testV (op2 (eqG false) (varE 1) (varE 9))) (keepE (varE 0)) (constE .non))))) nilA))) nilA))))) .nx) (seqS (ifS (orT (notT (testV (callB isiG (consA (varE 0) (consA (opd (constE (.opq (.ty "tuple")))) nilA))))) (orT (testV (op2 (eqG true) (opd (callB lenG (consA (varE 0) nilA))) (opd (constE (.int 2))))) (testV (op2 (eqG false) (varE 2) (opd (constE (.int 0))))))) (fun _ => .stuck) .nx) (seqS (asgS (tupG 3 (consG (nameG 3) (consG (nameG 4) (consG (nameG 5) nilG)))) (callE Gr (consA (opd (op2 ixG (varE 0) (opd (constE (.int 0))))) (consA (varE 1) (consA (opd (op2 subG (varE 2) (opd (constE (.int 1))))) nilA))))) (seqS (ifS (testV (op2 (isNG false) (opd (op2 ixG (varE 0) (opd (constE (.int 1))))) (opd (constE .non)))) (retS (tupE (consA (opd (op2 addG (varE 3) (opd (constE (.int 1))))) (consA (opd (op2 mulG (opd (constE (.int 3))) (varE 4))) (consA (varE 5) nilA))))) .nx) (seqS (asgS (tupG 3 (consG (nameG 6) (consG (nameG 7) (consG (nameG 8) nilG)))) (callE Gr (consA (opd (op2 ixG (varE 0) (opd (constE (.int 1))))) (consA (opd (op2 subG (opd (constE (.int 1))) (varE 1))) (consA (opd (op2 subG (varE 2) (opd (constE (.int 1))))) nilA))))) (seqS (ifS (orT (testV (op2 (eqG true) (varE 6) (varE 3))) (orT (testV (op2 (eqG true) (opd (callB (int1G fun i => if i < 0 then -i else i) (consA (opd (op2 subG (varE 7) (varE 4))) nilA))) (opd (constE (.int 1))))) (notT (testV (callP G_fit (consA (varE 5) (consA (varE 8) nilA))))))) (fun _ => .stuck) .nx) (retS (tupE (consA (opd (op2 addG (varE 3) (opd (constE (.int 1))))) (consA (opd (op2 addG (opd (op2 mulG (opd (constE (.int 3))) (varE 4))) (opd (op2 mulG (opd (constE (.int 2))) (opd (op2 subG (varE 7) (varE 4))))))) (consA (opd (callP G_both_of (consA (varE 5) (consA (varE 8) nilA)))) nilA)))))))))))
noncomputable def G_spot_of : Nat → List SV → RF
  | 0 => fun _ => .stuck
  | n + 1 => defG 3 10 (m_spot_of (G_spot_of n))
abbrev s_place : Stmt := topS 23
abbrev N_place : List Str := ["known", "hand"]
theorem sc_place : FnScope N_place ["known", "hand"] (defScope s_place) := ⟨rfl, rfl, rfl, by decide +kernel, rfl, by decide +kernel, by decide +kernel⟩
noncomputable def m_place : En → RS :=
  (seqS (dropS (callE G_sure_hand (consA (varE 1) nilA))) (retS (op2 ixG (opd (callE (G_spot_of 6) (consA (varE 0) (consA (varE 1) (consA (opd (constE (.int 5))) nilA))))) (opd (constE (.int 1))))))
noncomputable def G_place : List SV → RF := defG 2 2 m_place
abbrev s__law_cell_at : Stmt := topS 25
abbrev N__law_cell_at : List Str := ["_law_script", "_law_k"]
theorem sc__law_cell_at : FnScope N__law_cell_at ["_law_script", "_law_k"] (defScope s__law_cell_at) := ⟨rfl, rfl, rfl, by decide +kernel, rfl, by decide +kernel, by decide +kernel⟩
noncomputable def m__law_cell_at : En → RS :=
  (seqS (ifS (testV (op2 (cmpG (fun i j => decide (i < j))) (varE 1) (opd (callB lenG (consA (varE 0) nilA))))) (retS (op2 ixG (varE 0) (varE 1))) .nx) (retS (constE (.int 0))))
noncomputable def G__law_cell_at : List SV → RF := defG 2 2 m__law_cell_at
abbrev s__law_well : Stmt := topS 26
abbrev N__law_well : List Str := ["_law_cell"]
theorem sc__law_well : FnScope N__law_well ["_law_cell"] (defScope s__law_well) := ⟨rfl, rfl, rfl, by decide +kernel, rfl, by decide +kernel, by decide +kernel⟩
noncomputable def m__law_well : En → RS :=
  (retS (lstE (consA (opd (op2 mulG (varE 0) (opd (callB intG (consA (opd (op2 (cmpG (fun i j => decide (j ≤ i))) (varE 0) (opd (op2 (numG CPow fun i j => i ^ j.toNat) (opd (constE (.int 10))) (opd (constE (.int 18))))))) nilA))))) (consA (opd (op2 (numG (fun _ j => 0 < j) fun i j => i % j) (varE 0) (opd (constE (.int 2147483629))))) (consA (opd (constE (.int 0))) nilA)))))
noncomputable def G__law_well : List SV → RF := defG 1 1 m__law_well
abbrev s__law_draw : Stmt := topS 27
abbrev N__law_draw : List Str := ["_law_well_here", "_law_many", "_law_number", "_law_found"]
theorem sc__law_draw : FnScope N__law_draw ["_law_well_here", "_law_many"] (defScope s__law_draw) := ⟨rfl, rfl, rfl, by decide +kernel, rfl, by decide +kernel, by decide +kernel⟩
noncomputable def m__law_draw : En → RS :=
  (seqS (ifS (testV (op2 (cmpG (fun i j => decide (j < i))) (opd (op2 ixG (varE 0) (opd (constE (.int 0))))) (opd (constE (.int 0))))) (seqS (setS 3 (op2 (numG (fun _ j => 0 < j) fun i j => i % j) (opd (op2 ixG (varE 0) (opd (constE (.int 0))))) (varE 1))) (seqS (setIxS 0 (op2 (numG CDivW fun i j => i / j) (opd (op2 ixG (varE 0) (opd (constE (.int 0))))) (varE 1)) (opd (constE (.int 0)))) (retVarS 3))) .nx) (seqS (setIxS 0 (op2 addG (opd (op2 ixG (varE 0) (opd (constE (.int 2))))) (opd (constE (.int 1)))) (opd (constE (.int 2)))) (seqS (setS 2 (op2 (numG (fun _ j => 0 < j) fun i j => i % j) (opd (op2 mulG (opd (op2 addG (opd (op2 addG (opd (op2 ixG (varE 0) (opd (constE (.int 1))))) (opd (op2 mulG (opd (constE (.int 86969))) (opd (op2 ixG (varE 0) (opd (constE (.int 2))))))))) (opd (constE (.int 1))))) (opd (constE (.int 48271))))) (opd (constE (.int 2147483629))))) (seqS (setS 2 (op2 (numG (fun _ j => 0 < j) fun i j => i % j) (opd (op2 mulG (varE 2) (opd (op2 addG (opd (op2 addG (opd (op2 (numG CDivW fun i j => i / j) (varE 2) (opd (constE (.int 1013))))) (opd (constE (.int 69623))))) (opd (op2 ixG (varE 0) (opd (constE (.int 2))))))))) (opd (constE (.int 2147483587))))) (retS (op2 (numG (fun _ j => 0 < j) fun i j => i % j) (opd (op2 (numG CDivW fun i j => i / j) (opd (op2 (numG (fun _ j => 0 < j) fun i j => i % j) (opd (op2 mulG (varE 2) (opd (op2 addG (opd (op2 (numG CDivW fun i j => i / j) (varE 2) (opd (constE (.int 2003))))) (opd (constE (.int 40692))))))) (opd (constE (.int 2147483563))))) (opd (constE (.int 3))))) (varE 1)))))))
noncomputable def G__law_draw : List SV → RF := defG 2 4 m__law_draw
abbrev s__law_one : Stmt := topS 28
abbrev N__law_one : List Str := ["_law_well_here", "_law_some"]
theorem sc__law_one : FnScope N__law_one ["_law_well_here", "_law_some"] (defScope s__law_one) := ⟨rfl, rfl, rfl, by decide +kernel, rfl, by decide +kernel, by decide +kernel⟩
noncomputable def m__law_one : En → RS :=
  (retS (op2 ixG (varE 1) (opd (callE G__law_draw (consA (varE 0) (consA (opd (callB lenG (consA (varE 1) nilA))) nilA))))))
noncomputable def G__law_one : List SV → RF := defG 2 2 m__law_one
abbrev s__law_power : Stmt := topS 29
abbrev N__law_power : List Str := ["_law_deep", "_law_found", "_law_turn"]
theorem sc__law_power : FnScope N__law_power ["_law_deep"] (defScope s__law_power) := ⟨rfl, rfl, rfl, by decide +kernel, rfl, by decide +kernel, by decide +kernel⟩
noncomputable def m__law_power : En → RS :=
  (seqS (setS 1 (constE (.int 1))) (seqS (forS (rng1 (consA (varE 0) nilA)) (nameG 2) (setS 1 (op2 mulG (opd (constE (.int 3))) (varE 1)))) (retVarS 1)))
noncomputable def G__law_power : List SV → RF := defG 1 3 m__law_power
abbrev s__law_plain : Stmt := topS 30
abbrev N__law_plain : List Str := ["_law_thing"]
theorem sc__law_plain : FnScope N__law_plain ["_law_thing"] (defScope s__law_plain) := ⟨rfl, rfl, rfl, by decide +kernel, rfl, by decide +kernel, by decide +kernel⟩
noncomputable def m__law_plain : En → RS :=
  (seqS (whileS (testV (callB isiG (consA (varE 0) (consA (opd (constE (.opq (.ty "tuple")))) nilA)))) (seqS (ifS (testV (op2 (isNG true) (opd (op2 ixG (varE 0) (opd (constE (.int 1))))) (opd (constE .non)))) (retS (constE (.bl false))) .nx) (setS 0 (op2 ixG (varE 0) (opd (constE (.int 0))))))) (retS (constE (.bl true))))
noncomputable def G__law_plain : List SV → RF := defG 1 1 m__law_plain
abbrev s__law_met : Stmt := topS 31
abbrev N__law_met : List Str := ["_law_thing", "_law_other", "_law_left", "_law_one_here"]
theorem sc__law_met : FnScope N__law_met ["_law_thing", "_law_other"] (defScope s__law_met) := ⟨rfl, rfl, rfl, by decide +kernel, rfl, by decide +kernel, by decide +kernel⟩
noncomputable def m__law_met : En → RS :=
  (seqS (setS 2 (lstE (consA (varE 0) nilA))) (seqS (whileS (testV (op2 (eqG true) (varE 2) (opd (lstE nilA)))) (seqS (setS 3 (mutL 2 popK nilA)) (ifS (testV (callB isiG (consA (varE 3) (consA (opd (constE (.opq (.ty "tuple")))) nilA)))) (dropS (mutL 2 extendK (consA (opd (callB listG (consA (varE 3) nilA))) nilA))) (ifS (testV (op2 (eqG false) (varE 3) (varE 1))) (retS (constE (.bl true))) .nx)))) (retS (constE (.bl false)))))
noncomputable def G__law_met : List SV → RF := defG 2 4 m__law_met
abbrev s__law_lines : Stmt := topS 32
abbrev N__law_lines : List Str := ["_law_inputs", "_law_deep", "_law_there", "_law_met_here", "_law_weaving", "_law_both", "_law_spots", "_law_hand"]
theorem sc__law_lines : FnScope N__law_lines ["_law_inputs", "_law_deep"] (defScope s__law_lines) := ⟨rfl, rfl, rfl, by decide +kernel, rfl, by decide +kernel, by decide +kernel⟩
noncomputable def m__law_lines : En → RS :=
  (seqS (setS 2 dnewK) (seqS (setS 3 dnewK) (seqS (forS (seqI (opd (callE G_weavings (consA (varE 1) nilA)))) (nameG 4) (seqS (setS 5 (callE G_known (appK 2 1 (consA (varE 0) (consA (varE 4) nilA)) (consA (varE 1) nilA)))) (seqS (setS 6 (compE (rng1 (consA (opd (constE (.int 2))) nilA)) [7] (nameG 7) (fun e => .ok true e) (opd (callE G_place (consA (opd (op2 ixG (varE 5) (varE 7))) (consA (varE 7) nilA)))))) (seqS (forS (rng1 (consA (opd (constE (.int 2))) nilA)) (nameG 7) (ifS (orT (testV (op2 (eqG true) (opd (setdE 2 (opd (op2 ixG (varE 6) (varE 7))) (opd (op2 ixG (varE 5) (varE 7))))) (opd (op2 ixG (varE 5) (varE 7))))) (testV (op2 (eqG true) (opd (op2 (numG (fun _ j => 0 < j) fun i j => i % j) (opd (op2 ixG (varE 6) (varE 7))) (opd (constE (.int 2))))) (varE 7)))) (retS (constE .non)) .nx)) (seqS (ifS (testV (op2 (eqG true) (opd (callB (int1G fun i => if i < 0 then -i else i) (consA (opd (op2 subG (opd (op2 ixG (varE 6) (opd (constE (.int 0))))) (opd (op2 ixG (varE 6) (opd (constE (.int 1))))))) nilA))) (opd (constE (.int 1))))) (retS (constE .non)) .nx) (dputS 3 (constE (.bl true)) (opd (callB minG (consA (varE 6) nilA))))))))) (retS (tupE (consA (varE 2) (consA (opd (callB sortG (consA (varE 3) nilA))) nilA)))))))
noncomputable def G__law_lines : List SV → RF := defG 2 8 m__law_lines
abbrev s_law : Stmt := topS 33
abbrev N_law : List Str := ["_law_script", "_law_well_here", "_law_deep", "_law_inputs", "_law_last", "_law_found", "_law_spot", "_law_thing"]
theorem sc_law : FnScope N_law ["_law_script"] (defScope s_law) := ⟨rfl, rfl, rfl, by decide +kernel, rfl, by decide +kernel, by decide +kernel⟩
noncomputable def m_law : En → RS :=
  (seqS (setS 1 (callF G__law_well (callE G__law_cell_at (consA (varE 0) (consA (opd (constE (.int 0))) nilA))))) (seqS (setS 2 (callE G__law_one (consA (varE 1) (consA (opd (lstE (consA (opd (constE (.int 0))) (consA (opd (constE (.int 1))) (consA (opd (constE (.int 2))) (consA (opd (constE (.int 2))) (consA (opd (constE (.int 2))) (consA (opd (constE (.int 3))) nilA)))))))) nilA)))) (seqS (setS 3 (tupE (consA (opd (callE G__law_draw (consA (varE 1) (consA (opd (constE (.int 4))) nilA)))) (consA (opd (op2 addG (opd (constE (.int 4))) (opd (callE G__law_draw (consA (varE 1) (consA (opd (op2 (numG CPow fun i j => i ^ j.toNat) (opd (constE (.int 10))) (opd (constE (.int 20))))) nilA)))))) nilA)))) (seqS (setS 4 (callE G__law_power (consA (varE 2) nilA))) (seqS (setS 5 (callE G__law_lines (consA (varE 3) (consA (varE 2) nilA)))) (seqS (ifS (orT (testV (op2 (isNG false) (varE 5) (opd (constE .non)))) (orT (testV (op2 (eqG true) (opd (callB sortG (consA (opd (op2 ixG (varE 5) (opd (constE (.int 0))))) nilA))) (opd (lrE (opd (op2 addG (varE 4) (opd (constE (.int 1))))))))) (testV (op2 (eqG true) (opd (op2 ixG (varE 5) (opd (constE (.int 1))))) (opd (lrE (varE 4))))))) (retS (constE (.bl false))) .nx) (seqS (forD 5 (pthI 5 (pthV 5) (opd (constE (.int 0)))) itemsOf (tupG 2 (consG (nameG 6) (consG (nameG 7) nilG))) (seqS (ifS (testV (op2 (eqG true) (opd (callE G__law_plain (consA (varE 7) nilA))) (opd (op2 (inG false) (varE 6) (opd (tupE (consA (opd (constE (.int 0))) (consA (varE 4) nilA)))))))) (retS (constE (.bl false))) .nx) (ifS (testV (op2 (eqG false) (opd (callE G__law_met (consA (varE 7) (consA (opd (op2 ixG (varE 3) (opd (op2 subG (opd (constE (.int 1))) (opd (op2 (numG (fun _ j => 0 < j) fun i j => i % j) (varE 6) (opd (constE (.int 2))))))))) nilA)))) (opd (op2 (inG false) (varE 6) (opd (tupE (consA (opd (constE (.int 0))) (consA (varE 4) nilA)))))))) (retS (constE (.bl false))) .nx))) (retS (constE (.bl true))))))))))
noncomputable def G_law : List SV → RF := defG 1 8 m_law
structure Txt (K : PySem.W.Frag) (mg : Str → Option Value) where
  a_is_from : Addr
  fd_is_from : FuncData
  F_is_from : Fun K "is_from" "is_from" s_is_from a_is_from fd_is_from
  g_is_from : mg "is_from" = some (.ref a_is_from)
  b_is_from : Binds K fd_is_from ["thing", "low", "high"] []
  a_sure_rounds : Addr
  fd_sure_rounds : FuncData
  F_sure_rounds : Fun K "sure_rounds" "sure_rounds" s_sure_rounds a_sure_rounds fd_sure_rounds
  g_sure_rounds : mg "sure_rounds" = some (.ref a_sure_rounds)
  b_sure_rounds : Binds K fd_sure_rounds ["rounds", "most"] []
  a_is_weaving : Addr
  fd_is_weaving : FuncData
  F_is_weaving : Fun K "is_weaving" "is_weaving" s_is_weaving a_is_weaving fd_is_weaving
  g_is_weaving : mg "is_weaving" = some (.ref a_is_weaving)
  b_is_weaving : Binds K fd_is_weaving ["thing", "steps"] []
  a_sure_weaving : Addr
  fd_sure_weaving : FuncData
  F_sure_weaving : Fun K "sure_weaving" "sure_weaving" s_sure_weaving a_sure_weaving fd_sure_weaving
  g_sure_weaving : mg "sure_weaving" = some (.ref a_sure_weaving)
  b_sure_weaving : Binds K fd_sure_weaving ["weaving", "steps"] []
  a_known_behind : Addr
  fd_known_behind : FuncData
  F_known_behind : Fun K "known_behind" "known_behind" s_known_behind a_known_behind fd_known_behind
  g_known_behind : mg "known_behind" = some (.ref a_known_behind)
  b_known_behind : Binds K fd_known_behind ["inputs", "weaving", "rounds"] []
  a_known : Addr
  fd_known : FuncData
  F_known : Fun K "known" "known" s_known a_known fd_known
  g_known : mg "known" = some (.ref a_known)
  a_weavings : Addr
  fd_weavings : FuncData
  F_weavings : Fun K "weavings" "weavings" s_weavings a_weavings fd_weavings
  g_weavings : mg "weavings" = some (.ref a_weavings)
  b_weavings : Binds K fd_weavings ["rounds"] []
  a_sure_hand : Addr
  fd_sure_hand : FuncData
  F_sure_hand : Fun K "sure_hand" "sure_hand" s_sure_hand a_sure_hand fd_sure_hand
  g_sure_hand : mg "sure_hand" = some (.ref a_sure_hand)
  b_sure_hand : Binds K fd_sure_hand ["hand"] []
  a_spot_of : Addr
  fd_spot_of : FuncData
  F_spot_of : Fun K "spot_of" "spot_of" s_spot_of a_spot_of fd_spot_of
  g_spot_of : mg "spot_of" = some (.ref a_spot_of)
  b_spot_of : Binds K fd_spot_of ["thing", "hand", "most"] []
  a_fit : Addr
  fd_fit : FuncData
  F_fit : Fun K "fit" "fit" s_fit a_fit fd_fit
  g_fit : mg "fit" = some (.ref a_fit)
  b_fit : Binds K fd_fit ["one", "other"] []
  a_both_of : Addr
  fd_both_of : FuncData
  F_both_of : Fun K "both_of" "both_of" s_both_of a_both_of fd_both_of
  g_both_of : mg "both_of" = some (.ref a_both_of)
  b_both_of : Binds K fd_both_of ["one", "other"] []
  a_place : Addr
  fd_place : FuncData
  F_place : Fun K "place" "place" s_place a_place fd_place
  g_place : mg "place" = some (.ref a_place)
  b_place : Binds K fd_place ["known", "hand"] []
  a__law_cell_at : Addr
  fd__law_cell_at : FuncData
  F__law_cell_at : Fun K "_law_cell_at" "_law_cell_at" s__law_cell_at a__law_cell_at fd__law_cell_at
  g__law_cell_at : mg "_law_cell_at" = some (.ref a__law_cell_at)
  b__law_cell_at : Binds K fd__law_cell_at ["_law_script", "_law_k"] []
  a__law_well : Addr
  fd__law_well : FuncData
  F__law_well : Fun K "_law_well" "_law_well" s__law_well a__law_well fd__law_well
  g__law_well : mg "_law_well" = some (.ref a__law_well)
  b__law_well : Binds K fd__law_well ["_law_cell"] []
  a__law_draw : Addr
  fd__law_draw : FuncData
  F__law_draw : Fun K "_law_draw" "_law_draw" s__law_draw a__law_draw fd__law_draw
  g__law_draw : mg "_law_draw" = some (.ref a__law_draw)
  b__law_draw : Binds K fd__law_draw ["_law_well_here", "_law_many"] []
  a__law_one : Addr
  fd__law_one : FuncData
  F__law_one : Fun K "_law_one" "_law_one" s__law_one a__law_one fd__law_one
  g__law_one : mg "_law_one" = some (.ref a__law_one)
  b__law_one : Binds K fd__law_one ["_law_well_here", "_law_some"] []
  a__law_power : Addr
  fd__law_power : FuncData
  F__law_power : Fun K "_law_power" "_law_power" s__law_power a__law_power fd__law_power
  g__law_power : mg "_law_power" = some (.ref a__law_power)
  b__law_power : Binds K fd__law_power ["_law_deep"] []
  a__law_plain : Addr
  fd__law_plain : FuncData
  F__law_plain : Fun K "_law_plain" "_law_plain" s__law_plain a__law_plain fd__law_plain
  g__law_plain : mg "_law_plain" = some (.ref a__law_plain)
  b__law_plain : Binds K fd__law_plain ["_law_thing"] []
  a__law_met : Addr
  fd__law_met : FuncData
  F__law_met : Fun K "_law_met" "_law_met" s__law_met a__law_met fd__law_met
  g__law_met : mg "_law_met" = some (.ref a__law_met)
  b__law_met : Binds K fd__law_met ["_law_thing", "_law_other"] []
  a__law_lines : Addr
  fd__law_lines : FuncData
  F__law_lines : Fun K "_law_lines" "_law_lines" s__law_lines a__law_lines fd__law_lines
  g__law_lines : mg "_law_lines" = some (.ref a__law_lines)
  b__law_lines : Binds K fd__law_lines ["_law_inputs", "_law_deep"] []
  a_law : Addr
  fd_law : FuncData
  F_law : Fun K "law" "law" s_law a_law fd_law
  g_law : mg "law" = some (.ref a_law)
  b_law : Binds K fd_law ["_law_script"] []
  k_known : KBinds K fd_known ["inputs", "weaving", "rounds"] ["rounds"] (gK 2 1) (gK 2 1)
  m_abs : mg "abs" = none
  m_all : mg "all" = none
  m_bool : mg "bool" = none
  m_int : mg "int" = none
  m_isinstance : mg "isinstance" = none
  m_len : mg "len" = none
  m_list : mg "list" = none
  m_min : mg "min" = none
  m_range : mg "range" = none
  m_sorted : mg "sorted" = none
  m_tuple : mg "tuple" = none
  m_zip : mg "zip" = none
  a_HANDS : Addr
  g_HANDS : mg "HANDS" = some (.ref a_HANDS)
  c_HANDS : ∀ H A, Rp K H A (.ref a_HANDS) (.frt [.int 0, .int 1])
  t_HANDS : KT K a_HANDS [.int 0, .int 1]
  g_MOST_ROUNDS : ∃ t, mg "MOST_ROUNDS" = some (Value.int 5 t)
  g_MOST_WOVEN : ∃ t, mg "MOST_WOVEN" = some (Value.int 3 t)
end My

namespace My
open PySem L2 DL
abbrev N_known_behind : List Str := ["inputs", "weaving", "rounds", "cells", "knows", "done", "hand", "cell", "turn"]
theorem sc_known_behind : FnScope N_known_behind ["inputs", "weaving", "rounds"] (defScope s_known_behind) := ⟨rfl, rfl, rfl, by decide +kernel, rfl, by decide +kernel, by decide +kernel⟩
section
variable {P : Program} {w : World} {K : PySem.W.Frag} {mg : Str → Option Value} {base : Heap}
theorem ok_known_behind (T : Txt K mg) : FnOk P w K mg base CX0 1 T.a_known_behind T.fd_known_behind ["inputs", "weaving", "rounds"] (spD0 K G_known_behind) := by
  refine T.F_known_behind.ok sc_known_behind (fun vs H Q E h => spD_len (E := E0) kbG_len h) (fun cdv A outer s H vs Q E hr h => ?_)
  refine ⟨_, pss_cons (ps_setLc (i := 3) (own := [("turn", 8)]) rfl sc_known_behind.nd rfl rfl (sw_true rfl rfl rfl (by decide +kernel)) (pi_range1 (by rfl) T.m_range (pa_cons (pv 2) pa_nil)) (blkOk_by (own := [("turn", 8)]) (N := N_known_behind) (sc := defScope s_known_behind) (by decide +kernel)) (fun _ _ _ _ _ => pg_name (i := 8) sc_known_behind.nd rfl (.inl rfl)) (fun _ _ _ _ _ => pts_nil) (fun _ _ _ _ _ => pe_lst (pa_cons pe_non (pa_cons pe_non pa_nil))))
    (pss_cons (ps_set (i := 4) sc_known_behind.nd rfl (by first | exact .inl rfl | exact .inr rfl) (pe_callTy (call_listK (K := K) rfl) (by rfl) T.m_list (by decide +kernel) (pa_cons (pv 0) pa_nil)))
    (pss_cons (ps_set (i := 5) sc_known_behind.nd rfl (by first | exact .inl rfl | exact .inr rfl) (pe_lst (pa_cons pe_int (pa_cons pe_int pa_nil))))
    (pss_cons (ps_for PassesOwn.never rfl (pi_seqK (K := K) rfl (pv 1)) (pg_name (i := 6) sc_known_behind.nd rfl (by first | exact .inl rfl | exact .inr rfl))
      (pss_cons (ps_set (i := 7) sc_known_behind.nd rfl (by first | exact .inl rfl | exact .inr rfl) (pe_ix (ix_seqK (K := K) rfl) (pv 3) (pe_op op_fdivW (pe_ix (ix_seqK (K := K) rfl) (pv 5) (pv 6) (fun _ _ => rfl)) pe_int) (fun _ _ => rfl)))
      (pss_cons (ps_if (pt_cmpR op_eq (pe_op op_mod (pe_ix (ix_seqK (K := K) rfl) (pv 5) (pv 6) (fun _ _ => rfl)) pe_int) pe_int (nomark _))
        (pss_one (ps_asg (pe_ix (ix_seqK (K := K) rfl) (pv 4) (pv 6) (fun _ _ => rfl)) (pg_sub (pv 7) (pv 6) set_list)))
        (pss_one (ps_asg (pe_tup (pa_cons (pe_ix (ix_seqK (K := K) rfl) (pv 4) (pv 6) (fun _ _ => rfl)) (pa_cons (pe_ix (ix_seqK (K := K) rfl) (pv 7) (pe_op op_sub pe_int (pv 6)) (fun _ _ => rfl)) pa_nil))) (pg_sub (pv 4) (pv 6) set_list))))
      (pss_one (ps_augS (pv 5) (pv 6) pget_list pe_int ip_add set_list)))))
    (pss_one (ps_ret (pe_lc (own := [("hand", 6)]) rfl sc_known_behind.nd (pi_seqK (K := K) rfl (pe_glob (v := .ref T.a_HANDS) (by rfl) T.g_HANDS rfl)) (blkOk_by (own := [("hand", 6)]) (N := N_known_behind) (sc := defScope s_known_behind) (by decide +kernel)) (fun _ _ _ _ _ => pg_name (i := 6) sc_known_behind.nd rfl (by first | exact .inl rfl | exact .inr rfl)) (fun _ _ _ _ _ => pts_nil)
      (fun _ _ _ _ _ => pe_ifExp (pt_cmpR op_eq (pe_ix (ix_seqK (K := K) rfl) (pv 5) (pv 6) (fun _ _ => rfl)) (pe_op op_mulA pe_int (pv 2)) (nomark _)) (pe_ix (ix_seqK (K := K) rfl) (pv 4) (pv 6) (fun _ _ => rfl)) pe_non))))))), ?_⟩
  exact kb_all T.t_HANDS h
theorem ok_is_from (T : Txt K mg) : FnOk P w K mg base CX0 1 T.a_is_from T.fd_is_from ["thing", "low", "high"] (spD0 K G_is_from) := by
  refine T.F_is_from.ok sc_is_from (fun vs H Q E h => spD0_len h) (fun cdv A outer s H vs Q E hr h => ?_)
  exact ex_body0 (N := N_is_from) (body := m_is_from) (pss_cons (ps_if (PW.pt (pw_or (pt_not (pt_val (pe_callB (call_isiK' (K := K) rfl) (by rfl) T.m_isinstance (by decide +kernel) (pa_cons (pv 0) (pa_cons (pe_bltn (v := .ty "int") (by rfl) T.m_int (by decide +kernel) rfl) pa_nil))))) (pw_or (pt_val (pe_callB (call_isiK' (K := K) rfl) (by rfl) T.m_isinstance (by decide +kernel) (pa_cons (pv 0) (pa_cons (pe_bltn (v := .ty "bool") (by rfl) T.m_bool (by decide +kernel) rfl) pa_nil)))) (pw_or1 (pt_cmpR op_lt (pv 0) (pv 1) (nomark _)))))) (pss_one (ps_ret pe_bl)) pss_nil) (pss_one (ps_ret (pe_or (pe_cmpR op_isN (pv 2) pe_non (nomark _)) (pe_one (pe_cmpR op_le (pv 0) (pv 2) (nomark _))))))) (ss_seq (ss_if (sb_or (sb_not (sb_B (sf_callBs o_isi isiG_fine (sa_cons se_var (sa_cons (se_of sf_opq) sa_nil))))) (sb_or (sb_B (sf_callBs o_isi isiG_fine (sa_cons se_var (sa_cons (se_of sf_opq) sa_nil)))) (sb_test (sf_op2 o_cmp cmpG_fine se_var se_var)))) (ss_ret sf_bl) ss_nil) (ss_ret (sf_or (sf_op2 o_isN isNG_fine se_var (se_of sf_non)) (sf_op2 o_cmp cmpG_fine se_var se_var)))) (by decide) h
theorem ok_sure_rounds (T : Txt K mg) : FnOk P w K mg base CX0 2 T.a_sure_rounds T.fd_sure_rounds ["rounds", "most"] (spD0 K G_sure_rounds) := by
  refine T.F_sure_rounds.ok sc_sure_rounds (fun vs H Q E h => spD0_len h) (fun cdv A outer s H vs Q E hr h => ?_)
  exact ex_body0 (N := N_sure_rounds) (body := m_sure_rounds) (pss_one (ps_if (pt_not (pt_val (pe_call (ok_is_from T) (hr.mono (by decide)) (by rfl) T.g_is_from T.F_is_from.kp T.b_is_from .nil pass0 (pa_cons (pv 0) (pa_cons pe_int (pa_cons (pv 1) pa_nil)))))) (pss_one ps_never) pss_nil)) (ss_if (sb_not (sb_B (sf_call0 (sa_cons se_var (sa_cons (se_of sf_int) (sa_cons se_var sa_nil)))))) ss_never ss_nil) (by decide) h
theorem ok_is_weaving (T : Txt K mg) : FnOk P w K mg base CX0 2 T.a_is_weaving T.fd_is_weaving ["thing", "steps"] (spD0 K G_is_weaving) := by
  refine T.F_is_weaving.ok sc_is_weaving (fun vs H Q E h => spD0_len h) (fun cdv A outer s H vs Q E hr h => ?_)
  exact ex_body0 (N := N_is_weaving) (body := m_is_weaving) (pss_cons (ps_if (PW.pt (pw_or (pt_not (pt_val (pe_callB (call_isiK' (K := K) rfl) (by rfl) T.m_isinstance (by decide +kernel) (pa_cons (pv 0) (pa_cons (pe_bltn (v := .ty "list") (by rfl) T.m_list (by decide +kernel) rfl) pa_nil))))) (pw_or1 (pt_not (pt_val (pe_callB (call_allK (K := K) rfl rfl) (by rfl) T.m_all (by decide +kernel) (pa_cons (pe_lc (own := [("hand", 2)]) rfl sc_is_weaving.nd (pi_seqK (K := K) rfl (pv 0)) (blkOk_by (own := [("hand", 2)]) (N := N_is_weaving) (sc := defScope s_is_weaving) (by decide +kernel)) (fun _ _ _ _ _ => (pg_name (i := 2) sc_is_weaving.nd rfl (by first | exact .inl rfl | exact .inr rfl))) (fun _ _ _ _ _ => pts_nil) (fun _ _ _ _ _ => (pe_call (ok_is_from T) (hr.mono (by decide)) (by rfl) T.g_is_from T.F_is_from.kp T.b_is_from .nil pass0 (pa_cons (pv 2) (pa_cons pe_int (pa_cons pe_int pa_nil)))))) pa_nil))))))) (pss_one (ps_ret pe_bl)) pss_nil) (pss_one (ps_ret (pe_callB (call_allK (K := K) rfl rfl) (by rfl) T.m_all (by decide +kernel) (pa_cons (pe_lc (own := [("hand", 2)]) rfl sc_is_weaving.nd (pi_seqK (K := K) rfl (pe_glob (v := .ref T.a_HANDS) (by rfl) T.g_HANDS rfl)) (blkOk_by (own := [("hand", 2)]) (N := N_is_weaving) (sc := defScope s_is_weaving) (by decide +kernel)) (fun _ _ _ _ _ => (pg_name (i := 2) sc_is_weaving.nd rfl (by first | exact .inl rfl | exact .inr rfl))) (fun _ _ _ _ _ => pts_nil) (fun _ _ _ _ _ => (pe_cmpR op_le (pe_bmK (K := K) rfl (pe_bm PySem.F.plainAttrs_list PySem.F.slot_list_count PySem.F.type_list_count (mt_countK (K := K) rfl) (pv 0) (pa_cons (pv 2) pa_nil))) (pv 1) (nomark _)))) pa_nil))))) (ss_seq (ss_if (sb_or (sb_not (sb_B (sf_callBs o_isi isiG_fine (sa_cons se_var (sa_cons (se_of sf_opq) sa_nil))))) (sb_not (sb_B (sf_callBs o_all allG_fine (sa_cons (se_of (sf_lc (si_seq se_var) sg_name (by decide) sb_yes (se_of (sf_call0 (sa_cons se_var (sa_cons (se_of sf_int) (sa_cons (se_of sf_int) sa_nil))))))) sa_nil))))) (ss_ret sf_bl) ss_nil) (ss_ret (sf_callBs o_all allG_fine (sa_cons (se_of (sf_lc (si_seq (se_of (sf_glob T.c_HANDS))) sg_name (by decide) sb_yes (se_of (sf_op2 o_cmp cmpG_fine (se_of (sf_methL o_count countG_fine se_var (sa_cons se_var sa_nil))) se_var)))) sa_nil)))) (by decide) h
theorem ok_sure_weaving (T : Txt K mg) : FnOk P w K mg base CX0 3 T.a_sure_weaving T.fd_sure_weaving ["weaving", "steps"] (spD0 K G_sure_weaving) := by
  refine T.F_sure_weaving.ok sc_sure_weaving (fun vs H Q E h => spD0_len h) (fun cdv A outer s H vs Q E hr h => ?_)
  exact ex_body0 (N := N_sure_weaving) (body := m_sure_weaving) (pss_one (ps_if (pt_not (pt_val (pe_call (ok_is_weaving T) (hr.mono (by decide)) (by rfl) T.g_is_weaving T.F_is_weaving.kp T.b_is_weaving .nil pass0 (pa_cons (pv 0) (pa_cons (pv 1) pa_nil))))) (pss_one ps_never) pss_nil)) (ss_if (sb_not (sb_B (sf_call0 (sa_cons se_var (sa_cons se_var sa_nil))))) ss_never ss_nil) (by decide) h
theorem ok_known (T : Txt K mg) : FnOk P w K mg base CX0 4 T.a_known T.fd_known ["inputs", "weaving", "rounds"] (spD0 K G_known) := by
  refine T.F_known.ok sc_known (fun vs H Q E h => spD0_len h) (fun cdv A outer s H vs Q E hr h => ?_)
  exact ex_body0 (N := N_known) (body := m_known) (pss_cons (ps_expr (pe_call (ok_sure_rounds T) (hr.mono (by decide)) (by rfl) T.g_sure_rounds T.F_sure_rounds.kp T.b_sure_rounds .nil pass0 (pa_cons (pv 2) (pa_cons (pe_glob (v := .int 5) (by rfl) (Classical.choose_spec T.g_MOST_ROUNDS) ⟨_, rfl⟩) pa_nil)))) (pss_cons (ps_if (PW.pt (pw_or (pt_not (pt_val (pe_callB (call_isiK' (K := K) rfl) (by rfl) T.m_isinstance (by decide +kernel) (pa_cons (pv 0) (pa_cons (pe_bltn (v := .ty "tuple") (by rfl) T.m_tuple (by decide +kernel) rfl) pa_nil))))) (pw_or (pt_cmpR (op_neK (K := K) rfl hr.units) (pe_callB (call_lenK (K := K) rfl) (by rfl) T.m_len PySem.boot_len (pa_cons (pv 0) pa_nil)) pe_int (nomark _)) (pw_or1 (pt_not (pt_val (pe_callB (call_allK (K := K) rfl rfl) (by rfl) T.m_all (by decide +kernel) (pa_cons (pe_lc (own := [("one", 3)]) rfl sc_known.nd (pi_seqK (K := K) rfl (pv 0)) (blkOk_by (own := [("one", 3)]) (N := N_known) (sc := defScope s_known) (by decide +kernel)) (fun _ _ _ _ _ => (pg_name (i := 3) sc_known.nd rfl (by first | exact .inl rfl | exact .inr rfl))) (fun _ _ _ _ _ => pts_nil) (fun _ _ _ _ _ => (pe_call (ok_is_from T) (hr.mono (by decide)) (by rfl) T.g_is_from T.F_is_from.kp T.b_is_from .nil pass0 (pa_cons (pv 3) (pa_cons pe_int (pa_cons pe_non pa_nil)))))) pa_nil)))))))) (pss_one ps_never) pss_nil) (pss_cons (ps_expr (pe_call (ok_sure_weaving T) (hr.mono (by decide)) (by rfl) T.g_sure_weaving T.F_sure_weaving.kp T.b_sure_weaving .nil pass0 (pa_cons (pv 1) (pa_cons (pe_op op_mulA pe_int (pv 2)) pa_nil)))) (pss_one (ps_ret (pe_call (ok_known_behind T) (hr.mono (by decide)) (by rfl) T.g_known_behind T.F_known_behind.kp T.b_known_behind .nil pass0 (pa_cons (pv 0) (pa_cons (pv 1) (pa_cons (pv 2) pa_nil))))))))) (ss_seq (ss_drop (sf_call0 (sa_cons se_var (sa_cons (se_of sf_int) sa_nil)))) (ss_seq (ss_if (sb_or (sb_not (sb_B (sf_callBs o_isi isiG_fine (sa_cons se_var (sa_cons (se_of sf_opq) sa_nil))))) (sb_or (sb_test (sf_op2 o_ne eqG_fine (se_of (sf_callBs o_len lenG_fine (sa_cons se_var sa_nil))) (se_of sf_int))) (sb_not (sb_B (sf_callBs o_all allG_fine (sa_cons (se_of (sf_lc (si_seq se_var) sg_name (by decide) sb_yes (se_of (sf_call0 (sa_cons se_var (sa_cons (se_of sf_int) (sa_cons (se_of sf_non) sa_nil))))))) sa_nil)))))) ss_never ss_nil) (ss_seq (ss_drop (sf_call0 (sa_cons se_var (sa_cons (se_of (sf_op2s o_mul mulG_fine (se_of sf_int) se_var)) sa_nil)))) (ss_ret (sf_call0 (sa_cons se_var (sa_cons se_var (sa_cons se_var sa_nil)))))))) (by decide) h
theorem ok_weavings (T : Txt K mg) : FnOk P w K mg base CX0 3 T.a_weavings T.fd_weavings ["rounds"] (spD0 K G_weavings) := by
  refine T.F_weavings.ok sc_weavings (fun vs H Q E h => spD0_len h) (fun cdv A outer s H vs Q E hr h => ?_)
  exact ex_body0 (N := N_weavings) (body := m_weavings) (pss_cons (ps_expr (pe_call (ok_sure_rounds T) (hr.mono (by decide)) (by rfl) T.g_sure_rounds T.F_sure_rounds.kp T.b_sure_rounds .nil pass0 (pa_cons (pv 0) (pa_cons (pe_glob (v := .int 3) (by rfl) (Classical.choose_spec T.g_MOST_WOVEN) ⟨_, rfl⟩) pa_nil)))) (pss_cons (ps_set (i := 1) sc_weavings.nd rfl (by first | exact .inl rfl | exact .inr rfl) (pe_lst (pa_cons (pe_lst pa_nil) pa_nil))) (pss_cons (ps_for PassesOwn.never rfl (pi_range1 (by rfl) T.m_range (pa_cons (pe_op op_mulA pe_int (pv 0)) pa_nil)) (pg_name (i := 2) sc_weavings.nd rfl (by first | exact .inl rfl | exact .inr rfl)) (pss_one (ps_setLc2 (i := 1) (own := [("row", 3), ("hand", 4)]) rfl sc_weavings.nd rfl rfl (sw_true rfl rfl rfl (by decide +kernel)) (pi_seqK (K := K) rfl (pv 1)) (blkOk_by (own := [("row", 3), ("hand", 4)]) (N := N_weavings) (sc := defScope s_weavings) (by decide +kernel)) (vs1 := [4]) (by decide) (fun _ _ _ _ _ => (pg_name (i := 3) sc_weavings.nd rfl (by first | exact .inl rfl | exact .inr rfl))) (fun _ _ _ _ _ => pts_nil) (fun _ _ _ _ _ => (pi_seqK (K := K) rfl (pe_glob (v := .ref T.a_HANDS) (by rfl) T.g_HANDS rfl))) (fun _ _ _ _ _ => (pg_name (i := 4) sc_weavings.nd rfl (by first | exact .inl rfl | exact .inr rfl))) (fun _ _ _ _ _ => (pts_one (pt_cmpR op_lt (pe_bmK (K := K) rfl (pe_bm PySem.F.plainAttrs_list PySem.F.slot_list_count PySem.F.type_list_count (mt_countK (K := K) rfl) (pv 3) (pa_cons (pv 4) pa_nil))) (pe_op op_mulA pe_int (pv 0)) (nomark _)))) (fun _ _ _ _ _ => (pe_op (op_addK (K := K) rfl) (pv 3) (pe_lst (pa_cons (pv 4) pa_nil))))))) (pss_one (ps_ret (pv 1)))))) (ss_seq (ss_drop (sf_call0 (sa_cons se_var (sa_cons (se_of sf_int) sa_nil)))) (ss_seq (ss_set (sf_lstT (st_cons (sf_lstT st_nil) st_nil))) (ss_seq (ss_for (si_rng1 (sa_cons (se_of (sf_op2s o_mul mulG_fine (se_of sf_int) se_var)) sa_nil)) sg_name (ss_set (sf_lc2M (md := .t) (si_seq se_var) sg_name (by decide) sb_yes (si_seq (se_of (sf_glob T.c_HANDS))) sg_name (by decide) (by decide) (sb_test (sf_op2 o_cmp cmpG_fine (se_of (sf_methL o_count countG_fine se_var (sa_cons se_var sa_nil))) (se_of (sf_op2s o_mul mulG_fine (se_of sf_int) se_var)))) (sf_own (sf_op2s o_add addG_fine se_var (se_of (sf_lst (sa_cons se_var sa_nil)))))))) ss_retVar))) (by decide) h
theorem ok_sure_hand (T : Txt K mg) : FnOk P w K mg base CX0 2 T.a_sure_hand T.fd_sure_hand ["hand"] (spD0 K G_sure_hand) := by
  refine T.F_sure_hand.ok sc_sure_hand (fun vs H Q E h => spD0_len h) (fun cdv A outer s H vs Q E hr h => ?_)
  exact ex_body0 (N := N_sure_hand) (body := m_sure_hand) (pss_one (ps_if (pt_not (pt_val (pe_call (ok_is_from T) (hr.mono (by decide)) (by rfl) T.g_is_from T.F_is_from.kp T.b_is_from .nil pass0 (pa_cons (pv 0) (pa_cons pe_int (pa_cons pe_int pa_nil)))))) (pss_one ps_never) pss_nil)) (ss_if (sb_not (sb_B (sf_call0 (sa_cons se_var (sa_cons (se_of sf_int) (sa_cons (se_of sf_int) sa_nil)))))) ss_never ss_nil) (by decide) h
theorem ok_both_of (T : Txt K mg) : FnOk P w K mg base CX0 1 T.a_both_of T.fd_both_of ["one", "other"] (spD0 K G_both_of) := by
  refine T.F_both_of.ok sc_both_of (fun vs H Q E h => spD0_len h) (fun cdv A outer s H vs Q E hr h => ?_)
  exact ex_body0 (N := N_both_of) (body := m_both_of) (pss_one (ps_ret (pe_callTy (call_tupleK (K := K) rfl) (by rfl) T.m_tuple (by decide +kernel) (pa_cons (pe_lc (own := [("first", 2), ("second", 3)]) rfl sc_both_of.nd (pi_zipK (K := K) rfl (by rfl) T.m_zip (pa_cons (pv 0) (pa_cons (pv 1) pa_nil))) (blkOk_by (own := [("first", 2), ("second", 3)]) (N := N_both_of) (sc := defScope s_both_of) (by decide +kernel)) (fun _ _ _ _ _ => (pg_K (K := K) (n := 2) rfl (pg_tup rfl (pgs_cons (pg_name (i := 2) sc_both_of.nd rfl (by first | exact .inl rfl | exact .inr rfl)) (pgs_cons (pg_name (i := 3) sc_both_of.nd rfl (by first | exact .inl rfl | exact .inr rfl)) pgs_nil))))) (fun _ _ _ _ _ => pts_nil) (fun _ _ _ _ _ => (pe_ifExp (pt_cmpR op_isN (pv 2) pe_non (nomark _)) (pv 3) (pv 2)))) pa_nil)))) (ss_ret (sf_callBs o_tuple tupleG_fine (sa_cons (se_of (sf_lc (si_zip (sa_cons se_var (sa_cons se_var sa_nil))) (sg_tup (sgs_cons sg_name (sgs_cons sg_name sgs_nil))) (by decide) sb_yes (se_of (sf_if (sb_test (sf_op2 o_isN isNG_fine se_var (se_of sf_non))) (sf_keep se_var) (sf_keep se_var))))) sa_nil))) (by decide) h
theorem ok_fit (T : Txt K mg) : FnOk P w K mg base CX0 1 T.a_fit T.fd_fit ["one", "other"] (spD0 K G_fit) := by
  refine T.F_fit.ok sc_fit (fun vs H Q E h => spD0_len h) (fun cdv A outer s H vs Q E hr h => ?_)
  exact ex_body0 (N := N_fit) (body := m_fit) (pss_one (ps_ret (pe_callB (call_allK (K := K) rfl rfl) (by rfl) T.m_all (by decide +kernel) (pa_cons (pe_lc (own := [("first", 2), ("second", 3)]) rfl sc_fit.nd (pi_zipK (K := K) rfl (by rfl) T.m_zip (pa_cons (pv 0) (pa_cons (pv 1) pa_nil))) (blkOk_by (own := [("first", 2), ("second", 3)]) (N := N_fit) (sc := defScope s_fit) (by decide +kernel)) (fun _ _ _ _ _ => (pg_K (K := K) (n := 2) rfl (pg_tup rfl (pgs_cons (pg_name (i := 2) sc_fit.nd rfl (by first | exact .inl rfl | exact .inr rfl)) (pgs_cons (pg_name (i := 3) sc_fit.nd rfl (by first | exact .inl rfl | exact .inr rfl)) pgs_nil))))) (fun _ _ _ _ _ => pts_nil) (fun _ _ _ _ _ => (pe_or (pe_cmpR op_isN (pv 2) pe_non (nomark _)) (pe_or (pe_cmpR op_isN (pv 3) pe_non (nomark _)) (pe_one (pe_cmpR (op_eqK (K := K) rfl hr.units) (pv 2) (pv 3) (nomark _))))))) pa_nil)))) (ss_ret (sf_callBs o_all allG_fine (sa_cons (se_of (sf_lc (si_zip (sa_cons se_var (sa_cons se_var sa_nil))) (sg_tup (sgs_cons sg_name (sgs_cons sg_name sgs_nil))) (by decide) sb_yes (se_of (sf_or (sf_op2 o_isN isNG_fine se_var (se_of sf_non)) (sf_or (sf_op2 o_isN isNG_fine se_var (se_of sf_non)) (sf_op2 o_eq eqG_fine se_var se_var)))))) sa_nil))) (by decide) h
theorem okn_spot_of (T : Txt K mg) : ∀ n : Nat, FnOk P w K mg base CX0 (2 + n) T.a_spot_of T.fd_spot_of ["thing", "hand", "most"] (spD0 K (G_spot_of n))
  | 0 => T.F_spot_of.ok sc_spot_of (fun vs H Q E h => (spD0_stuck h).elim) (fun cdv A outer s H vs Q E hr h => (spD0_stuck h).elim)
  | n + 1 => by
    have ih := okn_spot_of T n
    refine T.F_spot_of.ok (k := 2 + n) sc_spot_of (fun vs H Q E h => spD0_len h) (fun cdv A outer s H vs Q E hr h => ?_)
    refine ⟨_, (pss_cons (ps_if (pt_val (pe_call (ok_is_from T) (hr.mono (by omega)) (by rfl) T.g_is_from T.F_is_from.kp T.b_is_from .nil pass0 (pa_cons (pv 0) (pa_cons pe_int (pa_cons pe_non pa_nil))))) (pss_one (ps_ret (pe_tup (pa_cons pe_int (pa_cons (pv 1) (pa_cons (pe_callTy (call_tupleK (K := K) rfl) (by rfl) T.m_tuple (by decide +kernel) (pa_cons (pe_lc (own := [("one", 9)]) rfl sc_spot_of.nd (pi_seqK (K := K) rfl (pe_glob (v := .ref T.a_HANDS) (by rfl) T.g_HANDS rfl)) (blkOk_by (own := [("one", 9)]) (N := N_spot_of) (sc := defScope s_spot_of) (by decide +kernel)) (fun _ _ _ _ _ => (pg_name (i := 9) sc_spot_of.nd rfl (by first | exact .inl rfl | exact .inr rfl))) (fun _ _ _ _ _ => pts_nil) (fun _ _ _ _ _ => (pe_ifExp (pt_cmpR (op_eqK (K := K) rfl hr.units) (pv 1) (pv 9) (nomark _)) (pv 0) pe_non))) pa_nil)) pa_nil)))))) pss_nil) (pss_cons (ps_if (PW.pt (pw_or (pt_not (pt_val (pe_callB (call_isiK' (K := K) rfl) (by rfl) T.m_isinstance (by decide +kernel) (pa_cons (pv 0) (pa_cons (pe_bltn (v := .ty "tuple") (by rfl) T.m_tuple (by decide +kernel) rfl) pa_nil))))) (pw_or (pt_cmpR (op_neK (K := K) rfl hr.units) (pe_callB (call_lenK (K := K) rfl) (by rfl) T.m_len PySem.boot_len (pa_cons (pv 0) pa_nil)) pe_int (nomark _)) (pw_or1 (pt_cmpR (op_eqK (K := K) rfl hr.units) (pv 2) pe_int (nomark _)))))) (pss_one ps_never) pss_nil) (pss_cons (ps_asg (pe_call ih hr (by rfl) T.g_spot_of T.F_spot_of.kp T.b_spot_of .nil pass0 (pa_cons (pe_ix (ix_seqK (K := K) rfl) (pv 0) pe_int (fun _ _ => rfl)) (pa_cons (pv 1) (pa_cons (pe_op op_sub (pv 2) pe_int) pa_nil)))) (pg_K (K := K) (n := 3) rfl (pg_tup rfl (pgs_cons (pg_name (i := 3) sc_spot_of.nd rfl (by first | exact .inl rfl | exact .inr rfl)) (pgs_cons (pg_name (i := 4) sc_spot_of.nd rfl (by first | exact .inl rfl | exact .inr rfl)) (pgs_cons (pg_name (i := 5) sc_spot_of.nd rfl (by first | exact .inl rfl | exact .inr rfl)) pgs_nil)))))) (pss_cons (ps_if (pt_cmpR op_isN (pe_ix (ix_seqK (K := K) rfl) (pv 0) pe_int (fun _ _ => rfl)) pe_non (nomark _)) (pss_one (ps_ret (pe_tup (pa_cons (pe_op (op_addK (K := K) rfl) (pv 3) pe_int) (pa_cons (pe_op op_mulA pe_int (pv 4)) (pa_cons (pv 5) pa_nil)))))) pss_nil) (pss_cons (ps_asg (pe_call ih hr (by rfl) T.g_spot_of T.F_spot_of.kp T.b_spot_of .nil pass0 (pa_cons (pe_ix (ix_seqK (K := K) rfl) (pv 0) pe_int (fun _ _ => rfl)) (pa_cons (pe_op op_sub pe_int (pv 1)) (pa_cons (pe_op op_sub (pv 2) pe_int) pa_nil)))) (pg_K (K := K) (n := 3) rfl (pg_tup rfl (pgs_cons (pg_name (i := 6) sc_spot_of.nd rfl (by first | exact .inl rfl | exact .inr rfl)) (pgs_cons (pg_name (i := 7) sc_spot_of.nd rfl (by first | exact .inl rfl | exact .inr rfl)) (pgs_cons (pg_name (i := 8) sc_spot_of.nd rfl (by first | exact .inl rfl | exact .inr rfl)) pgs_nil)))))) (pss_cons (ps_if (PW.pt (pw_or (pt_cmpR (op_neK (K := K) rfl hr.units) (pv 6) (pv 3) (nomark _)) (pw_or (pt_cmpR (op_neK (K := K) rfl hr.units) (pe_callB call_abs (by rfl) T.m_abs (by decide +kernel) (pa_cons (pe_op op_sub (pv 7) (pv 4)) pa_nil)) pe_int (nomark _)) (pw_or1 (pt_not (pt_val (pe_call (ok_fit T) (hr.mono (by omega)) (by rfl) T.g_fit T.F_fit.kp T.b_fit .nil pass0 (pa_cons (pv 5) (pa_cons (pv 8) pa_nil))))))))) (pss_one ps_never) pss_nil) (pss_one (ps_ret (pe_tup (pa_cons (pe_op (op_addK (K := K) rfl) (pv 3) pe_int) (pa_cons (pe_op (op_addK (K := K) rfl) (pe_op op_mulA pe_int (pv 4)) (pe_op op_mulA pe_int (pe_op op_sub (pv 7) (pv 4)))) (pa_cons (pe_call (ok_both_of T) (hr.mono (by omega)) (by rfl) T.g_both_of T.F_both_of.kp T.b_both_of .nil pass0 (pa_cons (pv 5) (pa_cons (pv 8) pa_nil))) pa_nil)))))))))))), ?_⟩
    exact body0 (N := N_spot_of) (body := m_spot_of (G_spot_of n)) (ss_seq (ss_if (sb_B (sf_call0 (sa_cons se_var (sa_cons (se_of sf_int) (sa_cons (se_of sf_non) sa_nil))))) (ss_ret (sf_tup (sa_cons (se_of sf_int) (sa_cons se_var (sa_cons (se_of (sf_callBs o_tuple tupleG_fine (sa_cons (se_of (sf_lc (si_seq (se_of (sf_glob T.c_HANDS))) sg_name (by decide) sb_yes (se_of (sf_if (sb_test (sf_op2 o_eq eqG_fine se_var se_var)) (sf_keep se_var) sf_non)))) sa_nil))) sa_nil))))) ss_nil) (ss_seq (ss_if (sb_or (sb_not (sb_B (sf_callBs o_isi isiG_fine (sa_cons se_var (sa_cons (se_of sf_opq) sa_nil))))) (sb_or (sb_test (sf_op2 o_ne eqG_fine (se_of (sf_callBs o_len lenG_fine (sa_cons se_var sa_nil))) (se_of sf_int))) (sb_test (sf_op2 o_eq eqG_fine se_var (se_of sf_int))))) ss_never ss_nil) (ss_seq (ss_asg (sf_call0 (sa_cons (se_of (sf_op2 o_ix ixG_fine se_var (se_of sf_int))) (sa_cons se_var (sa_cons (se_of (sf_op2 o_sub subG_fine se_var (se_of sf_int))) sa_nil)))) (sg_tup (sgs_cons sg_name (sgs_cons sg_name (sgs_cons sg_name sgs_nil))))) (ss_seq (ss_if (sb_test (sf_op2 o_isN isNG_fine (se_of (sf_op2 o_ix ixG_fine se_var (se_of sf_int))) (se_of sf_non))) (ss_ret (sf_tup (sa_cons (se_of (sf_op2s o_add addG_fine se_var (se_of sf_int))) (sa_cons (se_of (sf_op2s o_mul mulG_fine (se_of sf_int) se_var)) (sa_cons se_var sa_nil))))) ss_nil) (ss_seq (ss_asg (sf_call0 (sa_cons (se_of (sf_op2 o_ix ixG_fine se_var (se_of sf_int))) (sa_cons (se_of (sf_op2 o_sub subG_fine (se_of sf_int) se_var)) (sa_cons (se_of (sf_op2 o_sub subG_fine se_var (se_of sf_int))) sa_nil)))) (sg_tup (sgs_cons sg_name (sgs_cons sg_name (sgs_cons sg_name sgs_nil))))) (ss_seq (ss_if (sb_or (sb_test (sf_op2 o_ne eqG_fine se_var se_var)) (sb_or (sb_test (sf_op2 o_ne eqG_fine (se_of (sf_callBs o_int1 int1G_fine (sa_cons (se_of (sf_op2 o_sub subG_fine se_var se_var)) sa_nil))) (se_of sf_int))) (sb_not (sb_B (sf_callP0 (sa_cons se_var (sa_cons se_var sa_nil))))))) ss_never ss_nil) (ss_ret (sf_tup (sa_cons (se_of (sf_op2s o_add addG_fine se_var (se_of sf_int))) (sa_cons (se_of (sf_op2s o_add addG_fine (se_of (sf_op2s o_mul mulG_fine (se_of sf_int) se_var)) (se_of (sf_op2s o_mul mulG_fine (se_of sf_int) (se_of (sf_op2 o_sub subG_fine se_var se_var)))))) (sa_cons (se_of (sf_callP0 (sa_cons se_var (sa_cons se_var sa_nil)))) sa_nil))))))))))) (by decide) h
theorem ok_spot_of (T : Txt K mg) : FnOk P w K mg base CX0 8 T.a_spot_of T.fd_spot_of ["thing", "hand", "most"] (spD0 K (G_spot_of 6)) := okn_spot_of T 6
theorem ok_place (T : Txt K mg) : FnOk P w K mg base CX0 9 T.a_place T.fd_place ["known", "hand"] (spD0 K G_place) := by
  refine T.F_place.ok sc_place (fun vs H Q E h => spD0_len h) (fun cdv A outer s H vs Q E hr h => ?_)
  exact ex_body0 (N := N_place) (body := m_place) (pss_cons (ps_expr (pe_call (ok_sure_hand T) (hr.mono (by decide)) (by rfl) T.g_sure_hand T.F_sure_hand.kp T.b_sure_hand .nil pass0 (pa_cons (pv 1) pa_nil))) (pss_one (ps_ret (pe_ix (ix_seqK (K := K) rfl) (pe_call (ok_spot_of T) (hr.mono (by decide)) (by rfl) T.g_spot_of T.F_spot_of.kp T.b_spot_of .nil pass0 (pa_cons (pv 0) (pa_cons (pv 1) (pa_cons (pe_glob (v := .int 5) (by rfl) (Classical.choose_spec T.g_MOST_ROUNDS) ⟨_, rfl⟩) pa_nil)))) pe_int (fun _ _ => rfl))))) (ss_seq (ss_drop (sf_call0 (sa_cons se_var sa_nil))) (ss_ret (sf_op2 o_ix ixG_fine (se_of (sf_call0 (sa_cons se_var (sa_cons se_var (sa_cons (se_of sf_int) sa_nil))))) (se_of sf_int)))) (by decide) h
theorem ok__law_cell_at (T : Txt K mg) : FnOk P w K mg base CX0 1 T.a__law_cell_at T.fd__law_cell_at ["_law_script", "_law_k"] (spD0 K G__law_cell_at) := by
  refine T.F__law_cell_at.ok sc__law_cell_at (fun vs H Q E h => spD0_len h) (fun cdv A outer s H vs Q E hr h => ?_)
  exact ex_body0 (N := N__law_cell_at) (body := m__law_cell_at) (pss_cons (ps_if (pt_cmpR op_lt (pv 1) (pe_callB (call_lenK (K := K) rfl) (by rfl) T.m_len PySem.boot_len (pa_cons (pv 0) pa_nil)) (nomark _)) (pss_one (ps_ret (pe_ix (ix_seqK (K := K) rfl) (pv 0) (pv 1) (fun _ _ => rfl)))) pss_nil) (pss_one (ps_ret pe_int))) (ss_seq (ss_if (sb_test (sf_op2 o_cmp cmpG_fine se_var (se_of (sf_callBs o_len lenG_fine (sa_cons se_var sa_nil))))) (ss_ret (sf_op2 o_ix ixG_fine se_var se_var)) ss_nil) (ss_ret sf_int)) (by decide) h
theorem ok__law_well (T : Txt K mg) : FnOk P w K mg base CX0 1 T.a__law_well T.fd__law_well ["_law_cell"] (spD0 K G__law_well) := by
  refine T.F__law_well.ok sc__law_well (fun vs H Q E h => spD0_len h) (fun cdv A outer s H vs Q E hr h => ?_)
  exact ex_body0 (N := N__law_well) (body := m__law_well) (pss_one (ps_ret (pe_lst (pa_cons (pe_op op_mulA (pv 0) (pe_callTy call_int1 (by rfl) T.m_int (by decide +kernel) (pa_cons (pe_cmpR op_ge (pv 0) (pe_op op_pow pe_int pe_int) (nomark _)) pa_nil))) (pa_cons (pe_op op_mod (pv 0) pe_int) (pa_cons pe_int pa_nil)))))) (ss_ret (sf_lst (sa_cons (se_of (sf_op2s o_mul mulG_fine se_var (se_of (sf_callBs o_intc intG_fine (sa_cons (se_of (sf_op2 o_cmp cmpG_fine se_var (se_of (sf_op2 o_num numG_fine (se_of sf_int) (se_of sf_int))))) sa_nil))))) (sa_cons (se_of (sf_op2 o_num numG_fine se_var (se_of sf_int))) (sa_cons (se_of sf_int) sa_nil))))) (by decide) h
theorem ok__law_draw (T : Txt K mg) : FnOk P w K mg base CX0 1 T.a__law_draw T.fd__law_draw ["_law_well_here", "_law_many"] (spD0 K G__law_draw) := by
  refine T.F__law_draw.ok sc__law_draw (fun vs H Q E h => spD0_len h) (fun cdv A outer s H vs Q E hr h => ?_)
  exact ex_body0 (N := N__law_draw) (body := m__law_draw) (pss_cons (ps_if (pt_cmpR op_gt (pe_ix (ix_seqK (K := K) rfl) (pv 0) pe_int (fun _ _ => rfl)) pe_int (nomark _)) (pss_cons (ps_set (i := 3) sc__law_draw.nd rfl (by first | exact .inl rfl | exact .inr rfl) (pe_op op_mod (pe_ix (ix_seqK (K := K) rfl) (pv 0) pe_int (fun _ _ => rfl)) (pv 1))) (pss_cons (ps_asg (pe_op op_fdivW (pe_ix (ix_seqK (K := K) rfl) (pv 0) pe_int (fun _ _ => rfl)) (pv 1)) (pg_sub (pv 0) pe_int set_list)) (pss_one (ps_ret (pv 3))))) pss_nil) (pss_cons (ps_asg (pe_op (op_addK (K := K) rfl) (pe_ix (ix_seqK (K := K) rfl) (pv 0) pe_int (fun _ _ => rfl)) pe_int) (pg_sub (pv 0) pe_int set_list)) (pss_cons (ps_set (i := 2) sc__law_draw.nd rfl (by first | exact .inl rfl | exact .inr rfl) (pe_op op_mod (pe_op op_mulA (pe_op (op_addK (K := K) rfl) (pe_op (op_addK (K := K) rfl) (pe_ix (ix_seqK (K := K) rfl) (pv 0) pe_int (fun _ _ => rfl)) (pe_op op_mulA pe_int (pe_ix (ix_seqK (K := K) rfl) (pv 0) pe_int (fun _ _ => rfl)))) pe_int) pe_int) pe_int)) (pss_cons (ps_set (i := 2) sc__law_draw.nd rfl (by first | exact .inl rfl | exact .inr rfl) (pe_op op_mod (pe_op op_mulA (pv 2) (pe_op (op_addK (K := K) rfl) (pe_op (op_addK (K := K) rfl) (pe_op op_fdivW (pv 2) pe_int) pe_int) (pe_ix (ix_seqK (K := K) rfl) (pv 0) pe_int (fun _ _ => rfl)))) pe_int)) (pss_one (ps_ret (pe_op op_mod (pe_op op_fdivW (pe_op op_mod (pe_op op_mulA (pv 2) (pe_op (op_addK (K := K) rfl) (pe_op op_fdivW (pv 2) pe_int) pe_int)) pe_int) pe_int) (pv 1)))))))) (ss_seq (ss_if (sb_test (sf_op2 o_cmp cmpG_fine (se_of (sf_op2 o_ix ixG_fine se_var (se_of sf_int))) (se_of sf_int))) (ss_seq (ss_set (sf_op2 o_num numG_fine (se_of (sf_op2 o_ix ixG_fine se_var (se_of sf_int))) se_var)) (ss_seq (ss_setIx (sf_op2 o_num numG_fine (se_of (sf_op2 o_ix ixG_fine se_var (se_of sf_int))) se_var) (se_of sf_int)) ss_retVar)) ss_nil) (ss_seq (ss_setIx (sf_op2s o_add addG_fine (se_of (sf_op2 o_ix ixG_fine se_var (se_of sf_int))) (se_of sf_int)) (se_of sf_int)) (ss_seq (ss_set (sf_op2 o_num numG_fine (se_of (sf_op2s o_mul mulG_fine (se_of (sf_op2s o_add addG_fine (se_of (sf_op2s o_add addG_fine (se_of (sf_op2 o_ix ixG_fine se_var (se_of sf_int))) (se_of (sf_op2s o_mul mulG_fine (se_of sf_int) (se_of (sf_op2 o_ix ixG_fine se_var (se_of sf_int))))))) (se_of sf_int))) (se_of sf_int))) (se_of sf_int))) (ss_seq (ss_set (sf_op2 o_num numG_fine (se_of (sf_op2s o_mul mulG_fine se_var (se_of (sf_op2s o_add addG_fine (se_of (sf_op2s o_add addG_fine (se_of (sf_op2 o_num numG_fine se_var (se_of sf_int))) (se_of sf_int))) (se_of (sf_op2 o_ix ixG_fine se_var (se_of sf_int))))))) (se_of sf_int))) (ss_ret (sf_op2 o_num numG_fine (se_of (sf_op2 o_num numG_fine (se_of (sf_op2 o_num numG_fine (se_of (sf_op2s o_mul mulG_fine se_var (se_of (sf_op2s o_add addG_fine (se_of (sf_op2 o_num numG_fine se_var (se_of sf_int))) (se_of sf_int))))) (se_of sf_int))) (se_of sf_int))) se_var)))))) (by decide) h
theorem ok__law_one (T : Txt K mg) : FnOk P w K mg base CX0 2 T.a__law_one T.fd__law_one ["_law_well_here", "_law_some"] (spD0 K G__law_one) := by
  refine T.F__law_one.ok sc__law_one (fun vs H Q E h => spD0_len h) (fun cdv A outer s H vs Q E hr h => ?_)
  exact ex_body0 (N := N__law_one) (body := m__law_one) (pss_one (ps_ret (pe_ix (ix_seqK (K := K) rfl) (pv 1) (pe_call (ok__law_draw T) (hr.mono (by decide)) (by rfl) T.g__law_draw T.F__law_draw.kp T.b__law_draw .nil pass0 (pa_cons (pv 0) (pa_cons (pe_callB (call_lenK (K := K) rfl) (by rfl) T.m_len PySem.boot_len (pa_cons (pv 1) pa_nil)) pa_nil))) (fun _ _ => rfl)))) (ss_ret (sf_op2 o_ix ixG_fine se_var (se_of (sf_call0 (sa_cons se_var (sa_cons (se_of (sf_callBs o_len lenG_fine (sa_cons se_var sa_nil))) sa_nil)))))) (by decide) h
theorem ok__law_power (T : Txt K mg) : FnOk P w K mg base CX0 1 T.a__law_power T.fd__law_power ["_law_deep"] (spD0 K G__law_power) := by
  refine T.F__law_power.ok sc__law_power (fun vs H Q E h => spD0_len h) (fun cdv A outer s H vs Q E hr h => ?_)
  exact ex_body0 (N := N__law_power) (body := m__law_power) (pss_cons (ps_set (i := 1) sc__law_power.nd rfl (by first | exact .inl rfl | exact .inr rfl) pe_int) (pss_cons (ps_for PassesOwn.never rfl (pi_range1 (by rfl) T.m_range (pa_cons (pv 0) pa_nil)) (pg_name (i := 2) sc__law_power.nd rfl (by first | exact .inl rfl | exact .inr rfl)) (pss_one (ps_set (i := 1) sc__law_power.nd rfl (by first | exact .inl rfl | exact .inr rfl) (pe_op op_mulA pe_int (pv 1))))) (pss_one (ps_ret (pv 1))))) (ss_seq (ss_set sf_int) (ss_seq (ss_for (si_rng1 (sa_cons se_var sa_nil)) sg_name (ss_set (sf_op2s o_mul mulG_fine (se_of sf_int) se_var))) ss_retVar)) (by decide) h
theorem ok__law_plain (T : Txt K mg) : FnOk P w K mg base CX0 1 T.a__law_plain T.fd__law_plain ["_law_thing"] (spD0 K G__law_plain) := by
  refine T.F__law_plain.ok sc__law_plain (fun vs H Q E h => spD0_len h) (fun cdv A outer s H vs Q E hr h => ?_)
  exact ex_body0 (N := N__law_plain) (body := m__law_plain) (pss_cons (ps_while PassesOwn.never (pt_val (pe_callB (call_isiK' (K := K) rfl) (by rfl) T.m_isinstance (by decide +kernel) (pa_cons (pv 0) (pa_cons (pe_bltn (v := .ty "tuple") (by rfl) T.m_tuple (by decide +kernel) rfl) pa_nil)))) (pss_cons (ps_if (pt_cmpR op_notN (pe_ix (ix_seqK (K := K) rfl) (pv 0) pe_int (fun _ _ => rfl)) pe_non (nomark _)) (pss_one (ps_ret pe_bl)) pss_nil) (pss_one (ps_set (i := 0) sc__law_plain.nd rfl (by first | exact .inl rfl | exact .inr rfl) (pe_ix (ix_seqK (K := K) rfl) (pv 0) pe_int (fun _ _ => rfl)))))) (pss_one (ps_ret pe_bl))) (ss_seq (ss_while (sb_B (sf_callBs o_isi isiG_fine (sa_cons se_var (sa_cons (se_of sf_opq) sa_nil)))) (ss_seq (ss_if (sb_test (sf_op2 o_notN isNG_fine (se_of (sf_op2 o_ix ixG_fine se_var (se_of sf_int))) (se_of sf_non))) (ss_ret sf_bl) ss_nil) (ss_set (sf_op2 o_ix ixG_fine se_var (se_of sf_int))))) (ss_ret sf_bl)) (by decide) h
theorem ok__law_met (T : Txt K mg) : FnOk P w K mg base CX0 1 T.a__law_met T.fd__law_met ["_law_thing", "_law_other"] (spD0 K G__law_met) := by
  refine T.F__law_met.ok sc__law_met (fun vs H Q E h => spD0_len h) (fun cdv A outer s H vs Q E hr h => ?_)
  exact ex_body0 (N := N__law_met) (body := m__law_met) (pss_cons (ps_set (i := 2) sc__law_met.nd rfl (by first | exact .inl rfl | exact .inr rfl) (pe_lst (pa_cons (pv 0) pa_nil))) (pss_cons (ps_while PassesOwn.never (pt_cmpR (op_neK (K := K) rfl hr.units) (pv 2) (pe_lst pa_nil) (nomark _)) (pss_cons (ps_set (i := 3) sc__law_met.nd rfl (by first | exact .inl rfl | exact .inr rfl) (pe_bm0K (K := K) rfl (pe_bm0 PySem.F.plainAttrs_list PySem.F.slot_list_pop PySem.F.type_list_pop mt_pop (pv 2)))) (pss_one (ps_if (pt_val (pe_callB (call_isiK' (K := K) rfl) (by rfl) T.m_isinstance (by decide +kernel) (pa_cons (pv 3) (pa_cons (pe_bltn (v := .ty "tuple") (by rfl) T.m_tuple (by decide +kernel) rfl) pa_nil)))) (pss_one (ps_expr (pe_bmK (K := K) rfl (pe_bm PySem.F.plainAttrs_list PySem.F.slot_list_extend PySem.F.type_list_extend mt_extend (pv 2) (pa_cons (pe_callTy (call_listK (K := K) rfl) (by rfl) T.m_list (by decide +kernel) (pa_cons (pv 3) pa_nil)) pa_nil))))) (pss_one (ps_if (pt_cmpR (op_eqK (K := K) rfl hr.units) (pv 3) (pv 1) (nomark _)) (pss_one (ps_ret pe_bl)) pss_nil)))))) (pss_one (ps_ret pe_bl)))) (ss_seq (ss_set (sf_lst (sa_cons se_var sa_nil))) (ss_seq (ss_while (sb_test (sf_op2 o_ne eqG_fine se_var (se_of (sf_lst sa_nil)))) (ss_seq (ss_set (sf_mut0 o_pop)) (ss_if (sb_B (sf_callBs o_isi isiG_fine (sa_cons se_var (sa_cons (se_of sf_opq) sa_nil)))) (ss_drop (sf_mut o_extend (sa_cons (se_of (sf_callBs o_list listG_fine (sa_cons se_var sa_nil))) sa_nil))) (ss_if (sb_test (sf_op2 o_eq eqG_fine se_var se_var)) (ss_ret sf_bl) ss_nil)))) (ss_ret sf_bl))) (by decide) h
theorem ok__law_lines (T : Txt K mg) : FnOk P w K mg base CX0 10 T.a__law_lines T.fd__law_lines ["_law_inputs", "_law_deep"] (spD0 K G__law_lines) := by
  refine T.F__law_lines.ok sc__law_lines (fun vs H Q E h => spD0_len h) (fun cdv A outer s H vs Q E hr h => ?_)
  exact ex_body0 (N := N__law_lines) (body := m__law_lines) (pss_cons (ps_set (i := 2) sc__law_lines.nd rfl (by first | exact .inl rfl | exact .inr rfl) pe_dnewK) (pss_cons (ps_set (i := 3) sc__law_lines.nd rfl (by first | exact .inl rfl | exact .inr rfl) pe_dnewK) (pss_cons (ps_for PassesOwn.never rfl (pi_seqK (K := K) rfl (pe_call (ok_weavings T) (hr.mono (by decide)) (by rfl) T.g_weavings T.F_weavings.kp T.b_weavings .nil pass0 (pa_cons (pv 1) pa_nil))) (pg_name (i := 4) sc__law_lines.nd rfl (by first | exact .inl rfl | exact .inr rfl)) (pss_cons (ps_set (i := 5) sc__law_lines.nd rfl (by first | exact .inl rfl | exact .inr rfl) (pe_callK (ok_known T) (hr.mono (by decide)) (by rfl) T.g_known T.F_known.kp T.k_known pass0 (pa_cons (pv 0) (pa_cons (pv 4) pa_nil)) (pk_cons (pv 1) pk_nil))) (pss_cons (ps_setLc (i := 6) (own := [("_law_hand", 7)]) rfl sc__law_lines.nd rfl rfl (sw_true rfl rfl rfl (by decide +kernel)) (pi_range1 (by rfl) T.m_range (pa_cons pe_int pa_nil)) (blkOk_by (own := [("_law_hand", 7)]) (N := N__law_lines) (sc := defScope s__law_lines) (by decide +kernel)) (fun _ _ _ _ _ => (pg_name (i := 7) sc__law_lines.nd rfl (by first | exact .inl rfl | exact .inr rfl))) (fun _ _ _ _ _ => pts_nil) (fun _ _ _ _ _ => (pe_call (ok_place T) (hr.mono (by decide)) (by rfl) T.g_place T.F_place.kp T.b_place .nil pass0 (pa_cons (pe_ix (ix_seqK (K := K) rfl) (pv 5) (pv 7) (fun _ _ => rfl)) (pa_cons (pv 7) pa_nil))))) (pss_cons (ps_for PassesOwn.never rfl (pi_range1 (by rfl) T.m_range (pa_cons pe_int pa_nil)) (pg_name (i := 7) sc__law_lines.nd rfl (by first | exact .inl rfl | exact .inr rfl)) (pss_one (ps_if (PW.pt (pw_or (pt_cmpR (op_neK (K := K) rfl hr.units) (pe_dsetd (pv 2) (pe_ix (ix_seqK (K := K) rfl) (pv 6) (pv 7) (fun _ _ => rfl)) (pe_ix (ix_seqK (K := K) rfl) (pv 5) (pv 7) (fun _ _ => rfl)) ⟨rfl, rfl, rfl, rfl⟩) (pe_ix (ix_seqK (K := K) rfl) (pv 5) (pv 7) (fun _ _ => rfl)) (nomark _)) (pw_or1 (pt_cmpR (op_neK (K := K) rfl hr.units) (pe_op op_mod (pe_ix (ix_seqK (K := K) rfl) (pv 6) (pv 7) (fun _ _ => rfl)) pe_int) (pv 7) (nomark _))))) (pss_one (ps_ret pe_non)) pss_nil))) (pss_cons (ps_if (pt_cmpR (op_neK (K := K) rfl hr.units) (pe_callB call_abs (by rfl) T.m_abs (by decide +kernel) (pa_cons (pe_op op_sub (pe_ix (ix_seqK (K := K) rfl) (pv 6) pe_int (fun _ _ => rfl)) (pe_ix (ix_seqK (K := K) rfl) (pv 6) pe_int (fun _ _ => rfl))) pa_nil)) pe_int (nomark _)) (pss_one (ps_ret pe_non)) pss_nil) (pss_one (ps_dput (hu_of hr) (pv 3) (pe_callB (call_minK (K := K) rfl rfl) (by rfl) T.m_min (by decide +kernel) (pa_cons (pv 6) pa_nil)) pe_bl rfl))))))) (pss_one (ps_ret (pe_tup (pa_cons (pv 2) (pa_cons (pe_callB (call_sortA (K := K) rfl rfl) (by rfl) T.m_sorted (by decide +kernel) (pa_cons (pv 3) pa_nil)) pa_nil)))))))) (ss_seq (ss_set sf_dnewK) (ss_seq (ss_set sf_dnewK) (ss_seq (ss_for (si_seq (se_of (sf_call0 (sa_cons se_var sa_nil)))) sg_name (ss_seq (ss_set (sf_callK0 (sa_cons se_var (sa_cons se_var sa_nil)) (sa_cons se_var sa_nil))) (ss_seq (ss_set (sf_lc (si_rng1 (sa_cons (se_of sf_int) sa_nil)) sg_name (by decide) sb_yes (se_of (sf_call0 (sa_cons (se_of (sf_op2 o_ix ixG_fine se_var se_var)) (sa_cons se_var sa_nil)))))) (ss_seq (ss_for (si_rng1 (sa_cons (se_of sf_int) sa_nil)) sg_name (ss_if (sb_or (sb_test (sf_op2 o_ne eqG_fine (se_of (sf_setd (i := 2) (se_of (sf_op2 o_ix ixG_fine se_var se_var)) (se_of (sf_op2 o_ix ixG_fine se_var se_var)))) (se_of (sf_op2 o_ix ixG_fine se_var se_var)))) (sb_test (sf_op2 o_ne eqG_fine (se_of (sf_op2 o_num numG_fine (se_of (sf_op2 o_ix ixG_fine se_var se_var)) (se_of sf_int))) se_var))) (ss_ret sf_non) ss_nil)) (ss_seq (ss_if (sb_test (sf_op2 o_ne eqG_fine (se_of (sf_callBs o_int1 int1G_fine (sa_cons (se_of (sf_op2 o_sub subG_fine (se_of (sf_op2 o_ix ixG_fine se_var (se_of sf_int))) (se_of (sf_op2 o_ix ixG_fine se_var (se_of sf_int))))) sa_nil))) (se_of sf_int))) (ss_ret sf_non) ss_nil) (ss_dput sf_bl (se_of (sf_callBs o_min minG_fine (sa_cons se_var sa_nil))))))))) (ss_ret (sf_tup (sa_cons se_var (sa_cons (se_of (sf_callBs o_sort sortG_fine (sa_cons se_var sa_nil))) sa_nil))))))) (by decide) h
theorem ok_law (T : Txt K mg) : FnOk P w K mg base CX0 11 T.a_law T.fd_law ["_law_script"] (spD0 K G_law) := by
  refine T.F_law.ok sc_law (fun vs H Q E h => spD0_len h) (fun cdv A outer s H vs Q E hr h => ?_)
  exact ex_body0 (N := N_law) (body := m_law) (pss_cons (ps_set (i := 1) sc_law.nd rfl (by first | exact .inl rfl | exact .inr rfl) (pe_call (ok__law_well T) (hr.mono (by decide)) (by rfl) T.g__law_well T.F__law_well.kp T.b__law_well .nil pass0 (pa_cons (pe_call (ok__law_cell_at T) (hr.mono (by decide)) (by rfl) T.g__law_cell_at T.F__law_cell_at.kp T.b__law_cell_at .nil pass0 (pa_cons (pv 0) (pa_cons pe_int pa_nil))) pa_nil))) (pss_cons (ps_set (i := 2) sc_law.nd rfl (by first | exact .inl rfl | exact .inr rfl) (pe_call (ok__law_one T) (hr.mono (by decide)) (by rfl) T.g__law_one T.F__law_one.kp T.b__law_one .nil pass0 (pa_cons (pv 1) (pa_cons (pe_lst (pa_cons pe_int (pa_cons pe_int (pa_cons pe_int (pa_cons pe_int (pa_cons pe_int (pa_cons pe_int pa_nil))))))) pa_nil)))) (pss_cons (ps_set (i := 3) sc_law.nd rfl (by first | exact .inl rfl | exact .inr rfl) (pe_tup (pa_cons (pe_call (ok__law_draw T) (hr.mono (by decide)) (by rfl) T.g__law_draw T.F__law_draw.kp T.b__law_draw .nil pass0 (pa_cons (pv 1) (pa_cons pe_int pa_nil))) (pa_cons (pe_op (op_addK (K := K) rfl) pe_int (pe_call (ok__law_draw T) (hr.mono (by decide)) (by rfl) T.g__law_draw T.F__law_draw.kp T.b__law_draw .nil pass0 (pa_cons (pv 1) (pa_cons (pe_op op_pow pe_int pe_int) pa_nil)))) pa_nil)))) (pss_cons (ps_set (i := 4) sc_law.nd rfl (by first | exact .inl rfl | exact .inr rfl) (pe_call (ok__law_power T) (hr.mono (by decide)) (by rfl) T.g__law_power T.F__law_power.kp T.b__law_power .nil pass0 (pa_cons (pv 2) pa_nil))) (pss_cons (ps_set (i := 5) sc_law.nd rfl (by first | exact .inl rfl | exact .inr rfl) (pe_call (ok__law_lines T) (hr.mono (by decide)) (by rfl) T.g__law_lines T.F__law_lines.kp T.b__law_lines .nil pass0 (pa_cons (pv 3) (pa_cons (pv 2) pa_nil)))) (pss_cons (ps_if (PW.pt (pw_or (pt_cmpR op_isN (pv 5) pe_non (nomark _)) (pw_or (pt_cmpR (op_neK (K := K) rfl hr.units) (pe_callB (call_sortA (K := K) rfl rfl) (by rfl) T.m_sorted (by decide +kernel) (pa_cons (pe_ix (ix_seqK (K := K) rfl) (pv 5) pe_int (fun _ _ => rfl)) pa_nil)) (pe_listRg rfl (by rfl) T.m_list (prg_1 (by rfl) T.m_range (pe_op (op_addK (K := K) rfl) (pv 4) pe_int))) (nomark _)) (pw_or1 (pt_cmpR (op_neK (K := K) rfl hr.units) (pe_ix (ix_seqK (K := K) rfl) (pv 5) pe_int (fun _ _ => rfl)) (pe_listRg rfl (by rfl) T.m_list (prg_1 (by rfl) T.m_range (pv 4))) (nomark _)))))) (pss_one (ps_ret pe_bl)) pss_nil) (pss_cons (ps_lockOr (ps_for PassesOwn.never rfl (pi_items (pe_ix (ix_seqK (K := K) rfl) (pv 5) pe_int (fun _ _ => rfl))) (pg_K (K := K) (n := 2) rfl (pg_tup rfl (pgs_cons (pg_name (i := 6) sc_law.nd rfl (by first | exact .inl rfl | exact .inr rfl)) (pgs_cons (pg_name (i := 7) sc_law.nd rfl (by first | exact .inl rfl | exact .inr rfl)) pgs_nil)))) (pss_cons (ps_if (pt_cmpR (op_neK (K := K) rfl hr.units) (pe_call (ok__law_plain T) (hr.mono (by decide)) (by rfl) T.g__law_plain T.F__law_plain.kp T.b__law_plain .nil pass0 (pa_cons (pv 7) pa_nil)) (pe_cmpR (op_inA (K := K) rfl (units65 hr)) (pv 6) (pe_tup (pa_cons pe_int (pa_cons (pv 4) pa_nil))) (by with_unfolding_all rfl)) (nomark _)) (pss_one (ps_ret pe_bl)) pss_nil) (pss_one (ps_if (pt_cmpR (op_eqK (K := K) rfl hr.units) (pe_call (ok__law_met T) (hr.mono (by decide)) (by rfl) T.g__law_met T.F__law_met.kp T.b__law_met .nil pass0 (pa_cons (pv 7) (pa_cons (pe_ix (ix_seqK (K := K) rfl) (pv 3) (pe_op op_sub pe_int (pe_op op_mod (pv 6) pe_int)) (fun _ _ => rfl)) pa_nil))) (pe_cmpR (op_inA (K := K) rfl (units65 hr)) (pv 6) (pe_tup (pa_cons pe_int (pa_cons (pv 4) pa_nil))) (by with_unfolding_all rfl)) (nomark _)) (pss_one (ps_ret pe_bl)) pss_nil))))) (pss_one (ps_ret pe_bl))))))))) (ss_seq (ss_set (sf_callF0 (sf_call0 (sa_cons se_var (sa_cons (se_of sf_int) sa_nil))))) (ss_seq (ss_set (sf_call0 (sa_cons se_var (sa_cons (se_of (sf_lst (sa_cons (se_of sf_int) (sa_cons (se_of sf_int) (sa_cons (se_of sf_int) (sa_cons (se_of sf_int) (sa_cons (se_of sf_int) (sa_cons (se_of sf_int) sa_nil)))))))) sa_nil)))) (ss_seq (ss_set (sf_tup (sa_cons (se_of (sf_call0 (sa_cons se_var (sa_cons (se_of sf_int) sa_nil)))) (sa_cons (se_of (sf_op2s o_add addG_fine (se_of sf_int) (se_of (sf_call0 (sa_cons se_var (sa_cons (se_of (sf_op2 o_num numG_fine (se_of sf_int) (se_of sf_int))) sa_nil)))))) sa_nil)))) (ss_seq (ss_set (sf_call0 (sa_cons se_var sa_nil))) (ss_seq (ss_set (sf_call0 (sa_cons se_var (sa_cons se_var sa_nil)))) (ss_seq (ss_if (sb_or (sb_test (sf_op2 o_isN isNG_fine se_var (se_of sf_non))) (sb_or (sb_test (sf_op2 o_ne eqG_fine (se_of (sf_callBs o_sort sortG_fine (sa_cons (se_of (sf_op2 o_ix ixG_fine se_var (se_of sf_int))) sa_nil))) (se_of (sf_lr (se_of (sf_op2s o_add addG_fine se_var (se_of sf_int))))))) (sb_test (sf_op2 o_ne eqG_fine (se_of (sf_op2 o_ix ixG_fine se_var (se_of sf_int))) (se_of (sf_lr se_var)))))) (ss_ret sf_bl) ss_nil) (ss_seq (ss_forItems (sp_ix sp_var (se_of sf_int)) (sg_tup (sgs_cons sg_name (sgs_cons sg_name sgs_nil))) (ss_seq (ss_if (sb_test (sf_op2 o_ne eqG_fine (se_of (sf_call0 (sa_cons se_var sa_nil))) (se_of (sf_op2 o_in inG_fine se_var (se_of (sf_tup (sa_cons (se_of sf_int) (sa_cons se_var sa_nil)))))))) (ss_ret sf_bl) ss_nil) (ss_if (sb_test (sf_op2 o_eq eqG_fine (se_of (sf_call0 (sa_cons se_var (sa_cons (se_of (sf_op2 o_ix ixG_fine se_var (se_of (sf_op2 o_sub subG_fine (se_of sf_int) (se_of (sf_op2 o_num numG_fine se_var (se_of sf_int))))))) sa_nil)))) (se_of (sf_op2 o_in inG_fine se_var (se_of (sf_tup (sa_cons (se_of sf_int) (sa_cons se_var sa_nil)))))))) (ss_ret sf_bl) ss_nil))) (ss_ret sf_bl)))))))) (by decide) h
end
end My

namespace My
open PySem L2 DL
theorem is_from_int (i lo hi : Int) : G_is_from [⟨.p, .int i⟩, ⟨.p, .int lo⟩, ⟨.p, .int hi⟩] = .ret ⟨.p, .bl (decide (lo ≤ i) && decide (i ≤ hi))⟩ [.int i, .int lo, .int hi] := by
  by_cases h : i < lo
  · have h' : ¬ lo ≤ i := by omega
    simp [a_bindR, a_bindS, a_opd, a_constE, a_varE, a_keepE, a_op1, a_op2, a_nilA, a_consA, a_callB, a_tupE, a_lstE, a_testV, a_andT, a_orT, a_notT, a_andV, a_orV, a_notV, a_ifE, a_seqS, a_ifS, a_setS, a_dropS, a_retS, a_retVarS, a_asgS, a_callE, a_callF, a_appK, a_forS, a_compE, a_seqI, a_rng1, a_rng2, a_methL, a_mutL, a_setIxS, a_noPt, a_somePt, a_sliceE, a_chainE, a_nameG, a_nilG, a_consG, a_tupG, a_dnewE, a_dputS, a_dgetE, a_callP, a_zipI, a_enumI, revG, itemsT, inG, maxG, zipD, enumD, defG, runDef, env0, En.sv, getL, Opd.get, pureO, pureL, callD, argL, argO, lentS, wbE, wb1, wbAt, endF, backD, pB, pI, nL, numG, cmpG, subG, addG, mulG, negG, isNG, ixG, itemsD, itemsL, lenG, listG, tupleG, sumG, allG, int1G, int2G, intG, isiG, tyD, appendK, popK, clearK, insertK, reverseK, extendK, countG, atI, ixN, eqG, intsOf, blsOf, wipeE, restE, tkeyD, keysD, keyD, kit_ii, kit_ib, kit_bi, kit_bb, kit_ll, kit_tt, kit_lt, kit_tl, kit_ti, kit_li, kit_ni, kit_si, kit_nt, kit_it, kit_st, kit_bt, getS, lendF, Fl.sh, dPut, dGet, isDct, a_raiseS, a_callZ, a_callPZ, a_dixE, a_dinN, a_parS, a_isxE, treeOK, imm, immL, immK, shImm, unlL, unl1, a_ownE, a_lockG, a_compM, a_comp2M, navD, updD, updK, stepIx, Fl.tr, accept, Md.fl, a_mutPS, a_pthV, a_pthI, a_pairA, a_nilT, a_consT, a_lstT, a_tupT, G_is_from, m_is_from, h, h']
  · have h' : lo ≤ i := by omega
    simp [a_bindR, a_bindS, a_opd, a_constE, a_varE, a_keepE, a_op1, a_op2, a_nilA, a_consA, a_callB, a_tupE, a_lstE, a_testV, a_andT, a_orT, a_notT, a_andV, a_orV, a_notV, a_ifE, a_seqS, a_ifS, a_setS, a_dropS, a_retS, a_retVarS, a_asgS, a_callE, a_callF, a_appK, a_forS, a_compE, a_seqI, a_rng1, a_rng2, a_methL, a_mutL, a_setIxS, a_noPt, a_somePt, a_sliceE, a_chainE, a_nameG, a_nilG, a_consG, a_tupG, a_dnewE, a_dputS, a_dgetE, a_callP, a_zipI, a_enumI, revG, itemsT, inG, maxG, zipD, enumD, defG, runDef, env0, En.sv, getL, Opd.get, pureO, pureL, callD, argL, argO, lentS, wbE, wb1, wbAt, endF, backD, pB, pI, nL, numG, cmpG, subG, addG, mulG, negG, isNG, ixG, itemsD, itemsL, lenG, listG, tupleG, sumG, allG, int1G, int2G, intG, isiG, tyD, appendK, popK, clearK, insertK, reverseK, extendK, countG, atI, ixN, eqG, intsOf, blsOf, wipeE, restE, tkeyD, keysD, keyD, kit_ii, kit_ib, kit_bi, kit_bb, kit_ll, kit_tt, kit_lt, kit_tl, kit_ti, kit_li, kit_ni, kit_si, kit_nt, kit_it, kit_st, kit_bt, getS, lendF, Fl.sh, dPut, dGet, isDct, a_raiseS, a_callZ, a_callPZ, a_dixE, a_dinN, a_parS, a_isxE, treeOK, imm, immL, immK, shImm, unlL, unl1, a_ownE, a_lockG, a_compM, a_comp2M, navD, updD, updK, stepIx, Fl.tr, accept, Md.fl, a_mutPS, a_pthV, a_pthI, a_pairA, a_nilT, a_consT, a_lstT, a_tupT, G_is_from, m_is_from, h, h']
theorem is_from_non (i lo : Int) : G_is_from [⟨.p, .int i⟩, ⟨.p, .int lo⟩, ⟨.p, .non⟩] = .ret ⟨.p, .bl (decide (lo ≤ i))⟩ [.int i, .int lo, .non] := by
  by_cases h : i < lo
  · have h' : ¬ lo ≤ i := by omega
    simp [a_bindR, a_bindS, a_opd, a_constE, a_varE, a_keepE, a_op1, a_op2, a_nilA, a_consA, a_callB, a_tupE, a_lstE, a_testV, a_andT, a_orT, a_notT, a_andV, a_orV, a_notV, a_ifE, a_seqS, a_ifS, a_setS, a_dropS, a_retS, a_retVarS, a_asgS, a_callE, a_callF, a_appK, a_forS, a_compE, a_seqI, a_rng1, a_rng2, a_methL, a_mutL, a_setIxS, a_noPt, a_somePt, a_sliceE, a_chainE, a_nameG, a_nilG, a_consG, a_tupG, a_dnewE, a_dputS, a_dgetE, a_callP, a_zipI, a_enumI, revG, itemsT, inG, maxG, zipD, enumD, defG, runDef, env0, En.sv, getL, Opd.get, pureO, pureL, callD, argL, argO, lentS, wbE, wb1, wbAt, endF, backD, pB, pI, nL, numG, cmpG, subG, addG, mulG, negG, isNG, ixG, itemsD, itemsL, lenG, listG, tupleG, sumG, allG, int1G, int2G, intG, isiG, tyD, appendK, popK, clearK, insertK, reverseK, extendK, countG, atI, ixN, eqG, intsOf, blsOf, wipeE, restE, tkeyD, keysD, keyD, kit_ii, kit_ib, kit_bi, kit_bb, kit_ll, kit_tt, kit_lt, kit_tl, kit_ti, kit_li, kit_ni, kit_si, kit_nt, kit_it, kit_st, kit_bt, getS, lendF, Fl.sh, dPut, dGet, isDct, a_raiseS, a_callZ, a_callPZ, a_dixE, a_dinN, a_parS, a_isxE, treeOK, imm, immL, immK, shImm, unlL, unl1, a_ownE, a_lockG, a_compM, a_comp2M, navD, updD, updK, stepIx, Fl.tr, accept, Md.fl, a_mutPS, a_pthV, a_pthI, a_pairA, a_nilT, a_consT, a_lstT, a_tupT, G_is_from, m_is_from, h, h']
  · have h' : lo ≤ i := by omega
    simp [a_bindR, a_bindS, a_opd, a_constE, a_varE, a_keepE, a_op1, a_op2, a_nilA, a_consA, a_callB, a_tupE, a_lstE, a_testV, a_andT, a_orT, a_notT, a_andV, a_orV, a_notV, a_ifE, a_seqS, a_ifS, a_setS, a_dropS, a_retS, a_retVarS, a_asgS, a_callE, a_callF, a_appK, a_forS, a_compE, a_seqI, a_rng1, a_rng2, a_methL, a_mutL, a_setIxS, a_noPt, a_somePt, a_sliceE, a_chainE, a_nameG, a_nilG, a_consG, a_tupG, a_dnewE, a_dputS, a_dgetE, a_callP, a_zipI, a_enumI, revG, itemsT, inG, maxG, zipD, enumD, defG, runDef, env0, En.sv, getL, Opd.get, pureO, pureL, callD, argL, argO, lentS, wbE, wb1, wbAt, endF, backD, pB, pI, nL, numG, cmpG, subG, addG, mulG, negG, isNG, ixG, itemsD, itemsL, lenG, listG, tupleG, sumG, allG, int1G, int2G, intG, isiG, tyD, appendK, popK, clearK, insertK, reverseK, extendK, countG, atI, ixN, eqG, intsOf, blsOf, wipeE, restE, tkeyD, keysD, keyD, kit_ii, kit_ib, kit_bi, kit_bb, kit_ll, kit_tt, kit_lt, kit_tl, kit_ti, kit_li, kit_ni, kit_si, kit_nt, kit_it, kit_st, kit_bt, getS, lendF, Fl.sh, dPut, dGet, isDct, a_raiseS, a_callZ, a_callPZ, a_dixE, a_dinN, a_parS, a_isxE, treeOK, imm, immL, immK, shImm, unlL, unl1, a_ownE, a_lockG, a_compM, a_comp2M, navD, updD, updK, stepIx, Fl.tr, accept, Md.fl, a_mutPS, a_pthV, a_pthI, a_pairA, a_nilT, a_consT, a_lstT, a_tupT, G_is_from, m_is_from, h, h']
theorem sure_rounds_ok (r m : Int) (h0 : 0 ≤ r) (h1 : r ≤ m) : G_sure_rounds [⟨.p, .int r⟩, ⟨.p, .int m⟩] = .ret ⟨.p, .non⟩ [.int r, .int m] := by
  simp [a_bindR, a_bindS, a_opd, a_constE, a_varE, a_keepE, a_op1, a_op2, a_nilA, a_consA, a_callB, a_tupE, a_lstE, a_testV, a_andT, a_orT, a_notT, a_andV, a_orV, a_notV, a_ifE, a_seqS, a_ifS, a_setS, a_dropS, a_retS, a_retVarS, a_asgS, a_callE, a_callF, a_appK, a_forS, a_compE, a_seqI, a_rng1, a_rng2, a_methL, a_mutL, a_setIxS, a_noPt, a_somePt, a_sliceE, a_chainE, a_nameG, a_nilG, a_consG, a_tupG, a_dnewE, a_dputS, a_dgetE, a_callP, a_zipI, a_enumI, revG, itemsT, inG, maxG, zipD, enumD, defG, runDef, env0, En.sv, getL, Opd.get, pureO, pureL, callD, argL, argO, lentS, wbE, wb1, wbAt, endF, backD, pB, pI, nL, numG, cmpG, subG, addG, mulG, negG, isNG, ixG, itemsD, itemsL, lenG, listG, tupleG, sumG, allG, int1G, int2G, intG, isiG, tyD, appendK, popK, clearK, insertK, reverseK, extendK, countG, atI, ixN, eqG, intsOf, blsOf, wipeE, restE, tkeyD, keysD, keyD, kit_ii, kit_ib, kit_bi, kit_bb, kit_ll, kit_tt, kit_lt, kit_tl, kit_ti, kit_li, kit_ni, kit_si, kit_nt, kit_it, kit_st, kit_bt, getS, lendF, Fl.sh, dPut, dGet, isDct, a_raiseS, a_callZ, a_callPZ, a_dixE, a_dinN, a_parS, a_isxE, treeOK, imm, immL, immK, shImm, unlL, unl1, a_ownE, a_lockG, a_compM, a_comp2M, navD, updD, updK, stepIx, Fl.tr, accept, Md.fl, a_mutPS, a_pthV, a_pthI, a_pairA, a_nilT, a_consT, a_lstT, a_tupT, G_sure_rounds, m_sure_rounds, is_from_int, h0, h1]
theorem cdiv_lit {x : Int} {n : Nat} (h : 0 < (n : Int)) (hl : n.log2 < 9000) : CDivW x (n : Int) := ⟨h, by simpa using hl⟩
theorem cd2 (x : Int) : CDivW x 2 := ⟨by decide, by decide⟩
theorem cd3 (x : Int) : CDivW x 3 := ⟨by decide, by decide⟩
theorem cd1013 (x : Int) : CDivW x 1013 := ⟨by decide, by decide⟩
theorem cd2003 (x : Int) : CDivW x 2003 := ⟨by decide, by decide⟩
theorem cm_l (x : Int) : CMul 86969 x := .inl ⟨by decide, by decide⟩
theorem cm_r (x : Int) : CMul x 48271 := .inr ⟨by decide, by decide⟩
theorem cm2 (x : Int) : CMul 2 x := .inl ⟨by decide, by decide⟩
theorem cm_m {x y : Int} : CMul (x % 2147483629) y := .inl ⟨by omega, by omega⟩
theorem cm_n {x y : Int} : CMul (x % 2147483587) y := .inl ⟨by omega, by omega⟩
theorem cm_0 (x : Int) : CMul x 0 := .inr ⟨by decide, by decide⟩
theorem cm_1 (x : Int) : CMul x 1 := .inr ⟨by decide, by decide⟩
def mixM (b c : Int) : Int := (b + 86969 * (c + 1) + 1) * 48271 % 2147483629 * ((b + 86969 * (c + 1) + 1) * 48271 % 2147483629 / 1013 + 69623 + (c + 1)) % 2147483587
def mixN (b c : Int) : Int := mixM b c * (mixM b c / 2003 + 40692) % 2147483563 / 3
/-- a draw: some number below many -/
theorem draw_ok (a b c many : Int) (h0 : 0 < many) (hl : many.natAbs.log2 < 9000) : ∃ v a' c' : Int, 0 ≤ v ∧ v < many ∧
    G__law_draw [⟨.b, .lst [.int a, .int b, .int c]⟩, ⟨.p, .int many⟩] = .ret ⟨.p, .int v⟩ [.lst [.int a', .int b, .int c'], .int many] := by
  have cd : ∀ x, CDivW x many := fun x => ⟨h0, hl⟩
  by_cases h : 0 < a
  · refine ⟨a % many, a / many, c, Int.emod_nonneg _ (by omega), Int.emod_lt_of_pos _ h0, ?_⟩
    simp [a_bindR, a_bindS, a_opd, a_constE, a_varE, a_keepE, a_op1, a_op2, a_nilA, a_consA, a_callB, a_tupE, a_lstE, a_testV, a_andT, a_orT, a_notT, a_andV, a_orV, a_notV, a_ifE, a_seqS, a_ifS, a_setS, a_dropS, a_retS, a_retVarS, a_asgS, a_callE, a_callF, a_appK, a_forS, a_compE, a_seqI, a_rng1, a_rng2, a_methL, a_mutL, a_setIxS, a_noPt, a_somePt, a_sliceE, a_chainE, a_nameG, a_nilG, a_consG, a_tupG, a_dnewE, a_dputS, a_dgetE, a_callP, a_zipI, a_enumI, revG, itemsT, inG, maxG, zipD, enumD, defG, runDef, env0, En.sv, getL, Opd.get, pureO, pureL, callD, argL, argO, lentS, wbE, wb1, wbAt, endF, backD, pB, pI, nL, numG, cmpG, subG, addG, mulG, negG, isNG, ixG, itemsD, itemsL, lenG, listG, tupleG, sumG, allG, int1G, int2G, intG, isiG, tyD, appendK, popK, clearK, insertK, reverseK, extendK, countG, atI, ixN, eqG, intsOf, blsOf, wipeE, restE, tkeyD, keysD, keyD, kit_ii, kit_ib, kit_bi, kit_bb, kit_ll, kit_tt, kit_lt, kit_tl, kit_ti, kit_li, kit_ni, kit_si, kit_nt, kit_it, kit_st, kit_bt, getS, lendF, Fl.sh, dPut, dGet, isDct, a_raiseS, a_callZ, a_callPZ, a_dixE, a_dinN, a_parS, a_isxE, treeOK, imm, immL, immK, shImm, unlL, unl1, a_ownE, a_lockG, a_compM, a_comp2M, navD, updD, updK, stepIx, Fl.tr, accept, Md.fl, a_mutPS, a_pthV, a_pthI, a_pairA, a_nilT, a_consT, a_lstT, a_tupT, G__law_draw, m__law_draw, h, h0, cd]
  · refine ⟨mixN b c % many, a, c + 1, Int.emod_nonneg _ (by omega), Int.emod_lt_of_pos _ h0, ?_⟩
    simp [a_bindR, a_bindS, a_opd, a_constE, a_varE, a_keepE, a_op1, a_op2, a_nilA, a_consA, a_callB, a_tupE, a_lstE, a_testV, a_andT, a_orT, a_notT, a_andV, a_orV, a_notV, a_ifE, a_seqS, a_ifS, a_setS, a_dropS, a_retS, a_retVarS, a_asgS, a_callE, a_callF, a_appK, a_forS, a_compE, a_seqI, a_rng1, a_rng2, a_methL, a_mutL, a_setIxS, a_noPt, a_somePt, a_sliceE, a_chainE, a_nameG, a_nilG, a_consG, a_tupG, a_dnewE, a_dputS, a_dgetE, a_callP, a_zipI, a_enumI, revG, itemsT, inG, maxG, zipD, enumD, defG, runDef, env0, En.sv, getL, Opd.get, pureO, pureL, callD, argL, argO, lentS, wbE, wb1, wbAt, endF, backD, pB, pI, nL, numG, cmpG, subG, addG, mulG, negG, isNG, ixG, itemsD, itemsL, lenG, listG, tupleG, sumG, allG, int1G, int2G, intG, isiG, tyD, appendK, popK, clearK, insertK, reverseK, extendK, countG, atI, ixN, eqG, intsOf, blsOf, wipeE, restE, tkeyD, keysD, keyD, kit_ii, kit_ib, kit_bi, kit_bb, kit_ll, kit_tt, kit_lt, kit_tl, kit_ti, kit_li, kit_ni, kit_si, kit_nt, kit_it, kit_st, kit_bt, getS, lendF, Fl.sh, dPut, dGet, isDct, a_raiseS, a_callZ, a_callPZ, a_dixE, a_dinN, a_parS, a_isxE, treeOK, imm, immL, immK, shImm, unlL, unl1, a_ownE, a_lockG, a_compM, a_comp2M, navD, updD, updK, stepIx, Fl.tr, accept, Md.fl, a_mutPS, a_pthV, a_pthI, a_pairA, a_nilT, a_consT, a_lstT, a_tupT, G__law_draw, m__law_draw, h, h0, cd, cd1013, cd2003, cd3, cm_l, cm_r, cm_m, cm_n, mixN, mixM]
theorem well_ok (c : Int) : ∃ a b : Int, G__law_well [⟨.p, .int c⟩] = .ret ⟨.o, .lst [.int a, .int b, .int 0]⟩ [.int c] := by
  by_cases h : 1000000000000000000 ≤ c
  · exact ⟨c, c % 2147483629, by simp [a_bindR, a_bindS, a_opd, a_constE, a_varE, a_keepE, a_op1, a_op2, a_nilA, a_consA, a_callB, a_tupE, a_lstE, a_testV, a_andT, a_orT, a_notT, a_andV, a_orV, a_notV, a_ifE, a_seqS, a_ifS, a_setS, a_dropS, a_retS, a_retVarS, a_asgS, a_callE, a_callF, a_appK, a_forS, a_compE, a_seqI, a_rng1, a_rng2, a_methL, a_mutL, a_setIxS, a_noPt, a_somePt, a_sliceE, a_chainE, a_nameG, a_nilG, a_consG, a_tupG, a_dnewE, a_dputS, a_dgetE, a_callP, a_zipI, a_enumI, revG, itemsT, inG, maxG, zipD, enumD, defG, runDef, env0, En.sv, getL, Opd.get, pureO, pureL, callD, argL, argO, lentS, wbE, wb1, wbAt, endF, backD, pB, pI, nL, numG, cmpG, subG, addG, mulG, negG, isNG, ixG, itemsD, itemsL, lenG, listG, tupleG, sumG, allG, int1G, int2G, intG, isiG, tyD, appendK, popK, clearK, insertK, reverseK, extendK, countG, atI, ixN, eqG, intsOf, blsOf, wipeE, restE, tkeyD, keysD, keyD, kit_ii, kit_ib, kit_bi, kit_bb, kit_ll, kit_tt, kit_lt, kit_tl, kit_ti, kit_li, kit_ni, kit_si, kit_nt, kit_it, kit_st, kit_bt, getS, lendF, Fl.sh, dPut, dGet, isDct, a_raiseS, a_callZ, a_callPZ, a_dixE, a_dinN, a_parS, a_isxE, treeOK, imm, immL, immK, shImm, unlL, unl1, a_ownE, a_lockG, a_compM, a_comp2M, navD, updD, updK, stepIx, Fl.tr, accept, Md.fl, a_mutPS, a_pthV, a_pthI, a_pairA, a_nilT, a_consT, a_lstT, a_tupT, G__law_well, m__law_well, CPow, h, cm_1]⟩
  · exact ⟨0, c % 2147483629, by simp [a_bindR, a_bindS, a_opd, a_constE, a_varE, a_keepE, a_op1, a_op2, a_nilA, a_consA, a_callB, a_tupE, a_lstE, a_testV, a_andT, a_orT, a_notT, a_andV, a_orV, a_notV, a_ifE, a_seqS, a_ifS, a_setS, a_dropS, a_retS, a_retVarS, a_asgS, a_callE, a_callF, a_appK, a_forS, a_compE, a_seqI, a_rng1, a_rng2, a_methL, a_mutL, a_setIxS, a_noPt, a_somePt, a_sliceE, a_chainE, a_nameG, a_nilG, a_consG, a_tupG, a_dnewE, a_dputS, a_dgetE, a_callP, a_zipI, a_enumI, revG, itemsT, inG, maxG, zipD, enumD, defG, runDef, env0, En.sv, getL, Opd.get, pureO, pureL, callD, argL, argO, lentS, wbE, wb1, wbAt, endF, backD, pB, pI, nL, numG, cmpG, subG, addG, mulG, negG, isNG, ixG, itemsD, itemsL, lenG, listG, tupleG, sumG, allG, int1G, int2G, intG, isiG, tyD, appendK, popK, clearK, insertK, reverseK, extendK, countG, atI, ixN, eqG, intsOf, blsOf, wipeE, restE, tkeyD, keysD, keyD, kit_ii, kit_ib, kit_bi, kit_bb, kit_ll, kit_tt, kit_lt, kit_tl, kit_ti, kit_li, kit_ni, kit_si, kit_nt, kit_it, kit_st, kit_bt, getS, lendF, Fl.sh, dPut, dGet, isDct, a_raiseS, a_callZ, a_callPZ, a_dixE, a_dinN, a_parS, a_isxE, treeOK, imm, immL, immK, shImm, unlL, unl1, a_ownE, a_lockG, a_compM, a_comp2M, navD, updD, updK, stepIx, Fl.tr, accept, Md.fl, a_mutPS, a_pthV, a_pthI, a_pairA, a_nilT, a_consT, a_lstT, a_tupT, G__law_well, m__law_well, CPow, h, cm_0]⟩
/-- one of some things, drawn -/
theorem one_ok (a b c : Int) (fl : Fl) (xs : List D) (hx : 0 < xs.length) (hl : xs.length ≤ 100000) (hf : fl = .p ∨ fl = .b) : ∃ (n : Nat) (x : D) (a' c' : Int), xs[n]? = some x ∧
    G__law_one [⟨.b, .lst [.int a, .int b, .int c]⟩, ⟨fl, .lst xs⟩] = .ret ⟨.p, x⟩ [.lst [.int a', .int b, .int c'], .lst xs] := by
  obtain ⟨v, a', c', h1, h2, h3⟩ := draw_ok a b c xs.length (by omega) (by
    have : xs.length.log2 ≤ 17 := by
      have := Nat.log2_lt (n := xs.length) (k := 18) (by omega)
      omega
    simpa using (by omega : xs.length.log2 < 9000))
  have hv : v.toNat < xs.length := by omega
  refine ⟨v.toNat, xs[v.toNat], a', c', List.getElem?_eq_getElem hv, ?_⟩
  have e1 : v < (xs.length : Int) := h2
  rcases hf with rfl | rfl <;> simp [a_bindR, a_bindS, a_opd, a_constE, a_varE, a_keepE, a_op1, a_op2, a_nilA, a_consA, a_callB, a_tupE, a_lstE, a_testV, a_andT, a_orT, a_notT, a_andV, a_orV, a_notV, a_ifE, a_seqS, a_ifS, a_setS, a_dropS, a_retS, a_retVarS, a_asgS, a_callE, a_callF, a_appK, a_forS, a_compE, a_seqI, a_rng1, a_rng2, a_methL, a_mutL, a_setIxS, a_noPt, a_somePt, a_sliceE, a_chainE, a_nameG, a_nilG, a_consG, a_tupG, a_dnewE, a_dputS, a_dgetE, a_callP, a_zipI, a_enumI, revG, itemsT, inG, maxG, zipD, enumD, defG, runDef, env0, En.sv, getL, Opd.get, pureO, pureL, callD, argL, argO, lentS, wbE, wb1, wbAt, endF, backD, pB, pI, nL, numG, cmpG, subG, addG, mulG, negG, isNG, ixG, itemsD, itemsL, lenG, listG, tupleG, sumG, allG, int1G, int2G, intG, isiG, tyD, appendK, popK, clearK, insertK, reverseK, extendK, countG, atI, ixN, eqG, intsOf, blsOf, wipeE, restE, tkeyD, keysD, keyD, kit_ii, kit_ib, kit_bi, kit_bb, kit_ll, kit_tt, kit_lt, kit_tl, kit_ti, kit_li, kit_ni, kit_si, kit_nt, kit_it, kit_st, kit_bt, getS, lendF, Fl.sh, dPut, dGet, isDct, a_raiseS, a_callZ, a_callPZ, a_dixE, a_dinN, a_parS, a_isxE, treeOK, imm, immL, immK, shImm, unlL, unl1, a_ownE, a_lockG, a_compM, a_comp2M, navD, updD, updK, stepIx, Fl.tr, accept, Md.fl, a_mutPS, a_pthV, a_pthI, a_pairA, a_nilT, a_consT, a_lstT, a_tupT, G__law_one, m__law_one, h3, h1, e1, hv, List.getElem?_eq_getElem]
end My

namespace My
open PySem L2 DL
theorem comp_from (s : Src) (f0 : Fl) (hf0 : f0 = .p ∨ f0 = .b) (d0 d1 : D) (hG : Grd s [some ⟨f0, d0⟩, some ⟨.p, d1⟩, none]) (hs : List Int) (hl : hs.length ≤ 1000) (hh : Hands hs) : compLoop s [2] (nameG 2) (fun e => .ok true e) (opd (callE G_is_from (consA (varE 2) (consA (opd (constE (.int 0))) (consA (opd (constE (.int 1))) nilA))))) (hs.map D.int) [some ⟨f0, d0⟩, some ⟨.p, d1⟩, none] [] =
    .ok (hs.map fun _ => D.bl true) [some ⟨f0, d0⟩, some ⟨.p, d1⟩, none] := by
  rw [compLoop_each (f := fun _ => .bl true) hG (hs.map D.int) (by simp; omega) fun d hd => ?_]
  · simp
  · obtain ⟨h, hm, rfl⟩ := List.mem_map.mp hd
    obtain ⟨g0, g1⟩ := hh h hm
    refine ⟨[some ⟨f0, d0⟩, some ⟨.p, d1⟩, some ⟨.p, .int h⟩], .val (.bl true), [some ⟨f0, d0⟩, some ⟨.p, d1⟩, some ⟨.p, .int h⟩], _, rfl, ?_, rfl, rfl⟩
    rcases hf0 with rfl | rfl <;> simp [a_bindR, a_bindS, a_opd, a_constE, a_varE, a_keepE, a_op1, a_op2, a_nilA, a_consA, a_callB, a_tupE, a_lstE, a_testV, a_andT, a_orT, a_notT, a_andV, a_orV, a_notV, a_ifE, a_seqS, a_ifS, a_setS, a_dropS, a_retS, a_retVarS, a_asgS, a_callE, a_callF, a_appK, a_forS, a_compE, a_seqI, a_rng1, a_rng2, a_methL, a_mutL, a_setIxS, a_noPt, a_somePt, a_sliceE, a_chainE, a_nameG, a_nilG, a_consG, a_tupG, a_dnewE, a_dputS, a_dgetE, a_callP, a_zipI, a_enumI, revG, itemsT, inG, maxG, zipD, enumD, defG, runDef, env0, En.sv, getL, Opd.get, pureO, pureL, callD, argL, argO, lentS, wbE, wb1, wbAt, endF, backD, pB, pI, nL, numG, cmpG, subG, addG, mulG, negG, isNG, ixG, itemsD, itemsL, lenG, listG, tupleG, sumG, allG, int1G, int2G, intG, isiG, tyD, appendK, popK, clearK, insertK, reverseK, extendK, countG, atI, ixN, eqG, intsOf, blsOf, wipeE, restE, tkeyD, keysD, keyD, kit_ii, kit_ib, kit_bi, kit_bb, kit_ll, kit_tt, kit_lt, kit_tl, kit_ti, kit_li, kit_ni, kit_si, kit_nt, kit_it, kit_st, kit_bt, getS, lendF, Fl.sh, dPut, dGet, isDct, a_raiseS, a_callZ, a_callPZ, a_dixE, a_dinN, a_parS, a_isxE, treeOK, imm, immL, immK, shImm, unlL, unl1, a_ownE, a_lockG, a_compM, a_comp2M, navD, updD, updK, stepIx, Fl.tr, accept, Md.fl, a_mutPS, a_pthV, a_pthI, a_pairA, a_nilT, a_consT, a_lstT, a_tupT, is_from_int, g0, g1]
theorem comp_count (fl : Fl) (hf : fl = .p ∨ fl = .b) (hs : List Int) (n : Int) (h0 : (hs.count 0 : Int) ≤ n) (h1 : (hs.count 1 : Int) ≤ n) : compLoop ⟨[.int 0, .int 1], none⟩ [2] (nameG 2) (fun e => .ok true e) (opd (op2 (cmpG (fun i j => decide (i ≤ j))) (opd (methL countG (varE 0) (consA (varE 2) nilA))) (varE 1))) [.int 0, .int 1] [some ⟨fl, .lst (hs.map D.int)⟩, some ⟨.p, .int n⟩, none] [] =
    .ok [.bl true, .bl true] [some ⟨fl, .lst (hs.map D.int)⟩, some ⟨.p, .int n⟩, none] := by
  rw [compLoop_each (f := fun _ => .bl true) grd_none _ (by simp) fun d hd => ?_]
  · rfl
  · have : d = .int 0 ∨ d = .int 1 := by simpa using hd
    rcases this with rfl | rfl
    · refine ⟨_, .val (.bl true), [some ⟨fl, .lst (hs.map D.int)⟩, some ⟨.p, .int n⟩, some ⟨.p, .int 0⟩], _, rfl, ?_, rfl, rfl⟩
      rcases hf with rfl | rfl <;> simp [a_bindR, a_bindS, a_opd, a_constE, a_varE, a_keepE, a_op1, a_op2, a_nilA, a_consA, a_callB, a_tupE, a_lstE, a_testV, a_andT, a_orT, a_notT, a_andV, a_orV, a_notV, a_ifE, a_seqS, a_ifS, a_setS, a_dropS, a_retS, a_retVarS, a_asgS, a_callE, a_callF, a_appK, a_forS, a_compE, a_seqI, a_rng1, a_rng2, a_methL, a_mutL, a_setIxS, a_noPt, a_somePt, a_sliceE, a_chainE, a_nameG, a_nilG, a_consG, a_tupG, a_dnewE, a_dputS, a_dgetE, a_callP, a_zipI, a_enumI, revG, itemsT, inG, maxG, zipD, enumD, defG, runDef, env0, En.sv, getL, Opd.get, pureO, pureL, callD, argL, argO, lentS, wbE, wb1, wbAt, endF, backD, pB, pI, nL, numG, cmpG, subG, addG, mulG, negG, isNG, ixG, itemsD, itemsL, lenG, listG, tupleG, sumG, allG, int1G, int2G, intG, isiG, tyD, appendK, popK, clearK, insertK, reverseK, extendK, countG, atI, ixN, eqG, intsOf, blsOf, wipeE, restE, tkeyD, keysD, keyD, kit_ii, kit_ib, kit_bi, kit_bb, kit_ll, kit_tt, kit_lt, kit_tl, kit_ti, kit_li, kit_ni, kit_si, kit_nt, kit_it, kit_st, kit_bt, getS, lendF, Fl.sh, dPut, dGet, isDct, a_raiseS, a_callZ, a_callPZ, a_dixE, a_dinN, a_parS, a_isxE, treeOK, imm, immL, immK, shImm, unlL, unl1, a_ownE, a_lockG, a_compM, a_comp2M, navD, updD, updK, stepIx, Fl.tr, accept, Md.fl, a_mutPS, a_pthV, a_pthI, a_pairA, a_nilT, a_consT, a_lstT, a_tupT, h0]
    · refine ⟨_, .val (.bl true), [some ⟨fl, .lst (hs.map D.int)⟩, some ⟨.p, .int n⟩, some ⟨.p, .int 1⟩], _, rfl, ?_, rfl, rfl⟩
      rcases hf with rfl | rfl <;> simp [a_bindR, a_bindS, a_opd, a_constE, a_varE, a_keepE, a_op1, a_op2, a_nilA, a_consA, a_callB, a_tupE, a_lstE, a_testV, a_andT, a_orT, a_notT, a_andV, a_orV, a_notV, a_ifE, a_seqS, a_ifS, a_setS, a_dropS, a_retS, a_retVarS, a_asgS, a_callE, a_callF, a_appK, a_forS, a_compE, a_seqI, a_rng1, a_rng2, a_methL, a_mutL, a_setIxS, a_noPt, a_somePt, a_sliceE, a_chainE, a_nameG, a_nilG, a_consG, a_tupG, a_dnewE, a_dputS, a_dgetE, a_callP, a_zipI, a_enumI, revG, itemsT, inG, maxG, zipD, enumD, defG, runDef, env0, En.sv, getL, Opd.get, pureO, pureL, callD, argL, argO, lentS, wbE, wb1, wbAt, endF, backD, pB, pI, nL, numG, cmpG, subG, addG, mulG, negG, isNG, ixG, itemsD, itemsL, lenG, listG, tupleG, sumG, allG, int1G, int2G, intG, isiG, tyD, appendK, popK, clearK, insertK, reverseK, extendK, countG, atI, ixN, eqG, intsOf, blsOf, wipeE, restE, tkeyD, keysD, keyD, kit_ii, kit_ib, kit_bi, kit_bb, kit_ll, kit_tt, kit_lt, kit_tl, kit_ti, kit_li, kit_ni, kit_si, kit_nt, kit_it, kit_st, kit_bt, getS, lendF, Fl.sh, dPut, dGet, isDct, a_raiseS, a_callZ, a_callPZ, a_dixE, a_dinN, a_parS, a_isxE, treeOK, imm, immL, immK, shImm, unlL, unl1, a_ownE, a_lockG, a_compM, a_comp2M, navD, updD, updK, stepIx, Fl.tr, accept, Md.fl, a_mutPS, a_pthV, a_pthI, a_pairA, a_nilT, a_consT, a_lstT, a_tupT, h1]
theorem bls_true : ∀ (n : List Int), blsOf (n.map fun _ => D.bl true) = some (n.map fun _ => true)
  | [] => rfl
  | _ :: r => by rw [List.map_cons, List.map_cons]; unfold blsOf; rw [bls_true r]; rfl
theorem is_weaving_ok (fl : Fl) (hs : List Int) (n : Int) (hf : fl = .p ∨ fl = .b) (hl : hs.length ≤ 1000) (hh : Hands hs) (h0 : (hs.count 0 : Int) ≤ n) (h1 : (hs.count 1 : Int) ≤ n) :
    G_is_weaving [⟨fl, .lst (hs.map D.int)⟩, ⟨.p, .int n⟩] = .ret ⟨.p, .bl true⟩ [.lst (hs.map D.int), .int n] := by
  have c2 := comp_count fl hf hs n h0 h1
  rcases hf with rfl | rfl
  · have c1 := comp_from ⟨hs.map D.int, none⟩ .p (.inl rfl) (.lst (hs.map D.int)) (.int n) trivial hs hl hh
    simp [a_bindR, a_bindS, a_opd, a_constE, a_varE, a_keepE, a_op1, a_op2, a_nilA, a_consA, a_callB, a_tupE, a_lstE, a_testV, a_andT, a_orT, a_notT, a_andV, a_orV, a_notV, a_ifE, a_seqS, a_ifS, a_setS, a_dropS, a_retS, a_retVarS, a_asgS, a_callE, a_callF, a_appK, a_forS, a_compE, a_seqI, a_rng1, a_rng2, a_methL, a_mutL, a_setIxS, a_noPt, a_somePt, a_sliceE, a_chainE, a_nameG, a_nilG, a_consG, a_tupG, a_dnewE, a_dputS, a_dgetE, a_callP, a_zipI, a_enumI, revG, itemsT, inG, maxG, zipD, enumD, defG, runDef, env0, En.sv, getL, Opd.get, pureO, pureL, callD, argL, argO, lentS, wbE, wb1, wbAt, endF, backD, pB, pI, nL, numG, cmpG, subG, addG, mulG, negG, isNG, ixG, itemsD, itemsL, lenG, listG, tupleG, sumG, allG, int1G, int2G, intG, isiG, tyD, appendK, popK, clearK, insertK, reverseK, extendK, countG, atI, ixN, eqG, intsOf, blsOf, wipeE, restE, tkeyD, keysD, keyD, kit_ii, kit_ib, kit_bi, kit_bb, kit_ll, kit_tt, kit_lt, kit_tl, kit_ti, kit_li, kit_ni, kit_si, kit_nt, kit_it, kit_st, kit_bt, getS, lendF, Fl.sh, dPut, dGet, isDct, a_raiseS, a_callZ, a_callPZ, a_dixE, a_dinN, a_parS, a_isxE, treeOK, imm, immL, immK, shImm, unlL, unl1, a_ownE, a_lockG, a_compM, a_comp2M, navD, updD, updK, stepIx, Fl.tr, accept, Md.fl, a_mutPS, a_pthV, a_pthI, a_pairA, a_nilT, a_consT, a_lstT, a_tupT, G_is_weaving, m_is_weaving, c1, c2, bls_true]
  · have c1 := comp_from ⟨hs.map D.int, some 0⟩ .b (.inr rfl) (.lst (hs.map D.int)) (.int n) rfl hs hl hh
    simp [a_bindR, a_bindS, a_opd, a_constE, a_varE, a_keepE, a_op1, a_op2, a_nilA, a_consA, a_callB, a_tupE, a_lstE, a_testV, a_andT, a_orT, a_notT, a_andV, a_orV, a_notV, a_ifE, a_seqS, a_ifS, a_setS, a_dropS, a_retS, a_retVarS, a_asgS, a_callE, a_callF, a_appK, a_forS, a_compE, a_seqI, a_rng1, a_rng2, a_methL, a_mutL, a_setIxS, a_noPt, a_somePt, a_sliceE, a_chainE, a_nameG, a_nilG, a_consG, a_tupG, a_dnewE, a_dputS, a_dgetE, a_callP, a_zipI, a_enumI, revG, itemsT, inG, maxG, zipD, enumD, defG, runDef, env0, En.sv, getL, Opd.get, pureO, pureL, callD, argL, argO, lentS, wbE, wb1, wbAt, endF, backD, pB, pI, nL, numG, cmpG, subG, addG, mulG, negG, isNG, ixG, itemsD, itemsL, lenG, listG, tupleG, sumG, allG, int1G, int2G, intG, isiG, tyD, appendK, popK, clearK, insertK, reverseK, extendK, countG, atI, ixN, eqG, intsOf, blsOf, wipeE, restE, tkeyD, keysD, keyD, kit_ii, kit_ib, kit_bi, kit_bb, kit_ll, kit_tt, kit_lt, kit_tl, kit_ti, kit_li, kit_ni, kit_si, kit_nt, kit_it, kit_st, kit_bt, getS, lendF, Fl.sh, dPut, dGet, isDct, a_raiseS, a_callZ, a_callPZ, a_dixE, a_dinN, a_parS, a_isxE, treeOK, imm, immL, immK, shImm, unlL, unl1, a_ownE, a_lockG, a_compM, a_comp2M, navD, updD, updK, stepIx, Fl.tr, accept, Md.fl, a_mutPS, a_pthV, a_pthI, a_pairA, a_nilT, a_consT, a_lstT, a_tupT, G_is_weaving, m_is_weaving, c1, c2, bls_true]
end My

namespace My
open PySem L2 DL
theorem sure_weaving_ok (fl : Fl) (hs : List Int) (n : Int) (hf : fl = .p ∨ fl = .b) (hl : hs.length ≤ 1000) (hh : Hands hs) (h0 : (hs.count 0 : Int) ≤ n) (h1 : (hs.count 1 : Int) ≤ n) :
    G_sure_weaving [⟨fl, .lst (hs.map D.int)⟩, ⟨.p, .int n⟩] = .ret ⟨.p, .non⟩ [.lst (hs.map D.int), .int n] := by
  have e := is_weaving_ok fl hs n hf hl hh h0 h1
  rcases hf with rfl | rfl <;> simp [a_bindR, a_bindS, a_opd, a_constE, a_varE, a_keepE, a_op1, a_op2, a_nilA, a_consA, a_callB, a_tupE, a_lstE, a_testV, a_andT, a_orT, a_notT, a_andV, a_orV, a_notV, a_ifE, a_seqS, a_ifS, a_setS, a_dropS, a_retS, a_retVarS, a_asgS, a_callE, a_callF, a_appK, a_forS, a_compE, a_seqI, a_rng1, a_rng2, a_methL, a_mutL, a_setIxS, a_noPt, a_somePt, a_sliceE, a_chainE, a_nameG, a_nilG, a_consG, a_tupG, a_dnewE, a_dputS, a_dgetE, a_callP, a_zipI, a_enumI, revG, itemsT, inG, maxG, zipD, enumD, defG, runDef, env0, En.sv, getL, Opd.get, pureO, pureL, callD, argL, argO, lentS, wbE, wb1, wbAt, endF, backD, pB, pI, nL, numG, cmpG, subG, addG, mulG, negG, isNG, ixG, itemsD, itemsL, lenG, listG, tupleG, sumG, allG, int1G, int2G, intG, isiG, tyD, appendK, popK, clearK, insertK, reverseK, extendK, countG, atI, ixN, eqG, intsOf, blsOf, wipeE, restE, tkeyD, keysD, keyD, kit_ii, kit_ib, kit_bi, kit_bb, kit_ll, kit_tt, kit_lt, kit_tl, kit_ti, kit_li, kit_ni, kit_si, kit_nt, kit_it, kit_st, kit_bt, getS, lendF, Fl.sh, dPut, dGet, isDct, a_raiseS, a_callZ, a_callPZ, a_dixE, a_dinN, a_parS, a_isxE, treeOK, imm, immL, immK, shImm, unlL, unl1, a_ownE, a_lockG, a_compM, a_comp2M, navD, updD, updK, stepIx, Fl.tr, accept, Md.fl, a_mutPS, a_pthV, a_pthI, a_pairA, a_nilT, a_consT, a_lstT, a_tupT, G_sure_weaving, m_sure_weaving, e]
theorem comp_inputs (x y : Int) (hx : 0 ≤ x) (hy : 0 ≤ y) (f1 : Fl) (hf1 : f1 = .p ∨ f1 = .b) (d0 d1 d2 : D) : compLoop ⟨[.int x, .int y], none⟩ [3] (nameG 3) (fun e => .ok true e) (opd (callE G_is_from (consA (varE 3) (consA (opd (constE (.int 0))) (consA (opd (constE .non)) nilA))))) [.int x, .int y] [some ⟨.p, d0⟩, some ⟨f1, d1⟩, some ⟨.p, d2⟩, none] [] =
    .ok [.bl true, .bl true] [some ⟨.p, d0⟩, some ⟨f1, d1⟩, some ⟨.p, d2⟩, none] := by
  rw [compLoop_each (f := fun _ => .bl true) grd_none _ (by simp) fun d hd => ?_]
  · rfl
  · have : ∃ z : Int, 0 ≤ z ∧ d = .int z := by
      have : d = .int x ∨ d = .int y := by simpa using hd
      rcases this with rfl | rfl
      · exact ⟨x, hx, rfl⟩
      · exact ⟨y, hy, rfl⟩
    obtain ⟨z, hz, rfl⟩ := this
    refine ⟨[some ⟨.p, d0⟩, some ⟨f1, d1⟩, some ⟨.p, d2⟩, some ⟨.p, .int z⟩], .val (.bl true), [some ⟨.p, d0⟩, some ⟨f1, d1⟩, some ⟨.p, d2⟩, some ⟨.p, .int z⟩], _, rfl, ?_, rfl, rfl⟩
    rcases hf1 with rfl | rfl <;> simp [a_bindR, a_bindS, a_opd, a_constE, a_varE, a_keepE, a_op1, a_op2, a_nilA, a_consA, a_callB, a_tupE, a_lstE, a_testV, a_andT, a_orT, a_notT, a_andV, a_orV, a_notV, a_ifE, a_seqS, a_ifS, a_setS, a_dropS, a_retS, a_retVarS, a_asgS, a_callE, a_callF, a_appK, a_forS, a_compE, a_seqI, a_rng1, a_rng2, a_methL, a_mutL, a_setIxS, a_noPt, a_somePt, a_sliceE, a_chainE, a_nameG, a_nilG, a_consG, a_tupG, a_dnewE, a_dputS, a_dgetE, a_callP, a_zipI, a_enumI, revG, itemsT, inG, maxG, zipD, enumD, defG, runDef, env0, En.sv, getL, Opd.get, pureO, pureL, callD, argL, argO, lentS, wbE, wb1, wbAt, endF, backD, pB, pI, nL, numG, cmpG, subG, addG, mulG, negG, isNG, ixG, itemsD, itemsL, lenG, listG, tupleG, sumG, allG, int1G, int2G, intG, isiG, tyD, appendK, popK, clearK, insertK, reverseK, extendK, countG, atI, ixN, eqG, intsOf, blsOf, wipeE, restE, tkeyD, keysD, keyD, kit_ii, kit_ib, kit_bi, kit_bb, kit_ll, kit_tt, kit_lt, kit_tl, kit_ti, kit_li, kit_ni, kit_si, kit_nt, kit_it, kit_st, kit_bt, getS, lendF, Fl.sh, dPut, dGet, isDct, a_raiseS, a_callZ, a_callPZ, a_dixE, a_dinN, a_parS, a_isxE, treeOK, imm, immL, immK, shImm, unlL, unl1, a_ownE, a_lockG, a_compM, a_comp2M, navD, updD, updK, stepIx, Fl.tr, accept, Md.fl, a_mutPS, a_pthV, a_pthI, a_pairA, a_nilT, a_consT, a_lstT, a_tupT, is_from_non, hz]
theorem known_ok (fl : Fl) (hf : fl = .p ∨ fl = .b) (x y r : Int) (hx : 0 ≤ x) (hy : 0 ≤ y) (hs : List Int) (hl : hs.length ≤ 1000) (hh : Hands hs) (r0 : 0 ≤ r) (r5 : r ≤ 5) (c0 : (hs.count 0 : Int) ≤ 2 * r) (c1 : (hs.count 1 : Int) ≤ 2 * r) {s : KB}
    (hk : kbRun (hs.map D.int) ⟨[.int x, .int y], [0, 0], List.replicate r.toNat [.non, .non]⟩ = some s) :
    G_known [⟨.p, .tup [.int x, .int y]⟩, ⟨fl, .lst (hs.map D.int)⟩, ⟨.p, .int r⟩] = .ret ⟨.o, .lst [kbOut r.toNat s 0, kbOut r.toNat s 1]⟩ [.tup [.int x, .int y], .lst (hs.map D.int), .int r] := by
  have e := sure_weaving_ok fl hs (2 * r) hf hl hh c0 c1
  have r1 : r ≤ 1000 := by omega
  have ci := comp_inputs x y hx hy fl hf
  rcases hf with rfl | rfl <;> simp [a_bindR, a_bindS, a_opd, a_constE, a_varE, a_keepE, a_op1, a_op2, a_nilA, a_consA, a_callB, a_tupE, a_lstE, a_testV, a_andT, a_orT, a_notT, a_andV, a_orV, a_notV, a_ifE, a_seqS, a_ifS, a_setS, a_dropS, a_retS, a_retVarS, a_asgS, a_callE, a_callF, a_appK, a_forS, a_compE, a_seqI, a_rng1, a_rng2, a_methL, a_mutL, a_setIxS, a_noPt, a_somePt, a_sliceE, a_chainE, a_nameG, a_nilG, a_consG, a_tupG, a_dnewE, a_dputS, a_dgetE, a_callP, a_zipI, a_enumI, revG, itemsT, inG, maxG, zipD, enumD, defG, runDef, env0, En.sv, getL, Opd.get, pureO, pureL, callD, argL, argO, lentS, wbE, wb1, wbAt, endF, backD, pB, pI, nL, numG, cmpG, subG, addG, mulG, negG, isNG, ixG, itemsD, itemsL, lenG, listG, tupleG, sumG, allG, int1G, int2G, intG, isiG, tyD, appendK, popK, clearK, insertK, reverseK, extendK, countG, atI, ixN, eqG, intsOf, blsOf, wipeE, restE, tkeyD, keysD, keyD, kit_ii, kit_ib, kit_bi, kit_bb, kit_ll, kit_tt, kit_lt, kit_tl, kit_ti, kit_li, kit_ni, kit_si, kit_nt, kit_it, kit_st, kit_bt, getS, lendF, Fl.sh, dPut, dGet, isDct, a_raiseS, a_callZ, a_callPZ, a_dixE, a_dinN, a_parS, a_isxE, treeOK, imm, immL, immK, shImm, unlL, unl1, a_ownE, a_lockG, a_compM, a_comp2M, navD, updD, updK, stepIx, Fl.tr, accept, Md.fl, a_mutPS, a_pthV, a_pthI, a_pairA, a_nilT, a_consT, a_lstT, a_tupT, G_known, m_known, sure_rounds_ok, r0, r5, r1, ci, hx, hy, eqD_int, cm2, e, kbG, hk]
end My

namespace My
open PySem L2 DL
def insD (f : Bool) (x : Int) : D := if f then .int x else .non
theorem insD_t (x : Int) : insD true x = .int x := rfl
theorem insD_f (x : Int) : insD false x = .non := rfl
theorem fit_loop (x0 x1 : Option SV) (x y : Int) (f g f' g' : Bool) : compLoop ⟨[.tup [insD f x, insD f' x], .tup [insD g y, insD g' y]], none⟩ [2, 3] (tupG 2 (consG (nameG 2) (consG (nameG 3) nilG))) (fun e => .ok true e) (opd (orV (op2 (isNG false) (varE 2) (opd (constE .non))) (orV (op2 (isNG false) (varE 3) (opd (constE .non))) (op2 (eqG false) (varE 2) (varE 3))))) [.tup [insD f x, insD f' x], .tup [insD g y, insD g' y]] [x0, x1, none, none] [] =
    .ok [.bl true, .bl true] [x0, x1, none, none] := by
  rw [compLoop_each (f := fun _ => .bl true) grd_none _ (by simp) fun d hd => ?_]
  · rfl
  · have : ∃ (z : Int) (u v : Bool), d = .tup [insD u z, insD v z] := by
      have : d = .tup [insD f x, insD f' x] ∨ d = .tup [insD g y, insD g' y] := by simpa using hd
      rcases this with rfl | rfl
      · exact ⟨_, _, _, rfl⟩
      · exact ⟨_, _, _, rfl⟩
    obtain ⟨z, u, v, rfl⟩ := this
    refine ⟨[x0, x1, some ⟨.p, insD u z⟩, some ⟨.p, insD v z⟩], .val (.bl true), [x0, x1, some ⟨.p, insD u z⟩, some ⟨.p, insD v z⟩], _, rfl, ?_, rfl, rfl⟩
    cases u <;> cases v <;> simp [a_bindR, a_bindS, a_opd, a_constE, a_varE, a_keepE, a_op1, a_op2, a_nilA, a_consA, a_callB, a_tupE, a_lstE, a_testV, a_andT, a_orT, a_notT, a_andV, a_orV, a_notV, a_ifE, a_seqS, a_ifS, a_setS, a_dropS, a_retS, a_retVarS, a_asgS, a_callE, a_callF, a_appK, a_forS, a_compE, a_seqI, a_rng1, a_rng2, a_methL, a_mutL, a_setIxS, a_noPt, a_somePt, a_sliceE, a_chainE, a_nameG, a_nilG, a_consG, a_tupG, a_dnewE, a_dputS, a_dgetE, a_callP, a_zipI, a_enumI, revG, itemsT, inG, maxG, zipD, enumD, defG, runDef, env0, En.sv, getL, Opd.get, pureO, pureL, callD, argL, argO, lentS, wbE, wb1, wbAt, endF, backD, pB, pI, nL, numG, cmpG, subG, addG, mulG, negG, isNG, ixG, itemsD, itemsL, lenG, listG, tupleG, sumG, allG, int1G, int2G, intG, isiG, tyD, appendK, popK, clearK, insertK, reverseK, extendK, countG, atI, ixN, eqG, intsOf, blsOf, wipeE, restE, tkeyD, keysD, keyD, kit_ii, kit_ib, kit_bi, kit_bb, kit_ll, kit_tt, kit_lt, kit_tl, kit_ti, kit_li, kit_ni, kit_si, kit_nt, kit_it, kit_st, kit_bt, getS, lendF, Fl.sh, dPut, dGet, isDct, a_raiseS, a_callZ, a_callPZ, a_dixE, a_dinN, a_parS, a_isxE, treeOK, imm, immL, immK, shImm, unlL, unl1, a_ownE, a_lockG, a_compM, a_comp2M, navD, updD, updK, stepIx, Fl.tr, accept, Md.fl, a_mutPS, a_pthV, a_pthI, a_pairA, a_nilT, a_consT, a_lstT, a_tupT, insD_t, insD_f, eqD_int]
theorem fit_ok (x y : Int) (f g f' g' : Bool) : G_fit [⟨.p, .tup [insD f x, insD g y]⟩, ⟨.p, .tup [insD f' x, insD g' y]⟩] = .ret ⟨.p, .bl true⟩ [.tup [insD f x, insD g y], .tup [insD f' x, insD g' y]] := by
  have c := fit_loop (some ⟨.p, .tup [insD f x, insD g y]⟩) (some ⟨.p, .tup [insD f' x, insD g' y]⟩) x y f g f' g'
  simp [a_bindR, a_bindS, a_opd, a_constE, a_varE, a_keepE, a_op1, a_op2, a_nilA, a_consA, a_callB, a_tupE, a_lstE, a_testV, a_andT, a_orT, a_notT, a_andV, a_orV, a_notV, a_ifE, a_seqS, a_ifS, a_setS, a_dropS, a_retS, a_retVarS, a_asgS, a_callE, a_callF, a_appK, a_forS, a_compE, a_seqI, a_rng1, a_rng2, a_methL, a_mutL, a_setIxS, a_noPt, a_somePt, a_sliceE, a_chainE, a_nameG, a_nilG, a_consG, a_tupG, a_dnewE, a_dputS, a_dgetE, a_callP, a_zipI, a_enumI, revG, itemsT, inG, maxG, zipD, enumD, defG, runDef, env0, En.sv, getL, Opd.get, pureO, pureL, callD, argL, argO, lentS, wbE, wb1, wbAt, endF, backD, pB, pI, nL, numG, cmpG, subG, addG, mulG, negG, isNG, ixG, itemsD, itemsL, lenG, listG, tupleG, sumG, allG, int1G, int2G, intG, isiG, tyD, appendK, popK, clearK, insertK, reverseK, extendK, countG, atI, ixN, eqG, intsOf, blsOf, wipeE, restE, tkeyD, keysD, keyD, kit_ii, kit_ib, kit_bi, kit_bb, kit_ll, kit_tt, kit_lt, kit_tl, kit_ti, kit_li, kit_ni, kit_si, kit_nt, kit_it, kit_st, kit_bt, getS, lendF, Fl.sh, dPut, dGet, isDct, a_raiseS, a_callZ, a_callPZ, a_dixE, a_dinN, a_parS, a_isxE, treeOK, imm, immL, immK, shImm, unlL, unl1, a_ownE, a_lockG, a_compM, a_comp2M, navD, updD, updK, stepIx, Fl.tr, accept, Md.fl, a_mutPS, a_pthV, a_pthI, a_pairA, a_nilT, a_consT, a_lstT, a_tupT, G_fit, m_fit, c]
def orD : D → D
  | .tup [.non, b] => b
  | .tup [a, _] => a
  | _ => .non
theorem both_loop (x0 x1 : Option SV) (x y : Int) (f g f' g' : Bool) : compLoop ⟨[.tup [insD f x, insD f' x], .tup [insD g y, insD g' y]], none⟩ [2, 3] (tupG 2 (consG (nameG 2) (consG (nameG 3) nilG))) (fun e => .ok true e) (opd (ifE (testV (op2 (isNG false) (varE 2) (opd (constE .non)))) (keepE (varE 3)) (keepE (varE 2)))) [.tup [insD f x, insD f' x], .tup [insD g y, insD g' y]] [x0, x1, none, none] [] =
    .ok [insD (f || f') x, insD (g || g') y] [x0, x1, none, none] := by
  rw [compLoop_each (f := orD) grd_none _ (by simp) fun d hd => ?_]
  · cases f <;> cases g <;> cases f' <;> cases g' <;> rfl
  · have : ∃ (z : Int) (u v : Bool), d = .tup [insD u z, insD v z] := by
      have : d = .tup [insD f x, insD f' x] ∨ d = .tup [insD g y, insD g' y] := by simpa using hd
      rcases this with rfl | rfl
      · exact ⟨_, _, _, rfl⟩
      · exact ⟨_, _, _, rfl⟩
    obtain ⟨z, u, v, rfl⟩ := this
    refine ⟨[x0, x1, some ⟨.p, insD u z⟩, some ⟨.p, insD v z⟩], .val (orD (.tup [insD u z, insD v z])), [x0, x1, some ⟨.p, insD u z⟩, some ⟨.p, insD v z⟩], _, rfl, ?_, rfl, rfl⟩
    cases u <;> cases v <;> simp [a_bindR, a_bindS, a_opd, a_constE, a_varE, a_keepE, a_op1, a_op2, a_nilA, a_consA, a_callB, a_tupE, a_lstE, a_testV, a_andT, a_orT, a_notT, a_andV, a_orV, a_notV, a_ifE, a_seqS, a_ifS, a_setS, a_dropS, a_retS, a_retVarS, a_asgS, a_callE, a_callF, a_appK, a_forS, a_compE, a_seqI, a_rng1, a_rng2, a_methL, a_mutL, a_setIxS, a_noPt, a_somePt, a_sliceE, a_chainE, a_nameG, a_nilG, a_consG, a_tupG, a_dnewE, a_dputS, a_dgetE, a_callP, a_zipI, a_enumI, revG, itemsT, inG, maxG, zipD, enumD, defG, runDef, env0, En.sv, getL, Opd.get, pureO, pureL, callD, argL, argO, lentS, wbE, wb1, wbAt, endF, backD, pB, pI, nL, numG, cmpG, subG, addG, mulG, negG, isNG, ixG, itemsD, itemsL, lenG, listG, tupleG, sumG, allG, int1G, int2G, intG, isiG, tyD, appendK, popK, clearK, insertK, reverseK, extendK, countG, atI, ixN, eqG, intsOf, blsOf, wipeE, restE, tkeyD, keysD, keyD, kit_ii, kit_ib, kit_bi, kit_bb, kit_ll, kit_tt, kit_lt, kit_tl, kit_ti, kit_li, kit_ni, kit_si, kit_nt, kit_it, kit_st, kit_bt, getS, lendF, Fl.sh, dPut, dGet, isDct, a_raiseS, a_callZ, a_callPZ, a_dixE, a_dinN, a_parS, a_isxE, treeOK, imm, immL, immK, shImm, unlL, unl1, a_ownE, a_lockG, a_compM, a_comp2M, navD, updD, updK, stepIx, Fl.tr, accept, Md.fl, a_mutPS, a_pthV, a_pthI, a_pairA, a_nilT, a_consT, a_lstT, a_tupT, insD_t, insD_f, orD]
theorem both_ok (x y : Int) (f g f' g' : Bool) : G_both_of [⟨.p, .tup [insD f x, insD g y]⟩, ⟨.p, .tup [insD f' x, insD g' y]⟩] = .ret ⟨.p, .tup [insD (f || f') x, insD (g || g') y]⟩ [.tup [insD f x, insD g y], .tup [insD f' x, insD g' y]] := by
  have c := both_loop (some ⟨.p, .tup [insD f x, insD g y]⟩) (some ⟨.p, .tup [insD f' x, insD g' y]⟩) x y f g f' g'
  simp [a_bindR, a_bindS, a_opd, a_constE, a_varE, a_keepE, a_op1, a_op2, a_nilA, a_consA, a_callB, a_tupE, a_lstE, a_testV, a_andT, a_orT, a_notT, a_andV, a_orV, a_notV, a_ifE, a_seqS, a_ifS, a_setS, a_dropS, a_retS, a_retVarS, a_asgS, a_callE, a_callF, a_appK, a_forS, a_compE, a_seqI, a_rng1, a_rng2, a_methL, a_mutL, a_setIxS, a_noPt, a_somePt, a_sliceE, a_chainE, a_nameG, a_nilG, a_consG, a_tupG, a_dnewE, a_dputS, a_dgetE, a_callP, a_zipI, a_enumI, revG, itemsT, inG, maxG, zipD, enumD, defG, runDef, env0, En.sv, getL, Opd.get, pureO, pureL, callD, argL, argO, lentS, wbE, wb1, wbAt, endF, backD, pB, pI, nL, numG, cmpG, subG, addG, mulG, negG, isNG, ixG, itemsD, itemsL, lenG, listG, tupleG, sumG, allG, int1G, int2G, intG, isiG, tyD, appendK, popK, clearK, insertK, reverseK, extendK, countG, atI, ixN, eqG, intsOf, blsOf, wipeE, restE, tkeyD, keysD, keyD, kit_ii, kit_ib, kit_bi, kit_bb, kit_ll, kit_tt, kit_lt, kit_tl, kit_ti, kit_li, kit_ni, kit_si, kit_nt, kit_it, kit_st, kit_bt, getS, lendF, Fl.sh, dPut, dGet, isDct, a_raiseS, a_callZ, a_callPZ, a_dixE, a_dinN, a_parS, a_isxE, treeOK, imm, immL, immK, shImm, unlL, unl1, a_ownE, a_lockG, a_compM, a_comp2M, navD, updD, updK, stepIx, Fl.tr, accept, Md.fl, a_mutPS, a_pthV, a_pthI, a_pairA, a_nilT, a_consT, a_lstT, a_tupT, G_both_of, m_both_of, c]
def atD (z : Int) (h : Nat) : D → D
  | .int k => if (h : Int) = k then .int z else .non
  | _ => .non
theorem base_loop (z : Int) (h : Nat) (hh : h ≤ 1) (x2 : Option SV) (h2 : ∃ d, x2 = some ⟨.p, d⟩) : compLoop ⟨[.int 0, .int 1], none⟩ [9] (nameG 9) (fun e => .ok true e) (opd (ifE (testV (op2 (eqG false) (varE 1) (varE 9))) (keepE (varE 0)) (constE .non))) [.int 0, .int 1] [some ⟨.p, .int z⟩, some ⟨.p, .int h⟩, x2, none, none, none, none, none, none, none] [] =
    .ok [atD z h (.int 0), atD z h (.int 1)] [some ⟨.p, .int z⟩, some ⟨.p, .int h⟩, x2, none, none, none, none, none, none, none] := by
  obtain ⟨d2, rfl⟩ := h2
  rw [compLoop_each (f := atD z h) grd_none _ (by simp) fun d hd => ?_]
  · rfl
  · have : ∃ k : Int, d = .int k := by
      have : d = .int 0 ∨ d = .int 1 := by simpa using hd
      rcases this with rfl | rfl <;> exact ⟨_, rfl⟩
    obtain ⟨k, rfl⟩ := this
    refine ⟨[some ⟨.p, .int z⟩, some ⟨.p, .int h⟩, some ⟨.p, d2⟩, none, none, none, none, none, none, some ⟨.p, .int k⟩], .val (atD z h (.int k)), [some ⟨.p, .int z⟩, some ⟨.p, .int h⟩, some ⟨.p, d2⟩, none, none, none, none, none, none, some ⟨.p, .int k⟩], _, rfl, ?_, rfl, rfl⟩
    by_cases e : (h : Int) = k
    · simp [a_bindR, a_bindS, a_opd, a_constE, a_varE, a_keepE, a_op1, a_op2, a_nilA, a_consA, a_callB, a_tupE, a_lstE, a_testV, a_andT, a_orT, a_notT, a_andV, a_orV, a_notV, a_ifE, a_seqS, a_ifS, a_setS, a_dropS, a_retS, a_retVarS, a_asgS, a_callE, a_callF, a_appK, a_forS, a_compE, a_seqI, a_rng1, a_rng2, a_methL, a_mutL, a_setIxS, a_noPt, a_somePt, a_sliceE, a_chainE, a_nameG, a_nilG, a_consG, a_tupG, a_dnewE, a_dputS, a_dgetE, a_callP, a_zipI, a_enumI, revG, itemsT, inG, maxG, zipD, enumD, defG, runDef, env0, En.sv, getL, Opd.get, pureO, pureL, callD, argL, argO, lentS, wbE, wb1, wbAt, endF, backD, pB, pI, nL, numG, cmpG, subG, addG, mulG, negG, isNG, ixG, itemsD, itemsL, lenG, listG, tupleG, sumG, allG, int1G, int2G, intG, isiG, tyD, appendK, popK, clearK, insertK, reverseK, extendK, countG, atI, ixN, eqG, intsOf, blsOf, wipeE, restE, tkeyD, keysD, keyD, kit_ii, kit_ib, kit_bi, kit_bb, kit_ll, kit_tt, kit_lt, kit_tl, kit_ti, kit_li, kit_ni, kit_si, kit_nt, kit_it, kit_st, kit_bt, getS, lendF, Fl.sh, dPut, dGet, isDct, a_raiseS, a_callZ, a_callPZ, a_dixE, a_dinN, a_parS, a_isxE, treeOK, imm, immL, immK, shImm, unlL, unl1, a_ownE, a_lockG, a_compM, a_comp2M, navD, updD, updK, stepIx, Fl.tr, accept, Md.fl, a_mutPS, a_pthV, a_pthI, a_pairA, a_nilT, a_consT, a_lstT, a_tupT, eqD_int, e, atD]
    · have e' : ((h : Int) == k) = false := by simpa using e
      simp [a_bindR, a_bindS, a_opd, a_constE, a_varE, a_keepE, a_op1, a_op2, a_nilA, a_consA, a_callB, a_tupE, a_lstE, a_testV, a_andT, a_orT, a_notT, a_andV, a_orV, a_notV, a_ifE, a_seqS, a_ifS, a_setS, a_dropS, a_retS, a_retVarS, a_asgS, a_callE, a_callF, a_appK, a_forS, a_compE, a_seqI, a_rng1, a_rng2, a_methL, a_mutL, a_setIxS, a_noPt, a_somePt, a_sliceE, a_chainE, a_nameG, a_nilG, a_consG, a_tupG, a_dnewE, a_dputS, a_dgetE, a_callP, a_zipI, a_enumI, revG, itemsT, inG, maxG, zipD, enumD, defG, runDef, env0, En.sv, getL, Opd.get, pureO, pureL, callD, argL, argO, lentS, wbE, wb1, wbAt, endF, backD, pB, pI, nL, numG, cmpG, subG, addG, mulG, negG, isNG, ixG, itemsD, itemsL, lenG, listG, tupleG, sumG, allG, int1G, int2G, intG, isiG, tyD, appendK, popK, clearK, insertK, reverseK, extendK, countG, atI, ixN, eqG, intsOf, blsOf, wipeE, restE, tkeyD, keysD, keyD, kit_ii, kit_ib, kit_bi, kit_bb, kit_ll, kit_tt, kit_lt, kit_tl, kit_ti, kit_li, kit_ni, kit_si, kit_nt, kit_it, kit_st, kit_bt, getS, lendF, Fl.sh, dPut, dGet, isDct, a_raiseS, a_callZ, a_callPZ, a_dixE, a_dinN, a_parS, a_isxE, treeOK, imm, immL, immK, shImm, unlL, unl1, a_ownE, a_lockG, a_compM, a_comp2M, navD, updD, updK, stepIx, Fl.tr, accept, Md.fl, a_mutPS, a_pthV, a_pthI, a_pairA, a_nilT, a_consT, a_lstT, a_tupT, eqD_int, e', e, atD]
theorem cm3 (x : Int) : CMul 3 x := .inl ⟨by decide, by decide⟩
theorem is_from_tup (ds : List D) : G_is_from [⟨.p, .tup ds⟩, ⟨.p, .int 0⟩, ⟨.p, .non⟩] = .ret ⟨.p, .bl false⟩ [.tup ds, .int 0, .non] := by
  simp [a_bindR, a_bindS, a_opd, a_constE, a_varE, a_keepE, a_op1, a_op2, a_nilA, a_consA, a_callB, a_tupE, a_lstE, a_testV, a_andT, a_orT, a_notT, a_andV, a_orV, a_notV, a_ifE, a_seqS, a_ifS, a_setS, a_dropS, a_retS, a_retVarS, a_asgS, a_callE, a_callF, a_appK, a_forS, a_compE, a_seqI, a_rng1, a_rng2, a_methL, a_mutL, a_setIxS, a_noPt, a_somePt, a_sliceE, a_chainE, a_nameG, a_nilG, a_consG, a_tupG, a_dnewE, a_dputS, a_dgetE, a_callP, a_zipI, a_enumI, revG, itemsT, inG, maxG, zipD, enumD, defG, runDef, env0, En.sv, getL, Opd.get, pureO, pureL, callD, argL, argO, lentS, wbE, wb1, wbAt, endF, backD, pB, pI, nL, numG, cmpG, subG, addG, mulG, negG, isNG, ixG, itemsD, itemsL, lenG, listG, tupleG, sumG, allG, int1G, int2G, intG, isiG, tyD, appendK, popK, clearK, insertK, reverseK, extendK, countG, atI, ixN, eqG, intsOf, blsOf, wipeE, restE, tkeyD, keysD, keyD, kit_ii, kit_ib, kit_bi, kit_bb, kit_ll, kit_tt, kit_lt, kit_tl, kit_ti, kit_li, kit_ni, kit_si, kit_nt, kit_it, kit_st, kit_bt, getS, lendF, Fl.sh, dPut, dGet, isDct, a_raiseS, a_callZ, a_callPZ, a_dixE, a_dinN, a_parS, a_isxE, treeOK, imm, immL, immK, shImm, unlL, unl1, a_ownE, a_lockG, a_compM, a_comp2M, navD, updD, updK, stepIx, Fl.tr, accept, Md.fl, a_mutPS, a_pthV, a_pthI, a_pairA, a_nilT, a_consT, a_lstT, a_tupT, G_is_from, m_is_from]
theorem spot_base (z : Int) (hz : 0 ≤ z) (h : Nat) (hh : h ≤ 1) (n : Nat) (most : Int) : G_spot_of (n + 1) [⟨.p, .int z⟩, ⟨.p, .int h⟩, ⟨.p, .int most⟩] = .ret ⟨.p, .tup [.int 0, .int h, .tup [atD z h (.int 0), atD z h (.int 1)]]⟩ [.int z, .int h, .int most] := by
  have c := base_loop z h hh (some ⟨.p, .int most⟩) ⟨_, rfl⟩
  simp [a_bindR, a_bindS, a_opd, a_constE, a_varE, a_keepE, a_op1, a_op2, a_nilA, a_consA, a_callB, a_tupE, a_lstE, a_testV, a_andT, a_orT, a_notT, a_andV, a_orV, a_notV, a_ifE, a_seqS, a_ifS, a_setS, a_dropS, a_retS, a_retVarS, a_asgS, a_callE, a_callF, a_appK, a_forS, a_compE, a_seqI, a_rng1, a_rng2, a_methL, a_mutL, a_setIxS, a_noPt, a_somePt, a_sliceE, a_chainE, a_nameG, a_nilG, a_consG, a_tupG, a_dnewE, a_dputS, a_dgetE, a_callP, a_zipI, a_enumI, revG, itemsT, inG, maxG, zipD, enumD, defG, runDef, env0, En.sv, getL, Opd.get, pureO, pureL, callD, argL, argO, lentS, wbE, wb1, wbAt, endF, backD, pB, pI, nL, numG, cmpG, subG, addG, mulG, negG, isNG, ixG, itemsD, itemsL, lenG, listG, tupleG, sumG, allG, int1G, int2G, intG, isiG, tyD, appendK, popK, clearK, insertK, reverseK, extendK, countG, atI, ixN, eqG, intsOf, blsOf, wipeE, restE, tkeyD, keysD, keyD, kit_ii, kit_ib, kit_bi, kit_bb, kit_ll, kit_tt, kit_lt, kit_tl, kit_ti, kit_li, kit_ni, kit_si, kit_nt, kit_it, kit_st, kit_bt, getS, lendF, Fl.sh, dPut, dGet, isDct, a_raiseS, a_callZ, a_callPZ, a_dixE, a_dinN, a_parS, a_isxE, treeOK, imm, immL, immK, shImm, unlL, unl1, a_ownE, a_lockG, a_compM, a_comp2M, navD, updD, updK, stepIx, Fl.tr, accept, Md.fl, a_mutPS, a_pthV, a_pthI, a_pairA, a_nilT, a_consT, a_lstT, a_tupT, G_spot_of, m_spot_of, is_from_non, hz, c]
theorem spot_lone (a : D) (h : Nat) (n : Nat) (most : Int) (hm : most ≠ 0) (r : Nat) (m : Int) (ins : D) (e : G_spot_of n [⟨.p, a⟩, ⟨.p, .int h⟩, ⟨.p, .int (most - 1)⟩] = .ret ⟨.p, .tup [.int r, .int m, ins]⟩ [a, .int h, .int (most - 1)]) :
    G_spot_of (n + 1) [⟨.p, .tup [a, .non]⟩, ⟨.p, .int h⟩, ⟨.p, .int most⟩] = .ret ⟨.p, .tup [.int ((r : Int) + 1), .int (3 * m), ins]⟩ [.tup [a, .non], .int h, .int most] := by
  have hm' : (most == 0) = false := by simpa using hm
  simp [a_bindR, a_bindS, a_opd, a_constE, a_varE, a_keepE, a_op1, a_op2, a_nilA, a_consA, a_callB, a_tupE, a_lstE, a_testV, a_andT, a_orT, a_notT, a_andV, a_orV, a_notV, a_ifE, a_seqS, a_ifS, a_setS, a_dropS, a_retS, a_retVarS, a_asgS, a_callE, a_callF, a_appK, a_forS, a_compE, a_seqI, a_rng1, a_rng2, a_methL, a_mutL, a_setIxS, a_noPt, a_somePt, a_sliceE, a_chainE, a_nameG, a_nilG, a_consG, a_tupG, a_dnewE, a_dputS, a_dgetE, a_callP, a_zipI, a_enumI, revG, itemsT, inG, maxG, zipD, enumD, defG, runDef, env0, En.sv, getL, Opd.get, pureO, pureL, callD, argL, argO, lentS, wbE, wb1, wbAt, endF, backD, pB, pI, nL, numG, cmpG, subG, addG, mulG, negG, isNG, ixG, itemsD, itemsL, lenG, listG, tupleG, sumG, allG, int1G, int2G, intG, isiG, tyD, appendK, popK, clearK, insertK, reverseK, extendK, countG, atI, ixN, eqG, intsOf, blsOf, wipeE, restE, tkeyD, keysD, keyD, kit_ii, kit_ib, kit_bi, kit_bb, kit_ll, kit_tt, kit_lt, kit_tl, kit_ti, kit_li, kit_ni, kit_si, kit_nt, kit_it, kit_st, kit_bt, getS, lendF, Fl.sh, dPut, dGet, isDct, a_raiseS, a_callZ, a_callPZ, a_dixE, a_dinN, a_parS, a_isxE, treeOK, imm, immL, immK, shImm, unlL, unl1, a_ownE, a_lockG, a_compM, a_comp2M, navD, updD, updK, stepIx, Fl.tr, accept, Md.fl, a_mutPS, a_pthV, a_pthI, a_pairA, a_nilT, a_consT, a_lstT, a_tupT, G_spot_of, m_spot_of, is_from_tup, hm', e, eqD_int, cm3]
theorem spot_see (a b : D) (hb : (∃ i, b = .int i) ∨ ∃ l, b = .tup l) (h : Nat) (hh : h ≤ 1) (n : Nat) (most : Int) (hm : most ≠ 0) (r : Nat) (m m' : Int) (x y : Int) (f g f' g' : Bool) (hn : m' - m = 1 ∨ m - m' = 1)
    (e : G_spot_of n [⟨.p, a⟩, ⟨.p, .int h⟩, ⟨.p, .int (most - 1)⟩] = .ret ⟨.p, .tup [.int r, .int m, .tup [insD f x, insD g y]]⟩ [a, .int h, .int (most - 1)])
    (e' : G_spot_of n [⟨.p, b⟩, ⟨.p, .int (1 - h)⟩, ⟨.p, .int (most - 1)⟩] = .ret ⟨.p, .tup [.int r, .int m', .tup [insD f' x, insD g' y]]⟩ [b, .int (1 - h), .int (most - 1)]) :
    G_spot_of (n + 1) [⟨.p, .tup [a, b]⟩, ⟨.p, .int h⟩, ⟨.p, .int most⟩] = .ret ⟨.p, .tup [.int ((r : Int) + 1), .int (3 * m + 2 * (m' - m)), .tup [insD (f || f') x, insD (g || g') y]]⟩ [.tup [a, b], .int h, .int most] := by
  have hm' : (most == 0) = false := by simpa using hm
  have fi := fit_ok x y f g f' g'
  have bo := both_ok x y f g f' g'
  generalize insD f x = u0 at *
  generalize insD g y = u1 at *
  generalize insD f' x = v0 at *
  generalize insD g' y = v1 at *
  generalize insD (f || f') x = w0 at *
  generalize insD (g || g') y = w1 at *
  rcases hn with hn | hn
  · have : m' = m + 1 := by omega
    subst this
    have z : m + 1 - m = 1 := by omega
    rw [z]
    rcases hb with ⟨i, rfl⟩ | ⟨l, rfl⟩ <;> simp [a_bindR, a_bindS, a_opd, a_constE, a_varE, a_keepE, a_op1, a_op2, a_nilA, a_consA, a_callB, a_tupE, a_lstE, a_testV, a_andT, a_orT, a_notT, a_andV, a_orV, a_notV, a_ifE, a_seqS, a_ifS, a_setS, a_dropS, a_retS, a_retVarS, a_asgS, a_callE, a_callF, a_appK, a_forS, a_compE, a_seqI, a_rng1, a_rng2, a_methL, a_mutL, a_setIxS, a_noPt, a_somePt, a_sliceE, a_chainE, a_nameG, a_nilG, a_consG, a_tupG, a_dnewE, a_dputS, a_dgetE, a_callP, a_zipI, a_enumI, revG, itemsT, inG, maxG, zipD, enumD, defG, runDef, env0, En.sv, getL, Opd.get, pureO, pureL, callD, argL, argO, lentS, wbE, wb1, wbAt, endF, backD, pB, pI, nL, numG, cmpG, subG, addG, mulG, negG, isNG, ixG, itemsD, itemsL, lenG, listG, tupleG, sumG, allG, int1G, int2G, intG, isiG, tyD, appendK, popK, clearK, insertK, reverseK, extendK, countG, atI, ixN, eqG, intsOf, blsOf, wipeE, restE, tkeyD, keysD, keyD, kit_ii, kit_ib, kit_bi, kit_bb, kit_ll, kit_tt, kit_lt, kit_tl, kit_ti, kit_li, kit_ni, kit_si, kit_nt, kit_it, kit_st, kit_bt, getS, lendF, Fl.sh, dPut, dGet, isDct, a_raiseS, a_callZ, a_callPZ, a_dixE, a_dinN, a_parS, a_isxE, treeOK, imm, immL, immK, shImm, unlL, unl1, a_ownE, a_lockG, a_compM, a_comp2M, navD, updD, updK, stepIx, Fl.tr, accept, Md.fl, a_mutPS, a_pthV, a_pthI, a_pairA, a_nilT, a_consT, a_lstT, a_tupT, G_spot_of, m_spot_of, is_from_tup, hm', e, e', eqD_int, cm3, cm2, fi, bo, z]
  · have : m = m' + 1 := by omega
    subst this
    have z : m' - (m' + 1) = -1 := by omega
    rw [z]
    rcases hb with ⟨i, rfl⟩ | ⟨l, rfl⟩ <;> simp [a_bindR, a_bindS, a_opd, a_constE, a_varE, a_keepE, a_op1, a_op2, a_nilA, a_consA, a_callB, a_tupE, a_lstE, a_testV, a_andT, a_orT, a_notT, a_andV, a_orV, a_notV, a_ifE, a_seqS, a_ifS, a_setS, a_dropS, a_retS, a_retVarS, a_asgS, a_callE, a_callF, a_appK, a_forS, a_compE, a_seqI, a_rng1, a_rng2, a_methL, a_mutL, a_setIxS, a_noPt, a_somePt, a_sliceE, a_chainE, a_nameG, a_nilG, a_consG, a_tupG, a_dnewE, a_dputS, a_dgetE, a_callP, a_zipI, a_enumI, revG, itemsT, inG, maxG, zipD, enumD, defG, runDef, env0, En.sv, getL, Opd.get, pureO, pureL, callD, argL, argO, lentS, wbE, wb1, wbAt, endF, backD, pB, pI, nL, numG, cmpG, subG, addG, mulG, negG, isNG, ixG, itemsD, itemsL, lenG, listG, tupleG, sumG, allG, int1G, int2G, intG, isiG, tyD, appendK, popK, clearK, insertK, reverseK, extendK, countG, atI, ixN, eqG, intsOf, blsOf, wipeE, restE, tkeyD, keysD, keyD, kit_ii, kit_ib, kit_bi, kit_bb, kit_ll, kit_tt, kit_lt, kit_tl, kit_ti, kit_li, kit_ni, kit_si, kit_nt, kit_it, kit_st, kit_bt, getS, lendF, Fl.sh, dPut, dGet, isDct, a_raiseS, a_callZ, a_callPZ, a_dixE, a_dinN, a_parS, a_isxE, treeOK, imm, immL, immK, shImm, unlL, unl1, a_ownE, a_lockG, a_compM, a_comp2M, navD, updD, updK, stepIx, Fl.tr, accept, Md.fl, a_mutPS, a_pthV, a_pthI, a_pairA, a_nilT, a_consT, a_lstT, a_tupT, G_spot_of, m_spot_of, is_from_tup, hm', e, e', eqD_int, cm3, cm2, fi, bo, z]
theorem spt_shape {x y : Int} {d : D} {h r : Nat} {m : Int} {f g : Bool} (S : Spt x y d h r m f g) : (∃ i, d = .int i) ∨ ∃ l, d = .tup l := by
  cases S with
  | base0 _ => exact .inl ⟨_, rfl⟩
  | base1 _ => exact .inl ⟨_, rfl⟩
  | lone _ => exact .inr ⟨_, rfl⟩
  | see _ _ _ _ => exact .inr ⟨_, rfl⟩
theorem spot_ok {x y : Int} {d : D} {h r : Nat} {m : Int} {f g : Bool} (S : Spt x y d h r m f g) : ∀ (n : Nat) (most : Int), r ≤ n → (r : Int) ≤ most →
    G_spot_of (n + 1) [⟨.p, d⟩, ⟨.p, .int h⟩, ⟨.p, .int most⟩] = .ret ⟨.p, .tup [.int r, .int m, .tup [insD f x, insD g y]]⟩ [d, .int h, .int most] := by
  induction S with
  | base0 hx => intro n most _ _; exact spot_base x hx 0 (by omega) n most
  | base1 hy => intro n most _ _; exact spot_base y hy 1 (by omega) n most
  | @lone a h r m f g _ ih =>
    intro n most hn hm
    match n, hn with
    | n + 1, hn =>
      have := spot_lone a h (n + 1) most (by omega) r m _ (ih n (most - 1) (by omega) (by omega))
      simpa using this
  | @see a b h r m m' f g f' g' hh S1 S2 hne ih1 ih2 =>
    intro n most hn hm
    match n, hn with
    | n + 1, hn =>
      have e2 := ih2 n (most - 1) (by omega) (by omega)
      rw [show ((1 - h : Nat) : Int) = 1 - (h : Int) by omega] at e2
      have := spot_see a b (spt_shape S2) h hh (n + 1) most (by omega) r m m' x y f g f' g' hne (ih1 n (most - 1) (by omega) (by omega)) e2
      simpa using this
theorem sure_hand_ok (h : Nat) (hh : h ≤ 1) : G_sure_hand [⟨.p, .int h⟩] = .ret ⟨.p, .non⟩ [.int h] := by
  have h0 : (0 : Int) ≤ h := by omega
  have h1 : (h : Int) ≤ 1 := by omega
  simp [a_bindR, a_bindS, a_opd, a_constE, a_varE, a_keepE, a_op1, a_op2, a_nilA, a_consA, a_callB, a_tupE, a_lstE, a_testV, a_andT, a_orT, a_notT, a_andV, a_orV, a_notV, a_ifE, a_seqS, a_ifS, a_setS, a_dropS, a_retS, a_retVarS, a_asgS, a_callE, a_callF, a_appK, a_forS, a_compE, a_seqI, a_rng1, a_rng2, a_methL, a_mutL, a_setIxS, a_noPt, a_somePt, a_sliceE, a_chainE, a_nameG, a_nilG, a_consG, a_tupG, a_dnewE, a_dputS, a_dgetE, a_callP, a_zipI, a_enumI, revG, itemsT, inG, maxG, zipD, enumD, defG, runDef, env0, En.sv, getL, Opd.get, pureO, pureL, callD, argL, argO, lentS, wbE, wb1, wbAt, endF, backD, pB, pI, nL, numG, cmpG, subG, addG, mulG, negG, isNG, ixG, itemsD, itemsL, lenG, listG, tupleG, sumG, allG, int1G, int2G, intG, isiG, tyD, appendK, popK, clearK, insertK, reverseK, extendK, countG, atI, ixN, eqG, intsOf, blsOf, wipeE, restE, tkeyD, keysD, keyD, kit_ii, kit_ib, kit_bi, kit_bb, kit_ll, kit_tt, kit_lt, kit_tl, kit_ti, kit_li, kit_ni, kit_si, kit_nt, kit_it, kit_st, kit_bt, getS, lendF, Fl.sh, dPut, dGet, isDct, a_raiseS, a_callZ, a_callPZ, a_dixE, a_dinN, a_parS, a_isxE, treeOK, imm, immL, immK, shImm, unlL, unl1, a_ownE, a_lockG, a_compM, a_comp2M, navD, updD, updK, stepIx, Fl.tr, accept, Md.fl, a_mutPS, a_pthV, a_pthI, a_pairA, a_nilT, a_consT, a_lstT, a_tupT, G_sure_hand, m_sure_hand, is_from_int, h0, h1]
theorem place_ok {x y : Int} {d : D} {h r : Nat} {m : Int} {f g : Bool} (S : Spt x y d h r m f g) (hr : r ≤ 5) : G_place [⟨.p, d⟩, ⟨.p, .int h⟩] = .ret ⟨.p, .int m⟩ [d, .int h] := by
  have e := spot_ok S 5 5 hr (by omega)
  have e' : G_spot_of 6 [⟨.p, d⟩, ⟨.p, .int h⟩, ⟨.p, .int 5⟩] = .ret ⟨.p, .tup [.int r, .int m, .tup [insD f x, insD g y]]⟩ [d, .int h, .int 5] := e
  have s := sure_hand_ok h S.hand
  simp [a_bindR, a_bindS, a_opd, a_constE, a_varE, a_keepE, a_op1, a_op2, a_nilA, a_consA, a_callB, a_tupE, a_lstE, a_testV, a_andT, a_orT, a_notT, a_andV, a_orV, a_notV, a_ifE, a_seqS, a_ifS, a_setS, a_dropS, a_retS, a_retVarS, a_asgS, a_callE, a_callF, a_appK, a_forS, a_compE, a_seqI, a_rng1, a_rng2, a_methL, a_mutL, a_setIxS, a_noPt, a_somePt, a_sliceE, a_chainE, a_nameG, a_nilG, a_consG, a_tupG, a_dnewE, a_dputS, a_dgetE, a_callP, a_zipI, a_enumI, revG, itemsT, inG, maxG, zipD, enumD, defG, runDef, env0, En.sv, getL, Opd.get, pureO, pureL, callD, argL, argO, lentS, wbE, wb1, wbAt, endF, backD, pB, pI, nL, numG, cmpG, subG, addG, mulG, negG, isNG, ixG, itemsD, itemsL, lenG, listG, tupleG, sumG, allG, int1G, int2G, intG, isiG, tyD, appendK, popK, clearK, insertK, reverseK, extendK, countG, atI, ixN, eqG, intsOf, blsOf, wipeE, restE, tkeyD, keysD, keyD, kit_ii, kit_ib, kit_bi, kit_bb, kit_ll, kit_tt, kit_lt, kit_tl, kit_ti, kit_li, kit_ni, kit_si, kit_nt, kit_it, kit_st, kit_bt, getS, lendF, Fl.sh, dPut, dGet, isDct, a_raiseS, a_callZ, a_callPZ, a_dixE, a_dinN, a_parS, a_isxE, treeOK, imm, immL, immK, shImm, unlL, unl1, a_ownE, a_lockG, a_compM, a_comp2M, navD, updD, updK, stepIx, Fl.tr, accept, Md.fl, a_mutPS, a_pthV, a_pthI, a_pairA, a_nilT, a_consT, a_lstT, a_tupT, G_place, m_place, s, e']
end My

namespace My
open PySem L2 DL
def rowD (row : List Int) : D := .lst (row.map D.int)
def allD (L : List (List Int)) : D := .lst (L.map rowD)
def wst1 (m : Nat) (row : List Int) : List (List Int) := (([0, 1] : List Int).filter fun h => decide (row.count h < m)).map fun h => row ++ [h]
def wst (m : Nat) (L : List (List Int)) : List (List Int) := L.flatMap (wst1 m)
def wvK (m : Nat) : Nat → List (List Int)
  | 0 => [[]]
  | k + 1 => wst m (wvK m k)
theorem wst1_len (m : Nat) (row : List Int) : (wst1 m row).length ≤ 2 := by
  unfold wst1
  rw [List.length_map]
  exact Nat.le_trans (List.length_filter_le _ _) (by simp)
theorem wst_len (m : Nat) : ∀ L : List (List Int), (wst m L).length ≤ 2 * L.length
  | [] => by simp [wst]
  | row :: L => by
    have h1 := wst1_len m row
    have h2 := wst_len m L
    unfold wst at h2 ⊢
    rw [List.flatMap_cons, List.length_append, List.length_cons]; omega
theorem wvK_len (m : Nat) : ∀ k : Nat, (wvK m k).length ≤ 2 ^ k
  | 0 => by simp [wvK]
  | k + 1 => by
    have h1 := wst_len m (wvK m k)
    have h2 := wvK_len m k
    show (wst m (wvK m k)).length ≤ _
    rw [Nat.pow_succ]; omega
theorem pow_le12 {k : Nat} (h : k ≤ 12) : 2 ^ k ≤ 4096 := Nat.le_trans (Nat.pow_le_pow_right (by decide) h) (by decide)
def rowOf : D → List Int
  | .lst ds => (intsOf ds).getD []
  | _ => []
theorem rowOf_rowD (row : List Int) : rowOf (rowD row) = row := by simp [rowOf, rowD]
theorem immL_ints : ∀ ns : List Int, immL (ns.map D.int) = true
  | [] => rfl
  | n :: r => by simp [immL, imm, immL_ints r]
theorem immL_app : ∀ (a b : List D), immL (a ++ b) = (immL a && immL b)
  | [], b => by simp [immL]
  | x :: a, b => by simp [immL, immL_app a b, Bool.and_assoc]
noncomputable def wvC : En → R SV := comp2M .t (seqI (varE 1)) [3, 4] (nameG 3) (fun e => .ok true e) (seqI (opd (constE (.frt [.int 0, .int 1])))) [4] (nameG 4) (testV (op2 (cmpG (fun i j => decide (i < j))) (opd (methL countG (varE 3) (consA (varE 4) nilA))) (opd (op2 mulG (opd (constE (.int 2))) (varE 0))))) (ownE (op2 addG (varE 3) (opd (lstE (consA (varE 4) nilA)))))
theorem weav_eq : m_weavings = (seqS (dropS (callE G_sure_rounds (consA (varE 0) (consA (opd (constE (.int 3))) nilA)))) (seqS (setS 1 (lstT (consT (lstT nilT) nilT))) (seqS (forS (rng1 (consA (opd (op2 mulG (opd (constE (.int 4))) (varE 0))) nilA)) (nameG 2) (setS 1 wvC)) (retVarS 1)))) := rfl
def Pl (x : Option SV) : Prop := x = none ∨ ∃ d, x = some ⟨.p, d⟩
def isH (m : Nat) (row : List Int) : D → Bool
  | .int h => decide (row.count h < m)
  | _ => false
def addH (row : List Int) : D → D
  | .int h => rowD (row ++ [h])
  | _ => .non
theorem inner_eq (m : Nat) (row : List Int) : (([.int 0, .int 1] : List D).filter (isH m row)).map (addH row) = (wst1 m row).map rowD := by
  unfold wst1
  by_cases h0 : row.count 0 < m <;> by_cases h1 : row.count 1 < m <;> simp [isH, addH, h0, h1]
theorem wvC_ok (r : Nat) (L : List (List Int)) (hr : ∀ row ∈ L, row.length ≤ 100) (hL : L.length ≤ 10000) (x2 : Option SV) (h2 : Pl x2) :
    wvC [some ⟨.p, .int r⟩, some ⟨.t, allD L⟩, x2, none, none] = .ok ⟨.t, allD (wst (2 * r) L)⟩ [some ⟨.p, .int r⟩, some ⟨.p, allD L⟩, x2, none, none] := by
  have src : seqI (varE 1) [some ⟨.p, .int r⟩, some ⟨.t, allD L⟩, x2, none, none] = .ok ⟨L.map rowD, none⟩ [some ⟨.p, .int r⟩, some ⟨.p, allD L⟩, x2, none, none] := rfl
  unfold wvC
  rw [a_comp2M, bindR_ok src]
  have fl : (L.map rowD).flatMap (fun d => (wst1 (2 * r) (rowOf d)).map rowD) = (wst (2 * r) L).map rowD := by
    unfold wst
    rw [List.flatMap_map, List.map_flatMap]
    congr 1
    funext row
    rw [rowOf_rowD]
  have lens : ((L.map rowD).flatMap (fun d => (wst1 (2 * r) (rowOf d)).map rowD)).length ≤ 20000 := by
    rw [fl, List.length_map]
    exact Nat.le_trans (wst_len _ _) (by omega)
  have g : ∀ ds e, Grd ⟨ds, none⟩ e := fun _ _ => trivial
  have lp : cLoop2 .t ⟨L.map rowD, none⟩ [3, 4] (nameG 3) (fun e => .ok true e) (seqI (opd (constE (.frt [.int 0, .int 1])))) [4] (nameG 4) (testV (op2 (cmpG (fun i j => decide (i < j))) (opd (methL countG (varE 3) (consA (varE 4) nilA))) (opd (op2 mulG (opd (constE (.int 2))) (varE 0))))) (ownE (op2 addG (varE 3) (opd (lstE (consA (varE 4) nilA))))) (L.map rowD) [some ⟨.p, .int r⟩, some ⟨.p, allD L⟩, x2, none, none] [] =
      .ok ([] ++ (L.map rowD).flatMap (fun d => (wst1 (2 * r) (rowOf d)).map rowD)) [some ⟨.p, .int r⟩, some ⟨.p, allD L⟩, x2, none, none] := by
    refine cLoop2_map (g _ _) _ _ [] (by rw [List.length_nil]; omega) fun d hd acc hacc => ?_
    obtain ⟨row, hrow, rfl⟩ := List.mem_map.mp hd
    have hlen := hr row hrow
    refine ⟨[some ⟨.p, .int r⟩, some ⟨.p, allD L⟩, x2, some ⟨.p, rowD row⟩, none], [some ⟨.p, .int r⟩, some ⟨.p, allD L⟩, x2, some ⟨.p, rowD row⟩, none], ⟨[.int 0, .int 1], none⟩, [some ⟨.p, .int r⟩, some ⟨.p, allD L⟩, x2, some ⟨.p, rowD row⟩, none], [some ⟨.p, .int r⟩, some ⟨.p, allD L⟩, x2, some ⟨.p, rowD row⟩, none], rfl, rfl, rfl, ?_, rfl⟩
    rw [rowOf_rowD, List.length_map] at hacc
    have w2 := wst1_len (2 * r) row
    rw [rowOf_rowD, ← inner_eq]
    show cLoop .t ⟨[.int 0, .int 1], none⟩ [4] (nameG 4) _ _ [.int 0, .int 1] [some ⟨.p, .int r⟩, some ⟨.p, allD L⟩, x2, some ⟨.p, rowD row⟩, none] acc = _
    refine cLoop_map (g _ _) _ _ _ acc (by show acc.length + 2 ≤ 100000; omega) fun d hd => ?_
    have : ∃ h : Int, d = .int h := by
      have : d = .int 0 ∨ d = .int 1 := by simpa using hd
      rcases this with rfl | rfl <;> exact ⟨_, rfl⟩
    obtain ⟨h, rfl⟩ := this
    have cnt : decide (((row.count h : Nat) : Int) < 2 * (r : Int)) = isH (2 * r) row (.int h) := by
      show _ = decide (row.count h < 2 * r)
      rw [decide_eq_decide]; omega
    have q1 : row.length + 1 ≤ 100000 := by omega
    refine ⟨[some ⟨.p, .int r⟩, some ⟨.p, allD L⟩, x2, some ⟨.p, rowD row⟩, some ⟨.p, .int h⟩], [some ⟨.p, .int r⟩, some ⟨.p, allD L⟩, x2, some ⟨.p, rowD row⟩, some ⟨.p, .int h⟩], rfl, ?_, fun _ => rfl, fun _ => ⟨⟨.t, rowD (row ++ [h])⟩, [some ⟨.p, .int r⟩, some ⟨.p, allD L⟩, x2, some ⟨.p, rowD row⟩, some ⟨.p, .int h⟩], ?_, rfl, rfl⟩⟩
    · rw [← cnt]
      rcases h2 with rfl | ⟨d2, rfl⟩ <;> simp [a_bindR, a_bindS, a_opd, a_constE, a_varE, a_keepE, a_op1, a_op2, a_nilA, a_consA, a_callB, a_tupE, a_lstE, a_testV, a_andT, a_orT, a_notT, a_andV, a_orV, a_notV, a_ifE, a_seqS, a_ifS, a_setS, a_dropS, a_retS, a_retVarS, a_asgS, a_callE, a_callF, a_appK, a_forS, a_compE, a_seqI, a_rng1, a_rng2, a_methL, a_mutL, a_setIxS, a_noPt, a_somePt, a_sliceE, a_chainE, a_nameG, a_nilG, a_consG, a_tupG, a_dnewE, a_dputS, a_dgetE, a_callP, a_zipI, a_enumI, revG, itemsT, inG, maxG, zipD, enumD, defG, runDef, env0, En.sv, getL, Opd.get, pureO, pureL, callD, argL, argO, lentS, wbE, wb1, wbAt, endF, backD, pB, pI, nL, numG, cmpG, subG, addG, mulG, negG, isNG, ixG, itemsD, itemsL, lenG, listG, tupleG, sumG, allG, int1G, int2G, intG, isiG, tyD, appendK, popK, clearK, insertK, reverseK, extendK, countG, atI, ixN, eqG, intsOf, blsOf, wipeE, restE, tkeyD, keysD, keyD, kit_ii, kit_ib, kit_bi, kit_bb, kit_ll, kit_tt, kit_lt, kit_tl, kit_ti, kit_li, kit_ni, kit_si, kit_nt, kit_it, kit_st, kit_bt, getS, lendF, Fl.sh, dPut, dGet, isDct, a_raiseS, a_callZ, a_callPZ, a_dixE, a_dinN, a_parS, a_isxE, treeOK, imm, immL, immK, shImm, unlL, unl1, a_ownE, a_lockG, a_compM, a_comp2M, navD, updD, updK, stepIx, Fl.tr, accept, Md.fl, a_mutPS, a_pthV, a_pthI, a_pairA, a_nilT, a_consT, a_lstT, a_tupT, rowD, cm2]
    · rcases h2 with rfl | ⟨d2, rfl⟩ <;> simp [a_bindR, a_bindS, a_opd, a_constE, a_varE, a_keepE, a_op1, a_op2, a_nilA, a_consA, a_callB, a_tupE, a_lstE, a_testV, a_andT, a_orT, a_notT, a_andV, a_orV, a_notV, a_ifE, a_seqS, a_ifS, a_setS, a_dropS, a_retS, a_retVarS, a_asgS, a_callE, a_callF, a_appK, a_forS, a_compE, a_seqI, a_rng1, a_rng2, a_methL, a_mutL, a_setIxS, a_noPt, a_somePt, a_sliceE, a_chainE, a_nameG, a_nilG, a_consG, a_tupG, a_dnewE, a_dputS, a_dgetE, a_callP, a_zipI, a_enumI, revG, itemsT, inG, maxG, zipD, enumD, defG, runDef, env0, En.sv, getL, Opd.get, pureO, pureL, callD, argL, argO, lentS, wbE, wb1, wbAt, endF, backD, pB, pI, nL, numG, cmpG, subG, addG, mulG, negG, isNG, ixG, itemsD, itemsL, lenG, listG, tupleG, sumG, allG, int1G, int2G, intG, isiG, tyD, appendK, popK, clearK, insertK, reverseK, extendK, countG, atI, ixN, eqG, intsOf, blsOf, wipeE, restE, tkeyD, keysD, keyD, kit_ii, kit_ib, kit_bi, kit_bb, kit_ll, kit_tt, kit_lt, kit_tl, kit_ti, kit_li, kit_ni, kit_si, kit_nt, kit_it, kit_st, kit_bt, getS, lendF, Fl.sh, dPut, dGet, isDct, a_raiseS, a_callZ, a_callPZ, a_dixE, a_dinN, a_parS, a_isxE, treeOK, imm, immL, immK, shImm, unlL, unl1, a_ownE, a_lockG, a_compM, a_comp2M, navD, updD, updK, stepIx, Fl.tr, accept, Md.fl, a_mutPS, a_pthV, a_pthI, a_pairA, a_nilT, a_consT, a_lstT, a_tupT, rowD, immL_app, immL_ints, q1]
  rw [show wipeE [some ⟨.p, .int r⟩, some ⟨.p, allD L⟩, x2, none, none] [3, 4] = [some ⟨.p, .int r⟩, some ⟨.p, allD L⟩, x2, none, none] from rfl]
  dsimp only
  rw [lp]
  dsimp only
  rw [List.nil_append, fl]
  rcases h2 with rfl | ⟨d2, rfl⟩ <;> rfl
end My

namespace My
open PySem L2 DL
theorem wst_rows {m n : Nat} {L : List (List Int)} (h : ∀ row ∈ L, row.length = n) : ∀ row ∈ wst m L, row.length = n + 1 := fun row hr => by
  unfold wst at hr
  obtain ⟨r0, h0, h1⟩ := List.mem_flatMap.mp hr
  unfold wst1 at h1
  obtain ⟨x, _, rfl⟩ := List.mem_map.mp h1
  rw [List.length_append, h r0 h0]; rfl
theorem wvK_rows (m : Nat) : ∀ k : Nat, ∀ row ∈ wvK m k, row.length = k
  | 0, row, h => by
    have : row = [] := by simpa [wvK] using h
    rw [this]; rfl
  | k + 1, row, h => wst_rows (wvK_rows m k) row h
theorem weav_ok (r : Nat) (hr : r ≤ 3) : G_weavings [⟨.p, .int r⟩] = .ret ⟨.t, allD (wvK (2 * r) (4 * r))⟩ [.int r] := by
  have s := sure_rounds_ok r 3 (by omega) (by omega)
  show endF [⟨.p, .int r⟩] (m_weavings (env0 5 [⟨.p, .int r⟩])) = _
  rw [weav_eq]
  have s1 : (dropS (callE G_sure_rounds (consA (varE 0) (consA (opd (constE (.int 3))) nilA)))) (env0 5 [⟨.p, .int r⟩]) = .nx [some ⟨.p, .int r⟩, none, none, none, none] := by simp [a_bindR, a_bindS, a_opd, a_constE, a_varE, a_keepE, a_op1, a_op2, a_nilA, a_consA, a_callB, a_tupE, a_lstE, a_testV, a_andT, a_orT, a_notT, a_andV, a_orV, a_notV, a_ifE, a_seqS, a_ifS, a_setS, a_dropS, a_retS, a_retVarS, a_asgS, a_callE, a_callF, a_appK, a_forS, a_compE, a_seqI, a_rng1, a_rng2, a_methL, a_mutL, a_setIxS, a_noPt, a_somePt, a_sliceE, a_chainE, a_nameG, a_nilG, a_consG, a_tupG, a_dnewE, a_dputS, a_dgetE, a_callP, a_zipI, a_enumI, revG, itemsT, inG, maxG, zipD, enumD, defG, runDef, env0, En.sv, getL, Opd.get, pureO, pureL, callD, argL, argO, lentS, wbE, wb1, wbAt, endF, backD, pB, pI, nL, numG, cmpG, subG, addG, mulG, negG, isNG, ixG, itemsD, itemsL, lenG, listG, tupleG, sumG, allG, int1G, int2G, intG, isiG, tyD, appendK, popK, clearK, insertK, reverseK, extendK, countG, atI, ixN, eqG, intsOf, blsOf, wipeE, restE, tkeyD, keysD, keyD, kit_ii, kit_ib, kit_bi, kit_bb, kit_ll, kit_tt, kit_lt, kit_tl, kit_ti, kit_li, kit_ni, kit_si, kit_nt, kit_it, kit_st, kit_bt, getS, lendF, Fl.sh, dPut, dGet, isDct, a_raiseS, a_callZ, a_callPZ, a_dixE, a_dinN, a_parS, a_isxE, treeOK, imm, immL, immK, shImm, unlL, unl1, a_ownE, a_lockG, a_compM, a_comp2M, navD, updD, updK, stepIx, Fl.tr, accept, Md.fl, a_mutPS, a_pthV, a_pthI, a_pairA, a_nilT, a_consT, a_lstT, a_tupT, s]
  have s2 : (setS 1 (lstT (consT (lstT nilT) nilT))) [some ⟨.p, .int r⟩, none, none, none, none] = .nx [some ⟨.p, .int r⟩, some ⟨.t, allD (wvK (2 * r) 0)⟩, none, none, none] := by simp [a_bindR, a_bindS, a_opd, a_constE, a_varE, a_keepE, a_op1, a_op2, a_nilA, a_consA, a_callB, a_tupE, a_lstE, a_testV, a_andT, a_orT, a_notT, a_andV, a_orV, a_notV, a_ifE, a_seqS, a_ifS, a_setS, a_dropS, a_retS, a_retVarS, a_asgS, a_callE, a_callF, a_appK, a_forS, a_compE, a_seqI, a_rng1, a_rng2, a_methL, a_mutL, a_setIxS, a_noPt, a_somePt, a_sliceE, a_chainE, a_nameG, a_nilG, a_consG, a_tupG, a_dnewE, a_dputS, a_dgetE, a_callP, a_zipI, a_enumI, revG, itemsT, inG, maxG, zipD, enumD, defG, runDef, env0, En.sv, getL, Opd.get, pureO, pureL, callD, argL, argO, lentS, wbE, wb1, wbAt, endF, backD, pB, pI, nL, numG, cmpG, subG, addG, mulG, negG, isNG, ixG, itemsD, itemsL, lenG, listG, tupleG, sumG, allG, int1G, int2G, intG, isiG, tyD, appendK, popK, clearK, insertK, reverseK, extendK, countG, atI, ixN, eqG, intsOf, blsOf, wipeE, restE, tkeyD, keysD, keyD, kit_ii, kit_ib, kit_bi, kit_bb, kit_ll, kit_tt, kit_lt, kit_tl, kit_ti, kit_li, kit_ni, kit_si, kit_nt, kit_it, kit_st, kit_bt, getS, lendF, Fl.sh, dPut, dGet, isDct, a_raiseS, a_callZ, a_callPZ, a_dixE, a_dinN, a_parS, a_isxE, treeOK, imm, immL, immK, shImm, unlL, unl1, a_ownE, a_lockG, a_compM, a_comp2M, navD, updD, updK, stepIx, Fl.tr, accept, Md.fl, a_mutPS, a_pthV, a_pthI, a_pairA, a_nilT, a_consT, a_lstT, a_tupT, allD, wvK, rowD]
  have c4 : CMul 4 (r : Int) := .inl ⟨by decide, by decide⟩
  have src : rng1 (consA (opd (op2 mulG (opd (constE (.int 4))) (varE 0))) nilA) [some ⟨.p, .int r⟩, some ⟨.t, allD (wvK (2 * r) 0)⟩, none, none, none] = .ok ⟨rangeD 0 (4 * r), none⟩ [some ⟨.p, .int r⟩, some ⟨.t, allD (wvK (2 * r) 0)⟩, none, none, none] := by
    have b3 : 4 * r = (4 * (r : Int)).toNat := by omega
    rw [b3]
    have f1 : op2 mulG (opd (constE (.int 4))) (varE 0) [some ⟨.p, .int r⟩, some ⟨.t, allD (wvK (2 * r) 0)⟩, none, none, none] = .ok ⟨.p, .int (4 * (r : Int))⟩ [some ⟨.p, .int r⟩, some ⟨.t, allD (wvK (2 * r) 0)⟩, none, none, none] := by simp [a_bindR, a_bindS, a_opd, a_constE, a_varE, a_keepE, a_op1, a_op2, a_nilA, a_consA, a_callB, a_tupE, a_lstE, a_testV, a_andT, a_orT, a_notT, a_andV, a_orV, a_notV, a_ifE, a_seqS, a_ifS, a_setS, a_dropS, a_retS, a_retVarS, a_asgS, a_callE, a_callF, a_appK, a_forS, a_compE, a_seqI, a_rng1, a_rng2, a_methL, a_mutL, a_setIxS, a_noPt, a_somePt, a_sliceE, a_chainE, a_nameG, a_nilG, a_consG, a_tupG, a_dnewE, a_dputS, a_dgetE, a_callP, a_zipI, a_enumI, revG, itemsT, inG, maxG, zipD, enumD, defG, runDef, env0, En.sv, getL, Opd.get, pureO, pureL, callD, argL, argO, lentS, wbE, wb1, wbAt, endF, backD, pB, pI, nL, numG, cmpG, subG, addG, mulG, negG, isNG, ixG, itemsD, itemsL, lenG, listG, tupleG, sumG, allG, int1G, int2G, intG, isiG, tyD, appendK, popK, clearK, insertK, reverseK, extendK, countG, atI, ixN, eqG, intsOf, blsOf, wipeE, restE, tkeyD, keysD, keyD, kit_ii, kit_ib, kit_bi, kit_bb, kit_ll, kit_tt, kit_lt, kit_tl, kit_ti, kit_li, kit_ni, kit_si, kit_nt, kit_it, kit_st, kit_bt, getS, lendF, Fl.sh, dPut, dGet, isDct, a_raiseS, a_callZ, a_callPZ, a_dixE, a_dinN, a_parS, a_isxE, treeOK, imm, immL, immK, shImm, unlL, unl1, a_ownE, a_lockG, a_compM, a_comp2M, navD, updD, updK, stepIx, Fl.tr, accept, Md.fl, a_mutPS, a_pthV, a_pthI, a_pairA, a_nilT, a_consT, a_lstT, a_tupT, c4]
    have f2 : opd (op2 mulG (opd (constE (.int 4))) (varE 0)) [some ⟨.p, .int r⟩, some ⟨.t, allD (wvK (2 * r) 0)⟩, none, none, none] = .ok (.val (.int (4 * (r : Int)))) [some ⟨.p, .int r⟩, some ⟨.t, allD (wvK (2 * r) 0)⟩, none, none, none] := by rw [a_opd, bindR_ok f1]
    have h0 : -4611686018427387904 ≤ (4 * (r : Int)) := by omega
    have h1 : (4 * (r : Int)) < 4611686018427387904 := by omega
    have f3 : consA (opd (op2 mulG (opd (constE (.int 4))) (varE 0))) nilA [some ⟨.p, .int r⟩, some ⟨.t, allD (wvK (2 * r) 0)⟩, none, none, none] = .ok [.val (.int (4 * (r : Int)))] [some ⟨.p, .int r⟩, some ⟨.t, allD (wvK (2 * r) 0)⟩, none, none, none] := by rw [a_consA, bindR_ok f2]; rfl
    rw [a_rng1, bindR_ok f3]
    generalize (4 * (r : Int)) = q at *
    generalize allD (wvK (2 * r) 0) = X at *
    simp [getL, Opd.get, h0, h1]
  have lp : ∃ x2, Pl x2 ∧ loopS ⟨rangeD 0 (4 * r), none⟩ (nameG 2) (setS 1 wvC) (rangeD 0 (4 * r)) [some ⟨.p, .int r⟩, some ⟨.t, allD (wvK (2 * r) 0)⟩, none, none, none] = .nx [some ⟨.p, .int r⟩, some ⟨.t, allD (wvK (2 * r) (4 * r))⟩, x2, none, none] := by
    obtain ⟨e2, g1, k, x2, hk, hx, g2⟩ := loopS_inv (s := ⟨rangeD 0 (4 * r), none⟩) (asg := nameG 2) (body := setS 1 wvC) (e' := fun _ => True) (fun ds e => ∃ (k : Nat) (x2 : Option SV), k + ds.length = 4 * r ∧ Pl x2 ∧ e = [some ⟨.p, .int r⟩, some ⟨.t, allD (wvK (2 * r) k)⟩, x2, none, none]) (rangeD 0 (4 * r)) [some ⟨.p, .int r⟩, some ⟨.t, allD (wvK (2 * r) 0)⟩, none, none, none] ⟨0, none, by simp [rangeD], .inl rfl, rfl⟩ (fun _ _ _ => trivial) (by
        rintro d ds e ⟨k, x2, hk, hx, rfl⟩
        rw [List.length_cons] at hk
        refine ⟨[some ⟨.p, .int r⟩, some ⟨.t, allD (wvK (2 * r) k)⟩, some ⟨.p, d⟩, none, none], [some ⟨.p, .int r⟩, some ⟨.t, allD (wvK (2 * r) (k + 1))⟩, some ⟨.p, d⟩, none, none], rfl, ?_, k + 1, some ⟨.p, d⟩, by omega, .inr ⟨d, rfl⟩, rfl⟩
        have hl := wvK_len (2 * r) k
        have hp := pow_le12 (k := k) (by omega)
        have := wvC_ok r (wvK (2 * r) k) (fun row hr => by rw [wvK_rows _ _ row hr]; omega) (by omega) (some ⟨.p, d⟩) (.inr ⟨d, rfl⟩)
        rw [a_setS, bindS_ok this]
        rfl)
    refine ⟨x2, hx, ?_⟩
    have : k = 4 * r := by simpa using hk
    rw [g1, g2, this]
  obtain ⟨x2, _, lp⟩ := lp
  have s3 : (forS (rng1 (consA (opd (op2 mulG (opd (constE (.int 4))) (varE 0))) nilA)) (nameG 2) (setS 1 wvC)) [some ⟨.p, .int r⟩, some ⟨.t, allD (wvK (2 * r) 0)⟩, none, none, none] = .nx [some ⟨.p, .int r⟩, some ⟨.t, allD (wvK (2 * r) (4 * r))⟩, x2, none, none] := by rw [a_forS, bindS_ok src]; exact lp
  rw [seqS_nx s1, seqS_nx s2, seqS_nx s3]
  generalize allD (wvK (2 * r) (4 * r)) = X
  simp [a_bindR, a_bindS, a_opd, a_constE, a_varE, a_keepE, a_op1, a_op2, a_nilA, a_consA, a_callB, a_tupE, a_lstE, a_testV, a_andT, a_orT, a_notT, a_andV, a_orV, a_notV, a_ifE, a_seqS, a_ifS, a_setS, a_dropS, a_retS, a_retVarS, a_asgS, a_callE, a_callF, a_appK, a_forS, a_compE, a_seqI, a_rng1, a_rng2, a_methL, a_mutL, a_setIxS, a_noPt, a_somePt, a_sliceE, a_chainE, a_nameG, a_nilG, a_consG, a_tupG, a_dnewE, a_dputS, a_dgetE, a_callP, a_zipI, a_enumI, revG, itemsT, inG, maxG, zipD, enumD, defG, runDef, env0, En.sv, getL, Opd.get, pureO, pureL, callD, argL, argO, lentS, wbE, wb1, wbAt, endF, backD, pB, pI, nL, numG, cmpG, subG, addG, mulG, negG, isNG, ixG, itemsD, itemsL, lenG, listG, tupleG, sumG, allG, int1G, int2G, intG, isiG, tyD, appendK, popK, clearK, insertK, reverseK, extendK, countG, atI, ixN, eqG, intsOf, blsOf, wipeE, restE, tkeyD, keysD, keyD, kit_ii, kit_ib, kit_bi, kit_bb, kit_ll, kit_tt, kit_lt, kit_tl, kit_ti, kit_li, kit_ni, kit_si, kit_nt, kit_it, kit_st, kit_bt, getS, lendF, Fl.sh, dPut, dGet, isDct, a_raiseS, a_callZ, a_callPZ, a_dixE, a_dinN, a_parS, a_isxE, treeOK, imm, immL, immK, shImm, unlL, unl1, a_ownE, a_lockG, a_compM, a_comp2M, navD, updD, updK, stepIx, Fl.tr, accept, Md.fl, a_mutPS, a_pthV, a_pthI, a_pairA, a_nilT, a_consT, a_lstT, a_tupT]
end My

namespace My
open PySem L2 DL
inductive Tm where | x | y | n | pr (a b : Tm) deriving DecidableEq
def phi (X Y : Int) : Tm → D
  | .x => .int X
  | .y => .int Y
  | .n => .non
  | .pr a b => .tup [phi X Y a, phi X Y b]
structure KT where
  ks : List Tm
  ds : List Nat
  cs : List (List Tm)
def stepT (s : KT) (h : Nat) : Option KT := match s.ds[h]?, s.ks[h]? with
  | some d, some k => (match s.cs[d / 2]? with
    | some c => if d % 2 = 0 then (if h < c.length then some ⟨s.ks, s.ds.set h (d + 1), s.cs.set (d / 2) (c.set h k)⟩ else none)
      else (match c[1 - h]? with | some y => some ⟨s.ks.set h (.pr k y), s.ds.set h (d + 1), s.cs⟩ | none => none)
    | none => none)
  | _, _ => none
def runT : List Int → KT → Option KT
  | [], s => some s
  | h :: r, s => if 0 ≤ h ∧ h ≤ 1 then (match stepT s h.toNat with | some s' => runT r s' | none => none) else none
def outT (r : Nat) (s : KT) (h : Nat) : Tm := if s.ds[h]? = some (2 * r) then s.ks.getD h .n else .n
def iniT (r : Nat) : KT := ⟨[.x, .y], [0, 0], List.replicate r [.n, .n]⟩
def img (X Y : Int) (s : KT) : KB := ⟨s.ks.map (phi X Y), s.ds, s.cs.map fun c => c.map (phi X Y)⟩
theorem step_img (X Y : Int) (s : KT) (h : Nat) : kbStep (img X Y s) h = (stepT s h).map (img X Y) := by
  unfold kbStep stepT img
  simp only [List.getElem?_map]
  cases e1 : s.ds[h]? with
  | none => rfl
  | some d =>
    cases e2 : s.ks[h]? with
    | none => rfl
    | some k =>
      simp only [Option.map_some]
      cases e3 : s.cs[d / 2]? with
      | none => rfl
      | some c =>
        simp only [Option.map_some, List.length_map, List.getElem?_map]
        by_cases hd : d % 2 = 0
        · rw [if_pos hd, if_pos hd]
          by_cases hh : h < c.length
          · rw [if_pos hh, if_pos hh]
            simp [List.map_set]
          · rw [if_neg hh, if_neg hh]; rfl
        · rw [if_neg hd, if_neg hd]
          cases e4 : c[1 - h]? with
          | none => rfl
          | some y => simp [List.map_set, phi]
theorem run_img (X Y : Int) : ∀ (hs : List Int) (s : KT), kbRun (hs.map D.int) (img X Y s) = (runT hs s).map (img X Y)
  | [], s => rfl
  | h :: r, s => by
    rw [List.map_cons]
    unfold kbRun runT
    by_cases hh : 0 ≤ h ∧ h ≤ 1
    · rw [if_pos hh, if_pos hh, step_img]
      cases e : stepT s h.toNat with
      | none => rfl
      | some s' => exact run_img X Y r s'
    · rw [if_neg hh, if_neg hh]; rfl
theorem out_img (X Y : Int) (r : Nat) (s : KT) (h : Nat) : kbOut r (img X Y s) h = phi X Y (outT r s h) := by
  unfold kbOut outT img
  dsimp only
  by_cases e : s.ds[h]? = some (2 * r)
  · rw [if_pos e, if_pos e, List.getD_eq_getElem?_getD, List.getD_eq_getElem?_getD, List.getElem?_map]
    cases s.ks[h]? <;> rfl
  · rw [if_neg e, if_neg e]; rfl
theorem ini_img (X Y : Int) (r : Nat) : img X Y (iniT r) = ⟨[.int X, .int Y], [0, 0], List.replicate r [.non, .non]⟩ := by
  simp [img, iniT, phi]
def plT : Tm → Nat → Int
  | .pr a .n, h => 3 * plT a h
  | .pr a b, h => 3 * plT a h + 2 * (plT b (1 - h) - plT a h)
  | _, h => h
theorem phi_non {X Y : Int} {t : Tm} (h : phi X Y t = .non) : t = .n := by cases t <;> simp_all [phi]
theorem spt_pl {X Y : Int} {d : D} {h r : Nat} {m : Int} {f g : Bool} (S : Spt X Y d h r m f g) : ∀ t, d = phi X Y t → m = plT t h := by
  induction S with
  | base0 _ => intro t e; cases t <;> simp_all [phi, plT]
  | base1 _ => intro t e; cases t <;> simp_all [phi, plT]
  | @lone a h r m f g _ ih =>
    intro t e
    cases t with
    | pr u v =>
      simp only [phi, D.tup.injEq, List.cons.injEq] at e
      have := phi_non e.2.1.symm
      subst this
      rw [ih u e.1]; rfl
    | _ => simp [phi] at e
  | @see a b h r m m' f g f' g' hh S1 S2 _ ih1 ih2 =>
    intro t e
    cases t with
    | pr u v =>
      simp only [phi, D.tup.injEq, List.cons.injEq] at e
      have nv : v ≠ .n := fun z => by
        subst z
        exact S2.notNon e.2.1
      rw [ih1 u e.1, ih2 v e.2.1]
      cases v with
      | n => exact absurd rfl nv
      | _ => rfl
    | _ => simp [phi] at e
structure Ln where
  there : List (Int × Tm)
  met : List Int
def lookT (l : List (Int × Tm)) (p : Int) : Option Tm := (l.find? fun e => decide (e.1 = p)).map (·.2)
def setdT (l : List (Int × Tm)) (p : Int) (t : Tm) : List (Int × Tm) := match lookT l p with | some _ => l | none => l ++ [(p, t)]
def lineStep (r : Nat) (s : Ln) (row : List Int) : Option Ln := match runT row (iniT r) with
  | none => none
  | some k =>
    if outT r k 0 ≠ .n ∧ outT r k 1 ≠ .n ∧ (lookT s.there (plT (outT r k 0) 0)).getD (outT r k 0) = outT r k 0 ∧ plT (outT r k 0) 0 % 2 = 0 ∧
      (lookT (setdT s.there (plT (outT r k 0) 0) (outT r k 0)) (plT (outT r k 1) 1)).getD (outT r k 1) = outT r k 1 ∧ plT (outT r k 1) 1 % 2 = 1 ∧ (plT (outT r k 0) 0 - plT (outT r k 1) 1 = 1 ∨ plT (outT r k 1) 1 - plT (outT r k 0) 0 = 1)
    then some ⟨setdT (setdT s.there (plT (outT r k 0) 0) (outT r k 0)) (plT (outT r k 1) 1) (outT r k 1), let q := if plT (outT r k 0) 0 ≤ plT (outT r k 1) 1 then plT (outT r k 0) 0 else plT (outT r k 1) 1; if s.met.contains q then s.met else s.met ++ [q]⟩ else none
def linesT (r : Nat) : List (List Int) → Ln → Option Ln
  | [], s => some s
  | row :: L, s => (match lineStep r s row with | some s' => linesT r L s' | none => none)
def plainT : Tm → Bool
  | .pr a .n => plainT a
  | .pr _ _ => false
  | _ => true
def metT (u : Tm) : Tm → Bool
  | .pr a b => metT u a || metT u b
  | t => decide (t = u)
def ups (n : Nat) : List Int := (List.range n).map fun (k : Nat) => (k : Int)
def endOk (r : Nat) (s : Ln) : Bool := decide (sortI (s.there.map (·.1)) = ups (3 ^ r + 1)) && decide (sortI s.met = ups (3 ^ r)) && decide (s.there.length < 64) && decide (s.met.length < 64) &&
  s.there.all fun e => decide (plainT e.2 = decide (e.1 = 0 ∨ e.1 = 3 ^ r)) && decide (metT (if e.1 % 2 = 0 then .y else .x) e.2 = !decide (e.1 = 0 ∨ e.1 = 3 ^ r)) && decide (e.1 % 2 = 0 ∨ e.1 % 2 = 1)
def allOk (r : Nat) : Bool := match linesT r (wvK (2 * r) (4 * r)) ⟨[], []⟩ with | some s => endOk r s | none => false
theorem all_ok : ∀ r : Fin 4, allOk r = true := by decide +kernel
end My

namespace My
open PySem L2 DL
theorem power_ok (r : Nat) (hr : r ≤ 3) : G__law_power [⟨.p, .int r⟩] = .ret ⟨.p, .int (3 ^ r)⟩ [.int r] := by
  have g : ∀ ds e, Grd ⟨ds, none⟩ e := fun _ _ => trivial
  have c3 : ∀ x, CMul 3 x := fun x => .inl ⟨by decide, by decide⟩
  rcases (by omega : r = 0 ∨ r = 1 ∨ r = 2 ∨ r = 3) with rfl | rfl | rfl | rfl <;> simp [a_bindR, a_bindS, a_opd, a_constE, a_varE, a_keepE, a_op1, a_op2, a_nilA, a_consA, a_callB, a_tupE, a_lstE, a_testV, a_andT, a_orT, a_notT, a_andV, a_orV, a_notV, a_ifE, a_seqS, a_ifS, a_setS, a_dropS, a_retS, a_retVarS, a_asgS, a_callE, a_callF, a_appK, a_forS, a_compE, a_seqI, a_rng1, a_rng2, a_methL, a_mutL, a_setIxS, a_noPt, a_somePt, a_sliceE, a_chainE, a_nameG, a_nilG, a_consG, a_tupG, a_dnewE, a_dputS, a_dgetE, a_callP, a_zipI, a_enumI, revG, itemsT, inG, maxG, zipD, enumD, defG, runDef, env0, En.sv, getL, Opd.get, pureO, pureL, callD, argL, argO, lentS, wbE, wb1, wbAt, endF, backD, pB, pI, nL, numG, cmpG, subG, addG, mulG, negG, isNG, ixG, itemsD, itemsL, lenG, listG, tupleG, sumG, allG, int1G, int2G, intG, isiG, tyD, appendK, popK, clearK, insertK, reverseK, extendK, countG, atI, ixN, eqG, intsOf, blsOf, wipeE, restE, tkeyD, keysD, keyD, kit_ii, kit_ib, kit_bi, kit_bb, kit_ll, kit_tt, kit_lt, kit_tl, kit_ti, kit_li, kit_ni, kit_si, kit_nt, kit_it, kit_st, kit_bt, getS, lendF, Fl.sh, dPut, dGet, isDct, a_raiseS, a_callZ, a_callPZ, a_dixE, a_dinN, a_parS, a_isxE, treeOK, imm, immL, immK, shImm, unlL, unl1, a_ownE, a_lockG, a_compM, a_comp2M, navD, updD, updK, stepIx, Fl.tr, accept, Md.fl, a_mutPS, a_pthV, a_pthI, a_pairA, a_nilT, a_consT, a_lstT, a_tupT, G__law_power, m__law_power, rangeD, List.range, List.range.loop, loopS, g, c3]
noncomputable def pC : En → R Bool := (testV (callB isiG (consA (varE 0) (consA (opd (constE (.opq (.ty "tuple")))) nilA))))
noncomputable def pB' : En → RS := (seqS (ifS (testV (op2 (isNG true) (opd (op2 ixG (varE 0) (opd (constE (.int 1))))) (opd (constE .non)))) (retS (constE (.bl false))) .nx) (setS 0 (op2 ixG (varE 0) (opd (constE (.int 0))))))
theorem plain_eq : m__law_plain = (seqS (whileS pC pB') (retS (constE (.bl true)))) := rfl
def dep : Tm → Nat
  | .pr a b => (if dep a ≤ dep b then dep b else dep a) + 1
  | _ => 0
theorem pC_no (X Y : Int) (t : Tm) (h : ∀ a b, t ≠ .pr a b) : pC [some ⟨.p, phi X Y t⟩] = .ok false [some ⟨.p, phi X Y t⟩] := by
  cases t with
  | pr a b => exact absurd rfl (h a b)
  | _ => simp [a_bindR, a_bindS, a_opd, a_constE, a_varE, a_keepE, a_op1, a_op2, a_nilA, a_consA, a_callB, a_tupE, a_lstE, a_testV, a_andT, a_orT, a_notT, a_andV, a_orV, a_notV, a_ifE, a_seqS, a_ifS, a_setS, a_dropS, a_retS, a_retVarS, a_asgS, a_callE, a_callF, a_appK, a_forS, a_compE, a_seqI, a_rng1, a_rng2, a_methL, a_mutL, a_setIxS, a_noPt, a_somePt, a_sliceE, a_chainE, a_nameG, a_nilG, a_consG, a_tupG, a_dnewE, a_dputS, a_dgetE, a_callP, a_zipI, a_enumI, revG, itemsT, inG, maxG, zipD, enumD, defG, runDef, env0, En.sv, getL, Opd.get, pureO, pureL, callD, argL, argO, lentS, wbE, wb1, wbAt, endF, backD, pB, pI, nL, numG, cmpG, subG, addG, mulG, negG, isNG, ixG, itemsD, itemsL, lenG, listG, tupleG, sumG, allG, int1G, int2G, intG, isiG, tyD, appendK, popK, clearK, insertK, reverseK, extendK, countG, atI, ixN, eqG, intsOf, blsOf, wipeE, restE, tkeyD, keysD, keyD, kit_ii, kit_ib, kit_bi, kit_bb, kit_ll, kit_tt, kit_lt, kit_tl, kit_ti, kit_li, kit_ni, kit_si, kit_nt, kit_it, kit_st, kit_bt, getS, lendF, Fl.sh, dPut, dGet, isDct, a_raiseS, a_callZ, a_callPZ, a_dixE, a_dinN, a_parS, a_isxE, treeOK, imm, immL, immK, shImm, unlL, unl1, a_ownE, a_lockG, a_compM, a_comp2M, navD, updD, updK, stepIx, Fl.tr, accept, Md.fl, a_mutPS, a_pthV, a_pthI, a_pairA, a_nilT, a_consT, a_lstT, a_tupT, pC, phi]
theorem plain_loop (X Y : Int) : ∀ (t : Tm), ∃ n e', whileL pC pB' n [some ⟨.p, phi X Y t⟩] = (if plainT t = true then .nx e' else .ret ⟨.p, .bl false⟩ e')
  | .x => ⟨1, _, by unfold whileL; rw [pC_no X Y .x (fun _ _ z => by cases z)]; rfl⟩
  | .y => ⟨1, _, by unfold whileL; rw [pC_no X Y .y (fun _ _ z => by cases z)]; rfl⟩
  | .n => ⟨1, _, by unfold whileL; rw [pC_no X Y .n (fun _ _ z => by cases z)]; rfl⟩
  | .pr a b => by
    have c : pC [some ⟨.p, phi X Y (.pr a b)⟩] = .ok true [some ⟨.p, phi X Y (.pr a b)⟩] := by simp [a_bindR, a_bindS, a_opd, a_constE, a_varE, a_keepE, a_op1, a_op2, a_nilA, a_consA, a_callB, a_tupE, a_lstE, a_testV, a_andT, a_orT, a_notT, a_andV, a_orV, a_notV, a_ifE, a_seqS, a_ifS, a_setS, a_dropS, a_retS, a_retVarS, a_asgS, a_callE, a_callF, a_appK, a_forS, a_compE, a_seqI, a_rng1, a_rng2, a_methL, a_mutL, a_setIxS, a_noPt, a_somePt, a_sliceE, a_chainE, a_nameG, a_nilG, a_consG, a_tupG, a_dnewE, a_dputS, a_dgetE, a_callP, a_zipI, a_enumI, revG, itemsT, inG, maxG, zipD, enumD, defG, runDef, env0, En.sv, getL, Opd.get, pureO, pureL, callD, argL, argO, lentS, wbE, wb1, wbAt, endF, backD, pB, pI, nL, numG, cmpG, subG, addG, mulG, negG, isNG, ixG, itemsD, itemsL, lenG, listG, tupleG, sumG, allG, int1G, int2G, intG, isiG, tyD, appendK, popK, clearK, insertK, reverseK, extendK, countG, atI, ixN, eqG, intsOf, blsOf, wipeE, restE, tkeyD, keysD, keyD, kit_ii, kit_ib, kit_bi, kit_bb, kit_ll, kit_tt, kit_lt, kit_tl, kit_ti, kit_li, kit_ni, kit_si, kit_nt, kit_it, kit_st, kit_bt, getS, lendF, Fl.sh, dPut, dGet, isDct, a_raiseS, a_callZ, a_callPZ, a_dixE, a_dinN, a_parS, a_isxE, treeOK, imm, immL, immK, shImm, unlL, unl1, a_ownE, a_lockG, a_compM, a_comp2M, navD, updD, updK, stepIx, Fl.tr, accept, Md.fl, a_mutPS, a_pthV, a_pthI, a_pairA, a_nilT, a_consT, a_lstT, a_tupT, pC, phi]
    by_cases hb : b = .n
    · subst hb
      obtain ⟨n, e', ih⟩ := plain_loop X Y a
      refine ⟨n + 1, e', ?_⟩
      have bd : pB' [some ⟨.p, phi X Y (.pr a .n)⟩] = .nx [some ⟨.p, phi X Y a⟩] := by simp [a_bindR, a_bindS, a_opd, a_constE, a_varE, a_keepE, a_op1, a_op2, a_nilA, a_consA, a_callB, a_tupE, a_lstE, a_testV, a_andT, a_orT, a_notT, a_andV, a_orV, a_notV, a_ifE, a_seqS, a_ifS, a_setS, a_dropS, a_retS, a_retVarS, a_asgS, a_callE, a_callF, a_appK, a_forS, a_compE, a_seqI, a_rng1, a_rng2, a_methL, a_mutL, a_setIxS, a_noPt, a_somePt, a_sliceE, a_chainE, a_nameG, a_nilG, a_consG, a_tupG, a_dnewE, a_dputS, a_dgetE, a_callP, a_zipI, a_enumI, revG, itemsT, inG, maxG, zipD, enumD, defG, runDef, env0, En.sv, getL, Opd.get, pureO, pureL, callD, argL, argO, lentS, wbE, wb1, wbAt, endF, backD, pB, pI, nL, numG, cmpG, subG, addG, mulG, negG, isNG, ixG, itemsD, itemsL, lenG, listG, tupleG, sumG, allG, int1G, int2G, intG, isiG, tyD, appendK, popK, clearK, insertK, reverseK, extendK, countG, atI, ixN, eqG, intsOf, blsOf, wipeE, restE, tkeyD, keysD, keyD, kit_ii, kit_ib, kit_bi, kit_bb, kit_ll, kit_tt, kit_lt, kit_tl, kit_ti, kit_li, kit_ni, kit_si, kit_nt, kit_it, kit_st, kit_bt, getS, lendF, Fl.sh, dPut, dGet, isDct, a_raiseS, a_callZ, a_callPZ, a_dixE, a_dinN, a_parS, a_isxE, treeOK, imm, immL, immK, shImm, unlL, unl1, a_ownE, a_lockG, a_compM, a_comp2M, navD, updD, updK, stepIx, Fl.tr, accept, Md.fl, a_mutPS, a_pthV, a_pthI, a_pairA, a_nilT, a_consT, a_lstT, a_tupT, pB', phi]
      unfold whileL
      rw [c]
      dsimp only
      rw [bd]
      exact ih
    · refine ⟨1, [some ⟨.p, phi X Y (.pr a b)⟩], ?_⟩
      have bd : pB' [some ⟨.p, phi X Y (.pr a b)⟩] = .ret ⟨.p, .bl false⟩ [some ⟨.p, phi X Y (.pr a b)⟩] := by
        cases b with
        | n => exact absurd rfl hb
        | _ => simp [a_bindR, a_bindS, a_opd, a_constE, a_varE, a_keepE, a_op1, a_op2, a_nilA, a_consA, a_callB, a_tupE, a_lstE, a_testV, a_andT, a_orT, a_notT, a_andV, a_orV, a_notV, a_ifE, a_seqS, a_ifS, a_setS, a_dropS, a_retS, a_retVarS, a_asgS, a_callE, a_callF, a_appK, a_forS, a_compE, a_seqI, a_rng1, a_rng2, a_methL, a_mutL, a_setIxS, a_noPt, a_somePt, a_sliceE, a_chainE, a_nameG, a_nilG, a_consG, a_tupG, a_dnewE, a_dputS, a_dgetE, a_callP, a_zipI, a_enumI, revG, itemsT, inG, maxG, zipD, enumD, defG, runDef, env0, En.sv, getL, Opd.get, pureO, pureL, callD, argL, argO, lentS, wbE, wb1, wbAt, endF, backD, pB, pI, nL, numG, cmpG, subG, addG, mulG, negG, isNG, ixG, itemsD, itemsL, lenG, listG, tupleG, sumG, allG, int1G, int2G, intG, isiG, tyD, appendK, popK, clearK, insertK, reverseK, extendK, countG, atI, ixN, eqG, intsOf, blsOf, wipeE, restE, tkeyD, keysD, keyD, kit_ii, kit_ib, kit_bi, kit_bb, kit_ll, kit_tt, kit_lt, kit_tl, kit_ti, kit_li, kit_ni, kit_si, kit_nt, kit_it, kit_st, kit_bt, getS, lendF, Fl.sh, dPut, dGet, isDct, a_raiseS, a_callZ, a_callPZ, a_dixE, a_dinN, a_parS, a_isxE, treeOK, imm, immL, immK, shImm, unlL, unl1, a_ownE, a_lockG, a_compM, a_comp2M, navD, updD, updK, stepIx, Fl.tr, accept, Md.fl, a_mutPS, a_pthV, a_pthI, a_pairA, a_nilT, a_consT, a_lstT, a_tupT, pB', phi]
      have pf : plainT (.pr a b) = false := by
        cases b with
        | n => exact absurd rfl hb
        | _ => rfl
      unfold whileL
      rw [c]
      dsimp only
      rw [bd, pf]
      rfl
theorem plain_ok (X Y : Int) (t : Tm) : G__law_plain [⟨.p, phi X Y t⟩] = .ret ⟨.p, .bl (plainT t)⟩ [phi X Y t] := by
  obtain ⟨n, e', h⟩ := plain_loop X Y t
  show endF [⟨.p, phi X Y t⟩] (m__law_plain (env0 1 [⟨.p, phi X Y t⟩])) = _
  have ns : whileL pC pB' n [some ⟨.p, phi X Y t⟩] ≠ .stuck := by rw [h]; split <;> simp
  have w := whileS_eq n ns
  rw [h] at w
  rw [plain_eq]
  show endF _ (seqS _ _ [some ⟨.p, phi X Y t⟩]) = _
  cases hp : plainT t with
  | true =>
    rw [hp, if_pos rfl] at w
    rw [seqS_nx w]
    simp [a_bindR, a_bindS, a_opd, a_constE, a_varE, a_keepE, a_op1, a_op2, a_nilA, a_consA, a_callB, a_tupE, a_lstE, a_testV, a_andT, a_orT, a_notT, a_andV, a_orV, a_notV, a_ifE, a_seqS, a_ifS, a_setS, a_dropS, a_retS, a_retVarS, a_asgS, a_callE, a_callF, a_appK, a_forS, a_compE, a_seqI, a_rng1, a_rng2, a_methL, a_mutL, a_setIxS, a_noPt, a_somePt, a_sliceE, a_chainE, a_nameG, a_nilG, a_consG, a_tupG, a_dnewE, a_dputS, a_dgetE, a_callP, a_zipI, a_enumI, revG, itemsT, inG, maxG, zipD, enumD, defG, runDef, env0, En.sv, getL, Opd.get, pureO, pureL, callD, argL, argO, lentS, wbE, wb1, wbAt, endF, backD, pB, pI, nL, numG, cmpG, subG, addG, mulG, negG, isNG, ixG, itemsD, itemsL, lenG, listG, tupleG, sumG, allG, int1G, int2G, intG, isiG, tyD, appendK, popK, clearK, insertK, reverseK, extendK, countG, atI, ixN, eqG, intsOf, blsOf, wipeE, restE, tkeyD, keysD, keyD, kit_ii, kit_ib, kit_bi, kit_bb, kit_ll, kit_tt, kit_lt, kit_tl, kit_ti, kit_li, kit_ni, kit_si, kit_nt, kit_it, kit_st, kit_bt, getS, lendF, Fl.sh, dPut, dGet, isDct, a_raiseS, a_callZ, a_callPZ, a_dixE, a_dinN, a_parS, a_isxE, treeOK, imm, immL, immK, shImm, unlL, unl1, a_ownE, a_lockG, a_compM, a_comp2M, navD, updD, updK, stepIx, Fl.tr, accept, Md.fl, a_mutPS, a_pthV, a_pthI, a_pairA, a_nilT, a_consT, a_lstT, a_tupT]
  | false =>
    rw [hp] at w
    have w' : whileS pC pB' [some ⟨.p, phi X Y t⟩] = .ret ⟨.p, .bl false⟩ e' := w
    simp [a_bindR, a_bindS, a_opd, a_constE, a_varE, a_keepE, a_op1, a_op2, a_nilA, a_consA, a_callB, a_tupE, a_lstE, a_testV, a_andT, a_orT, a_notT, a_andV, a_orV, a_notV, a_ifE, a_seqS, a_ifS, a_setS, a_dropS, a_retS, a_retVarS, a_asgS, a_callE, a_callF, a_appK, a_forS, a_compE, a_seqI, a_rng1, a_rng2, a_methL, a_mutL, a_setIxS, a_noPt, a_somePt, a_sliceE, a_chainE, a_nameG, a_nilG, a_consG, a_tupG, a_dnewE, a_dputS, a_dgetE, a_callP, a_zipI, a_enumI, revG, itemsT, inG, maxG, zipD, enumD, defG, runDef, env0, En.sv, getL, Opd.get, pureO, pureL, callD, argL, argO, lentS, wbE, wb1, wbAt, endF, backD, pB, pI, nL, numG, cmpG, subG, addG, mulG, negG, isNG, ixG, itemsD, itemsL, lenG, listG, tupleG, sumG, allG, int1G, int2G, intG, isiG, tyD, appendK, popK, clearK, insertK, reverseK, extendK, countG, atI, ixN, eqG, intsOf, blsOf, wipeE, restE, tkeyD, keysD, keyD, kit_ii, kit_ib, kit_bi, kit_bb, kit_ll, kit_tt, kit_lt, kit_tl, kit_ti, kit_li, kit_ni, kit_si, kit_nt, kit_it, kit_st, kit_bt, getS, lendF, Fl.sh, dPut, dGet, isDct, a_raiseS, a_callZ, a_callPZ, a_dixE, a_dinN, a_parS, a_isxE, treeOK, imm, immL, immK, shImm, unlL, unl1, a_ownE, a_lockG, a_compM, a_comp2M, navD, updD, updK, stepIx, Fl.tr, accept, Md.fl, a_mutPS, a_pthV, a_pthI, a_pairA, a_nilT, a_consT, a_lstT, a_tupT, w']
theorem toPy_phi (X Y : Int) : ∀ t : Tm, ∃ p, toPy (phi X Y t) = some p ∧ p.canLay0 = true ∧ p.depth ≤ dep t
  | .x => ⟨.int X, by unfold phi toPy; rfl, rfl, by simp [PyData.depth]⟩
  | .y => ⟨.int Y, by unfold phi toPy; rfl, rfl, by simp [PyData.depth]⟩
  | .n => ⟨.none, by unfold phi toPy; rfl, rfl, by simp [PyData.depth]⟩
  | .pr a b => by
    obtain ⟨p, h1, h2, h3⟩ := toPy_phi X Y a
    obtain ⟨q, g1, g2, g3⟩ := toPy_phi X Y b
    refine ⟨.tuple [p, q], by simp [phi, toPy, toPyL, h1, g1], by simp [PyData.canLay0, PyData.canLayAll0, h2, g2], ?_⟩
    simp only [PyData.depth, PyData.depthAll, dep]
    split <;> omega
theorem toPyL_phi (X Y : Int) : ∀ ts : List Tm, (∀ t ∈ ts, dep t ≤ 20) → ∃ ps, toPyL (ts.map (phi X Y)) = some ps ∧ PyData.canLayAll0 ps = true ∧ PyData.depthAll ps ≤ 20 ∧ ps.length = ts.length
  | [], _ => ⟨[], by simp [toPyL], rfl, by simp [PyData.depthAll], rfl⟩
  | t :: ts, h => by
    obtain ⟨p, h1, h2, h3⟩ := toPy_phi X Y t
    obtain ⟨ps, g1, g2, g3, g4⟩ := toPyL_phi X Y ts fun t ht => h t (List.mem_cons_of_mem _ ht)
    have := h t List.mem_cons_self
    refine ⟨p :: ps, by simp [toPyL, h1, g1], by simp [PyData.canLayAll0, h2, g2], ?_, by simp [g4]⟩
    simp only [PyData.depthAll]; omega
theorem eqD_phis (X Y : Int) (ts : List Tm) (h : ∀ t ∈ ts, dep t ≤ 20) : eqD (.lst (ts.map (phi X Y))) (.lst []) = some (decide (ts = [])) := by
  obtain ⟨ps, g1, g2, g3, g4⟩ := toPyL_phi X Y ts h
  have e1 : toPy (.lst (ts.map (phi X Y))) = some (.list ps) := by simp [toPy, g1]
  have e2 : toPy (.lst []) = some (.list []) := by simp [toPy, toPyL]
  unfold eqD
  rw [e1, e2]
  dsimp only
  rw [if_pos ⟨shaped_of (by simp [PyData.canLay0, g2]) (by simp only [PyData.depth]; omega), shaped_of rfl (by simp [PyData.depth, PyData.depthAll])⟩]
  cases ts with
  | nil =>
    have : ps = [] := by simpa using g4
    subst this; simp [PyData.eqv, PyData.eqvAll]
  | cons t r =>
    cases ps with
    | nil => simp at g4
    | cons p q => simp [PyData.eqv, PyData.eqvAll]
end My

namespace My
open PySem L2 DL
noncomputable def mC : En → R Bool := (testV (op2 (eqG true) (varE 2) (opd (lstE nilA))))
noncomputable def mB : En → RS := (seqS (setS 3 (mutL 2 popK nilA)) (ifS (testV (callB isiG (consA (varE 3) (consA (opd (constE (.opq (.ty "tuple")))) nilA)))) (dropS (mutL 2 extendK (consA (opd (callB listG (consA (varE 3) nilA))) nilA))) (ifS (testV (op2 (eqG false) (varE 3) (varE 1))) (retS (constE (.bl true))) .nx)))
theorem met_eq : m__law_met = (seqS (setS 2 (lstE (consA (varE 0) nilA))) (seqS (whileS mC mB) (retS (constE (.bl false))))) := rfl
def sz : Tm → Nat
  | .pr a b => sz a + sz b + 1
  | _ => 1
def szs : List Tm → Nat
  | [] => 0
  | t :: r => sz t + szs r
theorem szs_app : ∀ a b : List Tm, szs (a ++ b) = szs a + szs b
  | [], b => by simp [szs]
  | t :: a, b => by simp [szs, szs_app a b, Nat.add_assoc]
theorem sz_pos (t : Tm) : 0 < sz t := by cases t <;> simp [sz]
theorem len_szs : ∀ ts : List Tm, ts.length ≤ szs ts
  | [] => Nat.le_refl _
  | t :: r => by have := sz_pos t; have := len_szs r; simp [szs]; omega
def zOf (X Y : Int) : Tm → Int
  | .x => X
  | _ => Y
theorem eqD_leaf {X Y : Int} (hXY : X ≠ Y) (u t : Tm) (hu : u = .x ∨ u = .y) (h : ∀ a b, t ≠ .pr a b) : eqD (phi X Y t) (.int (zOf X Y u)) = some (metT u t) := by
  have hYX : Y ≠ X := fun e => hXY e.symm
  rcases hu with rfl | rfl
  · cases t with
    | pr a b => exact absurd rfl (h a b)
    | x => simp [phi, zOf, metT, eqD_int]
    | y => simp [phi, zOf, metT, eqD_int, hYX]
    | n => simp [phi, zOf, metT, eqD, toPy, PyData.eqv, SeqAt.shaped, shaped_of, PyData.canLay0, PyData.depth]
  · cases t with
    | pr a b => exact absurd rfl (h a b)
    | x => simp [phi, zOf, metT, eqD_int, hXY]
    | y => simp [phi, zOf, metT, eqD_int]
    | n => simp [phi, zOf, metT, eqD, toPy, PyData.eqv, SeqAt.shaped, shaped_of, PyData.canLay0, PyData.depth]
def x3p (X Y : Int) (x : Option SV) : Prop := x = none ∨ ∃ t, x = some ⟨.p, phi X Y t⟩
theorem met_loop {X Y : Int} (hXY : X ≠ Y) (u : Tm) (hu : u = .x ∨ u = .y) (d0 : D) : ∀ (n : Nat) (ts : List Tm) (x3 : Option SV), szs ts < n → szs ts ≤ 50000 → (∀ t ∈ ts, dep t ≤ 20) → Pl x3 →
    ∃ e', whileL mC mB n [some ⟨.p, d0⟩, some ⟨.p, .int (zOf X Y u)⟩, some ⟨.o, .lst (ts.map (phi X Y))⟩, x3] = (if ts.any (metT u) = true then .ret ⟨.p, .bl true⟩ e' else .nx e') := by
  intro n
  induction n with
  | zero => intro ts x3 h; omega
  | succ n ih =>
    intro ts x3 h h5 hd hx
    have eq := eqD_phis X Y ts hd
    have c : mC [some ⟨.p, d0⟩, some ⟨.p, .int (zOf X Y u)⟩, some ⟨.o, .lst (ts.map (phi X Y))⟩, x3] = .ok (!decide (ts = [])) [some ⟨.p, d0⟩, some ⟨.p, .int (zOf X Y u)⟩, some ⟨.o, .lst (ts.map (phi X Y))⟩, x3] := by
      unfold mC
      generalize ts.map (phi X Y) = L at *
      rcases hx with rfl | ⟨d, rfl⟩ <;> simp [a_bindR, a_bindS, a_opd, a_constE, a_varE, a_keepE, a_op1, a_op2, a_nilA, a_consA, a_callB, a_tupE, a_lstE, a_testV, a_andT, a_orT, a_notT, a_andV, a_orV, a_notV, a_ifE, a_seqS, a_ifS, a_setS, a_dropS, a_retS, a_retVarS, a_asgS, a_callE, a_callF, a_appK, a_forS, a_compE, a_seqI, a_rng1, a_rng2, a_methL, a_mutL, a_setIxS, a_noPt, a_somePt, a_sliceE, a_chainE, a_nameG, a_nilG, a_consG, a_tupG, a_dnewE, a_dputS, a_dgetE, a_callP, a_zipI, a_enumI, revG, itemsT, inG, maxG, zipD, enumD, defG, runDef, env0, En.sv, getL, Opd.get, pureO, pureL, callD, argL, argO, lentS, wbE, wb1, wbAt, endF, backD, pB, pI, nL, numG, cmpG, subG, addG, mulG, negG, isNG, ixG, itemsD, itemsL, lenG, listG, tupleG, sumG, allG, int1G, int2G, intG, isiG, tyD, appendK, popK, clearK, insertK, reverseK, extendK, countG, atI, ixN, eqG, intsOf, blsOf, wipeE, restE, tkeyD, keysD, keyD, kit_ii, kit_ib, kit_bi, kit_bb, kit_ll, kit_tt, kit_lt, kit_tl, kit_ti, kit_li, kit_ni, kit_si, kit_nt, kit_it, kit_st, kit_bt, getS, lendF, Fl.sh, dPut, dGet, isDct, a_dnewK, a_setdE, a_lrE, noX, okP, itemsOf, keysOf, kD, minG, sortG, keysI, a_raiseS, a_callZ, a_callPZ, a_dixE, a_dinN, a_parS, a_isxE, treeOK, imm, immL, immK, shImm, unlL, unl1, a_ownE, a_lockG, a_compM, a_comp2M, navD, updD, updK, stepIx, Fl.tr, accept, Md.fl, a_mutPS, a_pthV, a_pthI, a_pairA, a_nilT, a_consT, a_lstT, a_tupT, eq]
    unfold whileL
    rw [c]
    by_cases e0 : ts = []
    · subst e0
      exact ⟨_, rfl⟩
    · have ed : (!decide (ts = [])) = true := by simp [e0]
      rw [ed]
      dsimp only
      obtain ⟨rs, t, rfl⟩ : ∃ rs t, ts = rs ++ [t] := ⟨ts.dropLast, ts.getLast e0, (List.dropLast_concat_getLast e0).symm⟩
      have s1 : (setS 3 (mutL 2 popK nilA)) [some ⟨.p, d0⟩, some ⟨.p, .int (zOf X Y u)⟩, some ⟨.o, .lst ((rs ++ [t]).map (phi X Y))⟩, x3] = .nx [some ⟨.p, d0⟩, some ⟨.p, .int (zOf X Y u)⟩, some ⟨.o, .lst (rs.map (phi X Y))⟩, some ⟨.p, phi X Y t⟩] := by
        rw [List.map_append]
        rcases hx with rfl | ⟨d, rfl⟩ <;> simp [a_bindR, a_bindS, a_opd, a_constE, a_varE, a_keepE, a_op1, a_op2, a_nilA, a_consA, a_callB, a_tupE, a_lstE, a_testV, a_andT, a_orT, a_notT, a_andV, a_orV, a_notV, a_ifE, a_seqS, a_ifS, a_setS, a_dropS, a_retS, a_retVarS, a_asgS, a_callE, a_callF, a_appK, a_forS, a_compE, a_seqI, a_rng1, a_rng2, a_methL, a_mutL, a_setIxS, a_noPt, a_somePt, a_sliceE, a_chainE, a_nameG, a_nilG, a_consG, a_tupG, a_dnewE, a_dputS, a_dgetE, a_callP, a_zipI, a_enumI, revG, itemsT, inG, maxG, zipD, enumD, defG, runDef, env0, En.sv, getL, Opd.get, pureO, pureL, callD, argL, argO, lentS, wbE, wb1, wbAt, endF, backD, pB, pI, nL, numG, cmpG, subG, addG, mulG, negG, isNG, ixG, itemsD, itemsL, lenG, listG, tupleG, sumG, allG, int1G, int2G, intG, isiG, tyD, appendK, popK, clearK, insertK, reverseK, extendK, countG, atI, ixN, eqG, intsOf, blsOf, wipeE, restE, tkeyD, keysD, keyD, kit_ii, kit_ib, kit_bi, kit_bb, kit_ll, kit_tt, kit_lt, kit_tl, kit_ti, kit_li, kit_ni, kit_si, kit_nt, kit_it, kit_st, kit_bt, getS, lendF, Fl.sh, dPut, dGet, isDct, a_dnewK, a_setdE, a_lrE, noX, okP, itemsOf, keysOf, kD, minG, sortG, keysI, a_raiseS, a_callZ, a_callPZ, a_dixE, a_dinN, a_parS, a_isxE, treeOK, imm, immL, immK, shImm, unlL, unl1, a_ownE, a_lockG, a_compM, a_comp2M, navD, updD, updK, stepIx, Fl.tr, accept, Md.fl, a_mutPS, a_pthV, a_pthI, a_pairA, a_nilT, a_consT, a_lstT, a_tupT]
      have hany : (rs ++ [t]).any (metT u) = (rs.any (metT u) || metT u t) := by simp
      rw [szs_app] at h h5
      by_cases hp : ∃ a b, t = .pr a b
      · obtain ⟨a, b, rfl⟩ := hp
        have hl := len_szs rs
        have q : rs.length + 2 ≤ 100000 := by
          have : szs [Tm.pr a b] = sz a + sz b + 1 := rfl
          omega
        have bd : mB [some ⟨.p, d0⟩, some ⟨.p, .int (zOf X Y u)⟩, some ⟨.o, .lst ((rs ++ [Tm.pr a b]).map (phi X Y))⟩, x3] = .nx [some ⟨.p, d0⟩, some ⟨.p, .int (zOf X Y u)⟩, some ⟨.o, .lst ((rs ++ [a, b]).map (phi X Y))⟩, some ⟨.p, phi X Y (.pr a b)⟩] := by
          unfold mB
          rw [seqS_nx s1]
          simp [a_bindR, a_bindS, a_opd, a_constE, a_varE, a_keepE, a_op1, a_op2, a_nilA, a_consA, a_callB, a_tupE, a_lstE, a_testV, a_andT, a_orT, a_notT, a_andV, a_orV, a_notV, a_ifE, a_seqS, a_ifS, a_setS, a_dropS, a_retS, a_retVarS, a_asgS, a_callE, a_callF, a_appK, a_forS, a_compE, a_seqI, a_rng1, a_rng2, a_methL, a_mutL, a_setIxS, a_noPt, a_somePt, a_sliceE, a_chainE, a_nameG, a_nilG, a_consG, a_tupG, a_dnewE, a_dputS, a_dgetE, a_callP, a_zipI, a_enumI, revG, itemsT, inG, maxG, zipD, enumD, defG, runDef, env0, En.sv, getL, Opd.get, pureO, pureL, callD, argL, argO, lentS, wbE, wb1, wbAt, endF, backD, pB, pI, nL, numG, cmpG, subG, addG, mulG, negG, isNG, ixG, itemsD, itemsL, lenG, listG, tupleG, sumG, allG, int1G, int2G, intG, isiG, tyD, appendK, popK, clearK, insertK, reverseK, extendK, countG, atI, ixN, eqG, intsOf, blsOf, wipeE, restE, tkeyD, keysD, keyD, kit_ii, kit_ib, kit_bi, kit_bb, kit_ll, kit_tt, kit_lt, kit_tl, kit_ti, kit_li, kit_ni, kit_si, kit_nt, kit_it, kit_st, kit_bt, getS, lendF, Fl.sh, dPut, dGet, isDct, a_dnewK, a_setdE, a_lrE, noX, okP, itemsOf, keysOf, kD, minG, sortG, keysI, a_raiseS, a_callZ, a_callPZ, a_dixE, a_dinN, a_parS, a_isxE, treeOK, imm, immL, immK, shImm, unlL, unl1, a_ownE, a_lockG, a_compM, a_comp2M, navD, updD, updK, stepIx, Fl.tr, accept, Md.fl, a_mutPS, a_pthV, a_pthI, a_pairA, a_nilT, a_consT, a_lstT, a_tupT, phi, q]
        rw [bd]
        have hz : szs (rs ++ [a, b]) + 1 = szs rs + szs [Tm.pr a b] := by rw [szs_app]; simp [szs, sz]; omega
        have hdp := hd (.pr a b) (by simp)
        have hda : dep a ≤ 20 ∧ dep b ≤ 20 := by
          simp only [dep] at hdp
          split at hdp <;> omega
        obtain ⟨e', g⟩ := ih (rs ++ [a, b]) (some ⟨.p, phi X Y (.pr a b)⟩) (by omega) (by omega) (fun t ht => by
          rcases List.mem_append.mp ht with ht | ht
          · exact hd t (List.mem_append_left _ ht)
          · have : t = a ∨ t = b := by simpa using ht
            rcases this with rfl | rfl
            · exact hda.1
            · exact hda.2) (.inr ⟨_, rfl⟩)
        refine ⟨e', ?_⟩
        dsimp only
        rw [g]
        have : (rs ++ [a, b]).any (metT u) = (rs ++ [Tm.pr a b]).any (metT u) := by simp [metT]
        rw [this]
      · have hp' : ∀ a b, t ≠ .pr a b := fun a b e => hp ⟨a, b, e⟩
        have el := eqD_leaf hXY u t hu hp'
        cases hm : metT u t with
        | true =>
          refine ⟨[some ⟨.p, d0⟩, some ⟨.p, .int (zOf X Y u)⟩, some ⟨.o, .lst (rs.map (phi X Y))⟩, some ⟨.p, phi X Y t⟩], ?_⟩
          have bd : mB [some ⟨.p, d0⟩, some ⟨.p, .int (zOf X Y u)⟩, some ⟨.o, .lst ((rs ++ [t]).map (phi X Y))⟩, x3] = .ret ⟨.p, .bl true⟩ [some ⟨.p, d0⟩, some ⟨.p, .int (zOf X Y u)⟩, some ⟨.o, .lst (rs.map (phi X Y))⟩, some ⟨.p, phi X Y t⟩] := by
            unfold mB
            rw [seqS_nx s1]
            rw [hm] at el
            cases t with
            | pr a b => exact absurd rfl (hp' a b)
            | _ => simp [a_bindR, a_bindS, a_opd, a_constE, a_varE, a_keepE, a_op1, a_op2, a_nilA, a_consA, a_callB, a_tupE, a_lstE, a_testV, a_andT, a_orT, a_notT, a_andV, a_orV, a_notV, a_ifE, a_seqS, a_ifS, a_setS, a_dropS, a_retS, a_retVarS, a_asgS, a_callE, a_callF, a_appK, a_forS, a_compE, a_seqI, a_rng1, a_rng2, a_methL, a_mutL, a_setIxS, a_noPt, a_somePt, a_sliceE, a_chainE, a_nameG, a_nilG, a_consG, a_tupG, a_dnewE, a_dputS, a_dgetE, a_callP, a_zipI, a_enumI, revG, itemsT, inG, maxG, zipD, enumD, defG, runDef, env0, En.sv, getL, Opd.get, pureO, pureL, callD, argL, argO, lentS, wbE, wb1, wbAt, endF, backD, pB, pI, nL, numG, cmpG, subG, addG, mulG, negG, isNG, ixG, itemsD, itemsL, lenG, listG, tupleG, sumG, allG, int1G, int2G, intG, isiG, tyD, appendK, popK, clearK, insertK, reverseK, extendK, countG, atI, ixN, eqG, intsOf, blsOf, wipeE, restE, tkeyD, keysD, keyD, kit_ii, kit_ib, kit_bi, kit_bb, kit_ll, kit_tt, kit_lt, kit_tl, kit_ti, kit_li, kit_ni, kit_si, kit_nt, kit_it, kit_st, kit_bt, getS, lendF, Fl.sh, dPut, dGet, isDct, a_dnewK, a_setdE, a_lrE, noX, okP, itemsOf, keysOf, kD, minG, sortG, keysI, a_raiseS, a_callZ, a_callPZ, a_dixE, a_dinN, a_parS, a_isxE, treeOK, imm, immL, immK, shImm, unlL, unl1, a_ownE, a_lockG, a_compM, a_comp2M, navD, updD, updK, stepIx, Fl.tr, accept, Md.fl, a_mutPS, a_pthV, a_pthI, a_pairA, a_nilT, a_consT, a_lstT, a_tupT, phi] at el ⊢; simp [el]
          rw [bd, hany, hm, Bool.or_true]
          rfl
        | false =>
          have bd : mB [some ⟨.p, d0⟩, some ⟨.p, .int (zOf X Y u)⟩, some ⟨.o, .lst ((rs ++ [t]).map (phi X Y))⟩, x3] = .nx [some ⟨.p, d0⟩, some ⟨.p, .int (zOf X Y u)⟩, some ⟨.o, .lst (rs.map (phi X Y))⟩, some ⟨.p, phi X Y t⟩] := by
            unfold mB
            rw [seqS_nx s1]
            rw [hm] at el
            cases t with
            | pr a b => exact absurd rfl (hp' a b)
            | _ => simp [a_bindR, a_bindS, a_opd, a_constE, a_varE, a_keepE, a_op1, a_op2, a_nilA, a_consA, a_callB, a_tupE, a_lstE, a_testV, a_andT, a_orT, a_notT, a_andV, a_orV, a_notV, a_ifE, a_seqS, a_ifS, a_setS, a_dropS, a_retS, a_retVarS, a_asgS, a_callE, a_callF, a_appK, a_forS, a_compE, a_seqI, a_rng1, a_rng2, a_methL, a_mutL, a_setIxS, a_noPt, a_somePt, a_sliceE, a_chainE, a_nameG, a_nilG, a_consG, a_tupG, a_dnewE, a_dputS, a_dgetE, a_callP, a_zipI, a_enumI, revG, itemsT, inG, maxG, zipD, enumD, defG, runDef, env0, En.sv, getL, Opd.get, pureO, pureL, callD, argL, argO, lentS, wbE, wb1, wbAt, endF, backD, pB, pI, nL, numG, cmpG, subG, addG, mulG, negG, isNG, ixG, itemsD, itemsL, lenG, listG, tupleG, sumG, allG, int1G, int2G, intG, isiG, tyD, appendK, popK, clearK, insertK, reverseK, extendK, countG, atI, ixN, eqG, intsOf, blsOf, wipeE, restE, tkeyD, keysD, keyD, kit_ii, kit_ib, kit_bi, kit_bb, kit_ll, kit_tt, kit_lt, kit_tl, kit_ti, kit_li, kit_ni, kit_si, kit_nt, kit_it, kit_st, kit_bt, getS, lendF, Fl.sh, dPut, dGet, isDct, a_dnewK, a_setdE, a_lrE, noX, okP, itemsOf, keysOf, kD, minG, sortG, keysI, a_raiseS, a_callZ, a_callPZ, a_dixE, a_dinN, a_parS, a_isxE, treeOK, imm, immL, immK, shImm, unlL, unl1, a_ownE, a_lockG, a_compM, a_comp2M, navD, updD, updK, stepIx, Fl.tr, accept, Md.fl, a_mutPS, a_pthV, a_pthI, a_pairA, a_nilT, a_consT, a_lstT, a_tupT, phi] at el ⊢; simp [el]
          rw [bd]
          dsimp only
          have hz : 0 < szs [t] := by have := sz_pos t; simp [szs]; omega
          obtain ⟨e', g⟩ := ih rs (some ⟨.p, phi X Y t⟩) (by omega) (by omega) (fun t ht => hd t (List.mem_append_left _ ht)) (.inr ⟨_, rfl⟩)
          exact ⟨e', by rw [g, hany, hm, Bool.or_false]⟩
theorem met_ok {X Y : Int} (hXY : X ≠ Y) (u : Tm) (hu : u = .x ∨ u = .y) (t : Tm) (hd : dep t ≤ 20) (hs : sz t ≤ 50000) : G__law_met [⟨.p, phi X Y t⟩, ⟨.p, .int (zOf X Y u)⟩] = .ret ⟨.p, .bl (metT u t)⟩ [phi X Y t, .int (zOf X Y u)] := by
  obtain ⟨e', h⟩ := met_loop hXY u hu (phi X Y t) (szs [t] + 1) [t] none (by omega) (by simpa [szs] using hs) (fun x hx => by
    have : x = t := by simpa using hx
    rw [this]; exact hd) (.inl rfl)
  rw [show [t].any (metT u) = metT u t by simp] at h
  show endF [⟨.p, phi X Y t⟩, ⟨.p, .int (zOf X Y u)⟩] (m__law_met (env0 4 [⟨.p, phi X Y t⟩, ⟨.p, .int (zOf X Y u)⟩])) = _
  have ns : whileL mC mB (szs [t] + 1) [some ⟨.p, phi X Y t⟩, some ⟨.p, .int (zOf X Y u)⟩, some ⟨.o, .lst ([t].map (phi X Y))⟩, none] ≠ .stuck := by rw [h]; split <;> simp
  have w := whileS_eq _ ns
  rw [h] at w
  rw [met_eq]
  have s1 : (setS 2 (lstE (consA (varE 0) nilA))) (env0 4 [⟨.p, phi X Y t⟩, ⟨.p, .int (zOf X Y u)⟩]) = .nx [some ⟨.p, phi X Y t⟩, some ⟨.p, .int (zOf X Y u)⟩, some ⟨.o, .lst ([t].map (phi X Y))⟩, none] := by
    show _ = RS.nx [some ⟨.p, phi X Y t⟩, some ⟨.p, .int (zOf X Y u)⟩, some ⟨.o, .lst [phi X Y t]⟩, none]
    generalize phi X Y t = d
    simp [a_bindR, a_bindS, a_opd, a_constE, a_varE, a_keepE, a_op1, a_op2, a_nilA, a_consA, a_callB, a_tupE, a_lstE, a_testV, a_andT, a_orT, a_notT, a_andV, a_orV, a_notV, a_ifE, a_seqS, a_ifS, a_setS, a_dropS, a_retS, a_retVarS, a_asgS, a_callE, a_callF, a_appK, a_forS, a_compE, a_seqI, a_rng1, a_rng2, a_methL, a_mutL, a_setIxS, a_noPt, a_somePt, a_sliceE, a_chainE, a_nameG, a_nilG, a_consG, a_tupG, a_dnewE, a_dputS, a_dgetE, a_callP, a_zipI, a_enumI, revG, itemsT, inG, maxG, zipD, enumD, defG, runDef, env0, En.sv, getL, Opd.get, pureO, pureL, callD, argL, argO, lentS, wbE, wb1, wbAt, endF, backD, pB, pI, nL, numG, cmpG, subG, addG, mulG, negG, isNG, ixG, itemsD, itemsL, lenG, listG, tupleG, sumG, allG, int1G, int2G, intG, isiG, tyD, appendK, popK, clearK, insertK, reverseK, extendK, countG, atI, ixN, eqG, intsOf, blsOf, wipeE, restE, tkeyD, keysD, keyD, kit_ii, kit_ib, kit_bi, kit_bb, kit_ll, kit_tt, kit_lt, kit_tl, kit_ti, kit_li, kit_ni, kit_si, kit_nt, kit_it, kit_st, kit_bt, getS, lendF, Fl.sh, dPut, dGet, isDct, a_dnewK, a_setdE, a_lrE, noX, okP, itemsOf, keysOf, kD, minG, sortG, keysI, a_raiseS, a_callZ, a_callPZ, a_dixE, a_dinN, a_parS, a_isxE, treeOK, imm, immL, immK, shImm, unlL, unl1, a_ownE, a_lockG, a_compM, a_comp2M, navD, updD, updK, stepIx, Fl.tr, accept, Md.fl, a_mutPS, a_pthV, a_pthI, a_pairA, a_nilT, a_consT, a_lstT, a_tupT]
  rw [seqS_nx s1]
  cases hm : metT u t with
  | true =>
    rw [hm, if_pos rfl] at w
    rw [seqS_ret w]
    simp [a_bindR, a_bindS, a_opd, a_constE, a_varE, a_keepE, a_op1, a_op2, a_nilA, a_consA, a_callB, a_tupE, a_lstE, a_testV, a_andT, a_orT, a_notT, a_andV, a_orV, a_notV, a_ifE, a_seqS, a_ifS, a_setS, a_dropS, a_retS, a_retVarS, a_asgS, a_callE, a_callF, a_appK, a_forS, a_compE, a_seqI, a_rng1, a_rng2, a_methL, a_mutL, a_setIxS, a_noPt, a_somePt, a_sliceE, a_chainE, a_nameG, a_nilG, a_consG, a_tupG, a_dnewE, a_dputS, a_dgetE, a_callP, a_zipI, a_enumI, revG, itemsT, inG, maxG, zipD, enumD, defG, runDef, env0, En.sv, getL, Opd.get, pureO, pureL, callD, argL, argO, lentS, wbE, wb1, wbAt, endF, backD, pB, pI, nL, numG, cmpG, subG, addG, mulG, negG, isNG, ixG, itemsD, itemsL, lenG, listG, tupleG, sumG, allG, int1G, int2G, intG, isiG, tyD, appendK, popK, clearK, insertK, reverseK, extendK, countG, atI, ixN, eqG, intsOf, blsOf, wipeE, restE, tkeyD, keysD, keyD, kit_ii, kit_ib, kit_bi, kit_bb, kit_ll, kit_tt, kit_lt, kit_tl, kit_ti, kit_li, kit_ni, kit_si, kit_nt, kit_it, kit_st, kit_bt, getS, lendF, Fl.sh, dPut, dGet, isDct, a_dnewK, a_setdE, a_lrE, noX, okP, itemsOf, keysOf, kD, minG, sortG, keysI, a_raiseS, a_callZ, a_callPZ, a_dixE, a_dinN, a_parS, a_isxE, treeOK, imm, immL, immK, shImm, unlL, unl1, a_ownE, a_lockG, a_compM, a_comp2M, navD, updD, updK, stepIx, Fl.tr, accept, Md.fl, a_mutPS, a_pthV, a_pthI, a_pairA, a_nilT, a_consT, a_lstT, a_tupT]
  | false =>
    rw [hm] at w
    have w' : whileS mC mB [some ⟨.p, phi X Y t⟩, some ⟨.p, .int (zOf X Y u)⟩, some ⟨.o, .lst ([t].map (phi X Y))⟩, none] = .nx e' := w
    rw [seqS_nx w']
    simp [a_bindR, a_bindS, a_opd, a_constE, a_varE, a_keepE, a_op1, a_op2, a_nilA, a_consA, a_callB, a_tupE, a_lstE, a_testV, a_andT, a_orT, a_notT, a_andV, a_orV, a_notV, a_ifE, a_seqS, a_ifS, a_setS, a_dropS, a_retS, a_retVarS, a_asgS, a_callE, a_callF, a_appK, a_forS, a_compE, a_seqI, a_rng1, a_rng2, a_methL, a_mutL, a_setIxS, a_noPt, a_somePt, a_sliceE, a_chainE, a_nameG, a_nilG, a_consG, a_tupG, a_dnewE, a_dputS, a_dgetE, a_callP, a_zipI, a_enumI, revG, itemsT, inG, maxG, zipD, enumD, defG, runDef, env0, En.sv, getL, Opd.get, pureO, pureL, callD, argL, argO, lentS, wbE, wb1, wbAt, endF, backD, pB, pI, nL, numG, cmpG, subG, addG, mulG, negG, isNG, ixG, itemsD, itemsL, lenG, listG, tupleG, sumG, allG, int1G, int2G, intG, isiG, tyD, appendK, popK, clearK, insertK, reverseK, extendK, countG, atI, ixN, eqG, intsOf, blsOf, wipeE, restE, tkeyD, keysD, keyD, kit_ii, kit_ib, kit_bi, kit_bb, kit_ll, kit_tt, kit_lt, kit_tl, kit_ti, kit_li, kit_ni, kit_si, kit_nt, kit_it, kit_st, kit_bt, getS, lendF, Fl.sh, dPut, dGet, isDct, a_dnewK, a_setdE, a_lrE, noX, okP, itemsOf, keysOf, kD, minG, sortG, keysI, a_raiseS, a_callZ, a_callPZ, a_dixE, a_dinN, a_parS, a_isxE, treeOK, imm, immL, immK, shImm, unlL, unl1, a_ownE, a_lockG, a_compM, a_comp2M, navD, updD, updK, stepIx, Fl.tr, accept, Md.fl, a_mutPS, a_pthV, a_pthI, a_pairA, a_nilT, a_consT, a_lstT, a_tupT]
end My

namespace My
open PySem L2 DL
noncomputable def nK : En → RS := (setS 5 (callE G_known (appK 2 1 (consA (varE 0) (consA (varE 4) nilA)) (consA (varE 1) nilA))))
noncomputable def nP : En → RS := (setS 6 (compE (rng1 (consA (opd (constE (.int 2))) nilA)) [7] (nameG 7) (fun e => .ok true e) (opd (callE G_place (consA (opd (op2 ixG (varE 5) (varE 7))) (consA (varE 7) nilA))))))
noncomputable def nB : En → RS := (ifS (orT (testV (op2 (eqG true) (opd (setdE 2 (opd (op2 ixG (varE 6) (varE 7))) (opd (op2 ixG (varE 5) (varE 7))))) (opd (op2 ixG (varE 5) (varE 7))))) (testV (op2 (eqG true) (opd (op2 (numG (fun _ j => 0 < j) fun i j => i % j) (opd (op2 ixG (varE 6) (varE 7))) (opd (constE (.int 2))))) (varE 7)))) (retS (constE .non)) .nx)
noncomputable def nA : En → RS := (ifS (testV (op2 (eqG true) (opd (callB (int1G fun i => if i < 0 then -i else i) (consA (opd (op2 subG (opd (op2 ixG (varE 6) (opd (constE (.int 0))))) (opd (op2 ixG (varE 6) (opd (constE (.int 1))))))) nilA))) (opd (constE (.int 1))))) (retS (constE .non)) .nx)
noncomputable def nM : En → RS := (dputS 3 (constE (.bl true)) (opd (callB minG (consA (varE 6) nilA))))
noncomputable def nR : En → RS := (seqS nK (seqS nP (seqS (forS (rng1 (consA (opd (constE (.int 2))) nilA)) (nameG 7) nB) (seqS nA nM))))
theorem lines_eq : m__law_lines = (seqS (setS 2 dnewK) (seqS (setS 3 dnewK) (seqS (forS (seqI (opd (callE G_weavings (consA (varE 1) nilA)))) (nameG 4) nR) (retS (tupE (consA (varE 2) (consA (opd (callB sortG (consA (varE 3) nilA))) nilA))))))) := rfl
def envN (I : D) (r : Nat) (th mt : List (Key × D)) (x4 x5 x6 x7 : Option SV) : En := [some ⟨.p, I⟩, some ⟨.p, .int r⟩, some ⟨.o, .dk th⟩, some ⟨.o, .dk mt⟩, x4, x5, x6, x7]
def Ol (x : Option SV) : Prop := x = none ∨ ∃ d, x = some ⟨.o, d⟩
section
variable {I : D} {r : Nat} {th mt : List (Key × D)} {w k0 k1 : D} {p0 p1 : Int}
theorem nK_ok {x5 x6 x7 : Option SV} (h5 : Ol x5) (h6 : Ol x6) (h7 : Pl x7) (kn : G_known [⟨.p, I⟩, ⟨.p, w⟩, ⟨.p, .int r⟩] = .ret ⟨.o, .lst [k0, k1]⟩ [I, w, .int r]) :
    nK (envN I r th mt (some ⟨.p, w⟩) x5 x6 x7) = .nx (envN I r th mt (some ⟨.p, w⟩) (some ⟨.o, .lst [k0, k1]⟩) x6 x7) := by
  rcases h5 with rfl | ⟨d5, rfl⟩ <;> rcases h6 with rfl | ⟨d6, rfl⟩ <;> rcases h7 with rfl | ⟨d7, rfl⟩ <;> simp [a_bindR, a_bindS, a_opd, a_constE, a_varE, a_keepE, a_op1, a_op2, a_nilA, a_consA, a_callB, a_tupE, a_lstE, a_testV, a_andT, a_orT, a_notT, a_andV, a_orV, a_notV, a_ifE, a_seqS, a_ifS, a_setS, a_dropS, a_retS, a_retVarS, a_asgS, a_callE, a_callF, a_appK, a_forS, a_compE, a_seqI, a_rng1, a_rng2, a_methL, a_mutL, a_setIxS, a_noPt, a_somePt, a_sliceE, a_chainE, a_nameG, a_nilG, a_consG, a_tupG, a_dnewE, a_dputS, a_dgetE, a_callP, a_zipI, a_enumI, revG, itemsT, inG, maxG, zipD, enumD, defG, runDef, env0, En.sv, getL, Opd.get, pureO, pureL, callD, argL, argO, lentS, wbE, wb1, wbAt, endF, backD, pB, pI, nL, numG, cmpG, subG, addG, mulG, negG, isNG, ixG, itemsD, itemsL, lenG, listG, tupleG, sumG, allG, int1G, int2G, intG, isiG, tyD, appendK, popK, clearK, insertK, reverseK, extendK, countG, atI, ixN, eqG, intsOf, blsOf, wipeE, restE, tkeyD, keysD, keyD, kit_ii, kit_ib, kit_bi, kit_bb, kit_ll, kit_tt, kit_lt, kit_tl, kit_ti, kit_li, kit_ni, kit_si, kit_nt, kit_it, kit_st, kit_bt, getS, lendF, Fl.sh, dPut, dGet, isDct, a_dnewK, a_setdE, a_lrE, noX, okP, itemsOf, keysOf, kD, minG, sortG, keysI, a_raiseS, a_callZ, a_callPZ, a_dixE, a_dinN, a_parS, a_isxE, treeOK, imm, immL, immK, shImm, unlL, unl1, a_ownE, a_lockG, a_compM, a_comp2M, navD, updD, updK, stepIx, Fl.tr, accept, Md.fl, a_mutPS, a_pthV, a_pthI, a_pairA, a_nilT, a_consT, a_lstT, a_tupT, nK, envN, kn]
theorem nP_ok {x6 x7 : Option SV} (h6 : Ol x6) (h7 : Pl x7) (pl0 : G_place [⟨.p, k0⟩, ⟨.p, .int 0⟩] = .ret ⟨.p, .int p0⟩ [k0, .int 0]) (pl1 : G_place [⟨.p, k1⟩, ⟨.p, .int 1⟩] = .ret ⟨.p, .int p1⟩ [k1, .int 1]) :
    nP (envN I r th mt (some ⟨.p, w⟩) (some ⟨.o, .lst [k0, k1]⟩) x6 x7) = .nx (envN I r th mt (some ⟨.p, w⟩) (some ⟨.o, .lst [k0, k1]⟩) (some ⟨.o, .lst [.int p0, .int p1]⟩) x7) := by
  have g : ∀ ds e, Grd ⟨ds, none⟩ e := fun _ _ => trivial
  rcases h6 with rfl | ⟨d6, rfl⟩ <;> rcases h7 with rfl | ⟨d7, rfl⟩ <;> simp [a_bindR, a_bindS, a_opd, a_constE, a_varE, a_keepE, a_op1, a_op2, a_nilA, a_consA, a_callB, a_tupE, a_lstE, a_testV, a_andT, a_orT, a_notT, a_andV, a_orV, a_notV, a_ifE, a_seqS, a_ifS, a_setS, a_dropS, a_retS, a_retVarS, a_asgS, a_callE, a_callF, a_appK, a_forS, a_compE, a_seqI, a_rng1, a_rng2, a_methL, a_mutL, a_setIxS, a_noPt, a_somePt, a_sliceE, a_chainE, a_nameG, a_nilG, a_consG, a_tupG, a_dnewE, a_dputS, a_dgetE, a_callP, a_zipI, a_enumI, revG, itemsT, inG, maxG, zipD, enumD, defG, runDef, env0, En.sv, getL, Opd.get, pureO, pureL, callD, argL, argO, lentS, wbE, wb1, wbAt, endF, backD, pB, pI, nL, numG, cmpG, subG, addG, mulG, negG, isNG, ixG, itemsD, itemsL, lenG, listG, tupleG, sumG, allG, int1G, int2G, intG, isiG, tyD, appendK, popK, clearK, insertK, reverseK, extendK, countG, atI, ixN, eqG, intsOf, blsOf, wipeE, restE, tkeyD, keysD, keyD, kit_ii, kit_ib, kit_bi, kit_bb, kit_ll, kit_tt, kit_lt, kit_tl, kit_ti, kit_li, kit_ni, kit_si, kit_nt, kit_it, kit_st, kit_bt, getS, lendF, Fl.sh, dPut, dGet, isDct, a_dnewK, a_setdE, a_lrE, noX, okP, itemsOf, keysOf, kD, minG, sortG, keysI, a_raiseS, a_callZ, a_callPZ, a_dixE, a_dinN, a_parS, a_isxE, treeOK, imm, immL, immK, shImm, unlL, unl1, a_ownE, a_lockG, a_compM, a_comp2M, navD, updD, updK, stepIx, Fl.tr, accept, Md.fl, a_mutPS, a_pthV, a_pthI, a_pairA, a_nilT, a_consT, a_lstT, a_tupT, nP, envN, pl0, pl1, rangeD, List.range, List.range.loop, compLoop, g]
theorem nB_ok {k : D} {p : Int} {h : Nat} {th' : List (Key × D)} (i5 : ixG (.lst [k0, k1]) (.int h) = some ⟨.p, k⟩) (i6 : ixG (.lst [.int p0, .int p1]) (.int h) = some ⟨.p, .int p⟩) (eq : eqD k k = some true) (pa : p % 2 = h) (hl : th.length < 100000)
    (hp : getT th (.inl p) = some k ∧ th' = th ∨ getT th (.inl p) = none ∧ th' = putT th (.inl p) k) :
    nB (envN I r th mt (some ⟨.p, w⟩) (some ⟨.o, .lst [k0, k1]⟩) (some ⟨.o, .lst [.int p0, .int p1]⟩) (some ⟨.p, .int h⟩)) = .nx (envN I r th' mt (some ⟨.p, w⟩) (some ⟨.o, .lst [k0, k1]⟩) (some ⟨.o, .lst [.int p0, .int p1]⟩) (some ⟨.p, .int h⟩)) := by
  rcases hp with ⟨h1, rfl⟩ | ⟨h1, rfl⟩ <;> simp [a_bindR, a_bindS, a_opd, a_constE, a_varE, a_keepE, a_op1, a_op2, a_nilA, a_consA, a_callB, a_tupE, a_lstE, a_testV, a_andT, a_orT, a_notT, a_andV, a_orV, a_notV, a_ifE, a_seqS, a_ifS, a_setS, a_dropS, a_retS, a_retVarS, a_asgS, a_callE, a_callF, a_appK, a_forS, a_compE, a_seqI, a_rng1, a_rng2, a_methL, a_mutL, a_setIxS, a_noPt, a_somePt, a_sliceE, a_chainE, a_nameG, a_nilG, a_consG, a_tupG, a_dnewE, a_dputS, a_dgetE, a_callP, a_zipI, a_enumI, revG, itemsT, inG, maxG, zipD, enumD, defG, runDef, env0, En.sv, getL, Opd.get, pureO, pureL, callD, argL, argO, lentS, wbE, wb1, wbAt, endF, backD, pB, pI, nL, numG, cmpG, subG, addG, mulG, negG, isNG, itemsD, itemsL, lenG, listG, tupleG, sumG, allG, int1G, int2G, intG, isiG, tyD, appendK, popK, clearK, insertK, reverseK, extendK, countG, eqG, intsOf, blsOf, wipeE, restE, tkeyD, keysD, keyD, kit_ii, kit_ib, kit_bi, kit_bb, kit_ll, kit_tt, kit_lt, kit_tl, kit_ti, kit_li, kit_ni, kit_si, kit_nt, kit_it, kit_st, kit_bt, getS, lendF, Fl.sh, dPut, dGet, isDct, a_dnewK, a_setdE, a_lrE, noX, okP, itemsOf, keysOf, kD, minG, sortG, keysI, a_raiseS, a_callZ, a_callPZ, a_dixE, a_dinN, a_parS, a_isxE, treeOK, imm, immL, immK, shImm, unlL, unl1, a_ownE, a_lockG, a_compM, a_comp2M, navD, updD, updK, stepIx, Fl.tr, accept, Md.fl, a_mutPS, a_pthV, a_pthI, a_pairA, a_nilT, a_consT, a_lstT, a_tupT, nB, envN, i5, i6, eq, pa, hl, h1, eqD_int]
theorem nA_ok {x7 : Option SV} (h7 : Pl x7) (nb : p0 - p1 = 1 ∨ p1 - p0 = 1) :
    nA (envN I r th mt (some ⟨.p, w⟩) (some ⟨.o, .lst [k0, k1]⟩) (some ⟨.o, .lst [.int p0, .int p1]⟩) x7) = .nx (envN I r th mt (some ⟨.p, w⟩) (some ⟨.o, .lst [k0, k1]⟩) (some ⟨.o, .lst [.int p0, .int p1]⟩) x7) := by
  have h : (if p0 - p1 < 0 then -(p0 - p1) else p0 - p1) = 1 := by split <;> omega
  generalize hz : p0 - p1 = z at *
  rcases h7 with rfl | ⟨d7, rfl⟩ <;> simp [a_bindR, a_bindS, a_opd, a_constE, a_varE, a_keepE, a_op1, a_op2, a_nilA, a_consA, a_callB, a_tupE, a_lstE, a_testV, a_andT, a_orT, a_notT, a_andV, a_orV, a_notV, a_ifE, a_seqS, a_ifS, a_setS, a_dropS, a_retS, a_retVarS, a_asgS, a_callE, a_callF, a_appK, a_forS, a_compE, a_seqI, a_rng1, a_rng2, a_methL, a_mutL, a_setIxS, a_noPt, a_somePt, a_sliceE, a_chainE, a_nameG, a_nilG, a_consG, a_tupG, a_dnewE, a_dputS, a_dgetE, a_callP, a_zipI, a_enumI, revG, itemsT, inG, maxG, zipD, enumD, defG, runDef, env0, En.sv, getL, Opd.get, pureO, pureL, callD, argL, argO, lentS, wbE, wb1, wbAt, endF, backD, pB, pI, nL, numG, cmpG, subG, addG, mulG, negG, isNG, ixG, itemsD, itemsL, lenG, listG, tupleG, sumG, allG, int1G, int2G, intG, isiG, tyD, appendK, popK, clearK, insertK, reverseK, extendK, countG, atI, ixN, eqG, intsOf, blsOf, wipeE, restE, tkeyD, keysD, keyD, kit_ii, kit_ib, kit_bi, kit_bb, kit_ll, kit_tt, kit_lt, kit_tl, kit_ti, kit_li, kit_ni, kit_si, kit_nt, kit_it, kit_st, kit_bt, getS, lendF, Fl.sh, dPut, dGet, isDct, a_dnewK, a_setdE, a_lrE, noX, okP, itemsOf, keysOf, kD, minG, sortG, keysI, a_raiseS, a_callZ, a_callPZ, a_dixE, a_dinN, a_parS, a_isxE, treeOK, imm, immL, immK, shImm, unlL, unl1, a_ownE, a_lockG, a_compM, a_comp2M, navD, updD, updK, stepIx, Fl.tr, accept, Md.fl, a_mutPS, a_pthV, a_pthI, a_pairA, a_nilT, a_consT, a_lstT, a_tupT, nA, envN, eqD_int, hz, h]
theorem nM_ok {x7 : Option SV} (h7 : Pl x7) (hl : mt.length < 100000) :
    nM (envN I r th mt (some ⟨.p, w⟩) (some ⟨.o, .lst [k0, k1]⟩) (some ⟨.o, .lst [.int p0, .int p1]⟩) x7) = .nx (envN I r th (putT mt (.inl (if p0 ≤ p1 then p0 else p1)) (.bl true)) (some ⟨.p, w⟩) (some ⟨.o, .lst [k0, k1]⟩) (some ⟨.o, .lst [.int p0, .int p1]⟩) x7) := by
  have h : minOf [p0, p1] = (if p0 ≤ p1 then p0 else p1) := by
    unfold minOf
    by_cases q : p0 ≤ p1
    · rw [if_pos q]; exact if_pos (by simpa [minOf] using q)
    · rw [if_neg q]; rw [if_neg (by simpa [minOf] using q)]; rfl
  rw [← h]
  rcases h7 with rfl | ⟨d7, rfl⟩ <;> simp [a_bindR, a_bindS, a_opd, a_constE, a_varE, a_keepE, a_op1, a_op2, a_nilA, a_consA, a_callB, a_tupE, a_lstE, a_testV, a_andT, a_orT, a_notT, a_andV, a_orV, a_notV, a_ifE, a_seqS, a_ifS, a_setS, a_dropS, a_retS, a_retVarS, a_asgS, a_callE, a_callF, a_appK, a_forS, a_compE, a_seqI, a_rng1, a_rng2, a_methL, a_mutL, a_setIxS, a_noPt, a_somePt, a_sliceE, a_chainE, a_nameG, a_nilG, a_consG, a_tupG, a_dnewE, a_dputS, a_dgetE, a_callP, a_zipI, a_enumI, revG, itemsT, inG, maxG, zipD, enumD, defG, runDef, env0, En.sv, getL, Opd.get, pureO, pureL, callD, argL, argO, lentS, wbE, wb1, wbAt, endF, backD, pB, pI, nL, numG, cmpG, subG, addG, mulG, negG, isNG, ixG, itemsD, itemsL, lenG, listG, tupleG, sumG, allG, int1G, int2G, intG, isiG, tyD, appendK, popK, clearK, insertK, reverseK, extendK, countG, atI, ixN, eqG, intsOf, blsOf, wipeE, restE, tkeyD, keysD, keyD, kit_ii, kit_ib, kit_bi, kit_bb, kit_ll, kit_tt, kit_lt, kit_tl, kit_ti, kit_li, kit_ni, kit_si, kit_nt, kit_it, kit_st, kit_bt, getS, lendF, Fl.sh, dPut, dGet, isDct, a_dnewK, a_setdE, a_lrE, noX, okP, itemsOf, keysOf, kD, minG, sortG, keysI, a_raiseS, a_callZ, a_callPZ, a_dixE, a_dinN, a_parS, a_isxE, treeOK, imm, immL, immK, shImm, unlL, unl1, a_ownE, a_lockG, a_compM, a_comp2M, navD, updD, updK, stepIx, Fl.tr, accept, Md.fl, a_mutPS, a_pthV, a_pthI, a_pairA, a_nilT, a_consT, a_lstT, a_tupT, nM, envN, hl]
theorem nR_ok {x5 x6 x7 : Option SV} {th1 th2 : List (Key × D)} (h5 : Ol x5) (h6 : Ol x6) (h7 : Pl x7) (kn : G_known [⟨.p, I⟩, ⟨.p, w⟩, ⟨.p, .int r⟩] = .ret ⟨.o, .lst [k0, k1]⟩ [I, w, .int r])
    (pl0 : G_place [⟨.p, k0⟩, ⟨.p, .int 0⟩] = .ret ⟨.p, .int p0⟩ [k0, .int 0]) (pl1 : G_place [⟨.p, k1⟩, ⟨.p, .int 1⟩] = .ret ⟨.p, .int p1⟩ [k1, .int 1])
    (eq0 : eqD k0 k0 = some true) (eq1 : eqD k1 k1 = some true) (pa0 : p0 % 2 = 0) (pa1 : p1 % 2 = 1) (nb : p0 - p1 = 1 ∨ p1 - p0 = 1) (hl : th.length < 100000) (hl1 : th1.length < 100000) (hm : mt.length < 100000)
    (hp0 : getT th (.inl p0) = some k0 ∧ th1 = th ∨ getT th (.inl p0) = none ∧ th1 = putT th (.inl p0) k0) (hp1 : getT th1 (.inl p1) = some k1 ∧ th2 = th1 ∨ getT th1 (.inl p1) = none ∧ th2 = putT th1 (.inl p1) k1) :
    nR (envN I r th mt (some ⟨.p, w⟩) x5 x6 x7) = .nx (envN I r th2 (putT mt (.inl (if p0 ≤ p1 then p0 else p1)) (.bl true)) (some ⟨.p, w⟩) (some ⟨.o, .lst [k0, k1]⟩) (some ⟨.o, .lst [.int p0, .int p1]⟩) (some ⟨.p, .int 1⟩)) := by
  have g : ∀ ds e, Grd ⟨ds, none⟩ e := fun _ _ => trivial
  unfold nR
  rw [seqS_nx (nK_ok h5 h6 h7 kn), seqS_nx (nP_ok h6 h7 pl0 pl1)]
  have b0 := nB_ok (I := I) (r := r) (mt := mt) (w := w) (k0 := k0) (k1 := k1) (p0 := p0) (p1 := p1) (k := k0) (p := p0) (h := 0) (th' := th1) rfl rfl eq0 pa0 hl hp0
  have b1 := nB_ok (I := I) (r := r) (mt := mt) (w := w) (k0 := k0) (k1 := k1) (p0 := p0) (p1 := p1) (k := k1) (p := p1) (h := 1) (th' := th2) rfl rfl eq1 pa1 hl1 hp1
  have lp : forS (rng1 (consA (opd (constE (.int 2))) nilA)) (nameG 7) nB (envN I r th mt (some ⟨.p, w⟩) (some ⟨.o, .lst [k0, k1]⟩) (some ⟨.o, .lst [.int p0, .int p1]⟩) x7) = .nx (envN I r th2 mt (some ⟨.p, w⟩) (some ⟨.o, .lst [k0, k1]⟩) (some ⟨.o, .lst [.int p0, .int p1]⟩) (some ⟨.p, .int 1⟩)) := by
    have src : rng1 (consA (opd (constE (.int 2))) nilA) (envN I r th mt (some ⟨.p, w⟩) (some ⟨.o, .lst [k0, k1]⟩) (some ⟨.o, .lst [.int p0, .int p1]⟩) x7) = .ok ⟨[.int 0, .int 1], none⟩ (envN I r th mt (some ⟨.p, w⟩) (some ⟨.o, .lst [k0, k1]⟩) (some ⟨.o, .lst [.int p0, .int p1]⟩) x7) := by
      simp [a_bindR, a_bindS, a_opd, a_constE, a_varE, a_keepE, a_op1, a_op2, a_nilA, a_consA, a_callB, a_tupE, a_lstE, a_testV, a_andT, a_orT, a_notT, a_andV, a_orV, a_notV, a_ifE, a_seqS, a_ifS, a_setS, a_dropS, a_retS, a_retVarS, a_asgS, a_callE, a_callF, a_appK, a_forS, a_compE, a_seqI, a_rng1, a_rng2, a_methL, a_mutL, a_setIxS, a_noPt, a_somePt, a_sliceE, a_chainE, a_nameG, a_nilG, a_consG, a_tupG, a_dnewE, a_dputS, a_dgetE, a_callP, a_zipI, a_enumI, revG, itemsT, inG, maxG, zipD, enumD, defG, runDef, env0, En.sv, getL, Opd.get, pureO, pureL, callD, argL, argO, lentS, wbE, wb1, wbAt, endF, backD, pB, pI, nL, numG, cmpG, subG, addG, mulG, negG, isNG, ixG, itemsD, itemsL, lenG, listG, tupleG, sumG, allG, int1G, int2G, intG, isiG, tyD, appendK, popK, clearK, insertK, reverseK, extendK, countG, atI, ixN, eqG, intsOf, blsOf, wipeE, restE, tkeyD, keysD, keyD, kit_ii, kit_ib, kit_bi, kit_bb, kit_ll, kit_tt, kit_lt, kit_tl, kit_ti, kit_li, kit_ni, kit_si, kit_nt, kit_it, kit_st, kit_bt, getS, lendF, Fl.sh, dPut, dGet, isDct, a_dnewK, a_setdE, a_lrE, noX, okP, itemsOf, keysOf, kD, minG, sortG, keysI, a_raiseS, a_callZ, a_callPZ, a_dixE, a_dinN, a_parS, a_isxE, treeOK, imm, immL, immK, shImm, unlL, unl1, a_ownE, a_lockG, a_compM, a_comp2M, navD, updD, updK, stepIx, Fl.tr, accept, Md.fl, a_mutPS, a_pthV, a_pthI, a_pairA, a_nilT, a_consT, a_lstT, a_tupT, envN, rangeD, List.range, List.range.loop]
    have n0 : ∀ x, nameG 7 (.int 0) (envN I r th mt (some ⟨.p, w⟩) (some ⟨.o, .lst [k0, k1]⟩) (some ⟨.o, .lst [.int p0, .int p1]⟩) x) = some (envN I r th mt (some ⟨.p, w⟩) (some ⟨.o, .lst [k0, k1]⟩) (some ⟨.o, .lst [.int p0, .int p1]⟩) (some ⟨.p, .int (0 : Nat)⟩)) := fun _ => rfl
    have n1 : ∀ x, nameG 7 (.int 1) (envN I r th1 mt (some ⟨.p, w⟩) (some ⟨.o, .lst [k0, k1]⟩) (some ⟨.o, .lst [.int p0, .int p1]⟩) x) = some (envN I r th1 mt (some ⟨.p, w⟩) (some ⟨.o, .lst [k0, k1]⟩) (some ⟨.o, .lst [.int p0, .int p1]⟩) (some ⟨.p, .int (1 : Nat)⟩)) := fun _ => rfl
    rw [a_forS, bindS_ok src]
    simp only [loopS, g, if_true, n0, b0, n1, b1]
    rfl
  rw [seqS_nx lp, seqS_nx (nA_ok (.inr ⟨_, rfl⟩) nb)]
  exact nM_ok (.inr ⟨_, rfl⟩) hm
end
end My

namespace My
open PySem L2 DL
def entT (X Y : Int) (l : List (Int × Tm)) : List (Key × D) := l.map fun e => (.inl e.1, phi X Y e.2)
def entM (m : List Int) : List (Key × D) := m.map fun q => (.inl q, .bl true)
theorem get_entT (X Y : Int) (p : Int) : ∀ l : List (Int × Tm), getT (entT X Y l) (.inl p) = (lookT l p).map (phi X Y)
  | [] => rfl
  | (q, t) :: l => by
    have ih := get_entT X Y p l
    unfold getT lookT entT at ih ⊢
    rw [List.map_cons, List.find?_cons, List.find?_cons]
    by_cases h : q = p
    · have h' : ((.inl q : Key) = .inl p) := by rw [h]
      simp [h]
    · have h' : ¬ ((.inl q : Key) = .inl p) := fun e => h (by cases e; rfl)
      rw [decide_eq_false h, decide_eq_false h']
      exact ih
theorem put_entT (X Y : Int) {p : Int} {t : Tm} {l : List (Int × Tm)} (h : lookT l p = none) : putT (entT X Y l) (.inl p) (phi X Y t) = entT X Y (l ++ [(p, t)]) := by
  unfold putT
  have : ((entT X Y l).any fun kv => decide (kv.1 = (.inl p : Key))) = false := by
    rw [List.any_eq_false]
    intro kv hkv e
    obtain ⟨z, hz, rfl⟩ := List.mem_map.mp hkv
    have e' : z.1 = p := by
      have := of_decide_eq_true e
      cases this; rfl
    unfold lookT at h
    rw [Option.map_eq_none_iff, List.find?_eq_none] at h
    exact h z hz (by simp [e'])
  rw [this]
  simp [entT]
theorem put_entM (q : Int) (m : List Int) : putT (entM m) (.inl q) (.bl true) = entM (if m.contains q then m else m ++ [q]) := by
  unfold putT
  have a : ((entM m).any fun kv => decide (kv.1 = (.inl q : Key))) = m.contains q := by
    rw [Bool.eq_iff_iff, List.any_eq_true, List.contains_iff_mem]
    constructor
    · rintro ⟨kv, hkv, e⟩
      obtain ⟨z, hz, rfl⟩ := List.mem_map.mp hkv
      have := of_decide_eq_true e
      cases this; exact hz
    · intro h
      exact ⟨_, List.mem_map.mpr ⟨q, h, rfl⟩, by simp⟩
  rw [a]
  by_cases h : m.contains q = true
  · rw [if_pos h, if_pos h]
    unfold entM
    rw [List.map_map]
    refine List.map_congr_left fun z _ => ?_
    show (if (Sum.inl z : Key) = Sum.inl q then ((Sum.inl z : Key), D.bl true) else (Sum.inl z, D.bl true)) = _
    split <;> rfl
  · rw [if_neg h, if_neg h]; simp [entM]
theorem eqD_phi (X Y : Int) (t : Tm) (h : dep t ≤ 60) : eqD (phi X Y t) (phi X Y t) = some true := by
  obtain ⟨p, h1, h2, h3⟩ := toPy_phi X Y t
  exact eqD_self h1 h2 (by omega)
def Gd (r : Nat) (row : List Int) : Prop := Hands row ∧ row.count 0 ≤ 2 * r ∧ row.count 1 ≤ 2 * r ∧ row.length ≤ 12
theorem line_ok {X Y : Int} (hX : 0 ≤ X) (hY : 0 ≤ Y) {r : Nat} (hr : r ≤ 3) {s s' : Ln} {row : List Int} (G : Gd r row) (h : lineStep r s row = some s') (l1 : s.there.length < 9000) (l2 : s.met.length < 9000) {x5 x6 x7 : Option SV} (h5 : Ol x5) (h6 : Ol x6) (h7 : Pl x7) :
    s'.there.length ≤ s.there.length + 2 ∧ s'.met.length ≤ s.met.length + 1 ∧ ∃ d5 d6 d7, nR (envN (.tup [.int X, .int Y]) r (entT X Y s.there) (entM s.met) (some ⟨.p, rowD row⟩) x5 x6 x7) = .nx (envN (.tup [.int X, .int Y]) r (entT X Y s'.there) (entM s'.met) (some ⟨.p, rowD row⟩) (some ⟨.o, d5⟩) (some ⟨.o, d6⟩) (some ⟨.p, d7⟩)) := by
  obtain ⟨gh, g0, g1, gl⟩ := G
  obtain ⟨S, A, B, k1, _, kd, Hi⟩ := run_all (r := r) hX hY gh g0 g1
  have ri := run_img X Y row (iniT r)
  rw [ini_img] at ri
  unfold lineStep at h
  cases e : runT row (iniT r) with
  | none => rw [e] at h; cases h
  | some k =>
    rw [e] at h ri
    dsimp only at h
    have eS : S = img X Y k := Option.some.inj (k1.symm.trans ri)
    have o0 := out_img X Y r k 0
    have o1 := out_img X Y r k 1
    rw [← eS] at o0 o1
    generalize ht0 : outT r k 0 = t0 at *
    generalize ht1 : outT r k 1 = t1 at *
    split at h
    · rename_i hc
      obtain ⟨n0, n1, c0, pa0, c1, pa1, nb⟩ := hc
      have hs' := Option.some.inj h
      have f0 : row.count 0 = 2 * r := by
        by_cases q : row.count 0 = 2 * r
        · exact q
        · have := out_lt (r := r) (h := 0) kd (by omega) (by simpa using q)
          rw [o0] at this
          exact absurd (phi_non this) n0
      have f1 : row.count 1 = 2 * r := by
        by_cases q : row.count 1 = 2 * r
        · exact q
        · have := out_lt (r := r) (h := 1) kd (by omega) (by simpa using q)
          rw [o1] at this
          exact absurd (phi_non this) n1
      obtain ⟨m0, a0, b0, S0⟩ := out_full Hi (h := 0) (by omega) (by simpa using f0)
      obtain ⟨m1, a1, b1, S1⟩ := out_full Hi (h := 1) (by omega) (by simpa using f1)
      have em0 := spt_pl S0 t0 o0
      have em1 := spt_pl S1 t1 o1
      have pl0 := place_ok S0 (by omega)
      have pl1 := place_ok S1 (by omega)
      have eq0 := S0.eq (by omega)
      have eq1 := S1.eq (by omega)
      rw [o0] at pl0 eq0
      rw [o1] at pl1 eq1
      have kn := known_ok .p (.inl rfl) X Y r hX hY row (by omega) gh (by omega) (by omega) (by omega) (by omega) (s := S) (by rw [Int.toNat_natCast]; exact k1)
      rw [Int.toNat_natCast, o0, o1] at kn
      rw [← em0, ← em1] at hs'
      rw [← em0] at c0 c1 pa0 nb
      rw [← em1] at c1 pa1 nb
      have ld : ∀ (l : List (Int × Tm)) p t, (setdT l p t).length ≤ l.length + 1 := fun l p t => by unfold setdT; split <;> simp
      have pt : ∀ (l : List (Int × Tm)) (p : Int) (t : Tm), (lookT l p).getD t = t → getT (entT X Y l) (.inl p) = some (phi X Y t) ∧ entT X Y (setdT l p t) = entT X Y l ∨ getT (entT X Y l) (.inl p) = none ∧ entT X Y (setdT l p t) = putT (entT X Y l) (.inl p) (phi X Y t) := fun l p t hl => by
        unfold setdT
        rw [get_entT]
        cases q : lookT l p with
        | some t' =>
          rw [q] at hl
          have : t' = t := hl
          subst this
          exact .inl ⟨rfl, rfl⟩
        | none => exact .inr ⟨rfl, (put_entT X Y q).symm⟩
      have q1 := ld s.there m0 t0
      have q2 := ld (setdT s.there m0 t0) m1 t1
      subst hs'
      refine ⟨by dsimp only; omega, by dsimp only; split <;> first | (rw [List.length_append]; exact Nat.le_refl _) | exact Nat.le_succ _ | (split <;> first | (rw [List.length_append]; exact Nat.le_refl _) | exact Nat.le_succ _), ?_⟩
      have fin := nR_ok (I := .tup [.int X, .int Y]) (r := r) (th := entT X Y s.there) (mt := entM s.met) (w := rowD row) (k0 := phi X Y t0) (k1 := phi X Y t1) (p0 := m0) (p1 := m1) (th1 := entT X Y (setdT s.there m0 t0)) (th2 := entT X Y (setdT (setdT s.there m0 t0) m1 t1)) h5 h6 h7 kn pl0 pl1 eq0 eq1 pa0 pa1 nb (by simp [entT]; omega) (by simp [entT]; omega) (by simp [entM]; omega) (pt _ _ _ c0) (pt _ _ _ c1)
      rw [put_entM] at fin
      exact ⟨_, _, _, fin⟩
    · cases h
theorem lines_loop {X Y : Int} (hX : 0 ≤ X) (hY : 0 ≤ Y) {r : Nat} (hr : r ≤ 3) (src : Src) (hG : ∀ e, Grd src e) : ∀ (L : List (List Int)) (s s' : Ln), (∀ row ∈ L, Gd r row) → linesT r L s = some s' → s.there.length + 2 * L.length < 9000 → s.met.length + L.length < 9000 → ∀ {x4 x5 x6 x7 : Option SV}, Pl x4 → Ol x5 → Ol x6 → Pl x7 →
    ∃ y4 y5 y6 y7, Pl y4 ∧ Ol y5 ∧ Ol y6 ∧ Pl y7 ∧ loopS src (nameG 4) nR (L.map rowD) (envN (.tup [.int X, .int Y]) r (entT X Y s.there) (entM s.met) x4 x5 x6 x7) = .nx (envN (.tup [.int X, .int Y]) r (entT X Y s'.there) (entM s'.met) y4 y5 y6 y7)
  | [], s, s', _, h, _, _, x4, x5, x6, x7, h4, h5, h6, h7 => by
    have : s = s' := Option.some.inj h
    subst this
    refine ⟨x4, x5, x6, x7, h4, h5, h6, h7, ?_⟩
    show loopS src (nameG 4) nR [] _ = _
    unfold loopS
    rw [if_pos (hG _)]
  | row :: L, s, s', hg, h, l1, l2, x4, x5, x6, x7, h4, h5, h6, h7 => by
    unfold linesT at h
    rw [List.length_cons] at l1 l2
    cases e : lineStep r s row with
    | none => rw [e] at h; cases h
    | some s1 =>
      rw [e] at h
      obtain ⟨q1, q2, d5, d6, d7, b⟩ := line_ok hX hY hr (hg row List.mem_cons_self) e (by omega) (by omega) h5 h6 h7
      obtain ⟨y4, y5, y6, y7, k4, k5, k6, k7, ih⟩ := lines_loop hX hY hr src hG L s1 s' (fun z hz => hg z (List.mem_cons_of_mem _ hz)) h (by omega) (by omega) (x4 := some ⟨.p, rowD row⟩) (x5 := some ⟨.o, d5⟩) (x6 := some ⟨.o, d6⟩) (x7 := some ⟨.p, d7⟩) (.inr ⟨_, rfl⟩) (.inr ⟨_, rfl⟩) (.inr ⟨_, rfl⟩) (.inr ⟨_, rfl⟩)
      refine ⟨y4, y5, y6, y7, k4, k5, k6, k7, ?_⟩
      rw [List.map_cons]
      unfold loopS
      rw [if_pos (hG _)]
      have n4 : nameG 4 (rowD row) (envN (.tup [.int X, .int Y]) r (entT X Y s.there) (entM s.met) x4 x5 x6 x7) = some (envN (.tup [.int X, .int Y]) r (entT X Y s.there) (entM s.met) (some ⟨.p, rowD row⟩) x5 x6 x7) := by
        rcases h4 with rfl | ⟨d4, rfl⟩ <;> rfl
      rw [n4]
      dsimp only
      rw [b]
      exact ih
theorem wvK_good (m : Nat) : ∀ k : Nat, ∀ row ∈ wvK m k, Hands row ∧ row.count 0 ≤ m ∧ row.count 1 ≤ m
  | 0, row, h => by
    have : row = [] := by simpa [wvK] using h
    rw [this]; exact ⟨fun z hz => (by cases hz), by simp, by simp⟩
  | k + 1, row, h => by
    have h' : row ∈ wst m (wvK m k) := h
    unfold wst at h'
    obtain ⟨r0, h0, h1⟩ := List.mem_flatMap.mp h'
    obtain ⟨i1, i2, i3⟩ := wvK_good m k r0 h0
    unfold wst1 at h1
    obtain ⟨x, hx, rfl⟩ := List.mem_map.mp h1
    obtain ⟨hx1, hx2⟩ := List.mem_filter.mp hx
    have hx2 := of_decide_eq_true hx2
    have : x = 0 ∨ x = 1 := by simpa using hx1
    rcases this with rfl | rfl
    · refine ⟨fun z hz => ?_, by rw [List.count_append]; simp; omega, by rw [List.count_append]; simp; omega⟩
      rcases List.mem_append.mp hz with hz | hz
      · exact i1 z hz
      · have : z = 0 := by simpa using hz
        omega
    · refine ⟨fun z hz => ?_, by rw [List.count_append]; simp; omega, by rw [List.count_append]; simp; omega⟩
      rcases List.mem_append.mp hz with hz | hz
      · exact i1 z hz
      · have : z = 1 := by simpa using hz
        omega
end My

namespace My
open PySem L2 DL
theorem rangeD_ups (n : Nat) : rangeD 0 n = (ups n).map D.int := by simp [rangeD, ups]
theorem keysI_entM : ∀ m : List Int, keysI (entM m) = some m
  | [] => rfl
  | q :: m => by
    have := keysI_entM m
    unfold entM at this ⊢
    rw [List.map_cons, keysI, this]; rfl
theorem keysI_entT (X Y : Int) : ∀ l : List (Int × Tm), keysI (entT X Y l) = some (l.map (·.1))
  | [] => rfl
  | q :: m => by
    have := keysI_entT X Y m
    unfold entT at this ⊢
    rw [List.map_cons, keysI, this]; rfl
theorem sort_entM (m : List Int) (h : m.length < 64) : sortG [.dk (entM m)] = nL ((sortI m).map D.int) := by
  unfold sortG
  dsimp only
  rw [keysI_entM]
  dsimp only
  rw [if_pos h]
theorem sort_entT (X Y : Int) (l : List (Int × Tm)) (h : l.length < 64) : sortG [.dk (entT X Y l)] = nL ((sortI (l.map (·.1))).map D.int) := by
  unfold sortG
  dsimp only
  rw [keysI_entT]
  dsimp only
  rw [if_pos (by simpa using h)]
theorem lines_ok {X Y : Int} (hX : 0 ≤ X) (hY : 0 ≤ Y) {r : Nat} (hr : r ≤ 3) {s : Ln} (h : linesT r (wvK (2 * r) (4 * r)) ⟨[], []⟩ = some s) (hm : s.met.length < 64) :
    G__law_lines [⟨.p, .tup [.int X, .int Y]⟩, ⟨.p, .int r⟩] = .ret ⟨.p, .tup [.dk (entT X Y s.there), .lst ((sortI s.met).map D.int)]⟩ [.tup [.int X, .int Y], .int r] := by
  have wv := weav_ok r hr
  have hl : (wvK (2 * r) (4 * r)).length ≤ 4096 := Nat.le_trans (wvK_len _ _) (pow_le12 (by omega))
  have hg : ∀ row ∈ wvK (2 * r) (4 * r), Gd r row := fun row hrow => by
    obtain ⟨a, b, c⟩ := wvK_good (2 * r) (4 * r) row hrow
    exact ⟨a, b, c, by rw [wvK_rows _ _ row hrow]; omega⟩
  generalize wvK (2 * r) (4 * r) = L at *
  obtain ⟨y4, y5, y6, y7, k4, k5, k6, k7, lp⟩ := lines_loop hX hY hr ⟨L.map rowD, none⟩ (fun _ => trivial) L ⟨[], []⟩ s hg h (by show 0 + 2 * L.length < 9000; omega) (by show 0 + L.length < 9000; omega) (x4 := none) (x5 := none) (x6 := none) (x7 := none) (.inl rfl) (.inl rfl) (.inl rfl) (.inl rfl)
  show endF [⟨.p, .tup [.int X, .int Y]⟩, ⟨.p, .int r⟩] (m__law_lines (env0 8 [⟨.p, .tup [.int X, .int Y]⟩, ⟨.p, .int r⟩])) = _
  rw [lines_eq]
  have s1 : (setS 2 dnewK) (env0 8 [⟨.p, .tup [.int X, .int Y]⟩, ⟨.p, .int r⟩]) = .nx [some ⟨.p, .tup [.int X, .int Y]⟩, some ⟨.p, .int r⟩, some ⟨.o, .dk []⟩, none, none, none, none, none] := by simp [a_bindR, a_bindS, a_opd, a_constE, a_varE, a_keepE, a_op1, a_op2, a_nilA, a_consA, a_callB, a_tupE, a_lstE, a_testV, a_andT, a_orT, a_notT, a_andV, a_orV, a_notV, a_ifE, a_seqS, a_ifS, a_setS, a_dropS, a_retS, a_retVarS, a_asgS, a_callE, a_callF, a_appK, a_forS, a_compE, a_seqI, a_rng1, a_rng2, a_methL, a_mutL, a_setIxS, a_noPt, a_somePt, a_sliceE, a_chainE, a_nameG, a_nilG, a_consG, a_tupG, a_dnewE, a_dputS, a_dgetE, a_callP, a_zipI, a_enumI, revG, itemsT, inG, maxG, zipD, enumD, defG, runDef, env0, En.sv, getL, Opd.get, pureO, pureL, callD, argL, argO, lentS, wbE, wb1, wbAt, endF, backD, pB, pI, nL, numG, cmpG, subG, addG, mulG, negG, isNG, ixG, itemsD, itemsL, lenG, listG, tupleG, sumG, allG, int1G, int2G, intG, isiG, tyD, appendK, popK, clearK, insertK, reverseK, extendK, countG, atI, ixN, eqG, intsOf, blsOf, wipeE, restE, tkeyD, keysD, keyD, kit_ii, kit_ib, kit_bi, kit_bb, kit_ll, kit_tt, kit_lt, kit_tl, kit_ti, kit_li, kit_ni, kit_si, kit_nt, kit_it, kit_st, kit_bt, getS, lendF, Fl.sh, dPut, dGet, isDct, a_dnewK, a_setdE, a_lrE, noX, okP, itemsOf, keysOf, kD, minG, sortG, keysI, a_raiseS, a_callZ, a_callPZ, a_dixE, a_dinN, a_parS, a_isxE, treeOK, imm, immL, immK, shImm, unlL, unl1, a_ownE, a_lockG, a_compM, a_comp2M, navD, updD, updK, stepIx, Fl.tr, accept, Md.fl, a_mutPS, a_pthV, a_pthI, a_pairA, a_nilT, a_consT, a_lstT, a_tupT]
  have s2 : (setS 3 dnewK) [some ⟨.p, .tup [.int X, .int Y]⟩, some ⟨.p, .int r⟩, some ⟨.o, .dk []⟩, none, none, none, none, none] = .nx (envN (.tup [.int X, .int Y]) r [] [] none none none none) := by simp [a_bindR, a_bindS, a_opd, a_constE, a_varE, a_keepE, a_op1, a_op2, a_nilA, a_consA, a_callB, a_tupE, a_lstE, a_testV, a_andT, a_orT, a_notT, a_andV, a_orV, a_notV, a_ifE, a_seqS, a_ifS, a_setS, a_dropS, a_retS, a_retVarS, a_asgS, a_callE, a_callF, a_appK, a_forS, a_compE, a_seqI, a_rng1, a_rng2, a_methL, a_mutL, a_setIxS, a_noPt, a_somePt, a_sliceE, a_chainE, a_nameG, a_nilG, a_consG, a_tupG, a_dnewE, a_dputS, a_dgetE, a_callP, a_zipI, a_enumI, revG, itemsT, inG, maxG, zipD, enumD, defG, runDef, env0, En.sv, getL, Opd.get, pureO, pureL, callD, argL, argO, lentS, wbE, wb1, wbAt, endF, backD, pB, pI, nL, numG, cmpG, subG, addG, mulG, negG, isNG, ixG, itemsD, itemsL, lenG, listG, tupleG, sumG, allG, int1G, int2G, intG, isiG, tyD, appendK, popK, clearK, insertK, reverseK, extendK, countG, atI, ixN, eqG, intsOf, blsOf, wipeE, restE, tkeyD, keysD, keyD, kit_ii, kit_ib, kit_bi, kit_bb, kit_ll, kit_tt, kit_lt, kit_tl, kit_ti, kit_li, kit_ni, kit_si, kit_nt, kit_it, kit_st, kit_bt, getS, lendF, Fl.sh, dPut, dGet, isDct, a_dnewK, a_setdE, a_lrE, noX, okP, itemsOf, keysOf, kD, minG, sortG, keysI, a_raiseS, a_callZ, a_callPZ, a_dixE, a_dinN, a_parS, a_isxE, treeOK, imm, immL, immK, shImm, unlL, unl1, a_ownE, a_lockG, a_compM, a_comp2M, navD, updD, updK, stepIx, Fl.tr, accept, Md.fl, a_mutPS, a_pthV, a_pthI, a_pairA, a_nilT, a_consT, a_lstT, a_tupT, envN]
  have src : seqI (opd (callE G_weavings (consA (varE 1) nilA))) (envN (.tup [.int X, .int Y]) r [] [] none none none none) = .ok ⟨L.map rowD, none⟩ (envN (.tup [.int X, .int Y]) r [] [] none none none none) := by
    unfold allD at wv
    generalize L.map rowD = Z at *
    simp [a_bindR, a_bindS, a_opd, a_constE, a_varE, a_keepE, a_op1, a_op2, a_nilA, a_consA, a_callB, a_tupE, a_lstE, a_testV, a_andT, a_orT, a_notT, a_andV, a_orV, a_notV, a_ifE, a_seqS, a_ifS, a_setS, a_dropS, a_retS, a_retVarS, a_asgS, a_callE, a_callF, a_appK, a_forS, a_compE, a_seqI, a_rng1, a_rng2, a_methL, a_mutL, a_setIxS, a_noPt, a_somePt, a_sliceE, a_chainE, a_nameG, a_nilG, a_consG, a_tupG, a_dnewE, a_dputS, a_dgetE, a_callP, a_zipI, a_enumI, revG, itemsT, inG, maxG, zipD, enumD, defG, runDef, env0, En.sv, getL, Opd.get, pureO, pureL, callD, argL, argO, lentS, wbE, wb1, wbAt, endF, backD, pB, pI, nL, numG, cmpG, subG, addG, mulG, negG, isNG, ixG, itemsD, itemsL, lenG, listG, tupleG, sumG, allG, int1G, int2G, intG, isiG, tyD, appendK, popK, clearK, insertK, reverseK, extendK, countG, atI, ixN, eqG, intsOf, blsOf, wipeE, restE, tkeyD, keysD, keyD, kit_ii, kit_ib, kit_bi, kit_bb, kit_ll, kit_tt, kit_lt, kit_tl, kit_ti, kit_li, kit_ni, kit_si, kit_nt, kit_it, kit_st, kit_bt, getS, lendF, Fl.sh, dPut, dGet, isDct, a_dnewK, a_setdE, a_lrE, noX, okP, itemsOf, keysOf, kD, minG, sortG, keysI, a_raiseS, a_callZ, a_callPZ, a_dixE, a_dinN, a_parS, a_isxE, treeOK, imm, immL, immK, shImm, unlL, unl1, a_ownE, a_lockG, a_compM, a_comp2M, navD, updD, updK, stepIx, Fl.tr, accept, Md.fl, a_mutPS, a_pthV, a_pthI, a_pairA, a_nilT, a_consT, a_lstT, a_tupT, envN, wv]
  have s3 : (forS (seqI (opd (callE G_weavings (consA (varE 1) nilA)))) (nameG 4) nR) (envN (.tup [.int X, .int Y]) r [] [] none none none none) = .nx (envN (.tup [.int X, .int Y]) r (entT X Y s.there) (entM s.met) y4 y5 y6 y7) := by
    rw [a_forS, bindS_ok src]; exact lp
  have so := sort_entM s.met hm
  rw [seqS_nx s1, seqS_nx s2, seqS_nx s3]
  generalize entT X Y s.there = T at *
  generalize entM s.met = M at *
  generalize (sortI s.met).map D.int = Z at *
  rcases k4 with rfl | ⟨d4, rfl⟩ <;> rcases k5 with rfl | ⟨d5, rfl⟩ <;> rcases k6 with rfl | ⟨d6, rfl⟩ <;> rcases k7 with rfl | ⟨d7, rfl⟩ <;> simp [a_bindR, a_bindS, a_opd, a_constE, a_varE, a_keepE, a_op1, a_op2, a_nilA, a_consA, a_callB, a_tupE, a_lstE, a_testV, a_andT, a_orT, a_notT, a_andV, a_orV, a_notV, a_ifE, a_seqS, a_ifS, a_setS, a_dropS, a_retS, a_retVarS, a_asgS, a_callE, a_callF, a_appK, a_forS, a_compE, a_seqI, a_rng1, a_rng2, a_methL, a_mutL, a_setIxS, a_noPt, a_somePt, a_sliceE, a_chainE, a_nameG, a_nilG, a_consG, a_tupG, a_dnewE, a_dputS, a_dgetE, a_callP, a_zipI, a_enumI, revG, itemsT, inG, maxG, zipD, enumD, defG, runDef, env0, En.sv, getL, Opd.get, pureO, pureL, callD, argL, argO, lentS, wbE, wb1, wbAt, endF, backD, pB, pI, nL, numG, cmpG, subG, addG, mulG, negG, isNG, ixG, itemsD, itemsL, lenG, listG, tupleG, sumG, allG, int1G, int2G, intG, isiG, tyD, appendK, popK, clearK, insertK, reverseK, extendK, countG, atI, ixN, eqG, intsOf, blsOf, wipeE, restE, tkeyD, keysD, keyD, kit_ii, kit_ib, kit_bi, kit_bb, kit_ll, kit_tt, kit_lt, kit_tl, kit_ti, kit_li, kit_ni, kit_si, kit_nt, kit_it, kit_st, kit_bt, getS, lendF, Fl.sh, dPut, dGet, isDct, a_dnewK, a_setdE, a_lrE, noX, okP, itemsOf, keysOf, kD, minG, keysI, a_raiseS, a_callZ, a_callPZ, a_dixE, a_dinN, a_parS, a_isxE, treeOK, imm, immL, immK, shImm, unlL, unl1, a_ownE, a_lockG, a_compM, a_comp2M, navD, updD, updK, stepIx, Fl.tr, accept, Md.fl, a_mutPS, a_pthV, a_pthI, a_pairA, a_nilT, a_consT, a_lstT, a_tupT, envN, so]
def bnd (r : Nat) : Bool := match linesT r (wvK (2 * r) (4 * r)) ⟨[], []⟩ with | some s => s.there.all fun e => decide (dep e.2 ≤ 20) && decide (sz e.2 ≤ 50000) | none => false
theorem bnd_ok : ∀ r : Fin 4, bnd r = true := by decide +kernel
theorem inG2 (p a b : Int) : inG false (.int p) (.tup [.int a, .int b]) = pB (decide (p = a ∨ p = b)) := by
  have e : toPy (.tup [.int a, .int b]) = some (.tuple [.int a, .int b]) := by simp [toPy, toPyL]
  have e2 : toPy (.int p) = some (.int p) := by simp [toPy]
  unfold inG
  rw [e, e2]
  dsimp only
  rw [if_pos ⟨shaped_of rfl (by simp [PyData.depth]), shaped_of rfl (by simp [PyData.depth, PyData.depthAll])⟩]
  have : ([PyData.int a, PyData.int b].any fun z => PyData.eqv z (.int p)) = decide (p = a ∨ p = b) := by
    have ev : ∀ z, PyData.eqv (.int z) (.int p) = (z == p) := fun z => by unfold PyData.eqv; rfl
    simp only [List.any, ev, Bool.or_false]
    rw [Bool.eq_iff_iff]
    simp only [Bool.or_eq_true, beq_iff_eq, decide_eq_true_eq]
    exact ⟨fun h => h.elim (fun h => .inl h.symm) (fun h => .inr h.symm), fun h => h.elim (fun h => .inl h.symm) (fun h => .inr h.symm)⟩
  rw [this]; rfl
theorem eqD_bls (a b : Bool) : eqD (.bl a) (.bl b) = some (a == b) := by
  cases a <;> cases b <;> (unfold eqD toPy; dsimp only; rw [if_pos ⟨shaped_of rfl (by simp [PyData.depth]), shaped_of rfl (by simp [PyData.depth])⟩]; unfold PyData.eqv; rfl)
end My

namespace My
open PySem L2 DL
theorem cell_ok (ns : List Int) : ∃ z : Int, G__law_cell_at [⟨.p, .frl (ns.map D.int)⟩, ⟨.p, .int 0⟩] = .ret ⟨.p, .int z⟩ [.frl (ns.map D.int), .int 0] := by
  cases ns with
  | nil => exact ⟨0, by simp [a_bindR, a_bindS, a_opd, a_constE, a_varE, a_keepE, a_op1, a_op2, a_nilA, a_consA, a_callB, a_tupE, a_lstE, a_testV, a_andT, a_orT, a_notT, a_andV, a_orV, a_notV, a_ifE, a_seqS, a_ifS, a_setS, a_dropS, a_retS, a_retVarS, a_asgS, a_callE, a_callF, a_appK, a_forS, a_compE, a_seqI, a_rng1, a_rng2, a_methL, a_mutL, a_setIxS, a_noPt, a_somePt, a_sliceE, a_chainE, a_nameG, a_nilG, a_consG, a_tupG, a_dnewE, a_dputS, a_dgetE, a_callP, a_zipI, a_enumI, revG, itemsT, inG, maxG, zipD, enumD, defG, runDef, env0, En.sv, getL, Opd.get, pureO, pureL, callD, argL, argO, lentS, wbE, wb1, wbAt, endF, backD, pB, pI, nL, numG, cmpG, subG, addG, mulG, negG, isNG, ixG, itemsD, itemsL, lenG, listG, tupleG, sumG, allG, int1G, int2G, intG, isiG, tyD, appendK, popK, clearK, insertK, reverseK, extendK, countG, atI, ixN, eqG, intsOf, blsOf, wipeE, restE, tkeyD, keysD, keyD, kit_ii, kit_ib, kit_bi, kit_bb, kit_ll, kit_tt, kit_lt, kit_tl, kit_ti, kit_li, kit_ni, kit_si, kit_nt, kit_it, kit_st, kit_bt, getS, lendF, Fl.sh, dPut, dGet, isDct, a_dnewK, a_setdE, a_lrE, noX, okP, itemsOf, keysOf, kD, minG, sortG, keysI, a_raiseS, a_callZ, a_callPZ, a_dixE, a_dinN, a_parS, a_isxE, treeOK, imm, immL, immK, shImm, unlL, unl1, a_ownE, a_lockG, a_compM, a_comp2M, navD, updD, updK, stepIx, Fl.tr, accept, Md.fl, a_mutPS, a_pthV, a_pthI, a_pairA, a_nilT, a_consT, a_lstT, a_tupT, G__law_cell_at, m__law_cell_at]⟩
  | cons z r => exact ⟨z, by simp [a_bindR, a_bindS, a_opd, a_constE, a_varE, a_keepE, a_op1, a_op2, a_nilA, a_consA, a_callB, a_tupE, a_lstE, a_testV, a_andT, a_orT, a_notT, a_andV, a_orV, a_notV, a_ifE, a_seqS, a_ifS, a_setS, a_dropS, a_retS, a_retVarS, a_asgS, a_callE, a_callF, a_appK, a_forS, a_compE, a_seqI, a_rng1, a_rng2, a_methL, a_mutL, a_setIxS, a_noPt, a_somePt, a_sliceE, a_chainE, a_nameG, a_nilG, a_consG, a_tupG, a_dnewE, a_dputS, a_dgetE, a_callP, a_zipI, a_enumI, revG, itemsT, inG, maxG, zipD, enumD, defG, runDef, env0, En.sv, getL, Opd.get, pureO, pureL, callD, argL, argO, lentS, wbE, wb1, wbAt, endF, backD, pB, pI, nL, numG, cmpG, subG, addG, mulG, negG, isNG, ixG, itemsD, itemsL, lenG, listG, tupleG, sumG, allG, int1G, int2G, intG, isiG, tyD, appendK, popK, clearK, insertK, reverseK, extendK, countG, atI, ixN, eqG, intsOf, blsOf, wipeE, restE, tkeyD, keysD, keyD, kit_ii, kit_ib, kit_bi, kit_bb, kit_ll, kit_tt, kit_lt, kit_tl, kit_ti, kit_li, kit_ni, kit_si, kit_nt, kit_it, kit_st, kit_bt, getS, lendF, Fl.sh, dPut, dGet, isDct, a_dnewK, a_setdE, a_lrE, noX, okP, itemsOf, keysOf, kD, minG, sortG, keysI, a_raiseS, a_callZ, a_callPZ, a_dixE, a_dinN, a_parS, a_isxE, treeOK, imm, immL, immK, shImm, unlL, unl1, a_ownE, a_lockG, a_compM, a_comp2M, navD, updD, updK, stepIx, Fl.tr, accept, Md.fl, a_mutPS, a_pthV, a_pthI, a_pairA, a_nilT, a_consT, a_lstT, a_tupT, G__law_cell_at, m__law_cell_at]⟩
noncomputable def lB1 : En → RS := (ifS (testV (op2 (eqG true) (opd (callE G__law_plain (consA (varE 7) nilA))) (opd (op2 (inG false) (varE 6) (opd (tupE (consA (opd (constE (.int 0))) (consA (varE 4) nilA)))))))) (retS (constE (.bl false))) .nx)
noncomputable def lB2 : En → RS := (ifS (testV (op2 (eqG false) (opd (callE G__law_met (consA (varE 7) (consA (opd (op2 ixG (varE 3) (opd (op2 subG (opd (constE (.int 1))) (opd (op2 (numG (fun _ j => 0 < j) fun i j => i % j) (varE 6) (opd (constE (.int 2))))))))) nilA)))) (opd (op2 (inG false) (varE 6) (opd (tupE (consA (opd (constE (.int 0))) (consA (varE 4) nilA)))))))) (retS (constE (.bl false))) .nx)
noncomputable def lOne : En → RS := (setS 2 (callE G__law_one (consA (varE 1) (consA (opd (lstE (consA (opd (constE (.int 0))) (consA (opd (constE (.int 1))) (consA (opd (constE (.int 2))) (consA (opd (constE (.int 2))) (consA (opd (constE (.int 2))) (consA (opd (constE (.int 3))) nilA)))))))) nilA))))
noncomputable def lIn : En → RS := (setS 3 (tupE (consA (opd (callE G__law_draw (consA (varE 1) (consA (opd (constE (.int 4))) nilA)))) (consA (opd (op2 addG (opd (constE (.int 4))) (opd (callE G__law_draw (consA (varE 1) (consA (opd (op2 (numG CPow fun i j => i ^ j.toNat) (opd (constE (.int 10))) (opd (constE (.int 20))))) nilA)))))) nilA))))
noncomputable def lCk : En → RS := (ifS (orT (testV (op2 (isNG false) (varE 5) (opd (constE .non)))) (orT (testV (op2 (eqG true) (opd (callB sortG (consA (opd (op2 ixG (varE 5) (opd (constE (.int 0))))) nilA))) (opd (lrE (opd (op2 addG (varE 4) (opd (constE (.int 1))))))))) (testV (op2 (eqG true) (opd (op2 ixG (varE 5) (opd (constE (.int 1))))) (opd (lrE (varE 4))))))) (retS (constE (.bl false))) .nx)
theorem law_eq : m_law = (seqS (setS 1 (callF G__law_well (callE G__law_cell_at (consA (varE 0) (consA (opd (constE (.int 0))) nilA))))) (seqS lOne (seqS lIn (seqS (setS 4 (callE G__law_power (consA (varE 2) nilA))) (seqS (setS 5 (callE G__law_lines (consA (varE 3) (consA (varE 2) nilA)))) (seqS lCk (seqS (forD 5 (pthI 5 (pthV 5) (opd (constE (.int 0)))) itemsOf (tupG 2 (consG (nameG 6) (consG (nameG 7) nilG))) (seqS lB1 lB2)) (retS (constE (.bl true)))))))))) := rfl
def envL (sd w : D) (r : Nat) (X Y N : Int) (F : D) (x6 x7 : Option SV) : En := [some ⟨.p, sd⟩, some ⟨.o, w⟩, some ⟨.p, .int r⟩, some ⟨.p, .tup [.int X, .int Y]⟩, some ⟨.p, .int N⟩, some ⟨.p, F⟩, x6, x7]
section
variable {sd w F : D} {r : Nat} {X Y N : Int}
theorem lB_ok {p : Int} {t : Tm} (hXY : X ≠ Y) (h1 : plainT t = decide (p = 0 ∨ p = N)) (h2 : metT (if p % 2 = 0 then .y else .x) t = !decide (p = 0 ∨ p = N)) (h3 : p % 2 = 0 ∨ p % 2 = 1) (hd : dep t ≤ 20) (hs : sz t ≤ 50000) :
    seqS lB1 lB2 (envL sd w r X Y N F (some ⟨.p, .int p⟩) (some ⟨.p, phi X Y t⟩)) = .nx (envL sd w r X Y N F (some ⟨.p, .int p⟩) (some ⟨.p, phi X Y t⟩)) := by
  have pl := plain_ok X Y t
  have ig := inG2 p 0 N
  rw [h1] at pl
  have b1 : lB1 (envL sd w r X Y N F (some ⟨.p, .int p⟩) (some ⟨.p, phi X Y t⟩)) = .nx (envL sd w r X Y N F (some ⟨.p, .int p⟩) (some ⟨.p, phi X Y t⟩)) := by
    generalize decide (p = 0 ∨ p = N) = b at *
    generalize phi X Y t = T at *
    simp [a_bindR, a_bindS, a_opd, a_constE, a_varE, a_keepE, a_op1, a_op2, a_nilA, a_consA, a_callB, a_tupE, a_lstE, a_testV, a_andT, a_orT, a_notT, a_andV, a_orV, a_notV, a_ifE, a_seqS, a_ifS, a_setS, a_dropS, a_retS, a_retVarS, a_asgS, a_callE, a_callF, a_appK, a_forS, a_compE, a_seqI, a_rng1, a_rng2, a_methL, a_mutL, a_setIxS, a_noPt, a_somePt, a_sliceE, a_chainE, a_nameG, a_nilG, a_consG, a_tupG, a_dnewE, a_dputS, a_dgetE, a_callP, a_zipI, a_enumI, revG, itemsT, maxG, zipD, enumD, defG, runDef, env0, En.sv, getL, Opd.get, pureO, pureL, callD, argL, argO, lentS, wbE, wb1, wbAt, endF, backD, pB, pI, nL, numG, cmpG, subG, addG, mulG, negG, isNG, ixG, itemsD, itemsL, lenG, listG, tupleG, sumG, allG, int1G, int2G, intG, isiG, tyD, appendK, popK, clearK, insertK, reverseK, extendK, countG, atI, ixN, eqG, intsOf, blsOf, wipeE, restE, tkeyD, keysD, keyD, kit_ii, kit_ib, kit_bi, kit_bb, kit_ll, kit_tt, kit_lt, kit_tl, kit_ti, kit_li, kit_ni, kit_si, kit_nt, kit_it, kit_st, kit_bt, getS, lendF, Fl.sh, dPut, dGet, isDct, a_dnewK, a_setdE, a_lrE, noX, okP, itemsOf, keysOf, kD, minG, sortG, keysI, a_raiseS, a_callZ, a_callPZ, a_dixE, a_dinN, a_parS, a_isxE, treeOK, imm, immL, immK, shImm, unlL, unl1, a_ownE, a_lockG, a_compM, a_comp2M, navD, updD, updK, stepIx, Fl.tr, accept, Md.fl, a_mutPS, a_pthV, a_pthI, a_pairA, a_nilT, a_consT, a_lstT, a_tupT, lB1, envL, pl, ig, eqD_bls]
  rw [seqS_nx b1]
  rcases h3 with h3 | h3
  · have me := met_ok hXY .y (.inr rfl) t hd hs
    rw [if_pos h3] at h2
    rw [h2] at me
    have me' : G__law_met [⟨.p, phi X Y t⟩, ⟨.p, .int Y⟩] = .ret ⟨.p, .bl (!decide (p = 0 ∨ p = N))⟩ [phi X Y t, .int Y] := me
    generalize decide (p = 0 ∨ p = N) = b at *
    generalize phi X Y t = T at *
    cases b <;> simp [a_bindR, a_bindS, a_opd, a_constE, a_varE, a_keepE, a_op1, a_op2, a_nilA, a_consA, a_callB, a_tupE, a_lstE, a_testV, a_andT, a_orT, a_notT, a_andV, a_orV, a_notV, a_ifE, a_seqS, a_ifS, a_setS, a_dropS, a_retS, a_retVarS, a_asgS, a_callE, a_callF, a_appK, a_forS, a_compE, a_seqI, a_rng1, a_rng2, a_methL, a_mutL, a_setIxS, a_noPt, a_somePt, a_sliceE, a_chainE, a_nameG, a_nilG, a_consG, a_tupG, a_dnewE, a_dputS, a_dgetE, a_callP, a_zipI, a_enumI, revG, itemsT, maxG, zipD, enumD, defG, runDef, env0, En.sv, getL, Opd.get, pureO, pureL, callD, argL, argO, lentS, wbE, wb1, wbAt, endF, backD, pB, pI, nL, numG, cmpG, subG, addG, mulG, negG, isNG, ixG, itemsD, itemsL, lenG, listG, tupleG, sumG, allG, int1G, int2G, intG, isiG, tyD, appendK, popK, clearK, insertK, reverseK, extendK, countG, atI, ixN, eqG, intsOf, blsOf, wipeE, restE, tkeyD, keysD, keyD, kit_ii, kit_ib, kit_bi, kit_bb, kit_ll, kit_tt, kit_lt, kit_tl, kit_ti, kit_li, kit_ni, kit_si, kit_nt, kit_it, kit_st, kit_bt, getS, lendF, Fl.sh, dPut, dGet, isDct, a_dnewK, a_setdE, a_lrE, noX, okP, itemsOf, keysOf, kD, minG, sortG, keysI, a_raiseS, a_callZ, a_callPZ, a_dixE, a_dinN, a_parS, a_isxE, treeOK, imm, immL, immK, shImm, unlL, unl1, a_ownE, a_lockG, a_compM, a_comp2M, navD, updD, updK, stepIx, Fl.tr, accept, Md.fl, a_mutPS, a_pthV, a_pthI, a_pairA, a_nilT, a_consT, a_lstT, a_tupT, lB2, envL, me', ig, eqD_bls, h3] <;> simp_all
  · have me := met_ok hXY .x (.inl rfl) t hd hs
    rw [if_neg (by omega)] at h2
    rw [h2] at me
    have me' : G__law_met [⟨.p, phi X Y t⟩, ⟨.p, .int X⟩] = .ret ⟨.p, .bl (!decide (p = 0 ∨ p = N))⟩ [phi X Y t, .int X] := me
    generalize decide (p = 0 ∨ p = N) = b at *
    generalize phi X Y t = T at *
    cases b <;> simp [a_bindR, a_bindS, a_opd, a_constE, a_varE, a_keepE, a_op1, a_op2, a_nilA, a_consA, a_callB, a_tupE, a_lstE, a_testV, a_andT, a_orT, a_notT, a_andV, a_orV, a_notV, a_ifE, a_seqS, a_ifS, a_setS, a_dropS, a_retS, a_retVarS, a_asgS, a_callE, a_callF, a_appK, a_forS, a_compE, a_seqI, a_rng1, a_rng2, a_methL, a_mutL, a_setIxS, a_noPt, a_somePt, a_sliceE, a_chainE, a_nameG, a_nilG, a_consG, a_tupG, a_dnewE, a_dputS, a_dgetE, a_callP, a_zipI, a_enumI, revG, itemsT, maxG, zipD, enumD, defG, runDef, env0, En.sv, getL, Opd.get, pureO, pureL, callD, argL, argO, lentS, wbE, wb1, wbAt, endF, backD, pB, pI, nL, numG, cmpG, subG, addG, mulG, negG, isNG, ixG, itemsD, itemsL, lenG, listG, tupleG, sumG, allG, int1G, int2G, intG, isiG, tyD, appendK, popK, clearK, insertK, reverseK, extendK, countG, atI, ixN, eqG, intsOf, blsOf, wipeE, restE, tkeyD, keysD, keyD, kit_ii, kit_ib, kit_bi, kit_bb, kit_ll, kit_tt, kit_lt, kit_tl, kit_ti, kit_li, kit_ni, kit_si, kit_nt, kit_it, kit_st, kit_bt, getS, lendF, Fl.sh, dPut, dGet, isDct, a_dnewK, a_setdE, a_lrE, noX, okP, itemsOf, keysOf, kD, minG, sortG, keysI, a_raiseS, a_callZ, a_callPZ, a_dixE, a_dinN, a_parS, a_isxE, treeOK, imm, immL, immK, shImm, unlL, unl1, a_ownE, a_lockG, a_compM, a_comp2M, navD, updD, updK, stepIx, Fl.tr, accept, Md.fl, a_mutPS, a_pthV, a_pthI, a_pairA, a_nilT, a_consT, a_lstT, a_tupT, lB2, envL, me', ig, eqD_bls, h3] <;> simp_all
theorem lB_loop (hXY : X ≠ Y) (src : Src) (hG : ∀ e, Grd src e) : ∀ (l : List (Int × Tm)), (∀ e ∈ l, plainT e.2 = decide (e.1 = 0 ∨ e.1 = N) ∧ metT (if e.1 % 2 = 0 then .y else .x) e.2 = (!decide (e.1 = 0 ∨ e.1 = N)) ∧ (e.1 % 2 = 0 ∨ e.1 % 2 = 1) ∧ dep e.2 ≤ 20 ∧ sz e.2 ≤ 50000) → ∀ (x6 x7 : Option SV), Pl x6 → Pl x7 →
    ∃ y6 y7, loopS src (tupG 2 (consG (nameG 6) (consG (nameG 7) nilG))) (seqS lB1 lB2) ((entT X Y l).map fun e => .tup [kD e.1, e.2]) (envL sd w r X Y N F x6 x7) = .nx (envL sd w r X Y N F y6 y7)
  | [], _, x6, x7, h6, h7 => by
    refine ⟨x6, x7, ?_⟩
    show loopS src _ _ [] _ = _
    unfold loopS
    rw [if_pos (hG _)]
  | (p, t) :: l, h, x6, x7, h6, h7 => by
    obtain ⟨a1, a2, a3, a4, a5⟩ := h (p, t) List.mem_cons_self
    obtain ⟨y6, y7, ih⟩ := lB_loop hXY src hG l (fun e he => h e (List.mem_cons_of_mem _ he)) (some ⟨.p, .int p⟩) (some ⟨.p, phi X Y t⟩) (.inr ⟨_, rfl⟩) (.inr ⟨_, rfl⟩)
    refine ⟨y6, y7, ?_⟩
    show loopS src _ _ (.tup [.int p, phi X Y t] :: (entT X Y l).map fun e => .tup [kD e.1, e.2]) _ = _
    unfold loopS
    rw [if_pos (hG _)]
    have n : tupG 2 (consG (nameG 6) (consG (nameG 7) nilG)) (.tup [.int p, phi X Y t]) (envL sd w r X Y N F x6 x7) = some (envL sd w r X Y N F (some ⟨.p, .int p⟩) (some ⟨.p, phi X Y t⟩)) := by
      generalize phi X Y t = T
      rcases h6 with rfl | ⟨d6, rfl⟩ <;> rcases h7 with rfl | ⟨d7, rfl⟩ <;> simp [a_bindR, a_bindS, a_opd, a_constE, a_varE, a_keepE, a_op1, a_op2, a_nilA, a_consA, a_callB, a_tupE, a_lstE, a_testV, a_andT, a_orT, a_notT, a_andV, a_orV, a_notV, a_ifE, a_seqS, a_ifS, a_setS, a_dropS, a_retS, a_retVarS, a_asgS, a_callE, a_callF, a_appK, a_forS, a_compE, a_seqI, a_rng1, a_rng2, a_methL, a_mutL, a_setIxS, a_noPt, a_somePt, a_sliceE, a_chainE, a_nameG, a_nilG, a_consG, a_tupG, a_dnewE, a_dputS, a_dgetE, a_callP, a_zipI, a_enumI, revG, itemsT, inG, maxG, zipD, enumD, defG, runDef, env0, En.sv, getL, Opd.get, pureO, pureL, callD, argL, argO, lentS, wbE, wb1, wbAt, endF, backD, pB, pI, nL, numG, cmpG, subG, addG, mulG, negG, isNG, ixG, itemsD, itemsL, lenG, listG, tupleG, sumG, allG, int1G, int2G, intG, isiG, tyD, appendK, popK, clearK, insertK, reverseK, extendK, countG, atI, ixN, eqG, intsOf, blsOf, wipeE, restE, tkeyD, keysD, keyD, kit_ii, kit_ib, kit_bi, kit_bb, kit_ll, kit_tt, kit_lt, kit_tl, kit_ti, kit_li, kit_ni, kit_si, kit_nt, kit_it, kit_st, kit_bt, getS, lendF, Fl.sh, dPut, dGet, isDct, a_dnewK, a_setdE, a_lrE, noX, okP, itemsOf, keysOf, kD, minG, sortG, keysI, a_raiseS, a_callZ, a_callPZ, a_dixE, a_dinN, a_parS, a_isxE, treeOK, imm, immL, immK, shImm, unlL, unl1, a_ownE, a_lockG, a_compM, a_comp2M, navD, updD, updK, stepIx, Fl.tr, accept, Md.fl, a_mutPS, a_pthV, a_pthI, a_pairA, a_nilT, a_consT, a_lstT, a_tupT, envL]
    rw [n]
    dsimp only
    rw [lB_ok hXY a1 a2 a3 a4 a5]
    exact ih
end
theorem lCk_ok {sd w : D} {r : Nat} {X Y N N1 : Int} {T : List (Key × D)} {U U1 : List D} (ad : N1 = N + 1) (so : sortG [.dk T] = nL U1) (r1 : rangeD 0 N1.toNat = U1) (r2 : rangeD 0 N.toNat = U) (a0 : 0 ≤ N1) (a1 : N1 ≤ 100000) (b0 : 0 ≤ N) (b1 : N ≤ 100000) (v1 : eqD (.lst U1) (.lst U1) = some true) (v2 : eqD (.lst U) (.lst U) = some true) :
    lCk (envL sd w r X Y N (.tup [.dk T, .lst U]) none none) = .nx (envL sd w r X Y N (.tup [.dk T, .lst U]) none none) := by
  have ag : addG (.int N) (.int 1) = some ⟨.p, .int N1⟩ := by rw [ad]; rfl
  clear ad
  have f1 : lrE (opd (op2 addG (varE 4) (opd (constE (.int 1))))) (envL sd w r X Y N (.tup [.dk T, .lst U]) none none) = .ok ⟨.o, .lst U1⟩ (envL sd w r X Y N (.tup [.dk T, .lst U]) none none) := by
    have f0 : opd (op2 addG (varE 4) (opd (constE (.int 1)))) (envL sd w r X Y N (.tup [.dk T, .lst U]) none none) = .ok (.val (.int N1)) (envL sd w r X Y N (.tup [.dk T, .lst U]) none none) := by simp [a_bindR, a_bindS, a_opd, a_constE, a_varE, a_keepE, a_op1, a_op2, a_nilA, a_consA, a_callB, a_tupE, a_lstE, a_testV, a_andT, a_orT, a_notT, a_andV, a_orV, a_notV, a_ifE, a_seqS, a_ifS, a_setS, a_dropS, a_retS, a_retVarS, a_asgS, a_callE, a_callF, a_appK, a_forS, a_compE, a_seqI, a_rng1, a_rng2, a_methL, a_mutL, a_setIxS, a_noPt, a_somePt, a_sliceE, a_chainE, a_nameG, a_nilG, a_consG, a_tupG, a_dnewE, a_dputS, a_dgetE, a_callP, a_zipI, a_enumI, revG, itemsT, inG, maxG, zipD, enumD, defG, runDef, env0, En.sv, getL, Opd.get, pureO, pureL, callD, argL, argO, lentS, wbE, wb1, wbAt, endF, backD, pB, pI, nL, numG, cmpG, subG, mulG, negG, isNG, ixG, itemsD, itemsL, lenG, listG, tupleG, sumG, allG, int1G, int2G, intG, isiG, tyD, appendK, popK, clearK, insertK, reverseK, extendK, countG, atI, ixN, eqG, intsOf, blsOf, wipeE, restE, tkeyD, keysD, keyD, kit_ii, kit_ib, kit_bi, kit_bb, kit_ll, kit_tt, kit_lt, kit_tl, kit_ti, kit_li, kit_ni, kit_si, kit_nt, kit_it, kit_st, kit_bt, getS, lendF, Fl.sh, dPut, dGet, isDct, a_dnewK, a_setdE, a_lrE, noX, okP, itemsOf, keysOf, kD, minG, sortG, keysI, a_raiseS, a_callZ, a_callPZ, a_dixE, a_dinN, a_parS, a_isxE, treeOK, imm, immL, immK, shImm, unlL, unl1, a_ownE, a_lockG, a_compM, a_comp2M, navD, updD, updK, stepIx, Fl.tr, accept, Md.fl, a_mutPS, a_pthV, a_pthI, a_pairA, a_nilT, a_consT, a_lstT, a_tupT, envL, ag]
    rw [a_lrE, bindR_ok f0]
    show (if 0 ≤ N1 ∧ N1 ≤ 100000 then _ else _) = _
    rw [if_pos ⟨a0, a1⟩, r1]
  have f2 : lrE (varE 4) (envL sd w r X Y N (.tup [.dk T, .lst U]) none none) = .ok ⟨.o, .lst U⟩ (envL sd w r X Y N (.tup [.dk T, .lst U]) none none) := by
    have f0 : varE 4 (envL sd w r X Y N (.tup [.dk T, .lst U]) none none) = .ok (.slot 4) (envL sd w r X Y N (.tup [.dk T, .lst U]) none none) := rfl
    rw [a_lrE, bindR_ok f0]
    show (if 0 ≤ N ∧ N ≤ 100000 then _ else _) = _
    rw [if_pos ⟨b0, b1⟩, r2]
  unfold lCk
  unfold envL at f1 f2 ⊢
  simp [a_bindR, a_bindS, a_opd, a_constE, a_varE, a_keepE, a_op1, a_op2, a_nilA, a_consA, a_callB, a_tupE, a_lstE, a_testV, a_andT, a_orT, a_notT, a_andV, a_orV, a_notV, a_ifE, a_seqS, a_ifS, a_setS, a_dropS, a_retS, a_retVarS, a_asgS, a_callE, a_callF, a_appK, a_forS, a_compE, a_seqI, a_rng1, a_rng2, a_methL, a_mutL, a_setIxS, a_noPt, a_somePt, a_sliceE, a_chainE, a_nameG, a_nilG, a_consG, a_tupG, a_dnewE, a_dputS, a_dgetE, a_callP, a_zipI, a_enumI, revG, itemsT, inG, maxG, zipD, enumD, defG, runDef, env0, En.sv, getL, Opd.get, pureO, pureL, callD, argL, argO, lentS, wbE, wb1, wbAt, endF, backD, pB, pI, nL, numG, cmpG, subG, mulG, negG, isNG, ixG, itemsD, itemsL, lenG, listG, tupleG, sumG, allG, int1G, int2G, intG, isiG, tyD, appendK, popK, clearK, insertK, reverseK, extendK, countG, atI, ixN, eqG, intsOf, blsOf, wipeE, restE, tkeyD, keysD, keyD, kit_ii, kit_ib, kit_bi, kit_bb, kit_ll, kit_tt, kit_lt, kit_tl, kit_ti, kit_li, kit_ni, kit_si, kit_nt, kit_it, kit_st, kit_bt, getS, lendF, Fl.sh, dPut, dGet, isDct, a_dnewK, a_setdE, noX, okP, itemsOf, keysOf, kD, minG, keysI, a_raiseS, a_callZ, a_callPZ, a_dixE, a_dinN, a_parS, a_isxE, treeOK, imm, immL, immK, shImm, unlL, unl1, a_ownE, a_lockG, a_compM, a_comp2M, navD, updD, updK, stepIx, Fl.tr, accept, Md.fl, a_mutPS, a_pthV, a_pthI, a_pairA, a_nilT, a_consT, a_lstT, a_tupT, f1, f2, so, v1, v2]
theorem lIn_ok {sd : D} {r : Nat} {a b c a1 c1 a2 c2 X v : Int} (e4 : G__law_draw [⟨.b, .lst [.int a, .int b, .int c]⟩, ⟨.p, .int 4⟩] = .ret ⟨.p, .int X⟩ [.lst [.int a1, .int b, .int c1], .int 4]) (e5 : G__law_draw [⟨.b, .lst [.int a1, .int b, .int c1]⟩, ⟨.p, .int 100000000000000000000⟩] = .ret ⟨.p, .int v⟩ [.lst [.int a2, .int b, .int c2], .int 100000000000000000000]) :
    lIn [some ⟨.p, sd⟩, some ⟨.o, .lst [.int a, .int b, .int c]⟩, some ⟨.p, .int r⟩, none, none, none, none, none] = .nx [some ⟨.p, sd⟩, some ⟨.o, .lst [.int a2, .int b, .int c2]⟩, some ⟨.p, .int r⟩, some ⟨.p, .tup [.int X, .int (4 + v)]⟩, none, none, none, none] := by simp [a_bindR, a_bindS, a_opd, a_constE, a_varE, a_keepE, a_op1, a_op2, a_nilA, a_consA, a_callB, a_tupE, a_lstE, a_testV, a_andT, a_orT, a_notT, a_andV, a_orV, a_notV, a_ifE, a_seqS, a_ifS, a_setS, a_dropS, a_retS, a_retVarS, a_asgS, a_callE, a_callF, a_appK, a_forS, a_compE, a_seqI, a_rng1, a_rng2, a_methL, a_mutL, a_setIxS, a_noPt, a_somePt, a_sliceE, a_chainE, a_nameG, a_nilG, a_consG, a_tupG, a_dnewE, a_dputS, a_dgetE, a_callP, a_zipI, a_enumI, revG, itemsT, inG, maxG, zipD, enumD, defG, runDef, env0, En.sv, getL, Opd.get, pureO, pureL, callD, argL, argO, lentS, wbE, wb1, wbAt, endF, backD, pB, pI, nL, numG, cmpG, subG, addG, mulG, negG, isNG, ixG, itemsD, itemsL, lenG, listG, tupleG, sumG, allG, int1G, int2G, intG, isiG, tyD, appendK, popK, clearK, insertK, reverseK, extendK, countG, atI, ixN, eqG, intsOf, blsOf, wipeE, restE, tkeyD, keysD, keyD, kit_ii, kit_ib, kit_bi, kit_bb, kit_ll, kit_tt, kit_lt, kit_tl, kit_ti, kit_li, kit_ni, kit_si, kit_nt, kit_it, kit_st, kit_bt, getS, lendF, Fl.sh, dPut, dGet, isDct, a_dnewK, a_setdE, a_lrE, noX, okP, itemsOf, keysOf, kD, minG, sortG, keysI, a_raiseS, a_callZ, a_callPZ, a_dixE, a_dinN, a_parS, a_isxE, treeOK, imm, immL, immK, shImm, unlL, unl1, a_ownE, a_lockG, a_compM, a_comp2M, navD, updD, updK, stepIx, Fl.tr, accept, Md.fl, a_mutPS, a_pthV, a_pthI, a_pairA, a_nilT, a_consT, a_lstT, a_tupT, lIn, e4, e5, CPow]
end My

namespace My
open PySem L2 DL
theorem ends_ok (r : Nat) (hr : r ≤ 3) : ∃ s, linesT r (wvK (2 * r) (4 * r)) ⟨[], []⟩ = some s ∧ sortI (s.there.map (·.1)) = ups (3 ^ r + 1) ∧ sortI s.met = ups (3 ^ r) ∧ s.there.length < 64 ∧ s.met.length < 64 ∧
    ∀ e ∈ s.there, plainT e.2 = decide (e.1 = 0 ∨ e.1 = 3 ^ r) ∧ metT (if e.1 % 2 = 0 then .y else .x) e.2 = (!decide (e.1 = 0 ∨ e.1 = 3 ^ r)) ∧ (e.1 % 2 = 0 ∨ e.1 % 2 = 1) ∧ dep e.2 ≤ 20 ∧ sz e.2 ≤ 50000 := by
  have ao : allOk r = true := all_ok ⟨r, by omega⟩
  have bo : bnd r = true := bnd_ok ⟨r, by omega⟩
  unfold allOk at ao
  unfold bnd at bo
  generalize linesT r (wvK (2 * r) (4 * r)) ⟨[], []⟩ = o at *
  match o, ao, bo with
  | some s, ao, bo =>
    have ao : endOk r s = true := ao
    unfold endOk at ao
    rw [Bool.and_eq_true, Bool.and_eq_true, Bool.and_eq_true, Bool.and_eq_true] at ao
    obtain ⟨⟨⟨⟨q1, q2⟩, q3⟩, q4⟩, q5⟩ := ao
    refine ⟨s, rfl, of_decide_eq_true q1, of_decide_eq_true q2, of_decide_eq_true q3, of_decide_eq_true q4, fun e he => ?_⟩
    have h1 := List.all_eq_true.mp q5 e he
    have h2 := List.all_eq_true.mp bo e he
    rw [Bool.and_eq_true, Bool.and_eq_true] at h1
    rw [Bool.and_eq_true] at h2
    exact ⟨of_decide_eq_true h1.1.1, of_decide_eq_true h1.1.2, of_decide_eq_true h1.2, of_decide_eq_true h2.1, of_decide_eq_true h2.2⟩
theorem s4_ok {sd w I : D} {z N : Int} (pw : G__law_power [⟨.p, .int z⟩] = .ret ⟨.p, .int N⟩ [.int z]) : (setS 4 (callE G__law_power (consA (varE 2) nilA))) [some ⟨.p, sd⟩, some ⟨.o, w⟩, some ⟨.p, .int z⟩, some ⟨.p, I⟩, none, none, none, none] = .nx [some ⟨.p, sd⟩, some ⟨.o, w⟩, some ⟨.p, .int z⟩, some ⟨.p, I⟩, some ⟨.p, .int N⟩, none, none, none] := by
  generalize G__law_power = G at *
  simp [a_bindR, a_bindS, a_opd, a_constE, a_varE, a_keepE, a_op1, a_op2, a_nilA, a_consA, a_callB, a_tupE, a_lstE, a_testV, a_andT, a_orT, a_notT, a_andV, a_orV, a_notV, a_ifE, a_seqS, a_ifS, a_setS, a_dropS, a_retS, a_retVarS, a_asgS, a_callE, a_callF, a_appK, a_forS, a_compE, a_seqI, a_rng1, a_rng2, a_methL, a_mutL, a_setIxS, a_noPt, a_somePt, a_sliceE, a_chainE, a_nameG, a_nilG, a_consG, a_tupG, a_dnewE, a_dputS, a_dgetE, a_callP, a_zipI, a_enumI, revG, itemsT, inG, maxG, zipD, enumD, defG, runDef, env0, En.sv, getL, Opd.get, pureO, pureL, callD, argL, argO, lentS, wbE, wb1, wbAt, endF, backD, pB, pI, nL, numG, cmpG, subG, addG, mulG, negG, isNG, ixG, itemsD, itemsL, lenG, listG, tupleG, sumG, allG, int1G, int2G, intG, isiG, tyD, appendK, popK, clearK, insertK, reverseK, extendK, countG, atI, ixN, eqG, intsOf, blsOf, wipeE, restE, tkeyD, keysD, keyD, kit_ii, kit_ib, kit_bi, kit_bb, kit_ll, kit_tt, kit_lt, kit_tl, kit_ti, kit_li, kit_ni, kit_si, kit_nt, kit_it, kit_st, kit_bt, getS, lendF, Fl.sh, dPut, dGet, isDct, a_dnewK, a_setdE, a_lrE, noX, okP, itemsOf, keysOf, kD, minG, sortG, keysI, a_raiseS, a_callZ, a_callPZ, a_dixE, a_dinN, a_parS, a_isxE, treeOK, imm, immL, immK, shImm, unlL, unl1, a_ownE, a_lockG, a_compM, a_comp2M, navD, updD, updK, stepIx, Fl.tr, accept, Md.fl, a_mutPS, a_pthV, a_pthI, a_pairA, a_nilT, a_consT, a_lstT, a_tupT, pw]
theorem tail_ok {sd w : D} {r M : Nat} {X Y N : Int} {s : Ln} (hXY : X ≠ Y) (hN : N = (M : Int)) (hN2 : M ≤ 27) (pw : G__law_power [⟨.p, .int r⟩] = .ret ⟨.p, .int N⟩ [.int r])
    (li : G__law_lines [⟨.p, .tup [.int X, .int Y]⟩, ⟨.p, .int r⟩] = .ret ⟨.p, .tup [.dk (entT X Y s.there), .lst ((ups M).map D.int)]⟩ [.tup [.int X, .int Y], .int r]) (so : sortG [.dk (entT X Y s.there)] = nL ((ups (M + 1)).map D.int))
    (hall : ∀ e ∈ s.there, plainT e.2 = decide (e.1 = 0 ∨ e.1 = N) ∧ metT (if e.1 % 2 = 0 then .y else .x) e.2 = (!decide (e.1 = 0 ∨ e.1 = N)) ∧ (e.1 % 2 = 0 ∨ e.1 % 2 = 1) ∧ dep e.2 ≤ 20 ∧ sz e.2 ≤ 50000) :
    ∃ e, (seqS (setS 4 (callE G__law_power (consA (varE 2) nilA))) (seqS (setS 5 (callE G__law_lines (consA (varE 3) (consA (varE 2) nilA)))) (seqS lCk (seqS (forD 5 (pthI 5 (pthV 5) (opd (constE (.int 0)))) itemsOf (tupG 2 (consG (nameG 6) (consG (nameG 7) nilG))) (seqS lB1 lB2)) (retS (constE (.bl true))))))) [some ⟨.p, sd⟩, some ⟨.o, w⟩, some ⟨.p, .int r⟩, some ⟨.p, .tup [.int X, .int Y]⟩, none, none, none, none] = .ret ⟨.p, .bl true⟩ (some ⟨.p, sd⟩ :: e) := by
  have s4 : (setS 4 (callE G__law_power (consA (varE 2) nilA))) [some ⟨.p, sd⟩, some ⟨.o, w⟩, some ⟨.p, .int r⟩, some ⟨.p, .tup [.int X, .int Y]⟩, none, none, none, none] = .nx [some ⟨.p, sd⟩, some ⟨.o, w⟩, some ⟨.p, .int r⟩, some ⟨.p, .tup [.int X, .int Y]⟩, some ⟨.p, .int N⟩, none, none, none] := s4_ok pw
  have s5 : (setS 5 (callE G__law_lines (consA (varE 3) (consA (varE 2) nilA)))) [some ⟨.p, sd⟩, some ⟨.o, w⟩, some ⟨.p, .int r⟩, some ⟨.p, .tup [.int X, .int Y]⟩, some ⟨.p, .int N⟩, none, none, none] = .nx (envL sd (w) r X Y N (.tup [.dk (entT X Y s.there), .lst ((ups M).map D.int)]) none none) := by
    generalize entT X Y s.there = T at *
    generalize (ups M).map D.int = U at *
    simp [a_bindR, a_bindS, a_opd, a_constE, a_varE, a_keepE, a_op1, a_op2, a_nilA, a_consA, a_callB, a_tupE, a_lstE, a_testV, a_andT, a_orT, a_notT, a_andV, a_orV, a_notV, a_ifE, a_seqS, a_ifS, a_setS, a_dropS, a_retS, a_retVarS, a_asgS, a_callE, a_callF, a_appK, a_forS, a_compE, a_seqI, a_rng1, a_rng2, a_methL, a_mutL, a_setIxS, a_noPt, a_somePt, a_sliceE, a_chainE, a_nameG, a_nilG, a_consG, a_tupG, a_dnewE, a_dputS, a_dgetE, a_callP, a_zipI, a_enumI, revG, itemsT, inG, maxG, zipD, enumD, defG, runDef, env0, En.sv, getL, Opd.get, pureO, pureL, callD, argL, argO, lentS, wbE, wb1, wbAt, endF, backD, pB, pI, nL, numG, cmpG, subG, addG, mulG, negG, isNG, ixG, itemsD, itemsL, lenG, listG, tupleG, sumG, allG, int1G, int2G, intG, isiG, tyD, appendK, popK, clearK, insertK, reverseK, extendK, countG, atI, ixN, eqG, intsOf, blsOf, wipeE, restE, tkeyD, keysD, keyD, kit_ii, kit_ib, kit_bi, kit_bb, kit_ll, kit_tt, kit_lt, kit_tl, kit_ti, kit_li, kit_ni, kit_si, kit_nt, kit_it, kit_st, kit_bt, getS, lendF, Fl.sh, dPut, dGet, isDct, a_dnewK, a_setdE, a_lrE, noX, okP, itemsOf, keysOf, kD, minG, sortG, keysI, a_raiseS, a_callZ, a_callPZ, a_dixE, a_dinN, a_parS, a_isxE, treeOK, imm, immL, immK, shImm, unlL, unl1, a_ownE, a_lockG, a_compM, a_comp2M, navD, updD, updK, stepIx, Fl.tr, accept, Md.fl, a_mutPS, a_pthV, a_pthI, a_pairA, a_nilT, a_consT, a_lstT, a_tupT, envL, li]
  have r1 : rangeD 0 (N + 1).toNat = (ups (M + 1)).map D.int := by
    rw [hN, show ((M : Int) + 1).toNat = M + 1 by omega]; exact rangeD_ups _
  have r2 : rangeD 0 N.toNat = (ups M).map D.int := by
    rw [hN, Int.toNat_natCast]; exact rangeD_ups _
  have g1 : 0 ≤ N + 1 ∧ N + 1 ≤ 100000 := by omega
  have g2 : 0 ≤ N ∧ N ≤ 100000 := by omega
  have v1 := eqD_ints (ups (M + 1))
  have v2 := eqD_ints (ups M)
  obtain ⟨y6, y7, lp⟩ := lB_loop (sd := sd) (w := w) (F := .tup [.dk (entT X Y s.there), .lst ((ups M).map D.int)]) (r := r) (N := N) hXY ⟨(entT X Y s.there).map fun e => .tup [kD e.1, e.2], none⟩ (fun _ => trivial) s.there hall none none (.inl rfl) (.inl rfl)
  have s6 : lCk (envL sd (w) r X Y N (.tup [.dk (entT X Y s.there), .lst ((ups M).map D.int)]) none none) = .nx (envL sd (w) r X Y N (.tup [.dk (entT X Y s.there), .lst ((ups M).map D.int)]) none none) := lCk_ok rfl so r1 r2 g1.1 g1.2 g2.1 g2.2 v1 v2
  have s7 : (forD 5 (pthI 5 (pthV 5) (opd (constE (.int 0)))) itemsOf (tupG 2 (consG (nameG 6) (consG (nameG 7) nilG))) (seqS lB1 lB2)) (envL sd (w) r X Y N (.tup [.dk (entT X Y s.there), .lst ((ups M).map D.int)]) none none) = .nx (envL sd (w) r X Y N (.tup [.dk (entT X Y s.there), .lst ((ups M).map D.int)]) y6 y7) := by
    have hf : pthI 5 (pthV 5) (opd (constE (.int 0))) (envL sd (w) r X Y N (.tup [.dk (entT X Y s.there), .lst ((ups M).map D.int)]) none none) = .ok [.ix 0] (envL sd (w) r X Y N (.tup [.dk (entT X Y s.there), .lst ((ups M).map D.int)]) none none) := by
      generalize entT X Y s.there = T
      generalize (ups M).map D.int = U
      simp [a_bindR, a_bindS, a_opd, a_constE, a_varE, a_keepE, a_op1, a_op2, a_nilA, a_consA, a_callB, a_tupE, a_lstE, a_testV, a_andT, a_orT, a_notT, a_andV, a_orV, a_notV, a_ifE, a_seqS, a_ifS, a_setS, a_dropS, a_retS, a_retVarS, a_asgS, a_callE, a_callF, a_appK, a_forS, a_compE, a_seqI, a_rng1, a_rng2, a_methL, a_mutL, a_setIxS, a_noPt, a_somePt, a_sliceE, a_chainE, a_nameG, a_nilG, a_consG, a_tupG, a_dnewE, a_dputS, a_dgetE, a_callP, a_zipI, a_enumI, revG, itemsT, inG, maxG, zipD, enumD, defG, runDef, env0, En.sv, getL, Opd.get, pureO, pureL, callD, argL, argO, lentS, wbE, wb1, wbAt, endF, backD, pB, pI, nL, numG, cmpG, subG, addG, mulG, negG, isNG, ixG, itemsD, itemsL, lenG, listG, tupleG, sumG, allG, int1G, int2G, intG, isiG, tyD, appendK, popK, clearK, insertK, reverseK, extendK, countG, atI, ixN, eqG, intsOf, blsOf, wipeE, restE, tkeyD, keysD, keyD, kit_ii, kit_ib, kit_bi, kit_bb, kit_ll, kit_tt, kit_lt, kit_tl, kit_ti, kit_li, kit_ni, kit_si, kit_nt, kit_it, kit_st, kit_bt, getS, lendF, Fl.sh, dPut, dGet, isDct, a_dnewK, a_setdE, a_lrE, noX, okP, itemsOf, keysOf, kD, minG, sortG, keysI, a_raiseS, a_callZ, a_callPZ, a_dixE, a_dinN, a_parS, a_isxE, treeOK, imm, immL, immK, shImm, unlL, unl1, a_ownE, a_lockG, a_compM, a_comp2M, navD, updD, updK, stepIx, Fl.tr, accept, Md.fl, a_mutPS, a_pthV, a_pthI, a_pairA, a_nilT, a_consT, a_lstT, a_tupT, envL]
    rw [a_forD]
    rw [show (envL sd (w) r X Y N (.tup [.dk (entT X Y s.there), .lst ((ups M).map D.int)]) none none).sv 5 = some ⟨.p, .tup [.dk (entT X Y s.there), .lst ((ups M).map D.int)]⟩ from rfl]
    dsimp only
    rw [hf]
    dsimp only
    rw [show (navD (.tup [.dk (entT X Y s.there), .lst ((ups M).map D.int)]) [.ix 0]).bind itemsOf = some ((entT X Y s.there).map fun e => .tup [kD e.1, e.2]) from rfl]
    dsimp only
    rw [if_pos (show okP [Stp.ix 0] = true from rfl), lp]
    rfl
  rw [seqS_nx s4, seqS_nx s5, seqS_nx s6, seqS_nx s7]
  exact ⟨_, rfl⟩
theorem law_ok (ns : List Int) (hl : ns.length ≤ 63) : G_law [⟨.p, .frl (ns.map D.int)⟩] = .ret ⟨.p, .bl true⟩ [.frl (ns.map D.int)] := by
  obtain ⟨z, e1⟩ := cell_ok ns
  obtain ⟨a, b, e2⟩ := well_ok z
  obtain ⟨n, x, a', c', hx, e3⟩ := one_ok a b 0 .p [.int 0, .int 1, .int 2, .int 2, .int 2, .int 3] (by simp) (by simp) (by decide)
  obtain ⟨r, hr, rfl⟩ : ∃ r : Nat, r ≤ 3 ∧ x = .int r := by
    have := List.mem_of_getElem? hx
    have : x = .int 0 ∨ x = .int 1 ∨ x = .int 2 ∨ x = .int 2 ∨ x = .int 2 ∨ x = .int 3 := by simpa using this
    rcases this with rfl | rfl | rfl | rfl | rfl | rfl
    · exact ⟨0, by omega, rfl⟩
    · exact ⟨1, by omega, rfl⟩
    · exact ⟨2, by omega, rfl⟩
    · exact ⟨2, by omega, rfl⟩
    · exact ⟨2, by omega, rfl⟩
    · exact ⟨3, by omega, rfl⟩
  obtain ⟨X, a1, c1, X0, X1, e4⟩ := draw_ok a' b c' 4 (by omega) (by decide)
  obtain ⟨v, a2, c2, v0, v1, e5⟩ := draw_ok a1 b c1 100000000000000000000 (by omega) (by decide +kernel)
  have hXY : X ≠ 4 + v := by omega
  have pw := power_ok r hr
  obtain ⟨s, hs, q1, q2, q3, q4, hall⟩ := ends_ok r hr
  clear hx
  have li := lines_ok (Y := 4 + v) X0 (by omega) hr hs q4
  have so := sort_entT X (4 + v) s.there q3
  rw [q1] at so
  rw [q2] at li
  have hN : ((3 : Int) ^ r) = ((3 ^ r : Nat) : Int) := by simp
  have hN2 : 3 ^ r ≤ 27 := Nat.le_trans (Nat.pow_le_pow_right (by decide) hr) (by decide)
  generalize hS : D.frl (ns.map D.int) = sd at *
  show endF [⟨.p, sd⟩] (m_law (env0 8 [⟨.p, sd⟩])) = _
  rw [law_eq]
  have s1 : (setS 1 (callF G__law_well (callE G__law_cell_at (consA (varE 0) (consA (opd (constE (.int 0))) nilA))))) (env0 8 [⟨.p, sd⟩]) = .nx [some ⟨.p, sd⟩, some ⟨.o, .lst [.int a, .int b, .int 0]⟩, none, none, none, none, none, none] := by simp [a_bindR, a_bindS, a_opd, a_constE, a_varE, a_keepE, a_op1, a_op2, a_nilA, a_consA, a_callB, a_tupE, a_lstE, a_testV, a_andT, a_orT, a_notT, a_andV, a_orV, a_notV, a_ifE, a_seqS, a_ifS, a_setS, a_dropS, a_retS, a_retVarS, a_asgS, a_callE, a_callF, a_appK, a_forS, a_compE, a_seqI, a_rng1, a_rng2, a_methL, a_mutL, a_setIxS, a_noPt, a_somePt, a_sliceE, a_chainE, a_nameG, a_nilG, a_consG, a_tupG, a_dnewE, a_dputS, a_dgetE, a_callP, a_zipI, a_enumI, revG, itemsT, inG, maxG, zipD, enumD, defG, runDef, env0, En.sv, getL, Opd.get, pureO, pureL, callD, argL, argO, lentS, wbE, wb1, wbAt, endF, backD, pB, pI, nL, numG, cmpG, subG, addG, mulG, negG, isNG, ixG, itemsD, itemsL, lenG, listG, tupleG, sumG, allG, int1G, int2G, intG, isiG, tyD, appendK, popK, clearK, insertK, reverseK, extendK, countG, atI, ixN, eqG, intsOf, blsOf, wipeE, restE, tkeyD, keysD, keyD, kit_ii, kit_ib, kit_bi, kit_bb, kit_ll, kit_tt, kit_lt, kit_tl, kit_ti, kit_li, kit_ni, kit_si, kit_nt, kit_it, kit_st, kit_bt, getS, lendF, Fl.sh, dPut, dGet, isDct, a_dnewK, a_setdE, a_lrE, noX, okP, itemsOf, keysOf, kD, minG, sortG, keysI, a_raiseS, a_callZ, a_callPZ, a_dixE, a_dinN, a_parS, a_isxE, treeOK, imm, immL, immK, shImm, unlL, unl1, a_ownE, a_lockG, a_compM, a_comp2M, navD, updD, updK, stepIx, Fl.tr, accept, Md.fl, a_mutPS, a_pthV, a_pthI, a_pairA, a_nilT, a_consT, a_lstT, a_tupT, e1, e2]
  have s2 : lOne [some ⟨.p, sd⟩, some ⟨.o, .lst [.int a, .int b, .int 0]⟩, none, none, none, none, none, none] = .nx [some ⟨.p, sd⟩, some ⟨.o, .lst [.int a', .int b, .int c']⟩, some ⟨.p, .int r⟩, none, none, none, none, none] := by simp [a_bindR, a_bindS, a_opd, a_constE, a_varE, a_keepE, a_op1, a_op2, a_nilA, a_consA, a_callB, a_tupE, a_lstE, a_testV, a_andT, a_orT, a_notT, a_andV, a_orV, a_notV, a_ifE, a_seqS, a_ifS, a_setS, a_dropS, a_retS, a_retVarS, a_asgS, a_callE, a_callF, a_appK, a_forS, a_compE, a_seqI, a_rng1, a_rng2, a_methL, a_mutL, a_setIxS, a_noPt, a_somePt, a_sliceE, a_chainE, a_nameG, a_nilG, a_consG, a_tupG, a_dnewE, a_dputS, a_dgetE, a_callP, a_zipI, a_enumI, revG, itemsT, inG, maxG, zipD, enumD, defG, runDef, env0, En.sv, getL, Opd.get, pureO, pureL, callD, argL, argO, lentS, wbE, wb1, wbAt, endF, backD, pB, pI, nL, numG, cmpG, subG, addG, mulG, negG, isNG, ixG, itemsD, itemsL, lenG, listG, tupleG, sumG, allG, int1G, int2G, intG, isiG, tyD, appendK, popK, clearK, insertK, reverseK, extendK, countG, atI, ixN, eqG, intsOf, blsOf, wipeE, restE, tkeyD, keysD, keyD, kit_ii, kit_ib, kit_bi, kit_bb, kit_ll, kit_tt, kit_lt, kit_tl, kit_ti, kit_li, kit_ni, kit_si, kit_nt, kit_it, kit_st, kit_bt, getS, lendF, Fl.sh, dPut, dGet, isDct, a_dnewK, a_setdE, a_lrE, noX, okP, itemsOf, keysOf, kD, minG, sortG, keysI, a_raiseS, a_callZ, a_callPZ, a_dixE, a_dinN, a_parS, a_isxE, treeOK, imm, immL, immK, shImm, unlL, unl1, a_ownE, a_lockG, a_compM, a_comp2M, navD, updD, updK, stepIx, Fl.tr, accept, Md.fl, a_mutPS, a_pthV, a_pthI, a_pairA, a_nilT, a_consT, a_lstT, a_tupT, lOne, e3]
  have s3 := lIn_ok (sd := sd) (r := r) e4 e5
  obtain ⟨e, tl⟩ := tail_ok (sd := sd) (w := .lst [.int a2, .int b, .int c2]) hXY hN hN2 pw li so hall
  rw [seqS_nx s1, seqS_nx s2, seqS_nx s3, tl]
  rfl
theorem law_end {K : PySem.W.Frag} {H : Hp} {a : Addr} {ns : List Int} (hl : ns.length ≤ 63) (hO : Only H) (hS : SqL K H a (ns.map V.int)) : spD0 K G_law [.ref a] H (fun v _ => v = .bl true) E0 := by
  refine ⟨[⟨.p, .frl (ns.map D.int)⟩], [], [], ⟨rfl, ⟨fun _ => [], fun i sv e => ?_, fun i j si sj ei ej hij b z => by cases z⟩, fun i sv e b => rfl, fun _ e => e, fun b z => by simp at z, fun b z => by simp at z, fun b z => by simp at z⟩, ?_⟩
  · match i, e with
    | 0, e =>
      cases e
      refine ⟨.ref a, rfl, .p (.frl ?_ (RpL.ints ns))⟩
      rcases hS with h | h
      · exact .inl ⟨by simp, h⟩
      · exact .inr h
    | i + 1, e => simp [En.sv] at e
  · rw [law_ok ns hl]
    intro v H' W' r s rv
    exact rV_bl r rv rfl
end My

namespace My
open PySem L2 DL
def T_of {K : PySem.W.Frag} {h : Heap} {mg : Str → Option Value} (X : K.In h) (G : h.Ns mainGlobals mg)
    {f_is_from : Addr} {od_is_from an_is_from : Option Addr} {sl_is_from : Array (Option Value)} {oc_is_from kV_is_from dc_is_from pm_is_from cd_is_from ct_is_from : Value}
    {f_sure_rounds : Addr} {od_sure_rounds an_sure_rounds : Option Addr} {sl_sure_rounds : Array (Option Value)} {oc_sure_rounds kV_sure_rounds dc_sure_rounds pm_sure_rounds cd_sure_rounds ct_sure_rounds : Value}
    {f_is_weaving : Addr} {od_is_weaving an_is_weaving : Option Addr} {sl_is_weaving : Array (Option Value)} {oc_is_weaving kV_is_weaving dc_is_weaving pm_is_weaving cd_is_weaving ct_is_weaving : Value}
    {f_sure_weaving : Addr} {od_sure_weaving an_sure_weaving : Option Addr} {sl_sure_weaving : Array (Option Value)} {oc_sure_weaving kV_sure_weaving dc_sure_weaving pm_sure_weaving cd_sure_weaving ct_sure_weaving : Value}
    {f_known_behind : Addr} {od_known_behind an_known_behind : Option Addr} {sl_known_behind : Array (Option Value)} {oc_known_behind kV_known_behind dc_known_behind pm_known_behind cd_known_behind ct_known_behind : Value}
    {f_known : Addr} {od_known an_known : Option Addr} {sl_known : Array (Option Value)} {oc_known kV_known dc_known pm_known cd_known ct_known : Value}
    {f_weavings : Addr} {od_weavings an_weavings : Option Addr} {sl_weavings : Array (Option Value)} {oc_weavings kV_weavings dc_weavings pm_weavings cd_weavings ct_weavings : Value}
    {f_sure_hand : Addr} {od_sure_hand an_sure_hand : Option Addr} {sl_sure_hand : Array (Option Value)} {oc_sure_hand kV_sure_hand dc_sure_hand pm_sure_hand cd_sure_hand ct_sure_hand : Value}
    {f_spot_of : Addr} {od_spot_of an_spot_of : Option Addr} {sl_spot_of : Array (Option Value)} {oc_spot_of kV_spot_of dc_spot_of pm_spot_of cd_spot_of ct_spot_of : Value}
    {f_fit : Addr} {od_fit an_fit : Option Addr} {sl_fit : Array (Option Value)} {oc_fit kV_fit dc_fit pm_fit cd_fit ct_fit : Value}
    {f_both_of : Addr} {od_both_of an_both_of : Option Addr} {sl_both_of : Array (Option Value)} {oc_both_of kV_both_of dc_both_of pm_both_of cd_both_of ct_both_of : Value}
    {f_place : Addr} {od_place an_place : Option Addr} {sl_place : Array (Option Value)} {oc_place kV_place dc_place pm_place cd_place ct_place : Value}
    {f__law_cell_at : Addr} {od__law_cell_at an__law_cell_at : Option Addr} {sl__law_cell_at : Array (Option Value)} {oc__law_cell_at kV__law_cell_at dc__law_cell_at pm__law_cell_at cd__law_cell_at ct__law_cell_at : Value}
    {f__law_well : Addr} {od__law_well an__law_well : Option Addr} {sl__law_well : Array (Option Value)} {oc__law_well kV__law_well dc__law_well pm__law_well cd__law_well ct__law_well : Value}
    {f__law_draw : Addr} {od__law_draw an__law_draw : Option Addr} {sl__law_draw : Array (Option Value)} {oc__law_draw kV__law_draw dc__law_draw pm__law_draw cd__law_draw ct__law_draw : Value}
    {f__law_one : Addr} {od__law_one an__law_one : Option Addr} {sl__law_one : Array (Option Value)} {oc__law_one kV__law_one dc__law_one pm__law_one cd__law_one ct__law_one : Value}
    {f__law_power : Addr} {od__law_power an__law_power : Option Addr} {sl__law_power : Array (Option Value)} {oc__law_power kV__law_power dc__law_power pm__law_power cd__law_power ct__law_power : Value}
    {f__law_plain : Addr} {od__law_plain an__law_plain : Option Addr} {sl__law_plain : Array (Option Value)} {oc__law_plain kV__law_plain dc__law_plain pm__law_plain cd__law_plain ct__law_plain : Value}
    {f__law_met : Addr} {od__law_met an__law_met : Option Addr} {sl__law_met : Array (Option Value)} {oc__law_met kV__law_met dc__law_met pm__law_met cd__law_met ct__law_met : Value}
    {f__law_lines : Addr} {od__law_lines an__law_lines : Option Addr} {sl__law_lines : Array (Option Value)} {oc__law_lines kV__law_lines dc__law_lines pm__law_lines cd__law_lines ct__law_lines : Value}
    {f_law : Addr} {od_law an_law : Option Addr} {sl_law : Array (Option Value)} {oc_law kV_law dc_law pm_law cd_law ct_law : Value}
    {p_HANDS : Addr} {od_HANDS : Option Addr} {sl_HANDS : Array (Option Value)} {n_HANDS : Nat} {t_HANDS_0 t_HANDS_1 : Tok}
    {t_MOST_ROUNDS : Tok}
    {t_MOST_WOVEN : Tok}
    (A_is_from : PySem.W.nsIn K mainGlobals "is_from" = some (some (.ref f_is_from))) (L_is_from : K.lookup f_is_from = some ⟨oc_is_from, od_is_from, .func (PySem.W.fnOf "is_from" "is_from" (defArgs s_is_from) (defBody s_is_from) (defScope s_is_from) .none kV_is_from dc_is_from pm_is_from an_is_from cd_is_from ct_is_from), sl_is_from⟩) (C_is_from : PySem.W.codeIn K cd_is_from "is_from" = true) (D_is_from : PySem.W.keepIn K (.ref f_is_from) = true)
    (A_sure_rounds : PySem.W.nsIn K mainGlobals "sure_rounds" = some (some (.ref f_sure_rounds))) (L_sure_rounds : K.lookup f_sure_rounds = some ⟨oc_sure_rounds, od_sure_rounds, .func (PySem.W.fnOf "sure_rounds" "sure_rounds" (defArgs s_sure_rounds) (defBody s_sure_rounds) (defScope s_sure_rounds) .none kV_sure_rounds dc_sure_rounds pm_sure_rounds an_sure_rounds cd_sure_rounds ct_sure_rounds), sl_sure_rounds⟩) (C_sure_rounds : PySem.W.codeIn K cd_sure_rounds "sure_rounds" = true) (D_sure_rounds : PySem.W.keepIn K (.ref f_sure_rounds) = true)
    (A_is_weaving : PySem.W.nsIn K mainGlobals "is_weaving" = some (some (.ref f_is_weaving))) (L_is_weaving : K.lookup f_is_weaving = some ⟨oc_is_weaving, od_is_weaving, .func (PySem.W.fnOf "is_weaving" "is_weaving" (defArgs s_is_weaving) (defBody s_is_weaving) (defScope s_is_weaving) .none kV_is_weaving dc_is_weaving pm_is_weaving an_is_weaving cd_is_weaving ct_is_weaving), sl_is_weaving⟩) (C_is_weaving : PySem.W.codeIn K cd_is_weaving "is_weaving" = true) (D_is_weaving : PySem.W.keepIn K (.ref f_is_weaving) = true)
    (A_sure_weaving : PySem.W.nsIn K mainGlobals "sure_weaving" = some (some (.ref f_sure_weaving))) (L_sure_weaving : K.lookup f_sure_weaving = some ⟨oc_sure_weaving, od_sure_weaving, .func (PySem.W.fnOf "sure_weaving" "sure_weaving" (defArgs s_sure_weaving) (defBody s_sure_weaving) (defScope s_sure_weaving) .none kV_sure_weaving dc_sure_weaving pm_sure_weaving an_sure_weaving cd_sure_weaving ct_sure_weaving), sl_sure_weaving⟩) (C_sure_weaving : PySem.W.codeIn K cd_sure_weaving "sure_weaving" = true) (D_sure_weaving : PySem.W.keepIn K (.ref f_sure_weaving) = true)
    (A_known_behind : PySem.W.nsIn K mainGlobals "known_behind" = some (some (.ref f_known_behind))) (L_known_behind : K.lookup f_known_behind = some ⟨oc_known_behind, od_known_behind, .func (PySem.W.fnOf "known_behind" "known_behind" (defArgs s_known_behind) (defBody s_known_behind) (defScope s_known_behind) .none kV_known_behind dc_known_behind pm_known_behind an_known_behind cd_known_behind ct_known_behind), sl_known_behind⟩) (C_known_behind : PySem.W.codeIn K cd_known_behind "known_behind" = true) (D_known_behind : PySem.W.keepIn K (.ref f_known_behind) = true)
    (A_known : PySem.W.nsIn K mainGlobals "known" = some (some (.ref f_known))) (L_known : K.lookup f_known = some ⟨oc_known, od_known, .func (PySem.W.fnOf "known" "known" (defArgs s_known) (defBody s_known) (defScope s_known) .none kV_known dc_known pm_known an_known cd_known ct_known), sl_known⟩) (C_known : PySem.W.codeIn K cd_known "known" = true) (D_known : PySem.W.keepIn K (.ref f_known) = true)
    (A_weavings : PySem.W.nsIn K mainGlobals "weavings" = some (some (.ref f_weavings))) (L_weavings : K.lookup f_weavings = some ⟨oc_weavings, od_weavings, .func (PySem.W.fnOf "weavings" "weavings" (defArgs s_weavings) (defBody s_weavings) (defScope s_weavings) .none kV_weavings dc_weavings pm_weavings an_weavings cd_weavings ct_weavings), sl_weavings⟩) (C_weavings : PySem.W.codeIn K cd_weavings "weavings" = true) (D_weavings : PySem.W.keepIn K (.ref f_weavings) = true)
    (A_sure_hand : PySem.W.nsIn K mainGlobals "sure_hand" = some (some (.ref f_sure_hand))) (L_sure_hand : K.lookup f_sure_hand = some ⟨oc_sure_hand, od_sure_hand, .func (PySem.W.fnOf "sure_hand" "sure_hand" (defArgs s_sure_hand) (defBody s_sure_hand) (defScope s_sure_hand) .none kV_sure_hand dc_sure_hand pm_sure_hand an_sure_hand cd_sure_hand ct_sure_hand), sl_sure_hand⟩) (C_sure_hand : PySem.W.codeIn K cd_sure_hand "sure_hand" = true) (D_sure_hand : PySem.W.keepIn K (.ref f_sure_hand) = true)
    (A_spot_of : PySem.W.nsIn K mainGlobals "spot_of" = some (some (.ref f_spot_of))) (L_spot_of : K.lookup f_spot_of = some ⟨oc_spot_of, od_spot_of, .func (PySem.W.fnOf "spot_of" "spot_of" (defArgs s_spot_of) (defBody s_spot_of) (defScope s_spot_of) .none kV_spot_of dc_spot_of pm_spot_of an_spot_of cd_spot_of ct_spot_of), sl_spot_of⟩) (C_spot_of : PySem.W.codeIn K cd_spot_of "spot_of" = true) (D_spot_of : PySem.W.keepIn K (.ref f_spot_of) = true)
    (A_fit : PySem.W.nsIn K mainGlobals "fit" = some (some (.ref f_fit))) (L_fit : K.lookup f_fit = some ⟨oc_fit, od_fit, .func (PySem.W.fnOf "fit" "fit" (defArgs s_fit) (defBody s_fit) (defScope s_fit) .none kV_fit dc_fit pm_fit an_fit cd_fit ct_fit), sl_fit⟩) (C_fit : PySem.W.codeIn K cd_fit "fit" = true) (D_fit : PySem.W.keepIn K (.ref f_fit) = true)
    (A_both_of : PySem.W.nsIn K mainGlobals "both_of" = some (some (.ref f_both_of))) (L_both_of : K.lookup f_both_of = some ⟨oc_both_of, od_both_of, .func (PySem.W.fnOf "both_of" "both_of" (defArgs s_both_of) (defBody s_both_of) (defScope s_both_of) .none kV_both_of dc_both_of pm_both_of an_both_of cd_both_of ct_both_of), sl_both_of⟩) (C_both_of : PySem.W.codeIn K cd_both_of "both_of" = true) (D_both_of : PySem.W.keepIn K (.ref f_both_of) = true)
    (A_place : PySem.W.nsIn K mainGlobals "place" = some (some (.ref f_place))) (L_place : K.lookup f_place = some ⟨oc_place, od_place, .func (PySem.W.fnOf "place" "place" (defArgs s_place) (defBody s_place) (defScope s_place) .none kV_place dc_place pm_place an_place cd_place ct_place), sl_place⟩) (C_place : PySem.W.codeIn K cd_place "place" = true) (D_place : PySem.W.keepIn K (.ref f_place) = true)
    (A__law_cell_at : PySem.W.nsIn K mainGlobals "_law_cell_at" = some (some (.ref f__law_cell_at))) (L__law_cell_at : K.lookup f__law_cell_at = some ⟨oc__law_cell_at, od__law_cell_at, .func (PySem.W.fnOf "_law_cell_at" "_law_cell_at" (defArgs s__law_cell_at) (defBody s__law_cell_at) (defScope s__law_cell_at) .none kV__law_cell_at dc__law_cell_at pm__law_cell_at an__law_cell_at cd__law_cell_at ct__law_cell_at), sl__law_cell_at⟩) (C__law_cell_at : PySem.W.codeIn K cd__law_cell_at "_law_cell_at" = true) (D__law_cell_at : PySem.W.keepIn K (.ref f__law_cell_at) = true)
    (A__law_well : PySem.W.nsIn K mainGlobals "_law_well" = some (some (.ref f__law_well))) (L__law_well : K.lookup f__law_well = some ⟨oc__law_well, od__law_well, .func (PySem.W.fnOf "_law_well" "_law_well" (defArgs s__law_well) (defBody s__law_well) (defScope s__law_well) .none kV__law_well dc__law_well pm__law_well an__law_well cd__law_well ct__law_well), sl__law_well⟩) (C__law_well : PySem.W.codeIn K cd__law_well "_law_well" = true) (D__law_well : PySem.W.keepIn K (.ref f__law_well) = true)
    (A__law_draw : PySem.W.nsIn K mainGlobals "_law_draw" = some (some (.ref f__law_draw))) (L__law_draw : K.lookup f__law_draw = some ⟨oc__law_draw, od__law_draw, .func (PySem.W.fnOf "_law_draw" "_law_draw" (defArgs s__law_draw) (defBody s__law_draw) (defScope s__law_draw) .none kV__law_draw dc__law_draw pm__law_draw an__law_draw cd__law_draw ct__law_draw), sl__law_draw⟩) (C__law_draw : PySem.W.codeIn K cd__law_draw "_law_draw" = true) (D__law_draw : PySem.W.keepIn K (.ref f__law_draw) = true)
    (A__law_one : PySem.W.nsIn K mainGlobals "_law_one" = some (some (.ref f__law_one))) (L__law_one : K.lookup f__law_one = some ⟨oc__law_one, od__law_one, .func (PySem.W.fnOf "_law_one" "_law_one" (defArgs s__law_one) (defBody s__law_one) (defScope s__law_one) .none kV__law_one dc__law_one pm__law_one an__law_one cd__law_one ct__law_one), sl__law_one⟩) (C__law_one : PySem.W.codeIn K cd__law_one "_law_one" = true) (D__law_one : PySem.W.keepIn K (.ref f__law_one) = true)
    (A__law_power : PySem.W.nsIn K mainGlobals "_law_power" = some (some (.ref f__law_power))) (L__law_power : K.lookup f__law_power = some ⟨oc__law_power, od__law_power, .func (PySem.W.fnOf "_law_power" "_law_power" (defArgs s__law_power) (defBody s__law_power) (defScope s__law_power) .none kV__law_power dc__law_power pm__law_power an__law_power cd__law_power ct__law_power), sl__law_power⟩) (C__law_power : PySem.W.codeIn K cd__law_power "_law_power" = true) (D__law_power : PySem.W.keepIn K (.ref f__law_power) = true)
    (A__law_plain : PySem.W.nsIn K mainGlobals "_law_plain" = some (some (.ref f__law_plain))) (L__law_plain : K.lookup f__law_plain = some ⟨oc__law_plain, od__law_plain, .func (PySem.W.fnOf "_law_plain" "_law_plain" (defArgs s__law_plain) (defBody s__law_plain) (defScope s__law_plain) .none kV__law_plain dc__law_plain pm__law_plain an__law_plain cd__law_plain ct__law_plain), sl__law_plain⟩) (C__law_plain : PySem.W.codeIn K cd__law_plain "_law_plain" = true) (D__law_plain : PySem.W.keepIn K (.ref f__law_plain) = true)
    (A__law_met : PySem.W.nsIn K mainGlobals "_law_met" = some (some (.ref f__law_met))) (L__law_met : K.lookup f__law_met = some ⟨oc__law_met, od__law_met, .func (PySem.W.fnOf "_law_met" "_law_met" (defArgs s__law_met) (defBody s__law_met) (defScope s__law_met) .none kV__law_met dc__law_met pm__law_met an__law_met cd__law_met ct__law_met), sl__law_met⟩) (C__law_met : PySem.W.codeIn K cd__law_met "_law_met" = true) (D__law_met : PySem.W.keepIn K (.ref f__law_met) = true)
    (A__law_lines : PySem.W.nsIn K mainGlobals "_law_lines" = some (some (.ref f__law_lines))) (L__law_lines : K.lookup f__law_lines = some ⟨oc__law_lines, od__law_lines, .func (PySem.W.fnOf "_law_lines" "_law_lines" (defArgs s__law_lines) (defBody s__law_lines) (defScope s__law_lines) .none kV__law_lines dc__law_lines pm__law_lines an__law_lines cd__law_lines ct__law_lines), sl__law_lines⟩) (C__law_lines : PySem.W.codeIn K cd__law_lines "_law_lines" = true) (D__law_lines : PySem.W.keepIn K (.ref f__law_lines) = true)
    (A_law : PySem.W.nsIn K mainGlobals "law" = some (some (.ref f_law))) (L_law : K.lookup f_law = some ⟨oc_law, od_law, .func (PySem.W.fnOf "law" "law" (defArgs s_law) (defBody s_law) (defScope s_law) .none kV_law dc_law pm_law an_law cd_law ct_law), sl_law⟩) (C_law : PySem.W.codeIn K cd_law "law" = true) (D_law : PySem.W.keepIn K (.ref f_law) = true)
    (Z_abs : PySem.W.nsIn K mainGlobals "abs" = some none)
    (Z_all : PySem.W.nsIn K mainGlobals "all" = some none)
    (Z_bool : PySem.W.nsIn K mainGlobals "bool" = some none)
    (Z_int : PySem.W.nsIn K mainGlobals "int" = some none)
    (Z_isinstance : PySem.W.nsIn K mainGlobals "isinstance" = some none)
    (Z_len : PySem.W.nsIn K mainGlobals "len" = some none)
    (Z_list : PySem.W.nsIn K mainGlobals "list" = some none)
    (Z_min : PySem.W.nsIn K mainGlobals "min" = some none)
    (Z_range : PySem.W.nsIn K mainGlobals "range" = some none)
    (Z_sorted : PySem.W.nsIn K mainGlobals "sorted" = some none)
    (Z_tuple : PySem.W.nsIn K mainGlobals "tuple" = some none)
    (Z_zip : PySem.W.nsIn K mainGlobals "zip" = some none)
    (Z_HANDS : PySem.W.nsIn K mainGlobals "HANDS" = some (some (.ref p_HANDS))) (Y_HANDS : K.lookup p_HANDS = some ⟨.type "tuple", od_HANDS, .seq #[Value.int 0 t_HANDS_0, Value.int 1 t_HANDS_1] n_HANDS, sl_HANDS⟩)
    (Z_MOST_ROUNDS : PySem.W.nsIn K mainGlobals "MOST_ROUNDS" = some (some (Value.int 5 t_MOST_ROUNDS)))
    (Z_MOST_WOVEN : PySem.W.nsIn K mainGlobals "MOST_WOVEN" = some (some (Value.int 3 t_MOST_WOVEN))) : Txt K mg where
  a_is_from := f_is_from
  fd_is_from := PySem.W.fnOf "is_from" "is_from" (defArgs s_is_from) (defBody s_is_from) (defScope s_is_from) .none kV_is_from dc_is_from pm_is_from an_is_from cd_is_from ct_is_from
  F_is_from := fun_mk L_is_from C_is_from D_is_from
  g_is_from := PySem.W.mg_of X G A_is_from
  b_is_from := (fun_mk (st := s_is_from) L_is_from C_is_from D_is_from).binds fun _ _ _ _ _ _ us hl => match us, hl with | [_, _, _], _ => rfl
  a_sure_rounds := f_sure_rounds
  fd_sure_rounds := PySem.W.fnOf "sure_rounds" "sure_rounds" (defArgs s_sure_rounds) (defBody s_sure_rounds) (defScope s_sure_rounds) .none kV_sure_rounds dc_sure_rounds pm_sure_rounds an_sure_rounds cd_sure_rounds ct_sure_rounds
  F_sure_rounds := fun_mk L_sure_rounds C_sure_rounds D_sure_rounds
  g_sure_rounds := PySem.W.mg_of X G A_sure_rounds
  b_sure_rounds := (fun_mk (st := s_sure_rounds) L_sure_rounds C_sure_rounds D_sure_rounds).binds fun _ _ _ _ _ _ us hl => match us, hl with | [_, _], _ => rfl
  a_is_weaving := f_is_weaving
  fd_is_weaving := PySem.W.fnOf "is_weaving" "is_weaving" (defArgs s_is_weaving) (defBody s_is_weaving) (defScope s_is_weaving) .none kV_is_weaving dc_is_weaving pm_is_weaving an_is_weaving cd_is_weaving ct_is_weaving
  F_is_weaving := fun_mk L_is_weaving C_is_weaving D_is_weaving
  g_is_weaving := PySem.W.mg_of X G A_is_weaving
  b_is_weaving := (fun_mk (st := s_is_weaving) L_is_weaving C_is_weaving D_is_weaving).binds fun _ _ _ _ _ _ us hl => match us, hl with | [_, _], _ => rfl
  a_sure_weaving := f_sure_weaving
  fd_sure_weaving := PySem.W.fnOf "sure_weaving" "sure_weaving" (defArgs s_sure_weaving) (defBody s_sure_weaving) (defScope s_sure_weaving) .none kV_sure_weaving dc_sure_weaving pm_sure_weaving an_sure_weaving cd_sure_weaving ct_sure_weaving
  F_sure_weaving := fun_mk L_sure_weaving C_sure_weaving D_sure_weaving
  g_sure_weaving := PySem.W.mg_of X G A_sure_weaving
  b_sure_weaving := (fun_mk (st := s_sure_weaving) L_sure_weaving C_sure_weaving D_sure_weaving).binds fun _ _ _ _ _ _ us hl => match us, hl with | [_, _], _ => rfl
  a_known_behind := f_known_behind
  fd_known_behind := PySem.W.fnOf "known_behind" "known_behind" (defArgs s_known_behind) (defBody s_known_behind) (defScope s_known_behind) .none kV_known_behind dc_known_behind pm_known_behind an_known_behind cd_known_behind ct_known_behind
  F_known_behind := fun_mk L_known_behind C_known_behind D_known_behind
  g_known_behind := PySem.W.mg_of X G A_known_behind
  b_known_behind := (fun_mk (st := s_known_behind) L_known_behind C_known_behind D_known_behind).binds fun _ _ _ _ _ _ us hl => match us, hl with | [_, _, _], _ => rfl
  a_known := f_known
  fd_known := PySem.W.fnOf "known" "known" (defArgs s_known) (defBody s_known) (defScope s_known) .none kV_known dc_known pm_known an_known cd_known ct_known
  F_known := fun_mk L_known C_known D_known
  g_known := PySem.W.mg_of X G A_known
  a_weavings := f_weavings
  fd_weavings := PySem.W.fnOf "weavings" "weavings" (defArgs s_weavings) (defBody s_weavings) (defScope s_weavings) .none kV_weavings dc_weavings pm_weavings an_weavings cd_weavings ct_weavings
  F_weavings := fun_mk L_weavings C_weavings D_weavings
  g_weavings := PySem.W.mg_of X G A_weavings
  b_weavings := (fun_mk (st := s_weavings) L_weavings C_weavings D_weavings).binds fun _ _ _ _ _ _ us hl => match us, hl with | [_], _ => rfl
  a_sure_hand := f_sure_hand
  fd_sure_hand := PySem.W.fnOf "sure_hand" "sure_hand" (defArgs s_sure_hand) (defBody s_sure_hand) (defScope s_sure_hand) .none kV_sure_hand dc_sure_hand pm_sure_hand an_sure_hand cd_sure_hand ct_sure_hand
  F_sure_hand := fun_mk L_sure_hand C_sure_hand D_sure_hand
  g_sure_hand := PySem.W.mg_of X G A_sure_hand
  b_sure_hand := (fun_mk (st := s_sure_hand) L_sure_hand C_sure_hand D_sure_hand).binds fun _ _ _ _ _ _ us hl => match us, hl with | [_], _ => rfl
  a_spot_of := f_spot_of
  fd_spot_of := PySem.W.fnOf "spot_of" "spot_of" (defArgs s_spot_of) (defBody s_spot_of) (defScope s_spot_of) .none kV_spot_of dc_spot_of pm_spot_of an_spot_of cd_spot_of ct_spot_of
  F_spot_of := fun_mk L_spot_of C_spot_of D_spot_of
  g_spot_of := PySem.W.mg_of X G A_spot_of
  b_spot_of := (fun_mk (st := s_spot_of) L_spot_of C_spot_of D_spot_of).binds fun _ _ _ _ _ _ us hl => match us, hl with | [_, _, _], _ => rfl
  a_fit := f_fit
  fd_fit := PySem.W.fnOf "fit" "fit" (defArgs s_fit) (defBody s_fit) (defScope s_fit) .none kV_fit dc_fit pm_fit an_fit cd_fit ct_fit
  F_fit := fun_mk L_fit C_fit D_fit
  g_fit := PySem.W.mg_of X G A_fit
  b_fit := (fun_mk (st := s_fit) L_fit C_fit D_fit).binds fun _ _ _ _ _ _ us hl => match us, hl with | [_, _], _ => rfl
  a_both_of := f_both_of
  fd_both_of := PySem.W.fnOf "both_of" "both_of" (defArgs s_both_of) (defBody s_both_of) (defScope s_both_of) .none kV_both_of dc_both_of pm_both_of an_both_of cd_both_of ct_both_of
  F_both_of := fun_mk L_both_of C_both_of D_both_of
  g_both_of := PySem.W.mg_of X G A_both_of
  b_both_of := (fun_mk (st := s_both_of) L_both_of C_both_of D_both_of).binds fun _ _ _ _ _ _ us hl => match us, hl with | [_, _], _ => rfl
  a_place := f_place
  fd_place := PySem.W.fnOf "place" "place" (defArgs s_place) (defBody s_place) (defScope s_place) .none kV_place dc_place pm_place an_place cd_place ct_place
  F_place := fun_mk L_place C_place D_place
  g_place := PySem.W.mg_of X G A_place
  b_place := (fun_mk (st := s_place) L_place C_place D_place).binds fun _ _ _ _ _ _ us hl => match us, hl with | [_, _], _ => rfl
  a__law_cell_at := f__law_cell_at
  fd__law_cell_at := PySem.W.fnOf "_law_cell_at" "_law_cell_at" (defArgs s__law_cell_at) (defBody s__law_cell_at) (defScope s__law_cell_at) .none kV__law_cell_at dc__law_cell_at pm__law_cell_at an__law_cell_at cd__law_cell_at ct__law_cell_at
  F__law_cell_at := fun_mk L__law_cell_at C__law_cell_at D__law_cell_at
  g__law_cell_at := PySem.W.mg_of X G A__law_cell_at
  b__law_cell_at := (fun_mk (st := s__law_cell_at) L__law_cell_at C__law_cell_at D__law_cell_at).binds fun _ _ _ _ _ _ us hl => match us, hl with | [_, _], _ => rfl
  a__law_well := f__law_well
  fd__law_well := PySem.W.fnOf "_law_well" "_law_well" (defArgs s__law_well) (defBody s__law_well) (defScope s__law_well) .none kV__law_well dc__law_well pm__law_well an__law_well cd__law_well ct__law_well
  F__law_well := fun_mk L__law_well C__law_well D__law_well
  g__law_well := PySem.W.mg_of X G A__law_well
  b__law_well := (fun_mk (st := s__law_well) L__law_well C__law_well D__law_well).binds fun _ _ _ _ _ _ us hl => match us, hl with | [_], _ => rfl
  a__law_draw := f__law_draw
  fd__law_draw := PySem.W.fnOf "_law_draw" "_law_draw" (defArgs s__law_draw) (defBody s__law_draw) (defScope s__law_draw) .none kV__law_draw dc__law_draw pm__law_draw an__law_draw cd__law_draw ct__law_draw
  F__law_draw := fun_mk L__law_draw C__law_draw D__law_draw
  g__law_draw := PySem.W.mg_of X G A__law_draw
  b__law_draw := (fun_mk (st := s__law_draw) L__law_draw C__law_draw D__law_draw).binds fun _ _ _ _ _ _ us hl => match us, hl with | [_, _], _ => rfl
  a__law_one := f__law_one
  fd__law_one := PySem.W.fnOf "_law_one" "_law_one" (defArgs s__law_one) (defBody s__law_one) (defScope s__law_one) .none kV__law_one dc__law_one pm__law_one an__law_one cd__law_one ct__law_one
  F__law_one := fun_mk L__law_one C__law_one D__law_one
  g__law_one := PySem.W.mg_of X G A__law_one
  b__law_one := (fun_mk (st := s__law_one) L__law_one C__law_one D__law_one).binds fun _ _ _ _ _ _ us hl => match us, hl with | [_, _], _ => rfl
  a__law_power := f__law_power
  fd__law_power := PySem.W.fnOf "_law_power" "_law_power" (defArgs s__law_power) (defBody s__law_power) (defScope s__law_power) .none kV__law_power dc__law_power pm__law_power an__law_power cd__law_power ct__law_power
  F__law_power := fun_mk L__law_power C__law_power D__law_power
  g__law_power := PySem.W.mg_of X G A__law_power
  b__law_power := (fun_mk (st := s__law_power) L__law_power C__law_power D__law_power).binds fun _ _ _ _ _ _ us hl => match us, hl with | [_], _ => rfl
  a__law_plain := f__law_plain
  fd__law_plain := PySem.W.fnOf "_law_plain" "_law_plain" (defArgs s__law_plain) (defBody s__law_plain) (defScope s__law_plain) .none kV__law_plain dc__law_plain pm__law_plain an__law_plain cd__law_plain ct__law_plain
  F__law_plain := fun_mk L__law_plain C__law_plain D__law_plain
  g__law_plain := PySem.W.mg_of X G A__law_plain
  b__law_plain := (fun_mk (st := s__law_plain) L__law_plain C__law_plain D__law_plain).binds fun _ _ _ _ _ _ us hl => match us, hl with | [_], _ => rfl
  a__law_met := f__law_met
  fd__law_met := PySem.W.fnOf "_law_met" "_law_met" (defArgs s__law_met) (defBody s__law_met) (defScope s__law_met) .none kV__law_met dc__law_met pm__law_met an__law_met cd__law_met ct__law_met
  F__law_met := fun_mk L__law_met C__law_met D__law_met
  g__law_met := PySem.W.mg_of X G A__law_met
  b__law_met := (fun_mk (st := s__law_met) L__law_met C__law_met D__law_met).binds fun _ _ _ _ _ _ us hl => match us, hl with | [_, _], _ => rfl
  a__law_lines := f__law_lines
  fd__law_lines := PySem.W.fnOf "_law_lines" "_law_lines" (defArgs s__law_lines) (defBody s__law_lines) (defScope s__law_lines) .none kV__law_lines dc__law_lines pm__law_lines an__law_lines cd__law_lines ct__law_lines
  F__law_lines := fun_mk L__law_lines C__law_lines D__law_lines
  g__law_lines := PySem.W.mg_of X G A__law_lines
  b__law_lines := (fun_mk (st := s__law_lines) L__law_lines C__law_lines D__law_lines).binds fun _ _ _ _ _ _ us hl => match us, hl with | [_, _], _ => rfl
  a_law := f_law
  fd_law := PySem.W.fnOf "law" "law" (defArgs s_law) (defBody s_law) (defScope s_law) .none kV_law dc_law pm_law an_law cd_law ct_law
  F_law := fun_mk L_law C_law D_law
  g_law := PySem.W.mg_of X G A_law
  b_law := (fun_mk (st := s_law) L_law C_law D_law).binds fun _ _ _ _ _ _ us hl => match us, hl with | [_], _ => rfl
  k_known := kbinds_app (by decide) fun us ws h1 h2 => match us, ws, h1, h2 with | [_, _], [_], _, _ => rfl
  m_abs := PySem.W.mg_none_of X G Z_abs
  m_all := PySem.W.mg_none_of X G Z_all
  m_bool := PySem.W.mg_none_of X G Z_bool
  m_int := PySem.W.mg_none_of X G Z_int
  m_isinstance := PySem.W.mg_none_of X G Z_isinstance
  m_len := PySem.W.mg_none_of X G Z_len
  m_list := PySem.W.mg_none_of X G Z_list
  m_min := PySem.W.mg_none_of X G Z_min
  m_range := PySem.W.mg_none_of X G Z_range
  m_sorted := PySem.W.mg_none_of X G Z_sorted
  m_tuple := PySem.W.mg_none_of X G Z_tuple
  m_zip := PySem.W.mg_none_of X G Z_zip
  a_HANDS := p_HANDS
  g_HANDS := PySem.W.mg_of X G Z_HANDS
  c_HANDS := fun _ _ => .frt (xs := [.int 0, .int 1]) ⟨_, _, _, Y_HANDS, rfl, rfl, (show 2 ≤ sizeLine by decide), .cons ⟨_, rfl⟩ (.cons ⟨_, rfl⟩ (.nil))⟩ (.cons (.int _) (.cons (.int _) (.nil)))
  t_HANDS := ⟨_, _, _, Y_HANDS, rfl, rfl, (show 2 ≤ sizeLine by decide), .cons ⟨_, rfl⟩ (.cons ⟨_, rfl⟩ (.nil))⟩
  g_MOST_ROUNDS := ⟨_, PySem.W.mg_of X G Z_MOST_ROUNDS⟩
  g_MOST_WOVEN := ⟨_, PySem.W.mg_of X G Z_MOST_WOVEN⟩
theorem all_mk {l : PySem.W.OpenLaw} {w : World} {K : PySem.W.Frag} {h : Heap} {mg : Str → Option Value} {fa : Addr} (X : K.In h) (G : h.Ns mainGlobals mg) (hfa : mg "law" = some (.ref fa))
    {f_is_from : Addr} {od_is_from an_is_from : Option Addr} {sl_is_from : Array (Option Value)} {oc_is_from kV_is_from dc_is_from pm_is_from cd_is_from ct_is_from : Value}
    {f_sure_rounds : Addr} {od_sure_rounds an_sure_rounds : Option Addr} {sl_sure_rounds : Array (Option Value)} {oc_sure_rounds kV_sure_rounds dc_sure_rounds pm_sure_rounds cd_sure_rounds ct_sure_rounds : Value}
    {f_is_weaving : Addr} {od_is_weaving an_is_weaving : Option Addr} {sl_is_weaving : Array (Option Value)} {oc_is_weaving kV_is_weaving dc_is_weaving pm_is_weaving cd_is_weaving ct_is_weaving : Value}
    {f_sure_weaving : Addr} {od_sure_weaving an_sure_weaving : Option Addr} {sl_sure_weaving : Array (Option Value)} {oc_sure_weaving kV_sure_weaving dc_sure_weaving pm_sure_weaving cd_sure_weaving ct_sure_weaving : Value}
    {f_known_behind : Addr} {od_known_behind an_known_behind : Option Addr} {sl_known_behind : Array (Option Value)} {oc_known_behind kV_known_behind dc_known_behind pm_known_behind cd_known_behind ct_known_behind : Value}
    {f_known : Addr} {od_known an_known : Option Addr} {sl_known : Array (Option Value)} {oc_known kV_known dc_known pm_known cd_known ct_known : Value}
    {f_weavings : Addr} {od_weavings an_weavings : Option Addr} {sl_weavings : Array (Option Value)} {oc_weavings kV_weavings dc_weavings pm_weavings cd_weavings ct_weavings : Value}
    {f_sure_hand : Addr} {od_sure_hand an_sure_hand : Option Addr} {sl_sure_hand : Array (Option Value)} {oc_sure_hand kV_sure_hand dc_sure_hand pm_sure_hand cd_sure_hand ct_sure_hand : Value}
    {f_spot_of : Addr} {od_spot_of an_spot_of : Option Addr} {sl_spot_of : Array (Option Value)} {oc_spot_of kV_spot_of dc_spot_of pm_spot_of cd_spot_of ct_spot_of : Value}
    {f_fit : Addr} {od_fit an_fit : Option Addr} {sl_fit : Array (Option Value)} {oc_fit kV_fit dc_fit pm_fit cd_fit ct_fit : Value}
    {f_both_of : Addr} {od_both_of an_both_of : Option Addr} {sl_both_of : Array (Option Value)} {oc_both_of kV_both_of dc_both_of pm_both_of cd_both_of ct_both_of : Value}
    {f_place : Addr} {od_place an_place : Option Addr} {sl_place : Array (Option Value)} {oc_place kV_place dc_place pm_place cd_place ct_place : Value}
    {f__law_cell_at : Addr} {od__law_cell_at an__law_cell_at : Option Addr} {sl__law_cell_at : Array (Option Value)} {oc__law_cell_at kV__law_cell_at dc__law_cell_at pm__law_cell_at cd__law_cell_at ct__law_cell_at : Value}
    {f__law_well : Addr} {od__law_well an__law_well : Option Addr} {sl__law_well : Array (Option Value)} {oc__law_well kV__law_well dc__law_well pm__law_well cd__law_well ct__law_well : Value}
    {f__law_draw : Addr} {od__law_draw an__law_draw : Option Addr} {sl__law_draw : Array (Option Value)} {oc__law_draw kV__law_draw dc__law_draw pm__law_draw cd__law_draw ct__law_draw : Value}
    {f__law_one : Addr} {od__law_one an__law_one : Option Addr} {sl__law_one : Array (Option Value)} {oc__law_one kV__law_one dc__law_one pm__law_one cd__law_one ct__law_one : Value}
    {f__law_power : Addr} {od__law_power an__law_power : Option Addr} {sl__law_power : Array (Option Value)} {oc__law_power kV__law_power dc__law_power pm__law_power cd__law_power ct__law_power : Value}
    {f__law_plain : Addr} {od__law_plain an__law_plain : Option Addr} {sl__law_plain : Array (Option Value)} {oc__law_plain kV__law_plain dc__law_plain pm__law_plain cd__law_plain ct__law_plain : Value}
    {f__law_met : Addr} {od__law_met an__law_met : Option Addr} {sl__law_met : Array (Option Value)} {oc__law_met kV__law_met dc__law_met pm__law_met cd__law_met ct__law_met : Value}
    {f__law_lines : Addr} {od__law_lines an__law_lines : Option Addr} {sl__law_lines : Array (Option Value)} {oc__law_lines kV__law_lines dc__law_lines pm__law_lines cd__law_lines ct__law_lines : Value}
    {f_law : Addr} {od_law an_law : Option Addr} {sl_law : Array (Option Value)} {oc_law kV_law dc_law pm_law cd_law ct_law : Value}
    {p_HANDS : Addr} {od_HANDS : Option Addr} {sl_HANDS : Array (Option Value)} {n_HANDS : Nat} {t_HANDS_0 t_HANDS_1 : Tok}
    {t_MOST_ROUNDS : Tok}
    {t_MOST_WOVEN : Tok}
    (A_is_from : PySem.W.nsIn K mainGlobals "is_from" = some (some (.ref f_is_from))) (L_is_from : K.lookup f_is_from = some ⟨oc_is_from, od_is_from, .func (PySem.W.fnOf "is_from" "is_from" (defArgs s_is_from) (defBody s_is_from) (defScope s_is_from) .none kV_is_from dc_is_from pm_is_from an_is_from cd_is_from ct_is_from), sl_is_from⟩) (C_is_from : PySem.W.codeIn K cd_is_from "is_from" = true) (D_is_from : PySem.W.keepIn K (.ref f_is_from) = true)
    (A_sure_rounds : PySem.W.nsIn K mainGlobals "sure_rounds" = some (some (.ref f_sure_rounds))) (L_sure_rounds : K.lookup f_sure_rounds = some ⟨oc_sure_rounds, od_sure_rounds, .func (PySem.W.fnOf "sure_rounds" "sure_rounds" (defArgs s_sure_rounds) (defBody s_sure_rounds) (defScope s_sure_rounds) .none kV_sure_rounds dc_sure_rounds pm_sure_rounds an_sure_rounds cd_sure_rounds ct_sure_rounds), sl_sure_rounds⟩) (C_sure_rounds : PySem.W.codeIn K cd_sure_rounds "sure_rounds" = true) (D_sure_rounds : PySem.W.keepIn K (.ref f_sure_rounds) = true)
    (A_is_weaving : PySem.W.nsIn K mainGlobals "is_weaving" = some (some (.ref f_is_weaving))) (L_is_weaving : K.lookup f_is_weaving = some ⟨oc_is_weaving, od_is_weaving, .func (PySem.W.fnOf "is_weaving" "is_weaving" (defArgs s_is_weaving) (defBody s_is_weaving) (defScope s_is_weaving) .none kV_is_weaving dc_is_weaving pm_is_weaving an_is_weaving cd_is_weaving ct_is_weaving), sl_is_weaving⟩) (C_is_weaving : PySem.W.codeIn K cd_is_weaving "is_weaving" = true) (D_is_weaving : PySem.W.keepIn K (.ref f_is_weaving) = true)
    (A_sure_weaving : PySem.W.nsIn K mainGlobals "sure_weaving" = some (some (.ref f_sure_weaving))) (L_sure_weaving : K.lookup f_sure_weaving = some ⟨oc_sure_weaving, od_sure_weaving, .func (PySem.W.fnOf "sure_weaving" "sure_weaving" (defArgs s_sure_weaving) (defBody s_sure_weaving) (defScope s_sure_weaving) .none kV_sure_weaving dc_sure_weaving pm_sure_weaving an_sure_weaving cd_sure_weaving ct_sure_weaving), sl_sure_weaving⟩) (C_sure_weaving : PySem.W.codeIn K cd_sure_weaving "sure_weaving" = true) (D_sure_weaving : PySem.W.keepIn K (.ref f_sure_weaving) = true)
    (A_known_behind : PySem.W.nsIn K mainGlobals "known_behind" = some (some (.ref f_known_behind))) (L_known_behind : K.lookup f_known_behind = some ⟨oc_known_behind, od_known_behind, .func (PySem.W.fnOf "known_behind" "known_behind" (defArgs s_known_behind) (defBody s_known_behind) (defScope s_known_behind) .none kV_known_behind dc_known_behind pm_known_behind an_known_behind cd_known_behind ct_known_behind), sl_known_behind⟩) (C_known_behind : PySem.W.codeIn K cd_known_behind "known_behind" = true) (D_known_behind : PySem.W.keepIn K (.ref f_known_behind) = true)
    (A_known : PySem.W.nsIn K mainGlobals "known" = some (some (.ref f_known))) (L_known : K.lookup f_known = some ⟨oc_known, od_known, .func (PySem.W.fnOf "known" "known" (defArgs s_known) (defBody s_known) (defScope s_known) .none kV_known dc_known pm_known an_known cd_known ct_known), sl_known⟩) (C_known : PySem.W.codeIn K cd_known "known" = true) (D_known : PySem.W.keepIn K (.ref f_known) = true)
    (A_weavings : PySem.W.nsIn K mainGlobals "weavings" = some (some (.ref f_weavings))) (L_weavings : K.lookup f_weavings = some ⟨oc_weavings, od_weavings, .func (PySem.W.fnOf "weavings" "weavings" (defArgs s_weavings) (defBody s_weavings) (defScope s_weavings) .none kV_weavings dc_weavings pm_weavings an_weavings cd_weavings ct_weavings), sl_weavings⟩) (C_weavings : PySem.W.codeIn K cd_weavings "weavings" = true) (D_weavings : PySem.W.keepIn K (.ref f_weavings) = true)
    (A_sure_hand : PySem.W.nsIn K mainGlobals "sure_hand" = some (some (.ref f_sure_hand))) (L_sure_hand : K.lookup f_sure_hand = some ⟨oc_sure_hand, od_sure_hand, .func (PySem.W.fnOf "sure_hand" "sure_hand" (defArgs s_sure_hand) (defBody s_sure_hand) (defScope s_sure_hand) .none kV_sure_hand dc_sure_hand pm_sure_hand an_sure_hand cd_sure_hand ct_sure_hand), sl_sure_hand⟩) (C_sure_hand : PySem.W.codeIn K cd_sure_hand "sure_hand" = true) (D_sure_hand : PySem.W.keepIn K (.ref f_sure_hand) = true)
    (A_spot_of : PySem.W.nsIn K mainGlobals "spot_of" = some (some (.ref f_spot_of))) (L_spot_of : K.lookup f_spot_of = some ⟨oc_spot_of, od_spot_of, .func (PySem.W.fnOf "spot_of" "spot_of" (defArgs s_spot_of) (defBody s_spot_of) (defScope s_spot_of) .none kV_spot_of dc_spot_of pm_spot_of an_spot_of cd_spot_of ct_spot_of), sl_spot_of⟩) (C_spot_of : PySem.W.codeIn K cd_spot_of "spot_of" = true) (D_spot_of : PySem.W.keepIn K (.ref f_spot_of) = true)
    (A_fit : PySem.W.nsIn K mainGlobals "fit" = some (some (.ref f_fit))) (L_fit : K.lookup f_fit = some ⟨oc_fit, od_fit, .func (PySem.W.fnOf "fit" "fit" (defArgs s_fit) (defBody s_fit) (defScope s_fit) .none kV_fit dc_fit pm_fit an_fit cd_fit ct_fit), sl_fit⟩) (C_fit : PySem.W.codeIn K cd_fit "fit" = true) (D_fit : PySem.W.keepIn K (.ref f_fit) = true)
    (A_both_of : PySem.W.nsIn K mainGlobals "both_of" = some (some (.ref f_both_of))) (L_both_of : K.lookup f_both_of = some ⟨oc_both_of, od_both_of, .func (PySem.W.fnOf "both_of" "both_of" (defArgs s_both_of) (defBody s_both_of) (defScope s_both_of) .none kV_both_of dc_both_of pm_both_of an_both_of cd_both_of ct_both_of), sl_both_of⟩) (C_both_of : PySem.W.codeIn K cd_both_of "both_of" = true) (D_both_of : PySem.W.keepIn K (.ref f_both_of) = true)
    (A_place : PySem.W.nsIn K mainGlobals "place" = some (some (.ref f_place))) (L_place : K.lookup f_place = some ⟨oc_place, od_place, .func (PySem.W.fnOf "place" "place" (defArgs s_place) (defBody s_place) (defScope s_place) .none kV_place dc_place pm_place an_place cd_place ct_place), sl_place⟩) (C_place : PySem.W.codeIn K cd_place "place" = true) (D_place : PySem.W.keepIn K (.ref f_place) = true)
    (A__law_cell_at : PySem.W.nsIn K mainGlobals "_law_cell_at" = some (some (.ref f__law_cell_at))) (L__law_cell_at : K.lookup f__law_cell_at = some ⟨oc__law_cell_at, od__law_cell_at, .func (PySem.W.fnOf "_law_cell_at" "_law_cell_at" (defArgs s__law_cell_at) (defBody s__law_cell_at) (defScope s__law_cell_at) .none kV__law_cell_at dc__law_cell_at pm__law_cell_at an__law_cell_at cd__law_cell_at ct__law_cell_at), sl__law_cell_at⟩) (C__law_cell_at : PySem.W.codeIn K cd__law_cell_at "_law_cell_at" = true) (D__law_cell_at : PySem.W.keepIn K (.ref f__law_cell_at) = true)
    (A__law_well : PySem.W.nsIn K mainGlobals "_law_well" = some (some (.ref f__law_well))) (L__law_well : K.lookup f__law_well = some ⟨oc__law_well, od__law_well, .func (PySem.W.fnOf "_law_well" "_law_well" (defArgs s__law_well) (defBody s__law_well) (defScope s__law_well) .none kV__law_well dc__law_well pm__law_well an__law_well cd__law_well ct__law_well), sl__law_well⟩) (C__law_well : PySem.W.codeIn K cd__law_well "_law_well" = true) (D__law_well : PySem.W.keepIn K (.ref f__law_well) = true)
    (A__law_draw : PySem.W.nsIn K mainGlobals "_law_draw" = some (some (.ref f__law_draw))) (L__law_draw : K.lookup f__law_draw = some ⟨oc__law_draw, od__law_draw, .func (PySem.W.fnOf "_law_draw" "_law_draw" (defArgs s__law_draw) (defBody s__law_draw) (defScope s__law_draw) .none kV__law_draw dc__law_draw pm__law_draw an__law_draw cd__law_draw ct__law_draw), sl__law_draw⟩) (C__law_draw : PySem.W.codeIn K cd__law_draw "_law_draw" = true) (D__law_draw : PySem.W.keepIn K (.ref f__law_draw) = true)
    (A__law_one : PySem.W.nsIn K mainGlobals "_law_one" = some (some (.ref f__law_one))) (L__law_one : K.lookup f__law_one = some ⟨oc__law_one, od__law_one, .func (PySem.W.fnOf "_law_one" "_law_one" (defArgs s__law_one) (defBody s__law_one) (defScope s__law_one) .none kV__law_one dc__law_one pm__law_one an__law_one cd__law_one ct__law_one), sl__law_one⟩) (C__law_one : PySem.W.codeIn K cd__law_one "_law_one" = true) (D__law_one : PySem.W.keepIn K (.ref f__law_one) = true)
    (A__law_power : PySem.W.nsIn K mainGlobals "_law_power" = some (some (.ref f__law_power))) (L__law_power : K.lookup f__law_power = some ⟨oc__law_power, od__law_power, .func (PySem.W.fnOf "_law_power" "_law_power" (defArgs s__law_power) (defBody s__law_power) (defScope s__law_power) .none kV__law_power dc__law_power pm__law_power an__law_power cd__law_power ct__law_power), sl__law_power⟩) (C__law_power : PySem.W.codeIn K cd__law_power "_law_power" = true) (D__law_power : PySem.W.keepIn K (.ref f__law_power) = true)
    (A__law_plain : PySem.W.nsIn K mainGlobals "_law_plain" = some (some (.ref f__law_plain))) (L__law_plain : K.lookup f__law_plain = some ⟨oc__law_plain, od__law_plain, .func (PySem.W.fnOf "_law_plain" "_law_plain" (defArgs s__law_plain) (defBody s__law_plain) (defScope s__law_plain) .none kV__law_plain dc__law_plain pm__law_plain an__law_plain cd__law_plain ct__law_plain), sl__law_plain⟩) (C__law_plain : PySem.W.codeIn K cd__law_plain "_law_plain" = true) (D__law_plain : PySem.W.keepIn K (.ref f__law_plain) = true)
    (A__law_met : PySem.W.nsIn K mainGlobals "_law_met" = some (some (.ref f__law_met))) (L__law_met : K.lookup f__law_met = some ⟨oc__law_met, od__law_met, .func (PySem.W.fnOf "_law_met" "_law_met" (defArgs s__law_met) (defBody s__law_met) (defScope s__law_met) .none kV__law_met dc__law_met pm__law_met an__law_met cd__law_met ct__law_met), sl__law_met⟩) (C__law_met : PySem.W.codeIn K cd__law_met "_law_met" = true) (D__law_met : PySem.W.keepIn K (.ref f__law_met) = true)
    (A__law_lines : PySem.W.nsIn K mainGlobals "_law_lines" = some (some (.ref f__law_lines))) (L__law_lines : K.lookup f__law_lines = some ⟨oc__law_lines, od__law_lines, .func (PySem.W.fnOf "_law_lines" "_law_lines" (defArgs s__law_lines) (defBody s__law_lines) (defScope s__law_lines) .none kV__law_lines dc__law_lines pm__law_lines an__law_lines cd__law_lines ct__law_lines), sl__law_lines⟩) (C__law_lines : PySem.W.codeIn K cd__law_lines "_law_lines" = true) (D__law_lines : PySem.W.keepIn K (.ref f__law_lines) = true)
    (A_law : PySem.W.nsIn K mainGlobals "law" = some (some (.ref f_law))) (L_law : K.lookup f_law = some ⟨oc_law, od_law, .func (PySem.W.fnOf "law" "law" (defArgs s_law) (defBody s_law) (defScope s_law) .none kV_law dc_law pm_law an_law cd_law ct_law), sl_law⟩) (C_law : PySem.W.codeIn K cd_law "law" = true) (D_law : PySem.W.keepIn K (.ref f_law) = true)
    (Z_abs : PySem.W.nsIn K mainGlobals "abs" = some none)
    (Z_all : PySem.W.nsIn K mainGlobals "all" = some none)
    (Z_bool : PySem.W.nsIn K mainGlobals "bool" = some none)
    (Z_int : PySem.W.nsIn K mainGlobals "int" = some none)
    (Z_isinstance : PySem.W.nsIn K mainGlobals "isinstance" = some none)
    (Z_len : PySem.W.nsIn K mainGlobals "len" = some none)
    (Z_list : PySem.W.nsIn K mainGlobals "list" = some none)
    (Z_min : PySem.W.nsIn K mainGlobals "min" = some none)
    (Z_range : PySem.W.nsIn K mainGlobals "range" = some none)
    (Z_sorted : PySem.W.nsIn K mainGlobals "sorted" = some none)
    (Z_tuple : PySem.W.nsIn K mainGlobals "tuple" = some none)
    (Z_zip : PySem.W.nsIn K mainGlobals "zip" = some none)
    (Z_HANDS : PySem.W.nsIn K mainGlobals "HANDS" = some (some (.ref p_HANDS))) (Y_HANDS : K.lookup p_HANDS = some ⟨.type "tuple", od_HANDS, .seq #[Value.int 0 t_HANDS_0, Value.int 1 t_HANDS_1] n_HANDS, sl_HANDS⟩)
    (Z_MOST_ROUNDS : PySem.W.nsIn K mainGlobals "MOST_ROUNDS" = some (some (Value.int 5 t_MOST_ROUNDS)))
    (Z_MOST_WOVEN : PySem.W.nsIn K mainGlobals "MOST_WOVEN" = some (some (Value.int 3 t_MOST_WOVEN))) :
    ∃ fd : FuncData, (∀ (s : Shared) (v : Value), BindsTo s fd ⟨[v], []⟩ [("_law_script", v)]) ∧ ∀ base : Heap, K.In base → base.Ns mainGlobals mg → FnOk l.prog w K mg base CX0 11 fa fd ["_law_script"] (spD0 K G_law) := by
  have e := hfa.symm.trans (PySem.W.mg_of X G A_law)
  cases e
  exact ⟨_, fun s v => .of_eq rfl, fun base _ _ => ok_law (T_of X G A_is_from L_is_from C_is_from D_is_from A_sure_rounds L_sure_rounds C_sure_rounds D_sure_rounds A_is_weaving L_is_weaving C_is_weaving D_is_weaving A_sure_weaving L_sure_weaving C_sure_weaving D_sure_weaving A_known_behind L_known_behind C_known_behind D_known_behind A_known L_known C_known D_known A_weavings L_weavings C_weavings D_weavings A_sure_hand L_sure_hand C_sure_hand D_sure_hand A_spot_of L_spot_of C_spot_of D_spot_of A_fit L_fit C_fit D_fit A_both_of L_both_of C_both_of D_both_of A_place L_place C_place D_place A__law_cell_at L__law_cell_at C__law_cell_at D__law_cell_at A__law_well L__law_well C__law_well D__law_well A__law_draw L__law_draw C__law_draw D__law_draw A__law_one L__law_one C__law_one D__law_one A__law_power L__law_power C__law_power D__law_power A__law_plain L__law_plain C__law_plain D__law_plain A__law_met L__law_met C__law_met D__law_met A__law_lines L__law_lines C__law_lines D__law_lines A_law L_law C_law D_law Z_abs Z_all Z_bool Z_int Z_isinstance Z_len Z_list Z_min Z_range Z_sorted Z_tuple Z_zip Z_HANDS Y_HANDS Z_MOST_ROUNDS Z_MOST_WOVEN)⟩
end My
open PySem PySem.W PyProof.Rows
set_option maxHeartbeats 0 in
theorem PySem.Challenge.cw_twoalone_k15_whole_the_line_of_places_holds : PySem.Challenge.rw_twoalone_k15_whole_the_line_of_places.Holds := by
  w_on; o_law; k_head; (case hw => w_witness2)
  k_fill
  refine L2.walk_of (l := PySem.Challenge.rw_twoalone_k15_whole_the_line_of_places) (n := 63) (k := 11) (x := "_law_script") (CX := fun _ => L2.CX0) (sp := fun w => DL.spD0 _ My.G_law) rfl (by decide) rfl ⟨rfl, by decide, by decide⟩ (fun w h Y => PySem.W.kIn_of Y) ?F (fun _ H a ns hl hO hS => My.law_end hl hO hS) (fun _ _ _ _ _ h => h)
  case F =>
    intro w mg fa h KX G hmg
    refine' My.all_mk KX G hmg ?xA_is_from ?xL_is_from ?xC_is_from ?xD_is_from ?xA_sure_rounds ?xL_sure_rounds ?xC_sure_rounds ?xD_sure_rounds ?xA_is_weaving ?xL_is_weaving ?xC_is_weaving ?xD_is_weaving ?xA_sure_weaving ?xL_sure_weaving ?xC_sure_weaving ?xD_sure_weaving ?xA_known_behind ?xL_known_behind ?xC_known_behind ?xD_known_behind ?xA_known ?xL_known ?xC_known ?xD_known ?xA_weavings ?xL_weavings ?xC_weavings ?xD_weavings ?xA_sure_hand ?xL_sure_hand ?xC_sure_hand ?xD_sure_hand ?xA_spot_of ?xL_spot_of ?xC_spot_of ?xD_spot_of ?xA_fit ?xL_fit ?xC_fit ?xD_fit ?xA_both_of ?xL_both_of ?xC_both_of ?xD_both_of ?xA_place ?xL_place ?xC_place ?xD_place ?xA__law_cell_at ?xL__law_cell_at ?xC__law_cell_at ?xD__law_cell_at ?xA__law_well ?xL__law_well ?xC__law_well ?xD__law_well ?xA__law_draw ?xL__law_draw ?xC__law_draw ?xD__law_draw ?xA__law_one ?xL__law_one ?xC__law_one ?xD__law_one ?xA__law_power ?xL__law_power ?xC__law_power ?xD__law_power ?xA__law_plain ?xL__law_plain ?xC__law_plain ?xD__law_plain ?xA__law_met ?xL__law_met ?xC__law_met ?xD__law_met ?xA__law_lines ?xL__law_lines ?xC__law_lines ?xD__law_lines ?xA_law ?xL_law ?xC_law ?xD_law ?xZ_abs ?xZ_all ?xZ_bool ?xZ_int ?xZ_isinstance ?xZ_len ?xZ_list ?xZ_min ?xZ_range ?xZ_sorted ?xZ_tuple ?xZ_zip ?xZ_HANDS ?xY_HANDS ?xZ_MOST_ROUNDS ?xZ_MOST_WOVEN
    (case xA_is_from => k_is); (case xL_is_from => k_is); (case xC_is_from => k_is); (case xD_is_from => k_is); (case xA_sure_rounds => k_is); (case xL_sure_rounds => k_is); (case xC_sure_rounds => k_is); (case xD_sure_rounds => k_is); (case xA_is_weaving => k_is); (case xL_is_weaving => k_is); (case xC_is_weaving => k_is); (case xD_is_weaving => k_is); (case xA_sure_weaving => k_is); (case xL_sure_weaving => k_is); (case xC_sure_weaving => k_is); (case xD_sure_weaving => k_is); (case xA_known_behind => k_is); (case xL_known_behind => k_is); (case xC_known_behind => k_is); (case xD_known_behind => k_is); (case xA_known => k_is); (case xL_known => k_is); (case xC_known => k_is); (case xD_known => k_is); (case xA_weavings => k_is); (case xL_weavings => k_is); (case xC_weavings => k_is); (case xD_weavings => k_is); (case xA_sure_hand => k_is); (case xL_sure_hand => k_is); (case xC_sure_hand => k_is); (case xD_sure_hand => k_is); (case xA_spot_of => k_is); (case xL_spot_of => k_is); (case xC_spot_of => k_is); (case xD_spot_of => k_is); (case xA_fit => k_is); (case xL_fit => k_is); (case xC_fit => k_is); (case xD_fit => k_is); (case xA_both_of => k_is); (case xL_both_of => k_is); (case xC_both_of => k_is); (case xD_both_of => k_is); (case xA_place => k_is); (case xL_place => k_is); (case xC_place => k_is); (case xD_place => k_is); (case xA__law_cell_at => k_is); (case xL__law_cell_at => k_is); (case xC__law_cell_at => k_is); (case xD__law_cell_at => k_is); (case xA__law_well => k_is); (case xL__law_well => k_is); (case xC__law_well => k_is); (case xD__law_well => k_is); (case xA__law_draw => k_is); (case xL__law_draw => k_is); (case xC__law_draw => k_is); (case xD__law_draw => k_is); (case xA__law_one => k_is); (case xL__law_one => k_is); (case xC__law_one => k_is); (case xD__law_one => k_is); (case xA__law_power => k_is); (case xL__law_power => k_is); (case xC__law_power => k_is); (case xD__law_power => k_is); (case xA__law_plain => k_is); (case xL__law_plain => k_is); (case xC__law_plain => k_is); (case xD__law_plain => k_is); (case xA__law_met => k_is); (case xL__law_met => k_is); (case xC__law_met => k_is); (case xD__law_met => k_is); (case xA__law_lines => k_is); (case xL__law_lines => k_is); (case xC__law_lines => k_is); (case xD__law_lines => k_is); (case xA_law => k_is); (case xL_law => k_is); (case xC_law => k_is); (case xD_law => k_is); (case xZ_abs => k_is); (case xZ_all => k_is); (case xZ_bool => k_is); (case xZ_int => k_is); (case xZ_isinstance => k_is); (case xZ_len => k_is); (case xZ_list => k_is); (case xZ_min => k_is); (case xZ_range => k_is); (case xZ_sorted => k_is); (case xZ_tuple => k_is); (case xZ_zip => k_is); (case xZ_HANDS => k_is); (case xY_HANDS => k_is); (case xZ_MOST_ROUNDS => k_is); (case xZ_MOST_WOVEN => k_is)

