import PyProof.Rows.All
import Wide.All
import OpenK.AllK
import Wide.FinOn
import HandS.ForMost
import HandS.Flow
import HandS.Wide
import HandS.IsInst
import HandS.SetFor
import HandS.More
import HandS.Zip
import HandS.Style
import HandS.Deep
import HandS.ForExc
import HandS.ExcIs
import PySem.Challenge.RW_twoalone_k14_places_told
set_option Elab.async false
set_option linter.all false
set_option maxRecDepth 100000
set_option maxHeartbeats 4000000
namespace DL
open PySem L2

inductive D where
  | non | bl (b : Bool) | int (i : Int) | str (x : Str) | opq (v : V)
  | tup (xs : List D) | lst (xs : List D) | frl (xs : List D) | frt (xs : List D)
  | dt (kvs : List (List Key × D))
  deriving Inhabited
/-- p: read alone, perhaps shared; o: a list of the def's own; b: lent by the caller, may be changed -/
inductive Fl where | p | o | b deriving DecidableEq
structure SV where
  fl : Fl
  d : D
abbrev En := List (Option SV)
structure Xc where
  cls : Value
  fs : List (Str × D)
inductive R (α : Type) where
  | ok (a : α) (e : En)
  | exc (x : Xc) (e : En)
  | stuck

def KT (K : PySem.W.Frag) (a : Addr) (xs : List V) : Prop := ∃ (o : Obj) (its : Array Value) (n : Nat), K.lookup a = some o ∧ o.cls = .type "tuple" ∧ o.data = .seq its n ∧ its.size ≤ sizeLine ∧ Vals xs its.toList
def KL (K : PySem.W.Frag) (a : Addr) (xs : List V) : Prop := ∃ (o : Obj) (its : Array Value) (n : Nat), K.lookup a = some o ∧ o.cls = .type "list" ∧ o.dict = none ∧ o.data = .seq its n ∧ its.size ≤ sizeLine ∧ Vals xs its.toList
def SqTA (K : PySem.W.Frag) (H : Hp) (A : List Addr) (a : Addr) (xs : List V) : Prop := a ∉ A ∧ H a = some (.tup xs)
def SqLA (K : PySem.W.Frag) (H : Hp) (A : List Addr) (a : Addr) (xs : List V) : Prop := (a ∉ A ∧ Rd H a (.lst xs)) ∨ KL K a xs
theorem SqTA.sq {K : PySem.W.Frag} {H : Hp} {A : List Addr} {a : Addr} {xs : List V} (h : SqTA K H A a xs) : SqT K H a xs := .inl (.inl h.2)
theorem SqLA.sq {K : PySem.W.Frag} {H : Hp} {A : List Addr} {a : Addr} {xs : List V} (h : SqLA K H A a xs) : SqL K H a xs := h.elim (fun h => .inl h.2) .inr
mutual
inductive Rp (K : PySem.W.Frag) (H : Hp) (A : List Addr) : V → D → Prop
  | non : Rp K H A .non .non
  | bl (b : Bool) : Rp K H A (.bl b) (.bl b)
  | int (i : Int) : Rp K H A (.int i) (.int i)
  | str (x : Str) : Rp K H A (.str x) (.str x)
  | opq (v : V) : Rp K H A v (.opq v)
  | tup {a : Addr} {xs : List V} {ds : List D} : SqTA K H A a xs → RpL K H A xs ds → Rp K H A (.ref a) (.tup ds)
  | lst {a : Addr} {xs : List V} {ds : List D} : a ∉ A → H a = some (.lst xs) → RpL K H A xs ds → Rp K H A (.ref a) (.lst ds)
  | frl {a : Addr} {xs : List V} {ds : List D} : SqLA K H A a xs → RpL K H A xs ds → Rp K H A (.ref a) (.frl ds)
  | frt {a : Addr} {xs : List V} {ds : List D} : KT K a xs → RpL K H A xs ds → Rp K H A (.ref a) (.frt ds)
  | dt {a : Addr} {kvs : List (List Key × V)} {es : List (List Key × D)} : a ∉ A → H a = some (.dT kvs) → RpK K H A kvs es → Rp K H A (.ref a) (.dt es)
inductive RpL (K : PySem.W.Frag) (H : Hp) (A : List Addr) : List V → List D → Prop
  | nil : RpL K H A [] []
  | cons {v : V} {vs : List V} {d : D} {ds : List D} : Rp K H A v d → RpL K H A vs ds → RpL K H A (v :: vs) (d :: ds)
inductive RpK (K : PySem.W.Frag) (H : Hp) (A : List Addr) : List (List Key × V) → List (List Key × D) → Prop
  | nil : RpK K H A [] []
  | cons {k : List Key} {v : V} {d : D} {vs : List (List Key × V)} {ds : List (List Key × D)} : Rp K H A v d → RpK K H A vs ds → RpK K H A ((k, v) :: vs) ((k, d) :: ds)
end
section
variable {K : PySem.W.Frag} {H H' : Hp} {A A' : List Addr}
theorem SqTA.mono (hp : ∀ a o, a ∉ A → H a = some o → H' a = some o) (hg : ∀ a, a ∈ A' → a ∈ A ∨ H a = none) {a : Addr} {xs : List V} (h : SqTA K H A a xs) : SqTA K H' A' a xs :=
  ⟨fun z => (hg a z).elim h.1 (fun e => absurd (h.2.symm.trans e) (by simp)), hp a _ h.1 h.2⟩
theorem SqLA.mono (hp : ∀ a o, a ∉ A → H a = some o → H' a = some o) (hg : ∀ a, a ∈ A' → a ∈ A ∨ H a = none) {a : Addr} {xs : List V} (h : SqLA K H A a xs) : SqLA K H' A' a xs := by
  rcases h with ⟨n, h⟩ | h
  · have key : ∀ o, H a = some o → a ∉ A' := fun o e z => by
      rcases hg a z with z | z
      · exact n z
      · rw [z] at e; cases e
    rcases h with h | ⟨o, h⟩
    · exact .inl ⟨key _ h, .inl (hp a _ n h)⟩
    · exact .inl ⟨key _ h, .inr ⟨o, hp a _ n h⟩⟩
  · exact .inr h
mutual
theorem Rp.mono (hp : ∀ a o, a ∉ A → H a = some o → H' a = some o) (hg : ∀ a, a ∈ A' → a ∈ A ∨ H a = none) : ∀ {v : V} {d : D}, Rp K H A v d → Rp K H' A' v d
  | _, _, .non => .non
  | _, _, .bl b => .bl b
  | _, _, .int i => .int i
  | _, _, .str x => .str x
  | _, _, .opq v => .opq v
  | _, _, .tup h r => .tup (h.mono hp hg) (RpL.mono hp hg r)
  | _, _, .lst n h r => .lst (fun z => (hg _ z).elim n fun e => by rw [e] at h; cases h) (hp _ _ n h) (RpL.mono hp hg r)
  | _, _, .frl h r => .frl (h.mono hp hg) (RpL.mono hp hg r)
  | _, _, .frt h r => .frt h (RpL.mono hp hg r)
  | _, _, .dt n h r => .dt (fun z => (hg _ z).elim n fun e => by rw [e] at h; cases h) (hp _ _ n h) (RpK.mono hp hg r)
theorem RpL.mono (hp : ∀ a o, a ∉ A → H a = some o → H' a = some o) (hg : ∀ a, a ∈ A' → a ∈ A ∨ H a = none) : ∀ {v : List V} {d : List D}, RpL K H A v d → RpL K H' A' v d
  | _, _, .nil => .nil
  | _, _, .cons h r => .cons (Rp.mono hp hg h) (RpL.mono hp hg r)
theorem RpK.mono (hp : ∀ a o, a ∉ A → H a = some o → H' a = some o) (hg : ∀ a, a ∈ A' → a ∈ A ∨ H a = none) : ∀ {v : List (List Key × V)} {d : List (List Key × D)}, RpK K H A v d → RpK K H' A' v d
  | _, _, .nil => .nil
  | _, _, .cons h r => .cons (Rp.mono hp hg h) (RpK.mono hp hg r)
end
theorem RpL.length : ∀ {vs : List V} {ds : List D}, RpL K H A vs ds → vs.length = ds.length
  | _, _, .nil => rfl
  | _, _, .cons _ r => by rw [List.length_cons, List.length_cons, RpL.length r]
theorem RpL.get : ∀ {vs : List V} {ds : List D} {i : Nat} {d : D}, RpL K H A vs ds → ds[i]? = some d → ∃ v, vs[i]? = some v ∧ Rp K H A v d
  | _, _, _, _, .nil, e => by simp at e
  | _, _, 0, _, .cons h _, e => by simp at e; subst e; exact ⟨_, rfl, h⟩
  | _, _, i + 1, d, .cons _ r, e => by
    obtain ⟨v, h1, h2⟩ := RpL.get (i := i) (d := d) r (by simpa using e)
    exact ⟨v, by simpa using h1, h2⟩
theorem RpL.get' : ∀ {vs : List V} {ds : List D} {i : Nat} {v : V}, RpL K H A vs ds → vs[i]? = some v → ∃ d, ds[i]? = some d ∧ Rp K H A v d
  | _, _, _, _, .nil, e => by simp at e
  | _, _, 0, _, .cons h _, e => by simp at e; subst e; exact ⟨_, rfl, h⟩
  | _, _, i + 1, v, .cons _ r, e => by
    obtain ⟨d, h1, h2⟩ := RpL.get' (i := i) (v := v) r (by simpa using e)
    exact ⟨d, by simpa using h1, h2⟩
theorem RpL.append : ∀ {vs ws : List V} {ds es : List D}, RpL K H A vs ds → RpL K H A ws es → RpL K H A (vs ++ ws) (ds ++ es)
  | _, _, _, _, .nil, s => s
  | _, _, _, _, .cons h r, s => .cons h (RpL.append r s)
theorem RpL.one {v : V} {d : D} (h : Rp K H A v d) : RpL K H A [v] [d] := .cons h .nil
theorem RpL.set {v : V} {d : D} (h : Rp K H A v d) : ∀ {vs : List V} {ds : List D} (i : Nat), RpL K H A vs ds → RpL K H A (vs.set i v) (ds.set i d)
  | _, _, _, .nil => .nil
  | _, _, 0, .cons _ r => .cons h r
  | _, _, i + 1, .cons q r => .cons q (RpL.set h i r)
theorem RpL.take : ∀ {vs : List V} {ds : List D} (n : Nat), RpL K H A vs ds → RpL K H A (vs.take n) (ds.take n)
  | _, _, 0, _ => .nil
  | _, _, _ + 1, .nil => .nil
  | _, _, n + 1, .cons h r => .cons h (RpL.take n r)
theorem RpL.drop : ∀ {vs : List V} {ds : List D} (n : Nat), RpL K H A vs ds → RpL K H A (vs.drop n) (ds.drop n)
  | _, _, 0, r => r
  | _, _, _ + 1, .nil => .nil
  | _, _, n + 1, .cons _ r => RpL.drop n r
theorem RpL.reverse : ∀ {vs : List V} {ds : List D}, RpL K H A vs ds → RpL K H A vs.reverse ds.reverse
  | _, _, .nil => .nil
  | _, _, .cons h r => by
    rw [List.reverse_cons, List.reverse_cons]
    exact (RpL.reverse r).append (.one h)
theorem RpL.eraseIdx : ∀ {vs : List V} {ds : List D} (n : Nat), RpL K H A vs ds → RpL K H A (vs.eraseIdx n) (ds.eraseIdx n)
  | _, _, _, .nil => .nil
  | _, _, 0, .cons _ r => r
  | _, _, n + 1, .cons h r => .cons h (RpL.eraseIdx n r)
theorem RpL.ints : ∀ (ns : List Int), RpL K H A (ns.map V.int) (ns.map D.int)
  | [] => .nil
  | n :: r => .cons (.int n) (RpL.ints r)
theorem RpL.ints_of : ∀ {vs : List V} {ns : List Int}, RpL K H A vs (ns.map D.int) → vs = ns.map V.int
  | _, [], .nil => rfl
  | _, n :: r, .cons h t => by
    cases h
    rw [RpL.ints_of t]; rfl
theorem RpL.bls_of : ∀ {vs : List V} {ns : List Bool}, RpL K H A vs (ns.map D.bl) → vs = ns.map V.bl
  | _, [], .nil => rfl
  | _, n :: r, .cons h t => by
    cases h
    rw [RpL.bls_of t]; rfl
end

structure Step (H : Hp) (W : List Addr) (H' : Hp) (W' : List Addr) : Prop where
  pres : ∀ a o, a ∉ W → H a = some o → H' a = some o
  grow : ∀ a, a ∈ W' → a ∈ W ∨ H a = none
theorem Step.refl (H : Hp) (W : List Addr) : Step H W H W := ⟨fun _ _ _ h => h, fun _ h => .inl h⟩
theorem Step.trans {H H1 H2 : Hp} {W W1 W2 : List Addr} (a : Step H W H1 W1) (b : Step H1 W1 H2 W2) : Step H W H2 W2 where
  pres := fun x o n h => b.pres x o (fun z => (a.grow x z).elim n fun e => by rw [e] at h; cases h) (a.pres x o n h)
  grow := fun x z => by
    rcases b.grow x z with z | z
    · exact a.grow x z
    · by_cases hx : x ∈ W
      · exact .inl hx
      · cases e : H x with
        | none => exact .inr rfl
        | some o => rw [a.pres x o hx e] at z; cases z
theorem Step.new {H : Hp} {W : List Addr} {p : Addr} {o : HO} (h : H p = none) : Step H W (upd H p o) W :=
  ⟨fun a u _ e => by rw [upd_ne (ne_of_none e h)]; exact e, fun _ z => .inl z⟩
theorem Step.newW {H : Hp} {W : List Addr} {p : Addr} {o : HO} (h : H p = none) : Step H W (upd H p o) (p :: W) :=
  ⟨fun a u _ e => by rw [upd_ne (ne_of_none e h)]; exact e, fun a z => by
    rcases List.mem_cons.mp z with rfl | z
    · exact .inr h
    · exact .inl z⟩
theorem Step.mut {H : Hp} {W : List Addr} {p : Addr} {o : HO} (h : p ∈ W) : Step H W (upd H p o) W :=
  ⟨fun a u n e => by rw [upd_ne (fun z => n (by rw [z]; exact h))]; exact e, fun _ z => .inl z⟩
theorem Step.sub {H : Hp} {W W' : List Addr} (h : ∀ a ∈ W', a ∈ W) : Step H W H W' := ⟨fun _ _ _ e => e, fun a z => .inl (h a z)⟩
section
variable {K : PySem.W.Frag} {H H' : Hp} {W W' Fr : List Addr}
theorem Step.gF (s : Step H W H' W') : ∀ a, a ∈ W' ++ Fr → a ∈ W ++ Fr ∨ H a = none := fun a z => by
  rcases List.mem_append.mp z with z | z
  · rcases s.grow a z with z | z
    · exact .inl (List.mem_append_left _ z)
    · exact .inr z
  · exact .inl (List.mem_append_right _ z)
theorem Step.pF (s : Step H W H' W') : ∀ a o, a ∉ W ++ Fr → H a = some o → H' a = some o := fun a o n e => s.pres a o (fun z => n (List.mem_append_left _ z)) e
theorem Step.rp (s : Step H W H' W') {v : V} {d : D} (h : Rp K H (W ++ Fr) v d) : Rp K H' (W' ++ Fr) v d := h.mono s.pF s.gF
theorem Step.rpL (s : Step H W H' W') {v : List V} {d : List D} (h : RpL K H (W ++ Fr) v d) : RpL K H' (W' ++ Fr) v d := h.mono s.pF s.gF
theorem Step.rpK (s : Step H W H' W') {v : List (List Key × V)} {d : List (List Key × D)} (h : RpK K H (W ++ Fr) v d) : RpK K H' (W' ++ Fr) v d := h.mono s.pF s.gF
end

def En.sv (e : En) (i : Nat) : Option SV := (e[i]?).bind id
/-- a changeable object at a -/
inductive Ow (K : PySem.W.Frag) (H : Hp) (A : List Addr) (a : Addr) : D → Prop
  | lst {xs : List V} {ds : List D} : H a = some (.lst xs) → RpL K H A xs ds → Ow K H A a (.lst ds)
  | dt {xs : List (List Key × V)} {ds : List (List Key × D)} : H a = some (.dT xs) → RpK K H A xs ds → Ow K H A a (.dt ds)
/-- of a def's run: addresses of others that nothing here stands on, the heap and the slots at its start -/
structure Fm where
  fr : List Addr
  h0 : Hp
  s0 : St
def SvOk (K : PySem.W.Frag) (F : Fm) (H : Hp) (W : List Addr) (sv : SV) (v : V) : Prop :=
  (sv.fl = .p ∧ Rp K H (W ++ F.fr) v sv.d) ∨ (sv.fl ≠ .p ∧ ∃ a, v = .ref a ∧ a ∈ W ∧ Ow K H (W ++ F.fr) a sv.d ∧ (sv.fl = .o → F.h0 a = none))
structure Rel (K : PySem.W.Frag) (F : Fm) (env : En) (σ : St) (H : Hp) (W : List Addr) : Prop where
  len : env.length = σ.length
  sl : ∀ i sv, env.sv i = some sv → ∃ v, σ[i]? = some (some v) ∧ SvOk K F H W sv v
  inj : ∀ i j sv sw a, env.sv i = some sv → env.sv j = some sw → sv.fl ≠ .p → sw.fl ≠ .p → σ[i]? = some (some (.ref a)) → σ[j]? = some (some (.ref a)) → i = j
  bor : ∀ i sv, env.sv i = some sv → sv.fl = .b → σ[i]? = F.s0[i]?
  trk : ∀ a, H a = none → F.h0 a = none
  frt : ∀ a ∈ F.fr, H a ≠ none
  dis : ∀ a ∈ W, a ∉ F.fr
  wt : ∀ a ∈ W, H a ≠ none
/-- readable: a value that stands for d now -/
def RdOk (K : PySem.W.Frag) (H : Hp) (A : List Addr) (v : V) (d : D) : Prop := Rp K H A v d ∨ ∃ a, v = .ref a ∧ Ow K H A a d
inductive Opd where
  | slot (i : Nat) | val (d : D)
def Opd.get (e : En) : Opd → Option D
  | .slot i => (e.sv i).map (·.d)
  | .val d => some d
def RelO (K : PySem.W.Frag) (F : Fm) (σ : St) (H : Hp) (W : List Addr) : Opd → V → Prop
  | .slot i, v => σ[i]? = some (some v)
  | .val d, v => Rp K H (W ++ F.fr) v d
section
variable {K : PySem.W.Frag} {F : Fm} {env env' : En} {σ σ' : St} {H H' : Hp} {W W' : List Addr}
theorem RelO.step (s : Step H W H' W') : ∀ {o : Opd} {v : V}, RelO K F σ H W o v → RelO K F σ H' W' o v
  | .slot _, _, h => h
  | .val _, _, h => s.rp h
theorem Rel.get (r : Rel K F env σ H W) : ∀ {o : Opd} {v : V} {d : D}, RelO K F σ H W o v → o.get env = some d → RdOk K H (W ++ F.fr) v d
  | .val _, _, _, h, e => by cases e; exact .inl h
  | .slot i, v, d, h, e => by
    have e' : (env.sv i).map (·.d) = some d := e
    cases q : env.sv i with
    | none => rw [q] at e'; cases e'
    | some sv =>
      rw [q] at e'
      cases e'
      obtain ⟨u, h1, h2⟩ := r.sl i sv q
      have h' : σ[i]? = some (some v) := h
      rw [h1] at h'; cases h'
      rcases h2 with ⟨_, h2⟩ | ⟨_, a, e1, _, h2, _⟩
      · exact .inl h2
      · exact .inr ⟨a, e1, h2⟩
end
theorem En.sv_set {e : En} {i j : Nat} {x : Option SV} (hi : i < e.length) : En.sv (e.set i x) j = if j = i then x else e.sv j := by
  unfold En.sv
  by_cases h : j = i
  · subst h; rw [if_pos rfl, List.getElem?_set_self hi]; rfl
  · rw [if_neg h, List.getElem?_set_ne (Ne.symm h)]
theorem En.sv_lt {e : En} {i : Nat} {sv : SV} (h : e.sv i = some sv) : i < e.length := by
  unfold En.sv at h
  rcases Nat.lt_or_ge i e.length with h1 | h1
  · exact h1
  · rw [List.getElem?_eq_none h1] at h; cases h
theorem En.sv_len {e : En} {i : Nat} (h : e.length ≤ i) : e.sv i = none := by
  unfold En.sv
  rw [List.getElem?_eq_none h]; rfl
section
variable {K : PySem.W.Frag} {F : Fm} {env env' : En} {σ σ' : St} {H H' : Hp} {W W' : List Addr}
theorem Ow.mono {A A' : List Addr} (hp : ∀ a o, a ∉ A → H a = some o → H' a = some o) (hg : ∀ a, a ∈ A' → a ∈ A ∨ H a = none) {a : Addr} {d : D} (ha : ∀ o, H a = some o → H' a = some o) (h : Ow K H A a d) : Ow K H' A' a d := by
  cases h with
  | lst h r => exact .lst (ha _ h) (r.mono hp hg)
  | dt h r => exact .dt (ha _ h) (r.mono hp hg)
/-- all that stood stands -/
theorem Rel.keep (r : Rel K F env σ H W) (s : Step H W H' W') (hk : ∀ a o, H a = some o → H' a = some o) (hw : ∀ a ∈ W, a ∈ W') (ht : ∀ a ∈ W', H' a ≠ none) : Rel K F env σ H' W' where
  len := r.len
  sl := fun i sv e => by
    obtain ⟨v, h1, h2⟩ := r.sl i sv e
    refine ⟨v, h1, ?_⟩
    rcases h2 with ⟨e1, h2⟩ | ⟨e1, a, e2, ha, ho, hz⟩
    · exact .inl ⟨e1, s.rp h2⟩
    · exact .inr ⟨e1, a, e2, hw a ha, ho.mono s.pF s.gF (hk a), hz⟩
  inj := r.inj
  bor := r.bor
  trk := fun a e => r.trk a (by
    cases q : H a with
    | none => rfl
    | some o => rw [hk a o q] at e; cases e)
  frt := fun a z => by
    cases q : H a with
    | none => exact absurd q (r.frt a z)
    | some o => rw [hk a o q]; simp
  dis := fun a z f => (s.grow a z).elim (fun z => r.dis a z f) fun e => r.frt a f e
  wt := ht
theorem upd_kept {p : Addr} {o : HO} (h : H p = none) : ∀ a u, H a = some u → (upd H p o) a = some u := fun a u e => by
  rw [upd_ne (ne_of_none e h)]; exact e
theorem Rel.newP (r : Rel K F env σ H W) {p : Addr} {o : HO} (h : H p = none) : Rel K F env σ (upd H p o) W :=
  r.keep (Step.new h) (upd_kept h) (fun _ z => z) fun a z => by
    cases q : H a with
    | none => exact absurd q (r.wt a z)
    | some u => rw [upd_kept h a u q]; simp
theorem Rel.newW (r : Rel K F env σ H W) {p : Addr} {o : HO} (h : H p = none) : Rel K F env σ (upd H p o) (p :: W) :=
  r.keep (Step.newW h) (upd_kept h) (fun _ z => List.mem_cons_of_mem _ z) fun a z => by
    rcases List.mem_cons.mp z with rfl | z
    · rw [upd_same]; simp
    · cases q : H a with
      | none => exact absurd q (r.wt a z)
      | some u => rw [upd_kept h a u q]; simp
/-- a changeable object that is no slot's is set free -/
theorem Rel.drop (r : Rel K F env σ H W) (a : Addr) (hn : ∀ i sv, env.sv i = some sv → sv.fl ≠ .p → σ[i]? ≠ some (some (.ref a))) : Rel K F env σ H (W.filter fun b => decide (b ≠ a)) where
  len := r.len
  sl := fun i sv e => by
    obtain ⟨v, h1, h2⟩ := r.sl i sv e
    have s : Step H W H (W.filter fun b => decide (b ≠ a)) := Step.sub fun b z => (List.mem_filter.mp z).1
    refine ⟨v, h1, ?_⟩
    rcases h2 with ⟨e1, h2⟩ | ⟨e1, b, e2, hb, ho, hz⟩
    · exact .inl ⟨e1, s.rp h2⟩
    · refine .inr ⟨e1, b, e2, List.mem_filter.mpr ⟨hb, decide_eq_true fun z => ?_⟩, ho.mono s.pF s.gF (fun _ e => e), hz⟩
      subst z; subst e2
      exact hn i sv e e1 h1
  inj := r.inj
  bor := r.bor
  trk := r.trk
  frt := r.frt
  dis := fun b z => r.dis b (List.mem_filter.mp z).1
  wt := fun b z => r.wt b (List.mem_filter.mp z).1
theorem drop_mem {a b : Addr} (h : b ∈ W.filter fun b => decide (b ≠ a)) : b ≠ a := of_decide_eq_true (List.mem_filter.mp h).2
theorem Step.drop (a : Addr) : Step H W H (W.filter fun b => decide (b ≠ a)) := Step.sub fun b z => (List.mem_filter.mp z).1
theorem Ow.rp {A : List Addr} {a : Addr} {d : D} (h : Ow K H A a d) (n : a ∉ A) : Rp K H A (.ref a) d := by
  cases h with
  | lst h r => exact .lst n h r
  | dt h r => exact .dt n h r
/-- a slot is stored -/
theorem Rel.store (r : Rel K F env σ H W) {i : Nat} {sv : SV} {v : V} (hi : i < env.length) (h : SvOk K F H W sv v) (nb : sv.fl ≠ .b) (hn : sv.fl ≠ .p → ∀ j sw, env.sv j = some sw → sw.fl ≠ .p → σ[j]? ≠ some (some v)) : Rel K F (env.set i (some sv)) (σ.set i (some v)) H W where
  len := by simp [r.len]
  sl := fun j sw e => by
    rw [En.sv_set hi] at e
    by_cases hj : j = i
    · subst hj
      rw [if_pos rfl] at e; cases e
      exact ⟨v, List.getElem?_set_self (by rw [← r.len]; exact hi), h⟩
    · rw [if_neg hj] at e
      obtain ⟨u, h1, h2⟩ := r.sl j sw e
      exact ⟨u, by rw [List.getElem?_set_ne (Ne.symm hj)]; exact h1, h2⟩
  inj := fun j k sj sk a ej ek nj nk e1 e2 => by
    rw [En.sv_set hi] at ej ek
    have hs : i < σ.length := by rw [← r.len]; exact hi
    by_cases hj : j = i
    · by_cases hk : k = i
      · rw [hj, hk]
      · rw [if_pos hj] at ej; rw [if_neg hk] at ek
        cases ej
        rw [hj, List.getElem?_set_self hs] at e1
        rw [List.getElem?_set_ne (Ne.symm hk)] at e2
        cases e1
        exact absurd e2 (hn nj k sk ek nk)
    · by_cases hk : k = i
      · rw [if_neg hj] at ej; rw [if_pos hk] at ek
        cases ek
        rw [hk, List.getElem?_set_self hs] at e2
        rw [List.getElem?_set_ne (Ne.symm hj)] at e1
        cases e2
        exact absurd e1 (hn nk j sj ej nj)
      · rw [if_neg hj] at ej; rw [if_neg hk] at ek
        rw [List.getElem?_set_ne (Ne.symm hj)] at e1
        rw [List.getElem?_set_ne (Ne.symm hk)] at e2
        exact r.inj j k sj sk a ej ek nj nk e1 e2
  bor := fun j sw e b => by
    rw [En.sv_set hi] at e
    by_cases hj : j = i
    · rw [if_pos hj] at e; cases e
      exact absurd b nb
    · rw [if_neg hj] at e
      rw [List.getElem?_set_ne (Ne.symm hj)]
      exact r.bor j sw e b
  trk := r.trk
  frt := r.frt
  dis := r.dis
  wt := r.wt
/-- a slot's object is changed -/
theorem Rel.write (r : Rel K F env σ H W) {i : Nat} {sv : SV} {a : Addr} {o : HO} {d : D} (e : env.sv i = some sv) (np : sv.fl ≠ .p) (hs : σ[i]? = some (some (.ref a))) (hw : a ∈ W) (hz : sv.fl = .o → F.h0 a = none) (h : Ow K (upd H a o) (W ++ F.fr) a d) :
    Rel K F (env.set i (some ⟨sv.fl, d⟩)) σ (upd H a o) W := by
  have hi : i < env.length := En.sv_lt e
  have s : Step H W (upd H a o) W := Step.mut hw
  refine ⟨by simp [r.len], fun j sw ej => ?_, fun j k sj sk b ej ek nj nk e1 e2 => ?_, fun j sw ej b => ?_, fun b q => ?_, fun b z => ?_, r.dis, fun b z => ?_⟩
  · rw [En.sv_set hi] at ej
    by_cases hj : j = i
    · rw [if_pos hj] at ej; cases ej
      rw [hj]
      exact ⟨_, hs, .inr ⟨np, a, rfl, hw, h, hz⟩⟩
    · rw [if_neg hj] at ej
      obtain ⟨u, h1, h2⟩ := r.sl j sw ej
      refine ⟨u, h1, ?_⟩
      rcases h2 with ⟨e1, h2⟩ | ⟨e1, b, e2, hb, ho, hz⟩
      · exact .inl ⟨e1, s.rp h2⟩
      · refine .inr ⟨e1, b, e2, hb, ho.mono s.pF s.gF (fun u q => ?_), hz⟩
        subst e2
        rw [upd_ne (fun z => hj (r.inj j i sw sv a ej e e1 np (by rw [← z]; exact h1) hs))]
        exact q
  · rw [En.sv_set hi] at ej ek
    have : ∀ (m : Nat) (sm : SV), (if m = i then some (SV.mk sv.fl d) else env.sv m) = some sm → sm.fl ≠ .p → ∃ sm', env.sv m = some sm' ∧ sm'.fl ≠ .p := fun m sm q nm => by
      by_cases hm : m = i
      · rw [hm]; exact ⟨sv, e, np⟩
      · rw [if_neg hm] at q; exact ⟨sm, q, nm⟩
    obtain ⟨s1, f1, f2⟩ := this j sj ej nj
    obtain ⟨s2, f3, f4⟩ := this k sk ek nk
    exact r.inj j k s1 s2 b f1 f3 f2 f4 e1 e2
  · rw [En.sv_set hi] at ej
    by_cases hj : j = i
    · rw [if_pos hj] at ej; cases ej
      rw [hj]
      exact r.bor i sv e b
    · rw [if_neg hj] at ej
      exact r.bor j sw ej b
  · refine r.trk b ?_
    by_cases hb : b = a
    · rw [hb, upd_same] at q; cases q
    · rw [upd_ne hb] at q; exact q
  · by_cases hb : b = a
    · rw [hb, upd_same]; simp
    · rw [upd_ne hb]; exact r.frt b z
  · by_cases hb : b = a
    · rw [hb, upd_same]; simp
    · rw [upd_ne hb]; exact r.wt b z
/-- a slot's own object is read alone from now on -/
theorem Rel.freeze (r : Rel K F env σ H W) {i : Nat} {sv : SV} {a : Addr} (e : env.sv i = some sv) (no : sv.fl = .o) (hs : σ[i]? = some (some (.ref a))) :
    Rel K F (env.set i (some ⟨.p, sv.d⟩)) σ H (W.filter fun b => decide (b ≠ a)) ∧ Rp K H ((W.filter fun b => decide (b ≠ a)) ++ F.fr) (.ref a) sv.d := by
  have hi : i < env.length := En.sv_lt e
  have np : sv.fl ≠ .p := by rw [no]; decide
  have s : Step H W H (W.filter fun b => decide (b ≠ a)) := Step.drop a
  have key : Rp K H ((W.filter fun b => decide (b ≠ a)) ++ F.fr) (.ref a) sv.d := by
    obtain ⟨u, h1, h2⟩ := r.sl i sv e
    rw [hs] at h1; cases h1
    rcases h2 with ⟨e1, _⟩ | ⟨e1, b, e2, hb, ho, hz⟩
    · exact absurd e1 np
    · cases e2
      refine (ho.mono s.pF s.gF (fun _ e => e)).rp fun z => ?_
      rcases List.mem_append.mp z with z | z
      · exact drop_mem z rfl
      · exact r.dis a hb z
  refine ⟨⟨by simp [r.len], fun j sw ej => ?_, fun j k sj sk b ej ek nj nk e1 e2 => ?_, fun j sw ej b => ?_, r.trk, r.frt, fun b z => r.dis b (List.mem_filter.mp z).1, fun b z => r.wt b (List.mem_filter.mp z).1⟩, key⟩
  · rw [En.sv_set hi] at ej
    by_cases hj : j = i
    · rw [if_pos hj] at ej; cases ej
      rw [hj]
      exact ⟨_, hs, .inl ⟨rfl, key⟩⟩
    · rw [if_neg hj] at ej
      obtain ⟨u, h1, h2⟩ := r.sl j sw ej
      refine ⟨u, h1, ?_⟩
      rcases h2 with ⟨e1, h2⟩ | ⟨e1, b, e2, hb, ho, hz⟩
      · exact .inl ⟨e1, s.rp h2⟩
      · refine .inr ⟨e1, b, e2, List.mem_filter.mpr ⟨hb, decide_eq_true fun z => ?_⟩, ho.mono s.pF s.gF (fun _ e => e), hz⟩
        subst e2
        exact hj (r.inj j i sw sv a ej e e1 np (by rw [← z]; exact h1) hs)
  · rw [En.sv_set hi] at ej ek
    have : ∀ (m : Nat) (sm : SV), (if m = i then some (SV.mk .p sv.d) else env.sv m) = some sm → sm.fl ≠ .p → env.sv m = some sm := fun m sm q nm => by
      by_cases hm : m = i
      · rw [if_pos hm] at q; cases q; exact absurd rfl nm
      · rw [if_neg hm] at q; exact q
    exact r.inj j k sj sk b (this j sj ej nj) (this k sk ek nk) nj nk e1 e2
  · rw [En.sv_set hi] at ej
    by_cases hj : j = i
    · rw [if_pos hj] at ej; cases ej; cases b
    · rw [if_neg hj] at ej
      exact r.bor j sw ej b
end
end DL

namespace DL
open PySem L2

def XOk (K : PySem.W.Frag) (F : Fm) (H : Hp) (W : List Addr) (x : Xc) (c : Value) (d : Option Addr) : Prop :=
  x.cls = c ∧ (match d with | none => x.fs = [] | some a => x.fs ≠ [] ∧ ∃ vs : List (Str × V), H a = some (.xd vs) ∧ ∀ f y, x.fs.lookup f = some y → ∃ v, vs.lookup f = some v ∧ Rp K H (W ++ F.fr) v y)
def Post {α β : Type} (rel : α → Fm → En → St → Hp → List Addr → β → Prop) (K : PySem.W.Frag) (E : XK) (F : Fm) (σ : St) (H : Hp) (W : List Addr) (Q : β → Hp → Prop) : R α → Prop
  | .ok a e => ∀ v H' W', Rel K F e σ H' W' → Step H W H' W' → rel a F e σ H' W' v → Q v H'
  | .exc x e => ∀ c d H' W', Rel K F e σ H' W' → Step H W H' W' → XOk K F H' W' x c d → E c d H'
  | .stuck => False
def Sn {α β : Type} (rel : α → Fm → En → St → Hp → List Addr → β → Prop) (K : PySem.W.Frag) (E : XK) (t : St → Hp → (β → Hp → Prop) → Prop) (f : En → R α) : Prop :=
  ∀ F env σ H W Q, Rel K F env σ H W → Post rel K E F σ H W Q (f env) → t σ H Q
theorem Post.from {α β : Type} {rel : α → Fm → En → St → Hp → List Addr → β → Prop} {K : PySem.W.Frag} {E : XK} {F : Fm} {σ : St} {H H1 : Hp} {W W1 : List Addr} {Q : β → Hp → Prop} (s : Step H W H1 W1) :
    ∀ {r : R α}, Post rel K E F σ H W Q r → Post rel K E F σ H1 W1 Q r
  | .ok _ _, h => fun v H' W' r' s' q => h v H' W' r' (s.trans s') q
  | .exc _ _, h => fun c d H' W' r' s' q => h c d H' W' r' (s.trans s') q
  | .stuck, h => h
def rO (K : PySem.W.Frag) : Opd → Fm → En → St → Hp → List Addr → V → Prop := fun o F _ σ H W v => RelO K F σ H W o v
def rV (K : PySem.W.Frag) : SV → Fm → En → St → Hp → List Addr → V → Prop := fun sv F e σ H W v => SvOk K F H W sv v ∧ (sv.fl ≠ .p → sv.fl = .o ∧ ∀ j sw, e.sv j = some sw → sw.fl ≠ .p → σ[j]? ≠ some (some v))
inductive RelOs (K : PySem.W.Frag) (F : Fm) (σ : St) (H : Hp) (W : List Addr) : List Opd → List V → Prop
  | nil : RelOs K F σ H W [] []
  | cons {o : Opd} {os : List Opd} {v : V} {vs : List V} : RelO K F σ H W o v → RelOs K F σ H W os vs → RelOs K F σ H W (o :: os) (v :: vs)
theorem RelOs.step {K : PySem.W.Frag} {F : Fm} {σ : St} {H H' : Hp} {W W' : List Addr} (s : Step H W H' W') : ∀ {os : List Opd} {vs : List V}, RelOs K F σ H W os vs → RelOs K F σ H' W' os vs
  | _, _, .nil => .nil
  | _, _, .cons h r => .cons (h.step s) (r.step s)
def rOs (K : PySem.W.Frag) : List Opd → Fm → En → St → Hp → List Addr → List V → Prop := fun os F _ σ H W vs => RelOs K F σ H W os vs
def rB : Bool → Fm → En → St → Hp → List Addr → Bool → Prop := fun b _ _ _ _ _ c => b = c
abbrev SE (K : PySem.W.Frag) (E : XK) (t : TE) (f : En → R Opd) : Prop := Sn (rO K) K E t f
abbrev SF (K : PySem.W.Frag) (E : XK) (t : TE) (f : En → R SV) : Prop := Sn (rV K) K E t f
abbrev SA (K : PySem.W.Frag) (E : XK) (t : TA) (f : En → R (List Opd)) : Prop := Sn (rOs K) K E t f
abbrev SB (K : PySem.W.Frag) (E : XK) (t : TT) (f : En → R Bool) : Prop := Sn rB K E t f

def bindR {α β : Type} (f : En → R α) (k : α → En → R β) : En → R β := fun e => match f e with
  | .ok a e' => k a e'
  | .exc x e' => .exc x e'
  | .stuck => .stuck
theorem bindR_ok {α β : Type} {f : En → R α} {k : α → En → R β} {e e' : En} {a : α} (h : f e = .ok a e') : bindR f k e = k a e' := by unfold bindR; rw [h]
def opd (f : En → R SV) : En → R Opd := bindR f fun sv e => .ok (.val sv.d) e
def constE (d : D) : En → R SV := fun e => .ok ⟨.p, d⟩ e
def varE (i : Nat) : En → R Opd := fun e => match e.sv i with | some _ => .ok (.slot i) e | none => .stuck
/-- an operand to be kept: a list of one's own is read alone from now on -/
def pureO : Opd → En → Option (D × En)
  | .val d, e => some (d, e)
  | .slot i, e => match e.sv i with
    | some ⟨.p, d⟩ => some (d, e)
    | some ⟨.o, d⟩ => some (d, e.set i (some ⟨.p, d⟩))
    | _ => none
def pureL : List Opd → En → Option (List D × En)
  | [], e => some ([], e)
  | o :: os, e => match pureO o e with
    | none => none
    | some (d, e1) => match pureL os e1 with
      | none => none
      | some (ds, e2) => some (d :: ds, e2)
def keepE (f : En → R Opd) : En → R SV := bindR f fun o e => match pureO o e with | some (d, e') => .ok ⟨.p, d⟩ e' | none => .stuck
def op1 (g : D → Option SV) (fa : En → R Opd) : En → R SV := bindR fa fun a e => match a.get e with
  | some x => (match g x with | some z => .ok z e | none => .stuck)
  | none => .stuck
def op2 (g : D → D → Option SV) (fa fb : En → R Opd) : En → R SV := bindR fa fun a => bindR fb fun b e => match a.get e, b.get e with
  | some x, some y => (match g x y with | some z => .ok z e | none => .stuck)
  | _, _ => .stuck
def getL : List Opd → En → Option (List D)
  | [], _ => some []
  | o :: os, e => match o.get e, getL os e with
    | some d, some ds => some (d :: ds)
    | _, _ => none
def nilA : En → R (List Opd) := fun e => .ok [] e
def consA (fa : En → R Opd) (fr : En → R (List Opd)) : En → R (List Opd) := bindR fa fun a => bindR fr fun as e => .ok (a :: as) e
def callB (g : List D → Option SV) (fa : En → R (List Opd)) : En → R SV := bindR fa fun os e => match getL os e with
  | some xs => (match g xs with | some z => .ok z e | none => .stuck)
  | none => .stuck
def tupE (fa : En → R (List Opd)) : En → R SV := bindR fa fun os e => match pureL os e with
  | some (ds, e') => if ds.length ≤ 100000 then .ok ⟨.p, .tup ds⟩ e' else .stuck
  | none => .stuck
def lstE (fa : En → R (List Opd)) : En → R SV := bindR fa fun os e => match pureL os e with
  | some (ds, e') => if ds.length ≤ 100000 then .ok ⟨.o, .lst ds⟩ e' else .stuck
  | none => .stuck
def testV (f : En → R SV) : En → R Bool := bindR f fun sv e => match sv.d with | .bl b => .ok b e | _ => .stuck
def andT (f g : En → R Bool) : En → R Bool := bindR f fun b e => if b then g e else .ok false e
def orT (f g : En → R Bool) : En → R Bool := bindR f fun b e => if b then .ok true e else g e
def notT (f : En → R Bool) : En → R Bool := bindR f fun b e => .ok (!b) e
def andV (f g : En → R SV) : En → R SV := bindR f fun sv e => match sv.d with | .bl true => g e | .bl false => .ok ⟨.p, .bl false⟩ e | _ => .stuck
def orV (f g : En → R SV) : En → R SV := bindR f fun sv e => match sv.d with | .bl true => .ok ⟨.p, .bl true⟩ e | .bl false => g e | _ => .stuck
def notV (f : En → R SV) : En → R SV := bindR f fun sv e => match sv.d with | .bl b => .ok ⟨.p, .bl (!b)⟩ e | _ => .stuck
def ifE (c : En → R Bool) (f g : En → R SV) : En → R SV := bindR c fun b e => if b then f e else g e

section
variable {K : PySem.W.Frag} {E : XK} {F : Fm} {env env' : En} {σ : St} {H H' : Hp} {W W' : List Addr} {ta tb tc te : TE} {tt tu : TT}
theorem Sn.go {α β γ δ : Type} {rel : α → Fm → En → St → Hp → List Addr → β → Prop} {rel2 : γ → Fm → En → St → Hp → List Addr → δ → Prop} {t : St → Hp → (β → Hp → Prop) → Prop} {f : En → R α} {k : α → En → R γ} {Q : δ → Hp → Prop} {Q1 : β → Hp → Prop}
    (h : Sn rel K E t f) (r : Rel K F env σ H W) (p : Post rel2 K E F σ H W Q (bindR f k env)) (hk : ∀ e H' W' a v, Rel K F e σ H' W' → Step H W H' W' → rel a F e σ H' W' v → Post rel2 K E F σ H' W' Q (k a e) → Q1 v H') : t σ H Q1 := by
  refine h F env σ H W _ r ?_
  unfold bindR at p
  cases q : f env with
  | ok a e =>
    rw [q] at p
    exact fun v H' W' r' s' hv => hk e H' W' a v r' s' hv (Post.from s' p)
  | exc x e => rw [q] at p; exact p
  | stuck => rw [q] at p; exact p
/-- a new or own thing, kept as read alone -/
theorem keep_fresh {sv : SV} {v : V} (r : Rel K F env σ H W) (h : rV K sv F env σ H W v) : ∃ W', Rel K F env σ H W' ∧ Step H W H W' ∧ Rp K H (W' ++ F.fr) v sv.d := by
  obtain ⟨h1, h2⟩ := h
  rcases h1 with ⟨_, h1⟩ | ⟨np, a, e, ha, ho, _⟩
  · exact ⟨W, r, Step.refl H W, h1⟩
  · subst e
    have s : Step H W H (W.filter fun b => decide (b ≠ a)) := Step.drop a
    refine ⟨_, r.drop a (h2 np).2, s, (ho.mono s.pF s.gF fun _ e => e).rp fun z => ?_⟩
    rcases List.mem_append.mp z with z | z
    · exact drop_mem z rfl
    · exact r.dis a ha z
theorem se_of {f : En → R SV} (h : SF K E te f) : SE K E te (opd f) := by
  intro F env σ H W Q r p
  refine h F env σ H W _ r ?_
  unfold opd bindR at p
  cases q : f env with
  | ok sv e =>
    rw [q] at p
    intro v H' W' r' s' hv
    obtain ⟨W2, r2, s2, h2⟩ := keep_fresh r' hv
    exact p v H' W2 r2 (s'.trans s2) h2
  | exc x e => rw [q] at p; exact p
  | stuck => rw [q] at p; exact p
theorem se_var {i : Nat} : SE K E (tVar i) (varE i) := by
  intro F env σ H W Q r p
  unfold varE at p
  cases q : env.sv i with
  | none => rw [q] at p; exact p.elim
  | some sv =>
    rw [q] at p
    obtain ⟨v, h1, _⟩ := r.sl i sv q
    exact ⟨v, h1, p v H W r (Step.refl H W) h1⟩
theorem sf_const {v : V} {d : D} (h : ∀ K H A, Rp K H A v d) : SF K E (tC v) (constE d) := by
  intro F env σ H W Q r p
  exact p v H W r (Step.refl H W) ⟨.inl ⟨rfl, h _ _ _⟩, fun z => absurd rfl z⟩
theorem sf_int {i : Int} : SF K E (tC (.int i)) (constE (.int i)) := sf_const fun _ _ _ => .int i
theorem sf_bl {b : Bool} : SF K E (tC (.bl b)) (constE (.bl b)) := sf_const fun _ _ _ => .bl b
theorem sf_non : SF K E (tC .non) (constE .non) := sf_const fun _ _ _ => .non
theorem sf_str {x : Str} : SF K E (tC (.str x)) (constE (.str x)) := sf_const fun _ _ _ => .str x
theorem sf_opq {v : V} : SF K E (tC v) (constE (.opq v)) := sf_const fun _ _ _ => .opq v
/-- a constant of the module -/
theorem sf_glob {v : V} {d : D} (h : ∀ H A, Rp K H A v d) : SF K E (tC v) (constE d) := by
  intro F env σ H W Q r p
  exact p v H W r (Step.refl H W) ⟨.inl ⟨rfl, h _ _⟩, fun z => absurd rfl z⟩
theorem pureO_ok (r : Rel K F env σ H W) : ∀ {o : Opd} {v : V} {d : D} {e' : En}, RelO K F σ H W o v → pureO o env = some (d, e') → ∃ W', Rel K F e' σ H W' ∧ Step H W H W' ∧ Rp K H (W' ++ F.fr) v d
  | .val _, v, d, e', h, q => by
    cases q
    exact ⟨W, r, Step.refl H W, h⟩
  | .slot i, v, d, e', h, q => by
    unfold pureO at q
    dsimp only at q
    cases e : env.sv i with
    | none => rw [e] at q; cases q
    | some sv =>
      rw [e] at q
      obtain ⟨fl, x⟩ := sv
      have h' : σ[i]? = some (some v) := h
      obtain ⟨u, h1, h2⟩ := r.sl i _ e
      rw [h'] at h1; cases h1
      cases fl with
      | p =>
        cases q
        rcases h2 with ⟨_, h2⟩ | ⟨n, _⟩
        · exact ⟨W, r, Step.refl H W, h2⟩
        · exact absurd rfl n
      | o =>
        cases q
        rcases h2 with ⟨n, _⟩ | ⟨_, a, e2, _⟩
        · cases n
        · subst e2
          obtain ⟨r2, k⟩ := r.freeze e rfl h'
          exact ⟨_, r2, Step.drop a, k⟩
      | b => cases q
theorem pureL_ok : ∀ {os : List Opd} {vs : List V} {ds : List D} {env e' : En} {W : List Addr}, Rel K F env σ H W → RelOs K F σ H W os vs → pureL os env = some (ds, e') → ∃ W', Rel K F e' σ H W' ∧ Step H W H W' ∧ RpL K H (W' ++ F.fr) vs ds
  | [], _, ds, env, e', W, r, h, q => by
    cases h
    unfold pureL at q
    cases q
    exact ⟨W, r, Step.refl H W, .nil⟩
  | o :: os, _, ds, env, e', W, r, h, q => by
    cases h with
    | cons h1 h2 =>
      unfold pureL at q
      cases e : pureO o env with
      | none => rw [e] at q; cases q
      | some de =>
        obtain ⟨d, e1⟩ := de
        rw [e] at q
        dsimp only at q
        obtain ⟨W1, r1, s1, k1⟩ := pureO_ok r h1 e
        cases e2 : pureL os e1 with
        | none => rw [e2] at q; cases q
        | some dse =>
          obtain ⟨ds', e3⟩ := dse
          rw [e2] at q
          cases q
          obtain ⟨W2, r2, s2, k2⟩ := pureL_ok r1 (h2.step s1) e2
          exact ⟨W2, r2, s1.trans s2, .cons (s2.rp k1) k2⟩
theorem sf_keep {f : En → R Opd} (h : SE K E te f) : SF K E te (keepE f) := by
  intro F env σ H W Q r p
  refine h F env σ H W _ r ?_
  unfold keepE bindR at p
  cases q : f env with
  | ok o e =>
    rw [q] at p
    intro v H' W' r' s' hv
    dsimp only at p
    cases q2 : pureO o e with
    | none => rw [q2] at p; exact p.elim
    | some de =>
      obtain ⟨d, e2⟩ := de
      rw [q2] at p
      obtain ⟨W2, r2, s2, h2⟩ := pureO_ok r' hv q2
      exact p v H' W2 r2 (s'.trans s2) ⟨.inl ⟨rfl, h2⟩, fun z => absurd rfl z⟩
  | exc x e => rw [q] at p; exact p
  | stuck => rw [q] at p; exact p
/-- what an operation's result is asked: a thing that stands, or a new tuple; a new list -/
def ResOk (K : PySem.W.Frag) (H : Hp) (A : List Addr) (Q : VK) (z : SV) : Prop :=
  match z.fl, z.d with
  | .p, d => ∀ w H', (H' = H ∨ ∃ q o, H q = none ∧ H' = upd H q o) → Rp K H' A w d → Q w H'
  | .o, .lst ds => ∀ q vs, H q = none → RpL K H A vs ds → Q (.ref q) (upd H q (.lst vs))
  | _, _ => False
def Op1 (K : PySem.W.Frag) (r : V → Hp → VK → Prop) (g : D → Option SV) : Prop := ∀ H A v d z Q, RdOk K H A v d → g d = some z → ResOk K H A Q z → r v H Q
def Op2 (K : PySem.W.Frag) (r : R2) (g : D → D → Option SV) : Prop := ∀ H A v u d e z Q, RdOk K H A v d → RdOk K H A u e → g d e = some z → ResOk K H A Q z → r v u H Q
inductive RdL (K : PySem.W.Frag) (H : Hp) (A : List Addr) : List V → List D → Prop
  | nil : RdL K H A [] []
  | cons {v : V} {vs : List V} {d : D} {ds : List D} : RdOk K H A v d → RdL K H A vs ds → RdL K H A (v :: vs) (d :: ds)
def OpC (K : PySem.W.Frag) (r : List V → Hp → VK → Prop) (g : List D → Option SV) : Prop := ∀ H A vs ds z Q, RdL K H A vs ds → g ds = some z → ResOk K H A Q z → r vs H Q
/-- from what is wanted of a result to what an operation is asked -/
theorem res_of {z : SV} {Q : VK} (r : Rel K F env σ H W) (p : Post (rV K) K E F σ H W Q (.ok z env)) (ok : z.fl = .p ∨ (z.fl = .o ∧ ∃ ds, z.d = .lst ds)) : ResOk K H (W ++ F.fr) Q z := by
  obtain ⟨fl, d⟩ := z
  rcases ok with e | ⟨e, ds, e2⟩
  · have e' : fl = .p := e
    subst e'
    intro w H' hg h
    rcases hg with rfl | ⟨q, o, hq, rfl⟩
    · exact p w _ W r (Step.refl _ W) ⟨.inl ⟨rfl, h⟩, fun z => absurd rfl z⟩
    · exact p w _ W (r.newP hq) (Step.new hq) ⟨.inl ⟨rfl, h⟩, fun z => absurd rfl z⟩
  · have e' : fl = .o := e
    have e2' : d = .lst ds := e2
    subst e'; subst e2'
    intro q vs hq h
    have s : Step H W (upd H q (.lst vs)) (q :: W) := Step.newW hq
    refine p (.ref q) _ (q :: W) (r.newW hq) s ⟨.inr ⟨by simp, q, rfl, List.mem_cons_self, .lst upd_same (s.rpL h), fun _ => r.trk q hq⟩, fun _ => ⟨rfl, fun j sw ej nj z => ?_⟩⟩
    obtain ⟨v, h1, h2⟩ := r.sl j sw ej
    rw [z] at h1; cases h1
    rcases h2 with ⟨e1, _⟩ | ⟨_, a, e3, ha, _⟩
    · exact nj e1
    · cases e3; exact r.wt _ ha hq
def Fine (z : SV) : Prop := z.fl = .p ∨ (z.fl = .o ∧ ∃ ds, z.d = .lst ds)
theorem sf_op1 {r : V → Hp → VK → Prop} {g : D → Option SV} {fa : En → R Opd} (ho : Op1 K r g) (hf : ∀ d z, g d = some z → Fine z) (ha : SE K E ta fa) : SF K E (tUn r ta) (op1 g fa) := by
  intro F env σ H W Q r p
  refine Sn.go (t := ta) ha r p fun env H W a v rel s rv p => ?_
  cases q : a.get env with
  | none => rw [q] at p; exact p.elim
  | some x =>
    rw [q] at p; dsimp only at p
    cases q2 : g x with
    | none => rw [q2] at p; exact p.elim
    | some z =>
      rw [q2] at p
      exact ho H (W ++ F.fr) v x z Q (rel.get rv q) q2 (res_of rel p (hf _ _ q2))
theorem sf_op2 {r : R2} {g : D → D → Option SV} {fa fb : En → R Opd} (ho : Op2 K r g) (hf : ∀ d e z, g d e = some z → Fine z) (ha : SE K E ta fa) (hb : SE K E tb fb) : SF K E (tOp r ta tb) (op2 g fa fb) := by
  intro F env σ H W Q rel p
  refine ha F env σ H W _ rel ?_
  unfold op2 bindR at p
  cases q : fa env with
  | exc x e => rw [q] at p; exact p
  | stuck => rw [q] at p; exact p
  | ok a e1 =>
    rw [q] at p
    intro v H1 W1 rel1 s1 rv
    dsimp only at p
    refine hb F e1 σ H1 W1 _ rel1 ?_
    cases q1 : fb e1 with
    | exc x e => rw [q1] at p; exact Post.from s1 p
    | stuck => rw [q1] at p; exact p
    | ok b e2 =>
      rw [q1] at p
      intro u H2 W2 rel2 s2 ru
      dsimp only at p
      have rv2 := RelO.step s2 rv
      cases q2 : a.get e2 with
      | none => rw [q2] at p; exact p.elim
      | some x =>
        cases q3 : b.get e2 with
        | none => rw [q2, q3] at p; exact p.elim
        | some y =>
          rw [q2, q3] at p; dsimp only at p
          cases q4 : g x y with
          | none => rw [q4] at p; exact p.elim
          | some z =>
            rw [q4] at p
            exact ho H2 (W2 ++ F.fr) v u x y z Q (rel2.get rv2 q2) (rel2.get ru q3) q4 (res_of rel2 (Post.from (s1.trans s2) p) (hf _ _ _ q4))
theorem getL_ok (r : Rel K F env σ H W) : ∀ {os : List Opd} {vs : List V} {ds : List D}, RelOs K F σ H W os vs → getL os env = some ds → RdL K H (W ++ F.fr) vs ds
  | _, _, _, .nil, q => by unfold getL at q; cases q; exact .nil
  | _, _, ds, .cons (o := o) (os := os) h t, q => by
    unfold getL at q
    cases e : o.get env with
    | none => rw [e] at q; cases q
    | some d =>
      cases e2 : getL os env with
      | none => rw [e, e2] at q; cases q
      | some ds' =>
        rw [e, e2] at q; cases q
        exact .cons (r.get h e) (getL_ok r t e2)
theorem sa_nil : SA K E tNil nilA := fun F env σ H W Q r p => p [] H W r (Step.refl H W) .nil
theorem sa_cons {fa : En → R Opd} {fr : En → R (List Opd)} {tr : TA} (ha : SE K E ta fa) (hr : SA K E tr fr) : SA K E (tCons ta tr) (consA fa fr) := by
  intro F env σ H W Q r p
  refine Sn.go (t := ta) ha r p fun env H W a v rel s rv p => ?_
  refine hr F env σ H W _ rel ?_
  unfold bindR at p
  cases q : fr env with
  | exc x e => rw [q] at p; exact p
  | stuck => rw [q] at p; exact p
  | ok as e =>
    rw [q] at p
    exact fun vs H' W' r' s' h => p (v :: vs) H' W' r' s' (.cons (RelO.step s' rv) h)
theorem sf_callB {r : List V → Hp → VK → Prop} {g : List D → Option SV} {fa : En → R (List Opd)} {t : TA} (ho : OpC K r g) (hf : ∀ d z, g d = some z → Fine z) (ha : SA K E t fa) : SF K E (tCB r t) (callB g fa) := by
  intro F env σ H W Q r p
  refine Sn.go (t := t) ha r p fun env H W as vs rel s rv p => ?_
  cases q : getL as env with
  | none => rw [q] at p; exact p.elim
  | some xs =>
    rw [q] at p; dsimp only at p
    cases q2 : g xs with
    | none => rw [q2] at p; exact p.elim
    | some z =>
      rw [q2] at p
      exact ho H (W ++ F.fr) vs xs z Q (getL_ok rel rv q) q2 (res_of rel p (hf _ _ q2))
theorem sz_of {n : Nat} (h : n ≤ 100000) : n ≤ sizeLine := Nat.le_trans h (by decide)
theorem sz_lt {n : Nat} (h : n < 100000) : n < sizeLine := Nat.lt_of_lt_of_le h (by decide)
theorem sf_tup {fa : En → R (List Opd)} {t : TA} (ha : SA K E t fa) : SF K E (tTup t) (tupE fa) := by
  intro F env σ H W Q r p
  refine Sn.go (t := t) ha r p fun env H W as vs rel s rv p => ?_
  cases q : pureL as env with
  | none => rw [q] at p; exact p.elim
  | some de =>
    obtain ⟨ds, e'⟩ := de
    rw [q] at p; dsimp only at p
    obtain ⟨W1, r1, s1, k1⟩ := pureL_ok rel rv q
    by_cases hz : ds.length ≤ 100000
    · rw [if_pos hz] at p
      refine ⟨sz_of (by rw [k1.length]; exact hz), fun a ha => ?_⟩
      have s2 : Step H W1 (upd H a (.tup vs)) W1 := Step.new ha
      refine p (.ref a) _ W1 (r1.newP ha) (s1.trans s2) ⟨.inl ⟨rfl, .tup ⟨fun z => ?_, upd_same⟩ (s2.rpL k1)⟩, fun z => absurd rfl z⟩
      rcases List.mem_append.mp z with z | z
      · exact r1.wt a z ha
      · exact r1.frt a z ha
    · rw [if_neg hz] at p; exact p.elim
theorem sf_lst {fa : En → R (List Opd)} {t : TA} (ha : SA K E t fa) : SF K E (tLst t) (lstE fa) := by
  intro F env σ H W Q r p
  refine Sn.go (t := t) ha r p fun env H W as vs rel s rv p => ?_
  cases q : pureL as env with
  | none => rw [q] at p; exact p.elim
  | some de =>
    obtain ⟨ds, e'⟩ := de
    rw [q] at p; dsimp only at p
    obtain ⟨W1, r1, s1, k1⟩ := pureL_ok rel rv q
    by_cases hz : ds.length ≤ 100000
    · rw [if_pos hz] at p
      refine ⟨sz_of (by rw [k1.length]; exact hz), fun a ha => ?_⟩
      exact (res_of r1 (Post.from s1 p) (.inr ⟨rfl, ds, rfl⟩)) a vs ha k1
    · rw [if_neg hz] at p; exact p.elim
/-- tests -/
theorem rV_bl {b : Bool} {sv : SV} {v : V} (h : rV K sv F env σ H W v) (e : sv.d = .bl b) : v = .bl b := by
  rcases h.1 with ⟨_, h⟩ | ⟨_, a, _, _, h, _⟩
  · rw [e] at h; cases h; rfl
  · rw [e] at h; cases h
theorem sb_val {f : En → R SV} (h : SF K E te f) : SB K E (fun σ H Q => te σ H fun x H1 => ∃ c, x = .bl c ∧ Q c H1) (testV f) := by
  intro F env σ H W Q r p
  refine Sn.go (t := te) h r p fun env H W sv v rel s rv p => ?_
  cases q : sv.d with
  | bl b =>
    rw [q] at p
    exact ⟨b, rV_bl rv q, p b H W rel (Step.refl H W) rfl⟩
  | _ => rw [q] at p; exact p.elim
theorem sb_B {f : En → R SV} (h : SF K E te f) : SB K E (tB te) (testV f) := sb_val h
theorem sb_test {f : En → R SV} (h : SF K E te f) : SB K E (tTest te) (testV f) := sb_val h
theorem sb_and {f g : En → R Bool} (h1 : SB K E tt f) (h2 : SB K E tu g) : SB K E (tAnd tt tu) (andT f g) := by
  intro F env σ H W Q r p
  refine Sn.go (t := tt) h1 r p fun env H W a b rel s rv p => ?_
  have e : a = b := rv
  subst e
  cases a with
  | true => exact h2 F env σ H W Q rel p
  | false => exact p false H W rel (Step.refl H W) rfl
theorem sb_or {f g : En → R Bool} (h1 : SB K E tt f) (h2 : SB K E tu g) : SB K E (tOr tt tu) (orT f g) := by
  intro F env σ H W Q r p
  refine Sn.go (t := tt) h1 r p fun env H W a b rel s rv p => ?_
  have e : a = b := rv
  subst e
  cases a with
  | true => exact p true H W rel (Step.refl H W) rfl
  | false => exact h2 F env σ H W Q rel p
theorem sb_not {f : En → R Bool} (h1 : SB K E tt f) : SB K E (tNot tt) (notT f) := by
  intro F env σ H W Q r p
  refine Sn.go (t := tt) h1 r p fun env H W a b rel s rv p => ?_
  have e : a = b := rv
  subst e
  exact p _ H W rel (Step.refl H W) rfl
theorem sb_yes : SB K E tYes (fun e => .ok true e) := fun F env σ H W Q r p => p true H W r (Step.refl H W) rfl
theorem sf_pbl (rel : Rel K F env σ H W) {b : Bool} {Q : VK} (p : Post (rV K) K E F σ H W Q (.ok ⟨.p, .bl b⟩ env)) : Q (.bl b) H := p _ H W rel (Step.refl H W) ⟨.inl ⟨rfl, .bl b⟩, fun z => absurd rfl z⟩
theorem sf_and {f g : En → R SV} (h1 : SF K E ta f) (h2 : SF K E tb g) : SF K E (tAndV ta tb) (andV f g) := by
  intro F env σ H W Q r p
  refine Sn.go (t := ta) h1 r p fun env H W sv v rel s rv p => ?_
  cases q : sv.d with
  | bl b =>
    rw [q] at p
    refine ⟨b, rV_bl rv q, ?_⟩
    cases b with
    | true => exact h2 F env σ H W Q rel p
    | false => exact sf_pbl rel p
  | _ => rw [q] at p; exact p.elim
theorem sf_or {f g : En → R SV} (h1 : SF K E ta f) (h2 : SF K E tb g) : SF K E (tOrV ta tb) (orV f g) := by
  intro F env σ H W Q r p
  refine Sn.go (t := ta) h1 r p fun env H W sv v rel s rv p => ?_
  cases q : sv.d with
  | bl b =>
    rw [q] at p
    refine ⟨b, rV_bl rv q, ?_⟩
    cases b with
    | true => exact sf_pbl rel p
    | false => exact h2 F env σ H W Q rel p
  | _ => rw [q] at p; exact p.elim
theorem sf_not {f : En → R SV} (h1 : SF K E ta f) : SF K E (tNotV ta) (notV f) := by
  intro F env σ H W Q r p
  refine Sn.go (t := ta) h1 r p fun env H W sv v rel s rv p => ?_
  cases q : sv.d with
  | bl b =>
    rw [q] at p
    exact ⟨b, rV_bl rv q, sf_pbl rel p⟩
  | _ => rw [q] at p; exact p.elim
theorem sf_if {c : En → R Bool} {f g : En → R SV} (hc : SB K E tt c) (h1 : SF K E ta f) (h2 : SF K E tb g) : SF K E (tIf tt ta tb) (ifE c f g) := by
  intro F env σ H W Q r p
  refine Sn.go (t := tt) hc r p fun env H W a b rel s rv p => ?_
  have e : a = b := rv
  subst e
  cases a with
  | true => exact h1 F env σ H W Q rel p
  | false => exact h2 F env σ H W Q rel p
end
end DL

namespace DL
open PySem L2

inductive RS where
  | nx (e : En) | ret (sv : SV) (e : En) | bk (e : En) | ct (e : En) | exc (x : Xc) (e : En) | stuck
def PostS (K : PySem.W.Frag) (E : XK) (F : Fm) (H : Hp) (W : List Addr) (T : Ends) : RS → Prop
  | .nx e => ∀ σ' H' W', Rel K F e σ' H' W' → Step H W H' W' → T.nx σ' H'
  | .bk e => ∀ σ' H' W', Rel K F e σ' H' W' → Step H W H' W' → T.bk σ' H'
  | .ct e => ∀ σ' H' W', Rel K F e σ' H' W' → Step H W H' W' → T.ct σ' H'
  | .ret sv e => ∀ v σ' H' W', Rel K F e σ' H' W' → Step H W H' W' → rV K sv F e σ' H' W' v → T.rt v H'
  | .exc x e => ∀ c d σ' H' W', Rel K F e σ' H' W' → Step H W H' W' → XOk K F H' W' x c d → E c d H'
  | .stuck => False
def SS (K : PySem.W.Frag) (E : XK) (t : TS) (f : En → RS) : Prop := ∀ F env σ H W T, Rel K F env σ H W → PostS K E F H W T (f env) → t T σ H
theorem PostS.from {K : PySem.W.Frag} {E : XK} {F : Fm} {H H1 : Hp} {W W1 : List Addr} {T : Ends} (s : Step H W H1 W1) : ∀ {r : RS}, PostS K E F H W T r → PostS K E F H1 W1 T r
  | .nx _, h => fun σ' H' W' r q => h σ' H' W' r (s.trans q)
  | .bk _, h => fun σ' H' W' r q => h σ' H' W' r (s.trans q)
  | .ct _, h => fun σ' H' W' r q => h σ' H' W' r (s.trans q)
  | .ret _ _, h => fun v σ' H' W' r q => h v σ' H' W' r (s.trans q)
  | .exc _ _, h => fun c d σ' H' W' r q => h c d σ' H' W' r (s.trans q)
  | .stuck, h => h

def seqS (f g : En → RS) : En → RS := fun e => match f e with
  | .nx e' => g e'
  | .ret sv e' => .ret sv e'
  | .bk e' => .bk e'
  | .ct e' => .ct e'
  | .exc x e' => .exc x e'
  | .stuck => .stuck
def bindS {α : Type} (f : En → R α) (k : α → En → RS) : En → RS := fun e => match f e with
  | .ok a e' => k a e'
  | .exc x e' => .exc x e'
  | .stuck => .stuck
def ifS (c : En → R Bool) (f g : En → RS) : En → RS := bindS c fun b e => if b then f e else g e
def setS (i : Nat) (f : En → R SV) : En → RS := bindS f fun sv e => match sv.fl with
  | .b => .stuck
  | _ => if i < e.length then .nx (e.set i (some sv)) else .stuck
def dropS (f : En → R SV) : En → RS := bindS f fun _ e => .nx e
def retS (f : En → R SV) : En → RS := bindS f fun sv e => .ret sv e
/-- return x: a list of one's own goes out as the asker's own -/
def retVarS (i : Nat) : En → RS := fun e => match e.sv i with
  | some ⟨.p, d⟩ => .ret ⟨.p, d⟩ e
  | some ⟨.o, d⟩ => .ret ⟨.o, d⟩ (e.set i none)
  | _ => .stuck
def asgS (asg : D → En → Option En) (f : En → R SV) : En → RS := bindS f fun sv e => match asg sv.d e with
  | some e' => .nx e'
  | none => .stuck
/-- a source that is walked: its items; a lent list, by its slot, must stay -/
structure Src where
  ds : List D
  grd : Option Nat
def Grd (s : Src) (e : En) : Prop := match s.grd with
  | none => True
  | some j => e.sv j = some ⟨.b, .lst s.ds⟩
open Classical in
noncomputable def loopS (s : Src) (asg : D → En → Option En) (body : En → RS) : List D → En → RS
  | [], e => if Grd s e then .nx e else .stuck
  | d :: ds, e => if Grd s e then (match asg d e with
    | none => .stuck
    | some e1 => match body e1 with
      | .nx e2 => loopS s asg body ds e2
      | .ct e2 => loopS s asg body ds e2
      | .bk e2 => .nx e2
      | .ret sv e2 => .ret sv e2
      | .exc x e2 => .exc x e2
      | .stuck => .stuck) else .stuck
noncomputable def forS (fs : En → R Src) (asg : D → En → Option En) (body : En → RS) : En → RS := bindS fs fun s e => loopS s asg body s.ds e
def whileL (c : En → R Bool) (body : En → RS) : Nat → En → RS
  | 0, _ => .stuck
  | n + 1, e => match c e with
    | .ok true e1 => (match body e1 with
      | .nx e2 => whileL c body n e2
      | .ct e2 => whileL c body n e2
      | .bk e2 => .nx e2
      | .ret sv e2 => .ret sv e2
      | .exc x e2 => .exc x e2
      | .stuck => .stuck)
    | .ok false e1 => .nx e1
    | .exc x e1 => .exc x e1
    | .stuck => .stuck
open Classical in
noncomputable def whileS (c : En → R Bool) (body : En → RS) : En → RS := fun e => if h : ∃ n r, whileL c body n e = r ∧ r ≠ .stuck then whileL c body (Classical.choose h) e else .stuck

def wipeE (e : En) : List Nat → En
  | [] => e
  | v :: vs => (wipeE e vs).set v none
/-- behind a comprehension the names that it hid -/
def restE (e e' : En) : List Nat → En
  | [] => e'
  | v :: vs => (restE e e' vs).set v (match e.sv v with | some ⟨.p, d⟩ => some ⟨.p, d⟩ | _ => none)
open Classical in
noncomputable def compLoop (s : Src) (vs : List Nat) (asg : D → En → Option En) (test : En → R Bool) (elt : En → R Opd) : List D → En → List D → R (List D)
  | [], e, acc => if Grd s e then .ok acc e else .stuck
  | d :: ds, e, acc => if Grd s e then (match asg d e with
    | none => .stuck
    | some e1 => match test e1 with
      | .ok true e2 => (match elt e2 with
        | .ok o e3 => (match pureO o e3 with
          | some (y, e4) => if acc.length < 100000 then compLoop s vs asg test elt ds (wipeE e4 vs) (acc ++ [y]) else .stuck
          | none => .stuck)
        | _ => .stuck)
      | .ok false e2 => compLoop s vs asg test elt ds (wipeE e2 vs) acc
      | _ => .stuck) else .stuck
noncomputable def compE (fs : En → R Src) (vs : List Nat) (asg : D → En → Option En) (test : En → R Bool) (elt : En → R Opd) : En → R SV := bindR fs fun s e =>
  match compLoop s vs asg test elt s.ds (wipeE e vs) [] with
  | .ok acc e' => .ok ⟨.o, .lst acc⟩ (restE e e' vs)
  | _ => .stuck

section
variable {K : PySem.W.Frag} {E : XK} {F : Fm} {env env' : En} {σ σ' : St} {H H' : Hp} {W W' : List Addr} {ta tb tc te : TE} {tt tu : TT} {ts tr : TS}
theorem Sn.goS {α β : Type} {rel : α → Fm → En → St → Hp → List Addr → β → Prop} {t : St → Hp → (β → Hp → Prop) → Prop} {f : En → R α} {k : α → En → RS} {T : Ends} {Q1 : β → Hp → Prop}
    (h : Sn rel K E t f) (r : Rel K F env σ H W) (p : PostS K E F H W T (bindS f k env)) (hk : ∀ e H' W' a v, Rel K F e σ H' W' → Step H W H' W' → rel a F e σ H' W' v → PostS K E F H' W' T (k a e) → Q1 v H') : t σ H Q1 := by
  refine h F env σ H W _ r ?_
  unfold bindS at p
  cases q : f env with
  | ok a e =>
    rw [q] at p
    exact fun v H' W' r' s' hv => hk e H' W' a v r' s' hv (PostS.from s' p)
  | exc x e => rw [q] at p; exact fun c d H' W' r' s' hx => p c d σ H' W' r' s' hx
  | stuck => rw [q] at p; exact p
theorem ss_nil : SS K E tNext .nx := fun F env σ H W T r p => p σ H W r (Step.refl H W)
theorem ss_break : SS K E tBreak .bk := fun F env σ H W T r p => p σ H W r (Step.refl H W)
theorem ss_cont : SS K E tCont .ct := fun F env σ H W T r p => p σ H W r (Step.refl H W)
theorem ss_never : SS K E tNever (fun _ => .stuck) := fun F env σ H W T r p => p
theorem ss_seq {f g : En → RS} (h1 : SS K E ts f) (h2 : SS K E tr g) : SS K E (tSeq ts tr) (seqS f g) := by
  intro F env σ H W T r p
  refine h1 F env σ H W _ r ?_
  unfold seqS at p
  cases q : f env with
  | nx e => rw [q] at p; exact fun σ' H' W' r' s' => h2 F e σ' H' W' T r' (PostS.from s' p)
  | ret sv e => rw [q] at p; exact p
  | bk e => rw [q] at p; exact p
  | ct e => rw [q] at p; exact p
  | exc x e => rw [q] at p; exact p
  | stuck => rw [q] at p; exact p
theorem ss_if {c : En → R Bool} {f g : En → RS} (hc : SB K E tt c) (h1 : SS K E ts f) (h2 : SS K E tr g) : SS K E (tIfS tt ts tr) (ifS c f g) := by
  intro F env σ H W T r p
  refine Sn.goS (t := tt) hc r p fun e H W a b rel s rv p => ?_
  have e : a = b := rv
  subst e
  cases a with
  | true => exact h1 F _ σ H W T rel p
  | false => exact h2 F _ σ H W T rel p
theorem ss_set {i : Nat} {f : En → R SV} (h : SF K E te f) : SS K E (tAsg te (gName i)) (setS i f) := by
  intro F env σ H W T r p
  refine Sn.goS (t := te) h r p fun e H W sv v rel s rv p => ?_
  obtain ⟨fl, d⟩ := sv
  have key : ∀ nb : fl ≠ .b, PostS K E F H W T (if i < e.length then .nx (e.set i (some ⟨fl, d⟩)) else .stuck) → gName i v σ H T.nx := fun nb p => by
    by_cases hi : i < e.length
    · rw [if_pos hi] at p
      exact p _ H W (rel.store hi rv.1 nb fun np => (rv.2 np).2) (Step.refl H W)
    · rw [if_neg hi] at p; exact p.elim
  cases fl with
  | p => exact key (by decide) p
  | o => exact key (by decide) p
  | b => exact p.elim
theorem ss_drop {f : En → R SV} (h : SF K E te f) : SS K E (tDrop te) (dropS f) := by
  intro F env σ H W T r p
  exact Sn.goS (t := te) h r p fun e H W sv v rel s rv p => p σ H W rel (Step.refl H W)
theorem ss_ret {f : En → R SV} (h : SF K E te f) : SS K E (tRet te) (retS f) := by
  intro F env σ H W T r p
  exact Sn.goS (t := te) h r p fun e H W sv v rel s rv p => p v σ H W rel (Step.refl H W) rv
theorem ss_retN : SS K E tRetN (fun e => .ret ⟨.p, .non⟩ e) := fun F env σ H W T r p => p .non σ H W r (Step.refl H W) ⟨.inl ⟨rfl, .non⟩, fun z => absurd rfl z⟩
/-- a slot forgotten -/
theorem Rel.forget (r : Rel K F env σ H W) {i : Nat} (hi : i < env.length) : Rel K F (env.set i none) σ H W where
  len := by simp [r.len]
  sl := fun j sw e => by
    rw [En.sv_set hi] at e
    by_cases hj : j = i
    · rw [if_pos hj] at e; cases e
    · rw [if_neg hj] at e; exact r.sl j sw e
  inj := fun j k sj sk a ej ek nj nk e1 e2 => by
    rw [En.sv_set hi] at ej ek
    by_cases hj : j = i
    · rw [if_pos hj] at ej; cases ej
    · by_cases hk : k = i
      · rw [if_pos hk] at ek; cases ek
      · rw [if_neg hj] at ej; rw [if_neg hk] at ek
        exact r.inj j k sj sk a ej ek nj nk e1 e2
  bor := fun j sw e b => by
    rw [En.sv_set hi] at e
    by_cases hj : j = i
    · rw [if_pos hj] at e; cases e
    · rw [if_neg hj] at e; exact r.bor j sw e b
  trk := r.trk
  frt := r.frt
  dis := r.dis
  wt := r.wt
theorem ss_retVar {i : Nat} : SS K E (tRet (tVar i)) (retVarS i) := by
  intro F env σ H W T r p
  unfold retVarS at p
  cases q : env.sv i with
  | none => rw [q] at p; exact p.elim
  | some sv =>
    obtain ⟨fl, d⟩ := sv
    rw [q] at p
    obtain ⟨v, h1, h2⟩ := r.sl i _ q
    refine ⟨v, h1, ?_⟩
    cases fl with
    | p => exact p v σ H W r (Step.refl H W) ⟨h2, fun z => absurd rfl z⟩
    | b => exact p.elim
    | o =>
      refine p v σ H W (r.forget (En.sv_lt q)) (Step.refl H W) ⟨h2, fun _ => ⟨rfl, fun j sw e nj z => ?_⟩⟩
      rw [En.sv_set (En.sv_lt q)] at e
      by_cases hj : j = i
      · rw [if_pos hj] at e; cases e
      · rw [if_neg hj] at e
        rcases h2 with ⟨n, _⟩ | ⟨_, a, e2, _⟩
        · cases n
        · subst e2
          exact hj (r.inj j i sw _ a e q nj (by simp) z h1)
/-- targets: a plain assignment of data that is read alone; the slots is alone are stored -/
def Agree (is : List Nat) (σ σ' : St) : Prop := σ'.length = σ.length ∧ ∀ j, j ∉ is → σ'[j]? = σ[j]?
theorem Agree.refl (is : List Nat) (σ : St) : Agree is σ σ := ⟨rfl, fun _ _ => rfl⟩
def SG (K : PySem.W.Frag) (g : TG) (is : List Nat) (asg : D → En → Option En) : Prop := ∀ F env σ H W v d env' (Q : St → Hp → Prop), Rel K F env σ H W → Rp K H (W ++ F.fr) v d → asg d env = some env' →
  (∀ σ' H' W', Rel K F env' σ' H' W' → Step H W H' W' → Agree is σ σ' → Q σ' H') → g v σ H Q
def SGs (K : PySem.W.Frag) (g : TGs) (is : List Nat) (asg : List D → En → Option En) : Prop := ∀ F env σ H W v d env' (Q : St → Hp → Prop), Rel K F env σ H W → RpL K H (W ++ F.fr) v d → asg d env = some env' →
  (∀ σ' H' W', Rel K F env' σ' H' W' → Step H W H' W' → Agree is σ σ' → Q σ' H') → g v σ H Q
def nameG (i : Nat) : D → En → Option En := fun d e => if i < e.length then some (e.set i (some ⟨.p, d⟩)) else none
def nilG : List D → En → Option En := fun ds e => match ds with | [] => some e | _ => none
def consG (g : D → En → Option En) (gs : List D → En → Option En) : List D → En → Option En := fun ds e => match ds with
  | [] => none
  | d :: r => match g d e with | some e1 => gs r e1 | none => none
def tupG (n : Nat) (gs : List D → En → Option En) : D → En → Option En := fun d e => match d with
  | .tup ds => if ds.length = n then gs ds e else none
  | _ => none
theorem sg_name {i : Nat} : SG K (gName i) [i] (nameG i) := by
  intro F env σ H W v d env' Q r h e k
  unfold nameG at e
  by_cases hi : i < env.length
  · rw [if_pos hi] at e; cases e
    refine k _ H W (r.store (sv := ⟨.p, d⟩) hi (.inl ⟨rfl, h⟩) (by simp) fun z => absurd rfl z) (Step.refl H W) ⟨by simp, fun j hj => ?_⟩
    rw [List.getElem?_set_ne (fun z => hj (by rw [← z]; simp))]
  · rw [if_neg hi] at e; cases e
theorem sgs_nil : SGs K gNil [] nilG := by
  intro F env σ H W v d env' Q r h e k
  cases h with
  | nil => cases e; exact ⟨rfl, k σ H W r (Step.refl H W) (Agree.refl _ _)⟩
  | cons _ _ => cases e
theorem sgs_cons {g : TG} {gs : TGs} {is js : List Nat} {a : D → En → Option En} {as : List D → En → Option En} (h1 : SG K g is a) (h2 : SGs K gs js as) : SGs K (gCons g gs) (is ++ js) (consG a as) := by
  intro F env σ H W v d env' Q r h e k
  cases h with
  | nil => cases e
  | cons p q =>
    rename_i v0 vs0 d0 ds0
    unfold consG at e
    dsimp only at e
    cases e1 : a d0 env with
    | none => rw [e1] at e; cases e
    | some en1 =>
      rw [e1] at e
      refine ⟨_, _, rfl, h1 F env σ H W _ _ en1 _ r p e1 fun σ1 H1 W1 r1 s1 a1 => ?_⟩
      refine h2 F en1 σ1 H1 W1 _ _ env' _ r1 (s1.rpL q) e fun σ2 H2 W2 r2 s2 a2 => ?_
      refine k σ2 H2 W2 r2 (s1.trans s2) ⟨a2.1.trans a1.1, fun j hj => ?_⟩
      rw [a2.2 j fun z => hj (List.mem_append_right _ z), a1.2 j fun z => hj (List.mem_append_left _ z)]
theorem sg_tup {n : Nat} {gs : TGs} {is : List Nat} {as : List D → En → Option En} (h : SGs K gs is as) : SG K (gTup K n gs) is (tupG n as) := by
  intro F env σ H W v d env' Q r hv e k
  cases hv with
  | tup hs hl =>
    unfold tupG at e
    dsimp only at e
    rename_i a xs ds
    by_cases hn : ds.length = n
    · rw [if_pos hn] at e
      exact ⟨_, _, rfl, hs.sq, hl.length.trans hn, h F env σ H W _ _ env' Q r hl e k⟩
    · rw [if_neg hn] at e; cases e
  | _ => cases e
theorem ss_asg {g : TG} {is : List Nat} {asg : D → En → Option En} {f : En → R SV} (h : SF K E te f) (hg : SG K g is asg) : SS K E (tAsg te g) (asgS asg f) := by
  intro F env σ H W T r p
  refine Sn.goS (t := te) h r p fun e H W sv v rel s rv p => ?_
  obtain ⟨W2, r2, s2, h2⟩ := keep_fresh rel rv
  cases q : asg sv.d e with
  | none => rw [q] at p; exact p.elim
  | some e2 =>
    rw [q] at p
    exact hg F e σ H W2 v sv.d e2 _ r2 h2 q fun σ' H' W' r' s' _ => p σ' H' W' r' (s2.trans s')

def ItOk (K : PySem.W.Frag) (s0 : St) (s : Src) (A : List Addr) (H : Hp) (J : It) : Prop :=
  ∀ A' H', (∀ a o, a ∉ A → H a = some o → H' a = some o) → (∀ a, a ∈ A' → a ∈ A ∨ H a = none) → (∀ a ∈ A', H' a ≠ none) →
    (∀ j, s.grd = some j → ∃ a, s0[j]? = some (some (.ref a)) ∧ Ow K H' A' a (.lst s.ds)) →
    (∀ i d, s.ds[i]? = some d → J.go i H' ∧ ∀ x H'', J.yld i H' x H'' → (H'' = H' ∨ ∃ q o, H' q = none ∧ H'' = upd H' q o) ∧ Rp K H'' A' x d) ∧ (∀ i, s.ds.length ≤ i → J.stop i H')
def rI (K : PySem.W.Frag) : Src → Fm → En → St → Hp → List Addr → It → Prop := fun s F _ _ H W J => ItOk K F.s0 s (W ++ F.fr) H J
abbrev SI (K : PySem.W.Frag) (E : XK) (t : TI) (f : En → R Src) : Prop := Sn (rI K) K E t f
theorem Rel.all (r : Rel K F env σ H W) : ∀ a ∈ W ++ F.fr, H a ≠ none := fun a z => (List.mem_append.mp z).elim (r.wt a) (r.frt a)
theorem Rel.grd (r : Rel K F env σ H W) {s : Src} (g : Grd s env) : ∀ j, s.grd = some j → ∃ a, F.s0[j]? = some (some (.ref a)) ∧ Ow K H (W ++ F.fr) a (.lst s.ds) := fun j e => by
  unfold Grd at g
  rw [e] at g
  dsimp only at g
  obtain ⟨v, h1, h2⟩ := r.sl j _ g
  rcases h2 with ⟨n, _⟩ | ⟨_, a, e2, _, ho, _⟩
  · cases n
  · subst e2
    exact ⟨a, by rw [← r.bor j _ g rfl]; exact h1, ho⟩
theorem Rel.grown (r : Rel K F env σ H W) (h : H' = H ∨ ∃ q o, H q = none ∧ H' = upd H q o) : Rel K F env σ H' W ∧ Step H W H' W := by
  rcases h with rfl | ⟨q, o, hq, rfl⟩
  · exact ⟨r, Step.refl _ W⟩
  · exact ⟨r.newP hq, Step.new hq⟩
theorem ss_for {wi : TI} {g : TG} {is : List Nat} {asg : D → En → Option En} {fs : En → R Src} {body : En → RS} (hi : SI K E wi fs) (hg : SG K g is asg) (hb : SS K E ts body) : SS K E (tFor wi g ts) (forS fs asg body) := by
  intro F env σ H W T r p
  refine Sn.goS (t := wi) hi r p fun e H1 W1 s J rel _ it p => ?_
  refine ⟨fun i m σ' H' => m = s.ds.length - i ∧ i ≤ s.ds.length ∧ ∃ en W', Rel K F en σ' H' W' ∧ Step H1 W1 H' W' ∧ PostS K E F H' W' T (loopS s asg body (s.ds.drop i) en), ⟨s.ds.length, by simp, Nat.zero_le _, e, W1, rel, Step.refl _ _, by simpa using p⟩, ?_⟩
  rintro i m σ2 H2 ⟨rfl, hi, en, W2, r2, s2, p2⟩
  by_cases hlt : i < s.ds.length
  · rw [List.drop_eq_getElem_cons hlt] at p2
    unfold loopS at p2
    by_cases hG : Grd s en
    · rw [if_pos hG] at p2
      obtain ⟨k1, k2⟩ := it (W2 ++ F.fr) H2 s2.pF s2.gF r2.all (r2.grd hG)
      obtain ⟨go, yl⟩ := k1 i _ (List.getElem?_eq_getElem hlt)
      refine .inr ⟨go, fun σ' H' => s.ds.length - (i + 1) < s.ds.length - i ∧ i + 1 ≤ s.ds.length ∧ ∃ en W', Rel K F en σ' H' W' ∧ Step H1 W1 H' W' ∧ PostS K E F H' W' T (loopS s asg body (s.ds.drop (i + 1)) en), fun σ' H' ⟨q1, q2, q3⟩ => ⟨_, q1, rfl, q2, q3⟩, fun x H3 y => ?_⟩
      obtain ⟨gr, rx⟩ := yl x H3 y
      obtain ⟨r3, s3⟩ := r2.grown gr
      cases ea : asg s.ds[i] en with
      | none => rw [ea] at p2; exact p2.elim
      | some e1 =>
        rw [ea] at p2; dsimp only at p2
        refine hg F en σ2 H3 W2 x _ e1 _ r3 rx ea fun σ4 H4 W4 r4 s4 _ => hb F e1 σ4 H4 W4 _ r4 ?_
        have s24 := s3.trans s4
        cases q : body e1 with
        | nx e2 => rw [q] at p2; exact fun σ5 H5 W5 r5 s5 => ⟨by omega, by omega, e2, W5, r5, s2.trans (s24.trans s5), PostS.from (s24.trans s5) p2⟩
        | ct e2 => rw [q] at p2; exact fun σ5 H5 W5 r5 s5 => ⟨by omega, by omega, e2, W5, r5, s2.trans (s24.trans s5), PostS.from (s24.trans s5) p2⟩
        | bk e2 => rw [q] at p2; exact fun σ5 H5 W5 r5 s5 => p2 σ5 H5 W5 r5 (s24.trans s5)
        | ret sv e2 => rw [q] at p2; exact fun v σ5 H5 W5 r5 s5 => p2 v σ5 H5 W5 r5 (s24.trans s5)
        | exc x e2 => rw [q] at p2; exact fun c d σ5 H5 W5 r5 s5 => p2 c d σ5 H5 W5 r5 (s24.trans s5)
        | stuck => rw [q] at p2; exact p2.elim
    · rw [if_neg hG] at p2; exact p2.elim
  · have e0 : i = s.ds.length := by omega
    subst e0
    rw [List.drop_length] at p2
    unfold loopS at p2
    by_cases hG : Grd s en
    · rw [if_pos hG] at p2
      obtain ⟨_, k2⟩ := it (W2 ++ F.fr) H2 s2.pF s2.gF r2.all (r2.grd hG)
      exact .inl ⟨k2 _ (Nat.le_refl _), p2 σ2 H2 W2 r2 (Step.refl _ _)⟩
    · rw [if_neg hG] at p2; exact p2.elim
theorem ss_whileL {c : En → R Bool} {body : En → RS} (hc : SB K E tt c) (hb : SS K E ts body) (n : Nat) {T : Ends} (r : Rel K F env σ H W) (p : PostS K E F H W T (whileL c body n env)) : tWhile tt ts T σ H := by
  refine ⟨fun m σ' H' => ∃ en W', Rel K F en σ' H' W' ∧ Step H W H' W' ∧ PostS K E F H' W' T (whileL c body m en), ⟨n, env, W, r, Step.refl _ _, p⟩, ?_⟩
  rintro m σ2 H2 ⟨en, W2, r2, s2, p2⟩
  cases m with
  | zero => exact p2.elim
  | succ m =>
    unfold whileL at p2
    refine hc F en σ2 H2 W2 _ r2 ?_
    cases q : c en with
    | exc x e => rw [q] at p2; exact fun c d H' W' r' s' hx => p2 c d σ2 H' W' r' s' hx
    | stuck => rw [q] at p2; exact p2
    | ok b e1 =>
      rw [q] at p2
      intro b' H3 W3 r3 s3 eb
      have eb' : b = b' := eb
      subst eb'
      cases b with
      | false =>
        show T.nx σ2 H3
        exact p2 σ2 H3 W3 r3 s3
      | true =>
        dsimp only at p2
        refine ⟨fun σ' H' => ∃ en W', Rel K F en σ' H' W' ∧ Step H W H' W' ∧ PostS K E F H' W' T (whileL c body m en), fun σ' H' z => ⟨m, Nat.lt_succ_self m, z⟩, hb F e1 σ2 H3 W3 _ r3 ?_⟩
        cases q : body e1 with
        | nx e2 => rw [q] at p2; exact fun σ5 H5 W5 r5 s5 => ⟨e2, W5, r5, s2.trans (s3.trans s5), PostS.from (s3.trans s5) p2⟩
        | ct e2 => rw [q] at p2; exact fun σ5 H5 W5 r5 s5 => ⟨e2, W5, r5, s2.trans (s3.trans s5), PostS.from (s3.trans s5) p2⟩
        | bk e2 => rw [q] at p2; exact fun σ5 H5 W5 r5 s5 => p2 σ5 H5 W5 r5 (s3.trans s5)
        | ret sv e2 => rw [q] at p2; exact fun v σ5 H5 W5 r5 s5 => p2 v σ5 H5 W5 r5 (s3.trans s5)
        | exc x e2 => rw [q] at p2; exact fun c d σ5 H5 W5 r5 s5 => p2 c d σ5 H5 W5 r5 (s3.trans s5)
        | stuck => rw [q] at p2; exact p2.elim
theorem ss_while {c : En → R Bool} {body : En → RS} (hc : SB K E tt c) (hb : SS K E ts body) : SS K E (tWhile tt ts) (whileS c body) := by
  intro F env σ H W T r p
  unfold whileS at p
  split at p
  · exact ss_whileL hc hb _ r p
  · exact p.elim
/-- more turns than enough change nothing -/
theorem whileL_more {c : En → R Bool} {body : En → RS} : ∀ (n : Nat) (e : En) (k : Nat), whileL c body n e ≠ .stuck → whileL c body (n + k) e = whileL c body n e
  | 0, e, k, h => absurd rfl h
  | n + 1, e, k, h => by
    have e1 : n + 1 + k = (n + k) + 1 := by omega
    rw [e1]
    unfold whileL at h ⊢
    cases q : c e with
    | ok b e1 =>
      rw [q] at h
      cases b with
      | false => rfl
      | true =>
        dsimp only at h ⊢
        cases q2 : body e1 with
        | nx e2 => rw [q2] at h; exact whileL_more n e2 k h
        | ct e2 => rw [q2] at h; exact whileL_more n e2 k h
        | _ => rfl
    | _ => rfl
theorem whileS_eq {c : En → R Bool} {body : En → RS} {e : En} (n : Nat) (h : whileL c body n e ≠ .stuck) : whileS c body e = whileL c body n e := by
  have hx : ∃ n r, whileL c body n e = r ∧ r ≠ .stuck := ⟨n, _, rfl, h⟩
  unfold whileS
  rw [dif_pos hx]
  obtain ⟨r, h1, h2⟩ := Classical.choose_spec hx
  have h3 : whileL c body (Classical.choose hx) e ≠ .stuck := by rw [h1]; exact h2
  rw [← whileL_more _ e n h3, ← whileL_more n e (Classical.choose hx) h, Nat.add_comm]

theorem wipeE_len (e : En) : ∀ vs : List Nat, (wipeE e vs).length = e.length
  | [] => rfl
  | v :: vs => by unfold wipeE; rw [List.length_set, wipeE_len e vs]
theorem wipeE_sv {e : En} {j : Nat} : ∀ {vs : List Nat}, (wipeE e vs).sv j = if j ∈ vs then none else e.sv j
  | [] => by simp [wipeE]
  | v :: vs => by
    unfold wipeE
    by_cases hv : v < (wipeE e vs).length
    · rw [En.sv_set hv]
      by_cases hj : j = v
      · subst hj; simp
      · rw [if_neg hj, wipeE_sv]
        simp [hj]
    · rw [List.set_eq_of_length_le (by omega), wipeE_sv]
      by_cases hj : j = v
      · subst hj
        have : e.sv j = none := En.sv_len (by rw [wipeE_len] at hv; omega)
        simp [this]
      · simp [hj]
theorem restE_len (e e' : En) : ∀ vs : List Nat, (restE e e' vs).length = e'.length
  | [] => rfl
  | v :: vs => by unfold restE; rw [List.length_set, restE_len e e' vs]
theorem restE_sv {e e' : En} {j : Nat} : ∀ {vs : List Nat} {sv : SV}, (restE e e' vs).sv j = some sv → (j ∈ vs ∧ sv.fl = .p ∧ e.sv j = some sv) ∨ (j ∉ vs ∧ e'.sv j = some sv)
  | [], sv, h => .inr ⟨by simp, h⟩
  | v :: vs, sv, h => by
    unfold restE at h
    by_cases hv : v < (restE e e' vs).length
    · rw [En.sv_set hv] at h
      by_cases hj : j = v
      · subst hj
        rw [if_pos rfl] at h
        cases q : e.sv j with
        | none => rw [q] at h; cases h
        | some sw =>
          obtain ⟨fl, d⟩ := sw
          rw [q] at h
          cases fl with
          | p => cases h; exact .inl ⟨by simp, rfl, rfl⟩
          | o => cases h
          | b => cases h
      · rw [if_neg hj] at h
        rcases restE_sv h with ⟨h1, h2, h3⟩ | ⟨h1, h2⟩
        · exact .inl ⟨by simp [h1], h2, h3⟩
        · exact .inr ⟨by simp [h1, hj], h2⟩
    · rw [List.set_eq_of_length_le (by omega)] at h
      rcases restE_sv h with ⟨h1, h2, h3⟩ | ⟨h1, h2⟩
      · exact .inl ⟨by simp [h1], h2, h3⟩
      · refine .inr ⟨?_, h2⟩
        have : j ≠ v := fun z => by
          have := En.sv_lt h2
          rw [restE_len] at hv
          omega
        simp [h1, this]
theorem Rel.wipe (r : Rel K F env σ H W) (vs : List Nat) : Rel K F (wipeE env vs) (L2.wipe σ vs) H W where
  len := by rw [wipeE_len, wipe_length, r.len]
  sl := fun j sw e => by
    rw [wipeE_sv] at e
    by_cases hj : j ∈ vs
    · rw [if_pos hj] at e; cases e
    · rw [if_neg hj] at e
      rw [wipe_out hj]
      exact r.sl j sw e
  inj := fun j k sj sk a ej ek nj nk e1 e2 => by
    rw [wipeE_sv] at ej ek
    by_cases hj : j ∈ vs
    · rw [if_pos hj] at ej; cases ej
    · by_cases hk : k ∈ vs
      · rw [if_pos hk] at ek; cases ek
      · rw [if_neg hj] at ej; rw [if_neg hk] at ek
        rw [wipe_out hj] at e1; rw [wipe_out hk] at e2
        exact r.inj j k sj sk a ej ek nj nk e1 e2
  bor := fun j sw e b => by
    rw [wipeE_sv] at e
    by_cases hj : j ∈ vs
    · rw [if_pos hj] at e; cases e
    · rw [if_neg hj] at e
      rw [wipe_out hj]
      exact r.bor j sw e b
  trk := r.trk
  frt := r.frt
  dis := r.dis
  wt := r.wt
/-- one more address that nothing stands on -/
theorem Rel.frame (r : Rel K F env σ H W) {p : Addr} (o : HO) (hp : H p = none) : Rel K ⟨p :: F.fr, F.h0, F.s0⟩ env σ (upd H p o) W where
  len := r.len
  sl := fun i sv e => by
    obtain ⟨v, h1, h2⟩ := r.sl i sv e
    have hg : ∀ a, a ∈ W ++ (p :: F.fr) → a ∈ W ++ F.fr ∨ H a = none := fun a z => by
      rcases List.mem_append.mp z with z | z
      · exact .inl (List.mem_append_left _ z)
      · rcases List.mem_cons.mp z with rfl | z
        · exact .inr hp
        · exact .inl (List.mem_append_right _ z)
    have hk : ∀ a u, a ∉ W ++ F.fr → H a = some u → (upd H p o) a = some u := fun a u _ e => upd_kept hp a u e
    refine ⟨v, h1, ?_⟩
    rcases h2 with ⟨e1, h2⟩ | ⟨e1, a, e2, ha, ho, hz⟩
    · exact .inl ⟨e1, h2.mono hk hg⟩
    · exact .inr ⟨e1, a, e2, ha, ho.mono hk hg (upd_kept hp a), hz⟩
  inj := r.inj
  bor := r.bor
  trk := fun a e => r.trk a (by
    cases q : H a with
    | none => rfl
    | some u => rw [upd_kept hp a u q] at e; cases e)
  frt := fun a z => by
    rcases List.mem_cons.mp z with rfl | z
    · rw [upd_same]; simp
    · cases q : H a with
      | none => exact absurd q (r.frt a z)
      | some u => rw [upd_kept hp a u q]; simp
  dis := fun a z y => by
    rcases List.mem_cons.mp y with rfl | y
    · exact r.wt _ z hp
    · exact r.dis a z y
  wt := fun a z => by
    cases q : H a with
    | none => exact absurd q (r.wt a z)
    | some u => rw [upd_kept hp a u q]; simp
/-- an object that nothing stands on is changed -/
theorem Rel.fwrite (r : Rel K F env σ H W) {p : Addr} (o : HO) (hp : p ∈ F.fr) : Rel K F env σ (upd H p o) W := by
  have nW : p ∉ W := fun z => r.dis p z hp
  have hk : ∀ a u, a ∉ W ++ F.fr → H a = some u → (upd H p o) a = some u := fun a u n e => by
    rw [upd_ne (fun z => n (by rw [z]; exact List.mem_append_right _ hp))]; exact e
  have hg : ∀ a, a ∈ W ++ F.fr → a ∈ W ++ F.fr ∨ H a = none := fun a z => .inl z
  refine ⟨r.len, fun i sv e => ?_, r.inj, r.bor, fun a e => r.trk a ?_, fun a z => ?_, r.dis, fun a z => ?_⟩
  · obtain ⟨v, h1, h2⟩ := r.sl i sv e
    refine ⟨v, h1, ?_⟩
    rcases h2 with ⟨e1, h2⟩ | ⟨e1, a, e2, ha, ho, hz⟩
    · exact .inl ⟨e1, h2.mono hk hg⟩
    · exact .inr ⟨e1, a, e2, ha, ho.mono hk hg (fun u q => by rw [upd_ne (fun z => nW (by rw [← z]; exact ha))]; exact q), hz⟩
  · by_cases h : a = p
    · rw [h, upd_same] at e; cases e
    · rw [upd_ne h] at e; exact e
  · by_cases h : a = p
    · rw [h, upd_same]; simp
    · rw [upd_ne h]; exact r.frt a z
  · by_cases h : a = p
    · rw [h, upd_same]; simp
    · rw [upd_ne h]; exact r.wt a z
theorem wipe_agree {σ σ2 : St} {vs is : List Nat} (a : Agree is (L2.wipe σ vs) σ2) (hs : ∀ i ∈ is, i ∈ vs) : L2.wipe σ2 vs = L2.wipe σ vs := by
  refine List.ext_getElem? fun j => ?_
  by_cases hj : j ∈ vs
  · have key : ∀ (τ : St) (ws : List Nat), j ∈ ws → j < τ.length → (L2.wipe τ ws)[j]? = some none := by
      intro τ ws
      induction ws with
      | nil => intro h; simp at h
      | cons w ws ih =>
        intro h hl
        unfold L2.wipe
        by_cases hw : w = j
        · subst hw
          exact List.getElem?_set_self (by rw [wipe_length]; exact hl)
        · rw [List.getElem?_set_ne hw]
          exact ih (by simpa [Ne.symm hw] using h) hl
    have l1 : σ2.length = σ.length := a.1.trans (wipe_length σ vs)
    by_cases hl : j < σ.length
    · rw [key σ2 vs hj (by omega), key σ vs hj hl]
    · rw [List.getElem?_eq_none (by rw [wipe_length]; omega), List.getElem?_eq_none (by rw [wipe_length]; omega)]
  · rw [wipe_out hj, a.2 j fun z => hj (hs j z)]
theorem Rel.rest {e : En} {H1 : Hp} {W1 : List Addr} {p : Addr} (r : Rel K F env σ H1 W1) (hp : H1 p = none) {vs : List Nat} (s : Step H1 W1 H W) (r2 : Rel K ⟨p :: F.fr, F.h0, F.s0⟩ e (L2.wipe σ vs) H W) : Rel K F (restE env e vs) σ H (p :: W) := by
  have eq1 : ∀ a, a ∈ (p :: W) ++ F.fr → a ∈ W ++ (p :: F.fr) ∨ H a = none := fun a z => by
    rcases List.mem_append.mp z with z | z
    · rcases List.mem_cons.mp z with rfl | z
      · exact .inl (List.mem_append_right _ List.mem_cons_self)
      · exact .inl (List.mem_append_left _ z)
    · exact .inl (List.mem_append_right _ (List.mem_cons_of_mem _ z))
  have hk : ∀ a u, a ∉ W ++ (p :: F.fr) → H a = some u → H a = some u := fun _ _ _ e => e
  refine ⟨by rw [restE_len, r2.len, wipe_length], fun j sv q => ?_, fun j k sj sk a ej ek nj nk e1 e2 => ?_, fun j sv q b => ?_, r2.trk, fun a z => r2.frt a (List.mem_cons_of_mem _ z), fun a z y => ?_, fun a z => ?_⟩
  · rcases restE_sv q with ⟨h1, h2, h3⟩ | ⟨h1, h2⟩
    · obtain ⟨v, g1, g2⟩ := r.sl j sv h3
      refine ⟨v, g1, .inl ⟨h2, ?_⟩⟩
      rcases g2 with ⟨_, g2⟩ | ⟨n, _⟩
      · refine g2.mono s.pF fun a z => ?_
        rcases List.mem_append.mp z with z | z
        · rcases List.mem_cons.mp z with rfl | z
          · exact .inr hp
          · rcases s.grow a z with z | z
            · exact .inl (List.mem_append_left _ z)
            · exact .inr z
        · exact .inl (List.mem_append_right _ z)
      · exact absurd h2 n
    · obtain ⟨v, g1, g2⟩ := r2.sl j sv h2
      rw [wipe_out h1] at g1
      refine ⟨v, g1, ?_⟩
      rcases g2 with ⟨e1, g2⟩ | ⟨e1, a, e2, ha, ho, hz⟩
      · exact .inl ⟨e1, g2.mono hk eq1⟩
      · exact .inr ⟨e1, a, e2, List.mem_cons_of_mem _ ha, ho.mono hk eq1 (fun _ e => e), hz⟩
  · rcases restE_sv ej with ⟨h1, h2, h3⟩ | ⟨h1, h2⟩
    · exact absurd h2 nj
    · rcases restE_sv ek with ⟨g1, g2, g3⟩ | ⟨g1, g2⟩
      · exact absurd g2 nk
      · exact r2.inj j k sj sk a h2 g2 nj nk (by rw [wipe_out h1]; exact e1) (by rw [wipe_out g1]; exact e2)
  · rcases restE_sv q with ⟨h1, h2, h3⟩ | ⟨h1, h2⟩
    · rw [h2] at b; cases b
    · have := r2.bor j sv h2 b
      rw [wipe_out h1] at this
      exact this
  · rcases List.mem_cons.mp z with rfl | z
    · exact r.frt _ y hp
    · exact r2.dis a z (List.mem_cons_of_mem _ y)
  · rcases List.mem_cons.mp z with rfl | z
    · exact r2.frt _ List.mem_cons_self
    · exact r2.wt a z
theorem sf_lc {wi : TI} {g : TG} {is vs : List Nat} {asg : D → En → Option En} {fs : En → R Src} {test : En → R Bool} {elt : En → R Opd} (hi : SI K E wi fs) (hg : SG K g is asg) (hs : ∀ i ∈ is, i ∈ vs) (ht : SB K E0 tt test) (he : SE K E0 te elt) :
    SF K E (tLc wi g tt te vs) (compE fs vs asg test elt) := by
  intro F env σ H W Q r p
  refine Sn.go (t := wi) hi r p fun e H1 W1 s J rel s1 it p => ?_
  intro Dl hD
  cases qc : compLoop s vs asg test elt s.ds (wipeE e vs) [] with
  | exc x e' => rw [qc] at p; exact p.elim
  | stuck => rw [qc] at p; exact p.elim
  | ok accF eF =>
    rw [qc] at p
    have r0 := (rel.frame (.lst []) hD).wipe vs
    have st0 : Step H1 W1 (upd H1 Dl (.lst [])) W1 := Step.new hD
    refine ⟨fun i m H' => m = s.ds.length - i ∧ i ≤ s.ds.length ∧ ∃ en W' av acc, Rel K ⟨Dl :: F.fr, F.h0, F.s0⟩ en (L2.wipe σ vs) H' W' ∧ Step H1 W1 H' W' ∧ H' Dl = some (.lst av) ∧ RpL K H' (W' ++ (Dl :: F.fr)) av acc ∧
      compLoop s vs asg test elt (s.ds.drop i) en acc = .ok accF eF, ⟨s.ds.length, by simp, Nat.zero_le _, _, W1, [], [], r0, st0, upd_same, .nil, by simpa using qc⟩, ?_⟩
    rintro i m H2 ⟨rfl, hi, en, W2, av, acc, r2, s2, hDl, hav, hc⟩
    have A2 : ∀ a o, a ∉ W1 ++ F.fr → H1 a = some o → H2 a = some o := s2.pF
    have B2 : ∀ a, a ∈ W2 ++ (Dl :: F.fr) → a ∈ W1 ++ F.fr ∨ H1 a = none := fun a z => by
      rcases List.mem_append.mp z with z | z
      · rcases s2.grow a z with z | z
        · exact .inl (List.mem_append_left _ z)
        · exact .inr z
      · rcases List.mem_cons.mp z with rfl | z
        · exact .inr hD
        · exact .inl (List.mem_append_right _ z)
    by_cases hlt : i < s.ds.length
    · rw [List.drop_eq_getElem_cons hlt] at hc
      unfold compLoop at hc
      by_cases hG : Grd s en
      · rw [if_pos hG] at hc
        obtain ⟨k1, _⟩ := it (W2 ++ (Dl :: F.fr)) H2 A2 B2 r2.all (r2.grd hG)
        obtain ⟨go, yl⟩ := k1 i _ (List.getElem?_eq_getElem hlt)
        refine .inr ⟨go, fun H' => i + 1 ≤ s.ds.length ∧ ∃ en W' av acc, Rel K ⟨Dl :: F.fr, F.h0, F.s0⟩ en (L2.wipe σ vs) H' W' ∧ Step H1 W1 H' W' ∧ H' Dl = some (.lst av) ∧ RpL K H' (W' ++ (Dl :: F.fr)) av acc ∧
          compLoop s vs asg test elt (s.ds.drop (i + 1)) en acc = .ok accF eF, fun H' z => ⟨s.ds.length - (i + 1), by omega, rfl, z.1, z.2⟩, fun x H3 y => ?_⟩
        obtain ⟨gr, rx⟩ := yl x H3 y
        obtain ⟨r3, s3⟩ := r2.grown gr
        cases ea : asg s.ds[i] en with
        | none => rw [ea] at hc; cases hc
        | some e1 =>
          rw [ea] at hc; dsimp only at hc
          refine hg _ en (L2.wipe σ vs) H3 W2 x _ e1 _ r3 rx ea fun σ4 H4 W4 r4 s4 a4 => ⟨wipe_agree a4 hs, ?_⟩
          have s24 := s3.trans s4
          have wst : L2.wipe σ4 vs = L2.wipe σ vs := wipe_agree a4 hs
          refine ht _ e1 σ4 H4 W4 _ r4 ?_
          cases qt : test e1 with
          | exc x e => rw [qt] at hc; cases hc
          | stuck => rw [qt] at hc; cases hc
          | ok b e2 =>
            rw [qt] at hc
            intro b' H5 W5 r5 s5 eb
            have eb' : b = b' := eb
            subst eb'
            have s25 := s24.trans s5
            have nD : Dl ∉ W5 := fun z => r5.dis Dl z List.mem_cons_self
            have nDl2 : Dl ∉ W2 := fun z => r2.dis Dl z List.mem_cons_self
            have h5 : H5 Dl = some (.lst av) := s25.pres Dl _ nDl2 hDl
            have k5 : RpL K H5 (W5 ++ (Dl :: F.fr)) av acc := s25.rpL (Fr := Dl :: F.fr) hav
            cases b with
            | false =>
              dsimp only at hc
              refine ⟨by omega, wipeE e2 vs, W5, av, acc, ?_, s2.trans s25, h5, k5, hc⟩
              have := r5.wipe vs
              rw [wst] at this
              exact this
            | true =>
              dsimp only at hc
              show te σ4 H5 _
              refine he _ e2 σ4 H5 W5 _ r5 ?_
              cases qe : elt e2 with
              | exc x e => rw [qe] at hc; cases hc
              | stuck => rw [qe] at hc; cases hc
              | ok o e3 =>
                rw [qe] at hc; dsimp only at hc
                intro y H6 W6 r6 s6 ry
                cases qp : pureO o e3 with
                | none => rw [qp] at hc; cases hc
                | some ye =>
                  obtain ⟨yd, e4⟩ := ye
                  rw [qp] at hc; dsimp only at hc
                  by_cases hz : acc.length < 100000
                  · rw [if_pos hz] at hc
                    obtain ⟨W7, r7, s7, k7⟩ := pureO_ok r6 ry qp
                    have s57 := s6.trans s7
                    have h6 : H6 Dl = some (.lst av) := s57.pres Dl _ nD h5
                    have k6 : RpL K H6 (W7 ++ (Dl :: F.fr)) av acc := s57.rpL (Fr := Dl :: F.fr) k5
                    refine ⟨av, h6, sz_lt (by rw [k6.length]; exact hz), by omega, wipeE e4 vs, W7, av ++ [y], acc ++ [yd], ?_, ?_, upd_same, ?_, hc⟩
                    · have := (r7.fwrite (.lst (av ++ [y])) List.mem_cons_self).wipe vs
                      rw [wst] at this
                      exact this
                    · have s17 := s2.trans (s25.trans s57)
                      refine ⟨fun a u n q => ?_, s17.grow⟩
                      rw [upd_ne (ne_of_none q hD)]
                      exact s17.pres a u n q
                    · have hk : ∀ a u, a ∉ W7 ++ (Dl :: F.fr) → H6 a = some u → (upd H6 Dl (.lst (av ++ [y]))) a = some u := fun a u n q => by
                        rw [upd_ne (fun z => n (by rw [z]; exact List.mem_append_right _ List.mem_cons_self))]; exact q
                      exact RpL.mono hk (fun a z => .inl z) (k6.append (.one k7))
                  · rw [if_neg hz] at hc; cases hc
      · rw [if_neg hG] at hc; cases hc
    · have e0 : i = s.ds.length := by omega
      subst e0
      rw [List.drop_length] at hc
      unfold compLoop at hc
      by_cases hG : Grd s en
      · rw [if_pos hG] at hc
        cases hc
        obtain ⟨_, k2⟩ := it (W2 ++ (Dl :: F.fr)) H2 A2 B2 r2.all (r2.grd hG)
        have rr := rel.rest hD s2 r2
        have nDl2 : Dl ∉ W2 := fun z => r2.dis Dl z List.mem_cons_self
        refine .inl ⟨k2 _ (Nat.le_refl _), p (.ref Dl) H2 (Dl :: W2) rr ⟨s2.pres, fun a z => ?_⟩ ⟨.inr ⟨by simp, Dl, rfl, List.mem_cons_self, .lst hDl ?_, fun _ => rel.trk Dl hD⟩, fun _ => ⟨rfl, fun j sw ej nj z => ?_⟩⟩⟩
        · rcases List.mem_cons.mp z with rfl | z
          · exact .inr hD
          · exact s2.grow a z
        · refine RpL.mono (fun _ _ _ e => e) (fun a z => ?_) hav
          rcases List.mem_append.mp z with z | z
          · rcases List.mem_cons.mp z with rfl | z
            · exact .inl (List.mem_append_right _ List.mem_cons_self)
            · exact .inl (List.mem_append_left _ z)
          · exact .inl (List.mem_append_right _ (List.mem_cons_of_mem _ z))
        · rcases restE_sv ej with ⟨h1, h2, h3⟩ | ⟨h1, h2⟩
          · exact nj h2
          · obtain ⟨v, g1, g2⟩ := r2.sl j sw h2
            rw [wipe_out h1, z] at g1
            cases g1
            rcases g2 with ⟨n, _⟩ | ⟨_, a, e2, ha, _⟩
            · exact nj n
            · cases e2; exact nDl2 ha
      · rw [if_neg hG] at hc; cases hc
end
end DL

namespace DL
open PySem L2

inductive RF where
  | ret (sv : SV) (ds : List D) | exc (x : Xc) (ds : List D) | stuck
/-- what stands in the lent arguments behind the run -/
def backD : List SV → En → Nat → Option (List D)
  | [], _, _ => some []
  | a :: as, e, i => match (match a.fl with | .p => some a.d | _ => match e.sv i with | some ⟨.b, d⟩ => some d | _ => none), backD as e (i + 1) with
    | some d, some ds => some (d :: ds)
    | _, _ => none
def env0 (n : Nat) (args : List SV) : En := args.map some ++ List.replicate (n - args.length) none
def endF (args : List SV) : RS → RF
  | .ret sv e => match backD args e 0 with | some ds => .ret sv ds | none => .stuck
  | .nx e => match backD args e 0 with | some ds => .ret ⟨.p, .non⟩ ds | none => .stuck
  | .exc x e => match backD args e 0 with | some ds => .exc x ds | none => .stuck
  | _ => .stuck
def runDef (n : Nat) (body : En → RS) (args : List SV) : RF := endF args (body (env0 n args))
def newA : List SV → List D → En
  | a :: as, d :: ds => some ⟨a.fl, d⟩ :: newA as ds
  | _, _ => []
def PostF (K : PySem.W.Frag) (E : XK) (F : Fm) (args : List SV) (H : Hp) (W : List Addr) (Q : VK) : RF → Prop
  | .ret sv ds => ∀ v H' W', Rel K F (newA args ds) F.s0 H' W' → Step H W H' W' → rV K sv F (newA args ds) F.s0 H' W' v → Q v H'
  | .exc x ds => ∀ c d H' W', Rel K F (newA args ds) F.s0 H' W' → Step H W H' W' → XOk K F H' W' x c d → E c d H'
  | .stuck => False
def spD (K : PySem.W.Frag) (G : List SV → RF) : Sp := fun vs H Q E => ∃ args W fr, Rel K ⟨fr, H, vs.map some⟩ (args.map some) (vs.map some) H W ∧ PostF K E ⟨fr, H, vs.map some⟩ args H W Q (G args)
theorem newA_len : ∀ {args : List SV} {ds : List D}, args.length = ds.length → (newA args ds).length = args.length
  | [], [], _ => rfl
  | _ :: as, _ :: ds, h => by simp [newA, newA_len (args := as) (ds := ds) (by simpa using h)]
theorem newA_sv : ∀ {args : List SV} {ds : List D} {i : Nat} {sv : SV}, (newA args ds).sv i = some sv → ∃ a d, args[i]? = some a ∧ ds[i]? = some d ∧ sv = ⟨a.fl, d⟩
  | [], _, i, sv, h => by simp [newA, En.sv] at h
  | _ :: _, [], i, sv, h => by simp [newA, En.sv] at h
  | a :: as, d :: ds, 0, sv, h => by
    simp [newA, En.sv] at h
    exact ⟨a, d, rfl, rfl, h.symm⟩
  | a :: as, d :: ds, i + 1, sv, h => by
    have h' : (newA as ds).sv i = some sv := by simpa [newA, En.sv] using h
    obtain ⟨a', d', h1, h2, h3⟩ := newA_sv h'
    exact ⟨a', d', by simpa using h1, by simpa using h2, h3⟩
theorem backD_at : ∀ {args : List SV} {e : En} {k : Nat} {ds : List D}, backD args e k = some ds → args.length = ds.length ∧ ∀ i a d, args[i]? = some a → ds[i]? = some d → (a.fl = .p ∧ d = a.d) ∨ (a.fl ≠ .p ∧ e.sv (k + i) = some ⟨.b, d⟩)
  | [], e, k, ds, h => by
    unfold backD at h; cases h
    exact ⟨rfl, fun i a d q => by simp at q⟩
  | a :: as, e, k, ds, h => by
    unfold backD at h
    split at h
    · rename_i d0 ds0 h1 h2
      cases h
      obtain ⟨l, k2⟩ := backD_at h2
      refine ⟨by simp [l], fun i a' d' q1 q2 => ?_⟩
      cases i with
      | zero =>
        simp at q1 q2
        subst q1; subst q2
        obtain ⟨fl, x⟩ := a
        cases fl with
        | p => cases h1; exact .inl ⟨rfl, rfl⟩
        | o =>
          refine .inr ⟨by simp, ?_⟩
          dsimp only at h1
          split at h1
          · rename_i d2 e2; cases h1; simpa using e2
          · cases h1
        | b =>
          refine .inr ⟨by simp, ?_⟩
          dsimp only at h1
          split at h1
          · rename_i d2 e2; cases h1; simpa using e2
          · cases h1
      | succ i =>
        have := k2 i a' d' (by simpa using q1) (by simpa using q2)
        rw [show k + (i + 1) = k + 1 + i by omega]
        exact this
    · cases h
section
variable {K : PySem.W.Frag} {E : XK} {F : Fm} {env env' : En} {σ σ' : St} {H H' : Hp} {W W' : List Addr}
theorem sv_map {args : List SV} {i : Nat} : En.sv (args.map some) i = args[i]? := by
  unfold En.sv
  rw [List.getElem?_map]
  cases args[i]? <;> rfl
theorem env0_sv {n : Nat} {args : List SV} {i : Nat} : (env0 n args).sv i = args[i]? := by
  unfold env0 En.sv
  by_cases h : i < args.length
  · rw [List.getElem?_append_left (by simpa using h), List.getElem?_map, List.getElem?_eq_getElem h]; rfl
  · have e1 : args[i]? = none := List.getElem?_eq_none (by omega)
    rw [List.getElem?_append_right (by simpa using h), e1]
    by_cases h2 : i - (args.map some).length < n - args.length
    · rw [List.getElem?_replicate, if_pos h2]; rfl
    · rw [List.getElem?_replicate, if_neg h2]; rfl
theorem start_at {N : List Str} {vs : List V} {i : Nat} {v : V} (h : vs[i]? = some v) : (L2.start N vs)[i]? = some (some v) := by
  unfold L2.start
  have hl : i < vs.length := (List.getElem?_eq_some_iff.mp h).1
  rw [List.getElem?_append_left (by simpa using hl), List.getElem?_map, h]; rfl
theorem body_ok {t : TS} {body : En → RS} {N : List Str} {vs : List V} {Q : VK} (hS : SS K E t body) (hl : vs.length ≤ N.length) (h : spD K (runDef N.length body) vs H Q E) : t { nx := fun _ H' => Q .non H', rt := Q } (L2.start N vs) H := by
  obtain ⟨args, W, fr, r, p⟩ := h
  have lav : args.length = vs.length := by have := r.len; simpa using this
  have orig : ∀ i a, args[i]? = some a → ∃ v, vs[i]? = some v ∧ SvOk K ⟨fr, H, vs.map some⟩ H W a v := fun i a q => by
    obtain ⟨v, h1, h2⟩ := r.sl i a (by rw [sv_map]; exact q)
    refine ⟨v, ?_, h2⟩
    rw [List.getElem?_map] at h1
    cases e : vs[i]? with
    | none => rw [e] at h1; cases h1
    | some u => rw [e] at h1; cases h1; rfl
  have r0 : Rel K ⟨fr, H, L2.start N vs⟩ (env0 N.length args) (L2.start N vs) H W := by
    refine ⟨?_, fun i sv e => ?_, fun i j si sj a ei ej ni nj e1 e2 => ?_, fun i sv e b => rfl, r.trk, r.frt, r.dis, r.wt⟩
    · unfold env0 L2.start
      simp [lav]
    · rw [env0_sv] at e
      obtain ⟨v, h1, h2⟩ := orig i sv e
      exact ⟨v, start_at h1, h2⟩
    · rw [env0_sv] at ei ej
      obtain ⟨v, h1, _⟩ := orig i si ei
      obtain ⟨u, g1, _⟩ := orig j sj ej
      rw [start_at h1] at e1; rw [start_at g1] at e2
      cases e1; cases e2
      exact r.inj i j si sj a (by rw [sv_map]; exact ei) (by rw [sv_map]; exact ej) ni nj (by rw [List.getElem?_map, h1]; rfl) (by rw [List.getElem?_map, g1]; rfl)
  -- the way back
  have back : ∀ {e : En} {σ' : St} {H' : Hp} {W' : List Addr} {ds : List D}, Rel K ⟨fr, H, L2.start N vs⟩ e σ' H' W' → Step H W H' W' → backD args e 0 = some ds → Rel K ⟨fr, H, vs.map some⟩ (newA args ds) (vs.map some) H' W' ∧
      ∀ v, (∀ j sw, e.sv j = some sw → sw.fl ≠ .p → σ'[j]? ≠ some (some v)) → ∀ j sw, (newA args ds).sv j = some sw → sw.fl ≠ .p → (vs.map some)[j]? ≠ some (some v) := by
    intro e σ' H' W' ds r' s' hb
    obtain ⟨lb, kb⟩ := backD_at hb
    -- a lent slot
    have lent : ∀ i a d, args[i]? = some a → ds[i]? = some d → a.fl ≠ .p → a.fl = .b ∧ e.sv i = some ⟨.b, d⟩ ∧ ∃ v, vs[i]? = some v ∧ σ'[i]? = some (some v) := fun i a d q1 q2 np => by
      obtain ⟨v, h1, h2⟩ := orig i a q1
      have ev : e.sv i = some ⟨.b, d⟩ := by
        rcases kb i a d q1 q2 with ⟨z, _⟩ | ⟨_, z⟩
        · exact absurd z np
        · simpa using z
      refine ⟨?_, ev, v, h1, ?_⟩
      · rcases h2 with ⟨z, _⟩ | ⟨_, b, _, hb, _, hz⟩
        · exact absurd z np
        · cases hf : a.fl with
          | p => exact absurd hf np
          | o => exact absurd (hz hf) (r.wt b hb)
          | b => rfl
      · have := r'.bor i _ ev rfl
        rw [this]
        exact start_at h1
    refine ⟨⟨?_, fun i sv q => ?_, fun i j si sj a ei ej ni nj e1 e2 => ?_, fun _ _ _ _ => rfl, r'.trk, r'.frt, r'.dis, r'.wt⟩, fun v hv j sw q np z => ?_⟩
    · rw [newA_len lb]; simp [lav]
    · obtain ⟨a, d, h1, h2, rfl⟩ := newA_sv q
      obtain ⟨v, h3, h4⟩ := orig i a h1
      refine ⟨v, by rw [List.getElem?_map, h3]; rfl, ?_⟩
      by_cases np : a.fl = .p
      · rcases kb i a d h1 h2 with ⟨_, z⟩ | ⟨z, _⟩
        · rcases h4 with ⟨_, h4⟩ | ⟨n, _⟩
          · exact .inl ⟨np, by show Rp K H' (W' ++ fr) v d; rw [z]; exact s'.rp (Fr := fr) h4⟩
          · exact absurd np n
        · exact absurd np z
      · obtain ⟨fb, ev, u, h5, h6⟩ := lent i a d h1 h2 np
        rw [h3] at h5; cases h5
        obtain ⟨u, g1, g2⟩ := r'.sl i _ ev
        rw [h6] at g1; cases g1
        rcases g2 with ⟨n, _⟩ | ⟨_, b, e2, hb, ho, hz⟩
        · cases n
        · exact .inr ⟨np, b, e2, hb, ho, fun z => by rw [fb] at z; cases z⟩
    · obtain ⟨a1, d1, h1, h2, rfl⟩ := newA_sv ei
      obtain ⟨a2, d2, g1, g2, rfl⟩ := newA_sv ej
      exact r.inj i j a1 a2 a (by rw [sv_map]; exact h1) (by rw [sv_map]; exact g1) ni nj e1 e2
    · obtain ⟨a, d, h1, h2, rfl⟩ := newA_sv q
      obtain ⟨fb, ev, u, h5, h6⟩ := lent j a d h1 h2 np
      refine hv j _ ev (by simp) ?_
      rw [h6]
      rw [List.getElem?_map, h5] at z
      exact z
  refine hS ⟨fr, H, L2.start N vs⟩ (env0 N.length args) (L2.start N vs) H W _ r0 ?_
  unfold runDef at p
  cases q : body (env0 N.length args) with
  | nx e =>
    rw [q] at p
    unfold endF at p
    dsimp only at p
    cases hb : backD args e 0 with
    | none => rw [hb] at p; exact p.elim
    | some ds =>
      rw [hb] at p
      intro σ' H' W' r' s'
      obtain ⟨r2, _⟩ := back r' s' hb
      exact p .non H' W' r2 s' ⟨.inl ⟨rfl, .non⟩, fun z => absurd rfl z⟩
  | ret sv e =>
    rw [q] at p
    unfold endF at p
    dsimp only at p
    cases hb : backD args e 0 with
    | none => rw [hb] at p; exact p.elim
    | some ds =>
      rw [hb] at p
      intro v σ' H' W' r' s' rv
      obtain ⟨r2, k2⟩ := back r' s' hb
      exact p v H' W' r2 s' ⟨rv.1, fun np => ⟨(rv.2 np).1, k2 v (rv.2 np).2⟩⟩
  | exc x e =>
    rw [q] at p
    unfold endF at p
    dsimp only at p
    cases hb : backD args e 0 with
    | none => rw [hb] at p; exact p.elim
    | some ds =>
      rw [hb] at p
      intro c d σ' H' W' r' s' hx
      obtain ⟨r2, _⟩ := back r' s' hb
      exact p c d H' W' r2 s' hx
  | bk e => rw [q] at p; exact p.elim
  | ct e => rw [q] at p; exact p.elim
  | stuck => rw [q] at p; exact p.elim
theorem spD_len {G : List SV → RF} {n : Nat} (hG : ∀ args, args.length ≠ n → G args = .stuck) {vs : List V} {Q : VK} (h : spD K G vs H Q E) : vs.length = n := by
  obtain ⟨args, W, fr, r, p⟩ := h
  have lav : args.length = vs.length := by have := r.len; simpa using this
  by_cases e : args.length = n
  · omega
  · rw [hG args e] at p; exact p.elim
end

/-- what is handed over: a changeable list is lent -/
def argO (e : En) : Opd → Option SV
  | .val d => some ⟨.p, d⟩
  | .slot i => match e.sv i with
    | some ⟨.p, d⟩ => some ⟨.p, d⟩
    | some ⟨_, d⟩ => some ⟨.b, d⟩
    | none => none
def argL (e : En) : List Opd → Option (List SV)
  | [] => some []
  | o :: os => match argO e o, argL e os with
    | some a, some as => some (a :: as)
    | _, _ => none
def lentS (e : En) : List Opd → List Nat
  | [] => []
  | .val _ :: os => lentS e os
  | .slot i :: os => match e.sv i with
    | some ⟨.p, _⟩ => lentS e os
    | some _ => i :: lentS e os
    | none => lentS e os
/-- what a slot holds behind the call -/
def wbAt (j : Nat) : List Opd → List D → Option D
  | .slot i :: os, d :: ds => if i = j then some d else wbAt j os ds
  | .val _ :: os, _ :: ds => wbAt j os ds
  | _, _ => none
def wb1 (os : List Opd) (ds : List D) (j : Nat) : Option SV → Option SV
  | none => none
  | some ⟨.p, d⟩ => some ⟨.p, d⟩
  | some ⟨fl, d⟩ => match wbAt j os ds with
    | some d' => some ⟨fl, d'⟩
    | none => some ⟨fl, d⟩
def wbE (os : List Opd) (ds : List D) : Nat → En → En
  | _, [] => []
  | j, x :: r => wb1 os ds j x :: wbE os ds (j + 1) r
def callD (G : List SV → RF) (os : List Opd) (e : En) : R SV := match argL e os with
  | none => .stuck
  | some args => if (lentS e os).Nodup then (match G args with
    | .ret sv ds => if ds.length = os.length then .ok sv (wbE os ds 0 e) else .stuck
    | .exc x ds => if ds.length = os.length then .exc x (wbE os ds 0 e) else .stuck
    | .stuck => .stuck) else .stuck
def callE (G : List SV → RF) (fa : En → R (List Opd)) : En → R SV := bindR fa (callD G)
theorem wbE_get (os : List Opd) (ds : List D) : ∀ (e : En) (k j : Nat), (wbE os ds k e)[j]? = (e[j]?).map (wb1 os ds (k + j))
  | [], k, j => by simp [wbE]
  | x :: r, k, 0 => by simp [wbE]
  | x :: r, k, j + 1 => by
    have := wbE_get os ds r (k + 1) j
    simp only [wbE, List.getElem?_cons_succ]
    rw [this, show k + 1 + j = k + (j + 1) by omega]
theorem wbE_sv {os : List Opd} {ds : List D} {e : En} {j : Nat} : (wbE os ds 0 e).sv j = wb1 os ds j (e.sv j) := by
  unfold En.sv
  rw [wbE_get]
  cases h : e[j]? with
  | none => rfl
  | some x => simp
theorem wbE_len (os : List Opd) (ds : List D) : ∀ (e : En) (k : Nat), (wbE os ds k e).length = e.length
  | [], _ => rfl
  | _ :: r, k => by simp [wbE, wbE_len os ds r (k + 1)]
theorem argL_at {e : En} : ∀ {os : List Opd} {args : List SV}, argL e os = some args → args.length = os.length ∧ ∀ (i : Nat) (o : Opd), os[i]? = some o → ∃ a, args[i]? = some a ∧ argO e o = some a
  | [], args, h => by unfold argL at h; cases h; exact ⟨rfl, fun i o q => by simp at q⟩
  | o :: os, args, h => by
    unfold argL at h
    split at h
    · rename_i a as h1 h2
      cases h
      obtain ⟨l, k⟩ := argL_at h2
      refine ⟨by simp [l], fun i o' q => ?_⟩
      cases i with
      | zero => simp at q; subst q; exact ⟨a, rfl, h1⟩
      | succ i => obtain ⟨a', g1, g2⟩ := k i o' (by simpa using q); exact ⟨a', by simpa using g1, g2⟩
    · cases h
theorem wbAt_some {j : Nat} : ∀ {os : List Opd} {ds : List D} {d : D}, wbAt j os ds = some d → ∃ i : Nat, os[i]? = some (Opd.slot j) ∧ ds[i]? = some d
  | [], ds, d, h => by simp [wbAt] at h
  | .val x :: os, [], d, h => by simp [wbAt] at h
  | .slot i :: os, [], d, h => by simp [wbAt] at h
  | .val x :: os, d0 :: ds, d, h => by
    have h' : wbAt j os ds = some d := h
    obtain ⟨k, h1, h2⟩ := wbAt_some h'
    exact ⟨k + 1, by simpa using h1, by simpa using h2⟩
  | .slot i :: os, d0 :: ds, d, h => by
    unfold wbAt at h
    by_cases e : i = j
    · rw [if_pos e] at h; cases h; subst e; exact ⟨0, rfl, rfl⟩
    · rw [if_neg e] at h
      obtain ⟨k, h1, h2⟩ := wbAt_some h
      exact ⟨k + 1, by simpa using h1, by simpa using h2⟩
theorem wbAt_none {j : Nat} : ∀ {os : List Opd} {ds : List D}, ds.length = os.length → wbAt j os ds = none → ∀ i : Nat, os[i]? ≠ some (Opd.slot j)
  | [], ds, _, _, i => by simp
  | .val x :: os, [], h, _, i => by simp at h
  | .slot i :: os, [], h, _, k => by simp at h
  | .val x :: os, d0 :: ds, hl, h, i => by
    have h' : wbAt j os ds = none := h
    cases i with
    | zero => simp
    | succ i => simpa using wbAt_none (by simpa using hl) h' i
  | .slot k :: os, d0 :: ds, hl, h, i => by
    unfold wbAt at h
    by_cases e : k = j
    · rw [if_pos e] at h; cases h
    · rw [if_neg e] at h
      cases i with
      | zero => simp [e]
      | succ i => simpa using wbAt_none (by simpa using hl) h i
theorem lentS_mem {e : En} {j : Nat} {sv : SV} (hj : e.sv j = some sv) (np : sv.fl ≠ .p) : ∀ {os : List Opd} {i : Nat}, os[i]? = some (Opd.slot j) → j ∈ lentS e os
  | [], i, h => by simp at h
  | .val x :: os, 0, h => by simp at h
  | .val x :: os, i + 1, h => by
    unfold lentS
    exact lentS_mem hj np (i := i) (by simpa using h)
  | .slot k :: os, i, h => by
    unfold lentS
    cases i with
    | zero =>
      simp at h; subst h
      rw [hj]
      obtain ⟨fl, d⟩ := sv
      cases fl with
      | p => exact absurd rfl np
      | o => exact List.mem_cons_self
      | b => exact List.mem_cons_self
    | succ i =>
      have := lentS_mem hj np (os := os) (i := i) (by simpa using h)
      split
      · exact this
      · exact List.mem_cons_of_mem _ this
      · exact this
theorem lentS_inj {e : En} {j : Nat} {sv : SV} (hj : e.sv j = some sv) (np : sv.fl ≠ .p) : ∀ {os : List Opd} {i k : Nat}, (lentS e os).Nodup → os[i]? = some (Opd.slot j) → os[k]? = some (Opd.slot j) → i = k
  | [], i, k, _, h, _ => by simp at h
  | .val x :: os, i, k, hn, h1, h2 => by
    cases i with
    | zero => simp at h1
    | succ i =>
      cases k with
      | zero => simp at h2
      | succ k =>
        unfold lentS at hn
        rw [lentS_inj hj np hn (i := i) (k := k) (by simpa using h1) (by simpa using h2)]
  | .slot m :: os, i, k, hn, h1, h2 => by
    have tailN : (lentS e os).Nodup := by
      unfold lentS at hn
      split at hn
      · exact hn
      · exact (List.nodup_cons.mp hn).2
      · exact hn
    have headN : m = j → j ∉ lentS e os := fun z => by
      subst z
      unfold lentS at hn
      rw [hj] at hn
      obtain ⟨fl, d⟩ := sv
      cases fl with
      | p => exact absurd rfl np
      | o => exact (List.nodup_cons.mp hn).1
      | b => exact (List.nodup_cons.mp hn).1
    cases i with
    | zero =>
      simp at h1
      cases k with
      | zero => rfl
      | succ k => exact absurd (lentS_mem hj np (os := os) (i := k) (by simpa using h2)) (headN h1)
    | succ i =>
      cases k with
      | zero =>
        simp at h2
        exact absurd (lentS_mem hj np (os := os) (i := i) (by simpa using h1)) (headN h2)
      | succ k => rw [lentS_inj hj np tailN (i := i) (k := k) (by simpa using h1) (by simpa using h2)]
section
variable {K : PySem.W.Frag} {E : XK} {F : Fm} {env env' : En} {σ σ' : St} {H H' : Hp} {W W' : List Addr}
theorem RelOs.at : ∀ {os : List Opd} {vs : List V} {i : Nat} {o : Opd}, RelOs K F σ H W os vs → os[i]? = some o → ∃ v, vs[i]? = some v ∧ RelO K F σ H W o v
  | _, _, i, o, .nil, h => by simp at h
  | _, _, 0, o, .cons h _, q => by simp at q; subst q; exact ⟨_, rfl, h⟩
  | _, _, i + 1, o, .cons _ r, q => by
    obtain ⟨v, h1, h2⟩ := RelOs.at (i := i) (o := o) r (by simpa using q)
    exact ⟨v, by simpa using h1, h2⟩
theorem RelOs.len : ∀ {os : List Opd} {vs : List V}, RelOs K F σ H W os vs → os.length = vs.length
  | _, _, .nil => rfl
  | _, _, .cons _ r => by simp [r.len]
open Classical in
theorem callD_ok {G : List SV → RF} {os : List Opd} {vs : List V} {Q : VK} (r : Rel K F env σ H W) (ho : RelOs K F σ H W os vs) (p : Post (rV K) K E F σ H W Q (callD G os env)) : spD K G vs H Q E := by
  unfold callD at p
  cases qa : argL env os with
  | none => rw [qa] at p; exact p.elim
  | some args =>
    rw [qa] at p; dsimp only at p
    by_cases hn : (lentS env os).Nodup
    · rw [if_pos hn] at p
      obtain ⟨la, ka⟩ := argL_at qa
      have lv := ho.len
      -- lent addresses
      let L : Addr → Prop := fun a => ∃ (i j : Nat) (sv : SV), os[i]? = some (Opd.slot j) ∧ env.sv j = some sv ∧ sv.fl ≠ .p ∧ σ[j]? = some (some (.ref a))
      let Wc := W.filter fun a => decide (L a)
      let Wn := W.filter fun a => decide (¬ L a)
      have mWc : ∀ a, a ∈ Wc ↔ a ∈ W ∧ L a := fun a => by simp [Wc, List.mem_filter]
      have mWn : ∀ a, a ∈ Wn ↔ a ∈ W ∧ ¬ L a := fun a => by simp [Wn, List.mem_filter]
      have sets : ∀ a, a ∈ Wc ++ (Wn ++ F.fr) ↔ a ∈ W ++ F.fr := fun a => by
        simp only [List.mem_append, mWc, mWn]
        by_cases h : L a <;> simp [h]
      -- an argument
      have one : ∀ (i : Nat) (a : SV), args[i]? = some a → ∃ o v, os[i]? = some o ∧ vs[i]? = some v ∧ RelO K F σ H W o v ∧ argO env o = some a := fun i a q => by
        have hi : i < os.length := by have := (List.getElem?_eq_some_iff.mp q).1; omega
        obtain ⟨a', g1, g2⟩ := ka i _ (List.getElem?_eq_getElem hi)
        rw [q] at g1; cases g1
        obtain ⟨v, g3, g4⟩ := ho.at (List.getElem?_eq_getElem hi)
        exact ⟨_, v, List.getElem?_eq_getElem hi, g3, g4, g2⟩
      -- a lent argument
      have lent : ∀ (i : Nat) (a : SV), args[i]? = some a → a.fl ≠ .p → a.fl = .b ∧ ∃ (j : Nat) (sv : SV) (b : Addr), os[i]? = some (Opd.slot j) ∧ env.sv j = some sv ∧ sv.fl ≠ .p ∧ a.d = sv.d ∧ σ[j]? = some (some (.ref b)) ∧ vs[i]? = some (.ref b) ∧ b ∈ Wc ∧ Ow K H (W ++ F.fr) b sv.d ∧ (sv.fl = .o → F.h0 b = none) := fun i a q np => by
        obtain ⟨o, v, g1, g2, g3, g4⟩ := one i a q
        cases o with
        | val d => unfold argO at g4; cases g4; exact absurd rfl np
        | slot j =>
          unfold argO at g4
          dsimp only at g4
          cases ej : env.sv j with
          | none => rw [ej] at g4; cases g4
          | some sv =>
            rw [ej] at g4
            obtain ⟨u, h1, h2⟩ := r.sl j sv ej
            have g3' : σ[j]? = some (some v) := g3
            rw [h1] at g3'; cases g3'
            obtain ⟨fl, d⟩ := sv
            have both : fl ≠ .p ∧ a = ⟨.b, d⟩ := by
              cases fl with
              | p => cases g4; exact absurd rfl np
              | o => cases g4; exact ⟨by decide, rfl⟩
              | b => cases g4; exact ⟨by decide, rfl⟩
            obtain ⟨nf, ea⟩ := both
            subst ea
            rcases h2 with ⟨z, _⟩ | ⟨_, b, e2, hb, hw, hz⟩
            · exact absurd z nf
            · subst e2
              exact ⟨rfl, j, ⟨fl, d⟩, b, g1, ej, nf, rfl, h1, g2, (mWc b).mpr ⟨hb, i, j, ⟨fl, d⟩, g1, ej, nf, h1⟩, hw, hz⟩
      have toC : ∀ {v : V} {d : D}, Rp K H (W ++ F.fr) v d → Rp K H (Wc ++ (Wn ++ F.fr)) v d := fun h => h.mono (fun _ _ _ e => e) fun a z => .inl ((sets a).mp z)
      have rc : Rel K ⟨Wn ++ F.fr, H, vs.map some⟩ (args.map some) (vs.map some) H Wc := by
        refine ⟨by simp; omega, fun i sv e => ?_, fun i j si sj a ei ej ni nj e1 e2 => ?_, fun _ _ _ _ => rfl, fun _ e => e, fun a z => ?_, fun a z y => ?_, fun a z => r.wt a ((mWc a).mp z).1⟩
        · rw [sv_map] at e
          by_cases np : sv.fl = .p
          · obtain ⟨o, v, g1, g2, g3, g4⟩ := one i sv e
            refine ⟨v, by rw [List.getElem?_map, g2]; rfl, .inl ⟨np, toC ?_⟩⟩
            cases o with
            | val d => unfold argO at g4; cases g4; exact g3
            | slot j =>
              unfold argO at g4
              dsimp only at g4
              cases ej : env.sv j with
              | none => rw [ej] at g4; cases g4
              | some sw =>
                rw [ej] at g4
                obtain ⟨u, h1, h2⟩ := r.sl j sw ej
                have g3' : σ[j]? = some (some v) := g3
                rw [h1] at g3'; cases g3'
                obtain ⟨fl, d⟩ := sw
                cases fl with
                | p =>
                  cases g4
                  rcases h2 with ⟨_, h2⟩ | ⟨n, _⟩
                  · exact h2
                  · exact absurd rfl n
                | o => cases g4; cases np
                | b => cases g4; cases np
          · obtain ⟨fb, j, sw, b, k1, k2, k3, k4, k5, k6, k7, k8, k9⟩ := lent i sv e np
            refine ⟨.ref b, by rw [List.getElem?_map, k6]; rfl, .inr ⟨np, b, rfl, k7, ?_, fun z => by rw [fb] at z; cases z⟩⟩
            rw [k4]
            exact k8.mono (fun _ _ _ e => e) (fun a z => .inl ((sets a).mp z)) fun _ e => e
        · rw [sv_map] at ei ej
          obtain ⟨_, ji, swi, bi, a1, a2, a3, a4, a5, a6, a7, a8⟩ := lent i si ei ni
          obtain ⟨_, jj, swj, bj, b1, b2, b3, b4, b5, b6, b7, b8⟩ := lent j sj ej nj
          rw [List.getElem?_map, a6] at e1; rw [List.getElem?_map, b6] at e2
          cases e1; cases e2
          have := r.inj ji jj swi swj _ a2 b2 a3 b3 a5 b5
          subst this
          exact lentS_inj a2 a3 hn a1 b1
        · rcases List.mem_append.mp z with z | z
          · exact r.wt a ((mWn a).mp z).1
          · exact r.frt a z
        · rcases List.mem_append.mp y with y | y
          · exact ((mWn a).mp y).2 ((mWc a).mp z).2
          · exact r.dis a ((mWc a).mp z).1 y
      refine ⟨args, Wc, Wn ++ F.fr, rc, ?_⟩
      -- back to the caller
      have back : ∀ {ds : List D} {H' : Hp} {W' : List Addr}, ds.length = os.length → Rel K ⟨Wn ++ F.fr, H, vs.map some⟩ (newA args ds) (vs.map some) H' W' → Step H Wc H' W' →
          Rel K F (wbE os ds 0 env) σ H' (W' ++ Wn) ∧ Step H W H' (W' ++ Wn) := by
        intro ds H' W' ld r' s'
        have S : Step H W H' (W' ++ Wn) := ⟨fun a o n e => s'.pres a o (fun z => n ((mWc a).mp z).1) e, fun a z => by
          rcases List.mem_append.mp z with z | z
          · rcases s'.grow a z with z | z
            · exact .inl ((mWc a).mp z).1
            · exact .inr z
          · exact .inl ((mWn a).mp z).1⟩
        have assoc : ∀ a, a ∈ (W' ++ Wn) ++ F.fr → a ∈ W' ++ (Wn ++ F.fr) ∨ H' a = none := fun a z => by rw [List.append_assoc] at z; exact .inl z
        -- a changeable slot behind the call
        have slot : ∀ (j : Nat) (sv : SV), env.sv j = some sv → sv.fl ≠ .p → ∃ b d, σ[j]? = some (some (.ref b)) ∧ (wbE os ds 0 env).sv j = some ⟨sv.fl, d⟩ ∧ b ∈ W' ++ Wn ∧ Ow K H' ((W' ++ Wn) ++ F.fr) b d ∧ (sv.fl = .o → F.h0 b = none) := fun j sv ej np => by
          obtain ⟨v, h1, h2⟩ := r.sl j sv ej
          rcases h2 with ⟨n, _⟩ | ⟨_, b, e2, hb, hw, hz⟩
          · exact absurd n np
          · subst e2
            have w1 : ∀ x, wb1 os ds j (some sv) = x → (wbE os ds 0 env).sv j = x := fun x h => by rw [wbE_sv, ej, h]
            obtain ⟨fl, d0⟩ := sv
            have nf : fl ≠ .p := np
            cases qw : wbAt j os ds with
            | some d =>
              obtain ⟨i, g1, g2⟩ := wbAt_some qw
              have hi : i < args.length := by have := (List.getElem?_eq_some_iff.mp g1).1; omega
              have ga := List.getElem?_eq_getElem hi
              obtain ⟨o, v, f1, f2, f3, f4⟩ := one i _ ga
              rw [g1] at f1; cases f1
              have ab : args[i].fl ≠ .p := by
                unfold argO at f4
                dsimp only at f4
                rw [ej] at f4
                cases fl with
                | p => exact absurd rfl nf
                | o => rw [← Option.some.inj f4]; exact (fun z => by cases z)
                | b => rw [← Option.some.inj f4]; exact (fun z => by cases z)
              obtain ⟨_, j', sw, b', k1, k2, k3, k4, k5, k6, k7, k8, k9⟩ := lent i _ ga ab
              rw [g1] at k1; cases k1
              rw [h1] at k5; cases k5
              have nv : (newA args ds).sv i = some ⟨args[i].fl, d⟩ := by
                have : ∀ (as : List SV) (es : List D) (i : Nat) (a : SV) (d : D), as[i]? = some a → es[i]? = some d → (newA as es).sv i = some ⟨a.fl, d⟩ := by
                  intro as
                  induction as with
                  | nil => intro es i a d h; simp at h
                  | cons a0 as ih =>
                    intro es i a d h h'
                    cases es with
                    | nil => simp at h'
                    | cons d0 es =>
                      cases i with
                      | zero => simp at h h'; subst h; subst h'; rfl
                      | succ i =>
                        have := ih es i a d (by simpa using h) (by simpa using h')
                        simpa [newA, En.sv] using this
                exact this args ds i _ d ga g2
              obtain ⟨u, m1, m2⟩ := r'.sl i _ nv
              rw [List.getElem?_map, k6] at m1; cases m1
              rcases m2 with ⟨n, _⟩ | ⟨_, b2, e3, hb2, hw2, _⟩
              · exact absurd n ab
              · cases e3
                refine ⟨b, d, h1, w1 _ ?_, List.mem_append_left _ hb2, hw2.mono (fun _ _ _ e => e) assoc (fun _ e => e), hz⟩
                unfold wb1
                cases fl with
                | p => exact absurd rfl nf
                | o => dsimp only; rw [qw]
                | b => dsimp only; rw [qw]
            | none =>
              have nl : ¬ L b := fun ⟨i, j', sw, q1, q2, q3, q4⟩ => by
                have := r.inj j j' _ sw b ej q2 np q3 h1 q4
                subst this
                exact wbAt_none ld qw i q1
              refine ⟨b, d0, h1, w1 _ ?_, List.mem_append_right _ ((mWn b).mpr ⟨hb, nl⟩), ?_, hz⟩
              · unfold wb1
                cases fl with
                | p => exact absurd rfl nf
                | o => dsimp only; rw [qw]
                | b => dsimp only; rw [qw]
              · exact hw.mono S.pF S.gF fun o e => s'.pres b o (fun z => nl ((mWc b).mp z).2) e
        have inv : ∀ (j : Nat) (sv : SV), (wbE os ds 0 env).sv j = some sv → ∃ sw, env.sv j = some sw ∧ sw.fl = sv.fl ∧ (sv.fl = .p → sv = sw) := fun j sv q => by
          rw [wbE_sv] at q
          cases ej : env.sv j with
          | none => rw [ej] at q; cases q
          | some sw =>
            rw [ej] at q
            obtain ⟨fl, d⟩ := sw
            refine ⟨_, rfl, ?_⟩
            unfold wb1 at q
            cases fl with
            | p => cases q; exact ⟨rfl, fun _ => rfl⟩
            | o =>
              dsimp only at q
              split at q
              · cases q; exact ⟨rfl, fun z => by cases z⟩
              · cases q; exact ⟨rfl, fun z => by cases z⟩
            | b =>
              dsimp only at q
              split at q
              · cases q; exact ⟨rfl, fun z => by cases z⟩
              · cases q; exact ⟨rfl, fun z => by cases z⟩
        refine ⟨⟨by rw [wbE_len]; exact r.len, fun j sv q => ?_, fun i j si sj a ei ej ni nj e1 e2 => ?_, fun j sv q b => ?_, fun a e => r.trk a (r'.trk a e), fun a z => r'.frt a (List.mem_append_right _ z), fun a z y => ?_, fun a z => ?_⟩, S⟩
        · obtain ⟨sw, ej, hf, hp⟩ := inv j sv q
          by_cases np : sv.fl = .p
          · obtain ⟨v, h1, h2⟩ := r.sl j sw ej
            refine ⟨v, h1, .inl ⟨np, ?_⟩⟩
            rw [hp np]
            rcases h2 with ⟨_, h2⟩ | ⟨n, _⟩
            · exact S.rp h2
            · exact absurd (hf.trans np) n
          · obtain ⟨b, d, h1, h2, h3, h4, h5⟩ := slot j sw ej (by rw [hf]; exact np)
            rw [h2] at q; cases q
            exact ⟨.ref b, h1, .inr ⟨np, b, rfl, h3, h4, h5⟩⟩
        · obtain ⟨s1, f1, f2, _⟩ := inv i si ei
          obtain ⟨s2, g1, g2, _⟩ := inv j sj ej
          exact r.inj i j s1 s2 a f1 g1 (by rw [f2]; exact ni) (by rw [g2]; exact nj) e1 e2
        · obtain ⟨sw, ej, hf, _⟩ := inv j sv q
          exact r.bor j sw ej (hf.trans b)
        · rcases List.mem_append.mp z with z | z
          · exact r'.dis a z (List.mem_append_right _ y)
          · exact r.dis a ((mWn a).mp z).1 y
        · rcases List.mem_append.mp z with z | z
          · exact r'.wt a z
          · exact r'.frt a (List.mem_append_left _ z)
      cases qG : G args with
      | stuck => rw [qG] at p; exact p.elim
      | ret sv ds =>
        rw [qG] at p; dsimp only at p
        by_cases ld : ds.length = os.length
        · rw [if_pos ld] at p
          intro v H' W' r' s' rv
          obtain ⟨R2, S2⟩ := back ld r' s'
          refine p v H' (W' ++ Wn) R2 S2 ⟨?_, fun np => ⟨(rv.2 np).1, fun j sw ej nj z => ?_⟩⟩
          · rcases rv.1 with ⟨e1, h1⟩ | ⟨e1, b, e2, hb, hw, hz⟩
            · exact .inl ⟨e1, h1.mono (fun _ _ _ e => e) fun a z => by rw [List.append_assoc] at z; exact .inl z⟩
            · exact .inr ⟨e1, b, e2, List.mem_append_left _ hb, hw.mono (fun _ _ _ e => e) (fun a z => by rw [List.append_assoc] at z; exact .inl z) fun _ e => e, fun z => r.trk b (hz z)⟩
          · -- a new thing is no slot's
            rcases rv.1 with ⟨e1, _⟩ | ⟨e1, b, e2, hb, hw, hz⟩
            · exact np e1
            · subst e2
              have hb0 : H b = none := hz (rv.2 np).1
              obtain ⟨u, h1, h2⟩ := R2.sl j sw ej
              rw [z] at h1; cases h1
              rw [wbE_sv] at ej
              cases e0 : env.sv j with
              | none => rw [e0] at ej; cases ej
              | some s0 =>
                obtain ⟨u, h3, h4⟩ := r.sl j s0 e0
                rw [z] at h3; cases h3
                rcases h4 with ⟨n, _⟩ | ⟨_, b2, e3, hb2, _⟩
                · rw [e0] at ej
                  obtain ⟨fl, d⟩ := s0
                  have n' : fl = .p := n
                  subst n'
                  unfold wb1 at ej
                  cases ej
                  exact nj rfl
                · cases e3; exact r.wt _ hb2 hb0
        · rw [if_neg ld] at p; exact p.elim
      | exc x ds =>
        rw [qG] at p; dsimp only at p
        by_cases ld : ds.length = os.length
        · rw [if_pos ld] at p
          intro c d H' W' r' s' hx
          obtain ⟨R2, S2⟩ := back ld r' s'
          refine p c d H' (W' ++ Wn) R2 S2 ⟨hx.1, ?_⟩
          have hx2 := hx.2
          cases d with
          | none => exact hx2
          | some a =>
            obtain ⟨nf, fs, h1, h2⟩ := hx2
            refine ⟨nf, fs, h1, fun f y q => ?_⟩
            obtain ⟨v, g1, g2⟩ := h2 f y q
            exact ⟨v, g1, g2.mono (fun _ _ _ e => e) fun a z => by rw [List.append_assoc] at z; exact .inl z⟩
        · rw [if_neg ld] at p; exact p.elim
    · rw [if_neg hn] at p; exact p.elim
theorem sf_call {G : List SV → RF} {fa : En → R (List Opd)} {t : TA} (ha : SA K E t fa) : SF K E (tCall (spD K G) [] E t) (callE G fa) := by
  intro F env σ H W Q r p
  refine Sn.go (t := t) ha r p fun e H W os vs rel s rv p => ?_
  rw [List.append_nil]
  exact callD_ok rel rv p
end
end DL

namespace DL
open PySem L2

section
variable {K : PySem.W.Frag} {H : Hp} {A : List Addr} {v u : V}
theorem rd_int {i : Int} (h : RdOk K H A v (.int i)) : v = .int i := by
  rcases h with h | ⟨a, _, h⟩
  · cases h; rfl
  · cases h
theorem rd_bl {b : Bool} (h : RdOk K H A v (.bl b)) : v = .bl b := by
  rcases h with h | ⟨a, _, h⟩
  · cases h; rfl
  · cases h
theorem rd_str {x : Str} (h : RdOk K H A v (.str x)) : v = .str x := by
  rcases h with h | ⟨a, _, h⟩
  · cases h; rfl
  · cases h
theorem rd_non (h : RdOk K H A v .non) : v = .non := by
  rcases h with h | ⟨a, _, h⟩
  · cases h; rfl
  · cases h
theorem rd_opq {w : V} (h : RdOk K H A v (.opq w)) : v = w := by
  rcases h with h | ⟨a, _, h⟩
  · cases h; rfl
  · cases h
theorem rd_lst {ds : List D} (h : RdOk K H A v (.lst ds)) : ∃ a xs, v = .ref a ∧ H a = some (.lst xs) ∧ RpL K H A xs ds := by
  rcases h with h | ⟨a, e, h⟩
  · cases h with | lst n h r => exact ⟨_, _, rfl, h, r⟩
  · cases h with | lst h r => exact ⟨a, _, e, h, r⟩
theorem rd_tup {ds : List D} (h : RdOk K H A v (.tup ds)) : ∃ a xs, v = .ref a ∧ SqTA K H A a xs ∧ RpL K H A xs ds := by
  rcases h with h | ⟨a, e, h⟩
  · cases h with | tup h r => exact ⟨_, _, rfl, h, r⟩
  · cases h
theorem rd_frt {ds : List D} (h : RdOk K H A v (.frt ds)) : ∃ a xs, v = .ref a ∧ KT K a xs ∧ RpL K H A xs ds := by
  rcases h with h | ⟨a, e, h⟩
  · cases h with | frt h r => exact ⟨_, _, rfl, h, r⟩
  · cases h
theorem rd_frl {ds : List D} (h : RdOk K H A v (.frl ds)) : ∃ a xs, v = .ref a ∧ SqLA K H A a xs ∧ RpL K H A xs ds := by
  rcases h with h | ⟨a, e, h⟩
  · cases h with | frl h r => exact ⟨_, _, rfl, h, r⟩
  · cases h
theorem rd_dt {ds : List (List Key × D)} (h : RdOk K H A v (.dt ds)) : ∃ a xs, v = .ref a ∧ H a = some (.dT xs) ∧ RpK K H A xs ds := by
  rcases h with h | ⟨a, e, h⟩
  · cases h with | dt n h r => exact ⟨_, _, rfl, h, r⟩
  · cases h with | dt h r => exact ⟨a, _, e, h, r⟩
end
/-- a list, a tuple: its items -/
def itemsD : D → Option (List D)
  | .lst ds => some ds
  | .frl ds => some ds
  | .tup ds => some ds
  | .frt ds => some ds
  | _ => none
theorem rd_items {K : PySem.W.Frag} {H : Hp} {A : List Addr} {v : V} {d : D} {ds : List D} (h : RdOk K H A v d) (e : itemsD d = some ds) : ∃ a xs, v = .ref a ∧ (SqL K H a xs ∨ SqT K H a xs) ∧ RpL K H A xs ds := by
  cases d with
  | lst l => cases e; obtain ⟨a, xs, h1, h2, h3⟩ := rd_lst h; exact ⟨a, xs, h1, .inl (.inl (.inl h2)), h3⟩
  | frl l => cases e; obtain ⟨a, xs, h1, h2, h3⟩ := rd_frl h; exact ⟨a, xs, h1, .inl h2.sq, h3⟩
  | tup l => cases e; obtain ⟨a, xs, h1, h2, h3⟩ := rd_tup h; exact ⟨a, xs, h1, .inr h2.sq, h3⟩
  | frt l => cases e; obtain ⟨a, xs, h1, h2, h3⟩ := rd_frt h; exact ⟨a, xs, h1, .inr (.inr h2), h3⟩
  | _ => cases e
/-- a list: its items -/
def itemsL : D → Option (List D)
  | .lst ds => some ds
  | .frl ds => some ds
  | _ => none
theorem rd_itemsL {K : PySem.W.Frag} {H : Hp} {A : List Addr} {v : V} {d : D} {ds : List D} (h : RdOk K H A v d) (e : itemsL d = some ds) : ∃ a xs, v = .ref a ∧ SqL K H a xs ∧ RpL K H A xs ds := by
  cases d with
  | lst l => cases e; obtain ⟨a, xs, h1, h2, h3⟩ := rd_lst h; exact ⟨a, xs, h1, .inl (.inl h2), h3⟩
  | frl l => cases e; obtain ⟨a, xs, h1, h2, h3⟩ := rd_frl h; exact ⟨a, xs, h1, h2.sq, h3⟩
  | _ => cases e
def pI (i : Int) : Option SV := some ⟨.p, .int i⟩
def pB (b : Bool) : Option SV := some ⟨.p, .bl b⟩
def nL (ds : List D) : Option SV := some ⟨.o, .lst ds⟩
theorem fine_p (d : D) : Fine ⟨.p, d⟩ := .inl rfl
theorem fine_l (ds : List D) : Fine ⟨.o, .lst ds⟩ := .inr ⟨rfl, ds, rfl⟩
theorem res_p {K : PySem.W.Frag} {H : Hp} {A : List Addr} {Q : VK} {d : D} {w : V} (h : ResOk K H A Q ⟨.p, d⟩) (r : Rp K H A w d) : Q w H := h w H (.inl rfl) r
theorem opr_or {X : Cx} {f : Value → Value → Sem Value} {r r' : R2} (h : OpR X f r) (h' : OpR X f r') : OpR X f (fun x y H Q => r x y H Q ∨ r' x y H Q) := by
  intro pins s σ H x y v u Q I rx ry q
  rcases q with q | q
  · exact h pins s σ H x y v u Q I rx ry q
  · exact h' pins s σ H x y v u Q I rx ry q
theorem callr_or {X : Cx} {f : Value} {r r' : List V → Hp → VK → Prop} (h : CallR X f r) (h' : CallR X f r') : CallR X f (fun xs H Q => r xs H Q ∨ r' xs H Q) := by
  intro pins s σ H xs us Q I rx q
  rcases q with q | q
  · exact h pins s σ H xs us Q I rx q
  · exact h' pins s σ H xs us Q I rx q

def numG (C : Int → Int → Prop) [∀ i j, Decidable (C i j)] (g : Int → Int → Int) : D → D → Option SV
  | .int i, .int j => if C i j then pI (g i j) else none
  | _, _ => none
def cmpG (g : Int → Int → Bool) : D → D → Option SV
  | .int i, .int j => pB (g i j)
  | _, _ => none
instance (i j : Int) : Decidable (CMul i j) := by unfold CMul; infer_instance
instance (i j : Int) : Decidable (CDivW i j) := by unfold CDivW; infer_instance
instance (i j : Int) : Decidable (CPow i j) := by unfold CPow; infer_instance
theorem numG_fine {C : Int → Int → Prop} [∀ i j, Decidable (C i j)] {g : Int → Int → Int} (d e : D) (z : SV) (h : numG C g d e = some z) : Fine z := by
  unfold numG at h
  split at h
  · split at h
    · cases h; exact fine_p _
    · cases h
  · cases h
theorem cmpG_fine {g : Int → Int → Bool} (d e : D) (z : SV) (h : cmpG g d e = some z) : Fine z := by
  unfold cmpG at h
  split at h
  · cases h; exact fine_p _
  · cases h
section
variable {K : PySem.W.Frag}
theorem o_num {C : Int → Int → Prop} [∀ i j, Decidable (C i j)] {g : Int → Int → Int} : Op2 K (L2.rI C fun i j => .int (g i j)) (numG C g) := by
  intro H A v u d e z Q hd he hg q
  unfold numG at hg
  split at hg
  · rename_i i j
    split at hg
    · rename_i hc
      cases hg
      exact ⟨i, j, rd_int hd, rd_int he, hc, res_p q (.int _)⟩
    · cases hg
  · cases hg
theorem o_cmp {g : Int → Int → Bool} : Op2 K (rI0 fun i j => .bl (g i j)) (cmpG g) := by
  intro H A v u d e z Q hd he hg q
  unfold cmpG at hg
  split at hg
  · rename_i i j
    cases hg
    exact ⟨i, j, rd_int hd, rd_int he, res_p q (.bl _)⟩
  · cases hg
def subG : D → D → Option SV
  | .int i, .int j => pI (i - j)
  | _, _ => none
theorem subG_fine (d e : D) (z : SV) (h : subG d e = some z) : Fine z := by
  unfold subG at h
  split at h
  · cases h; exact fine_p _
  · cases h
theorem o_sub : Op2 K (rI0 fun i j => .int (i - j)) subG := by
  intro H A v u d e z Q hd he hg q
  unfold subG at hg
  split at hg
  · rename_i i j
    cases hg
    exact ⟨i, j, rd_int hd, rd_int he, res_p q (.int _)⟩
  · cases hg
/-- a + b: numbers, lists, tuples -/
def rAddA (K : PySem.W.Frag) : R2 := fun x y H Q => rI0 (fun i j => .int (i + j)) x y H Q ∨ (rCat x y H Q ∨ rCatT K x y H Q)
def addG : D → D → Option SV
  | .int i, .int j => pI (i + j)
  | .lst a, .lst b => if a.length + b.length ≤ 100000 then nL (a ++ b) else none
  | .tup (x :: a), .tup b => if a.length + b.length < 100000 then some ⟨.p, .tup (x :: a ++ b)⟩ else none
  | _, _ => none
theorem addG_fine (d e : D) (z : SV) (h : addG d e = some z) : Fine z := by
  unfold addG at h
  split at h
  · cases h; exact fine_p _
  · split at h
    · cases h; exact fine_l _
    · cases h
  · split at h
    · cases h; exact fine_p _
    · cases h
  · cases h
theorem SqTA.new {H : Hp} {A : List Addr} {p : Addr} {xs : List V} (h : H p = some (.tup xs)) (n : p ∉ A) : SqTA K H A p xs := ⟨n, h⟩
end
theorem op_addA {X : Cx} : OpR X (binaryOp .Add) (rAddA X.K) := opr_or op_add (opr_or op_cat op_catT)
def Op2s (K : PySem.W.Frag) (r : R2) (g : D → D → Option SV) : Prop := ∀ H A v u d e z Q, (∀ a ∈ A, H a ≠ none) → RdOk K H A v d → RdOk K H A u e → g d e = some z → ResOk K H A Q z → r v u H Q
theorem Op2.s {K : PySem.W.Frag} {r : R2} {g : D → D → Option SV} (h : Op2 K r g) : Op2s K r g := fun H A v u d e z Q _ => h H A v u d e z Q
def OpCs (K : PySem.W.Frag) (r : List V → Hp → VK → Prop) (g : List D → Option SV) : Prop := ∀ H A vs ds z Q, (∀ a ∈ A, H a ≠ none) → RdL K H A vs ds → g ds = some z → ResOk K H A Q z → r vs H Q
section
variable {K : PySem.W.Frag} {E : XK} {ta tb te : TE} {t : TA}
theorem sf_op2s {r : R2} {g : D → D → Option SV} {fa fb : En → R Opd} (ho : Op2s K r g) (hf : ∀ d e z, g d e = some z → Fine z) (ha : SE K E ta fa) (hb : SE K E tb fb) : SF K E (tOp r ta tb) (op2 g fa fb) := by
  intro F env σ H W Q rel p
  refine Sn.go (t := ta) ha rel p fun e1 H1 W1 a v rel1 s1 rv p => ?_
  refine Sn.go (t := tb) hb rel1 p fun e2 H2 W2 b u rel2 s2 ru p => ?_
  have rv2 := RelO.step s2 rv
  cases q2 : a.get e2 with
  | none => rw [q2] at p; exact p.elim
  | some x =>
    cases q3 : b.get e2 with
    | none => rw [q2, q3] at p; exact p.elim
    | some y =>
      rw [q2, q3] at p; dsimp only at p
      cases q4 : g x y with
      | none => rw [q4] at p; exact p.elim
      | some z =>
        rw [q4] at p
        exact ho H2 (W2 ++ F.fr) v u x y z Q rel2.all (rel2.get rv2 q2) (rel2.get ru q3) q4 (res_of rel2 p (hf _ _ _ q4))
theorem sf_callBs {r : List V → Hp → VK → Prop} {g : List D → Option SV} {fa : En → R (List Opd)} (ho : OpCs K r g) (hf : ∀ d z, g d = some z → Fine z) (ha : SA K E t fa) : SF K E (tCB r t) (callB g fa) := by
  intro F env σ H W Q rel p
  refine Sn.go (t := t) ha rel p fun e H W as vs rel s rv p => ?_
  cases q : getL as e with
  | none => rw [q] at p; exact p.elim
  | some xs =>
    rw [q] at p; dsimp only at p
    cases q2 : g xs with
    | none => rw [q2] at p; exact p.elim
    | some z =>
      rw [q2] at p
      exact ho H (W ++ F.fr) vs xs z Q rel.all (getL_ok rel rv q) q2 (res_of rel p (hf _ _ q2))
theorem o_add : Op2s K (rAddA K) addG := by
  intro H A v u d e z Q hA hd he hg q
  unfold addG at hg
  split at hg
  · rename_i i j
    cases hg
    exact .inl ⟨i, j, rd_int hd, rd_int he, res_p q (.int _)⟩
  · rename_i a b
    split at hg
    · rename_i hc
      cases hg
      obtain ⟨p1, x1, e1, h1, r1⟩ := rd_lst hd
      obtain ⟨p2, x2, e2, h2, r2⟩ := rd_lst he
      refine .inr (.inl ⟨p1, p2, x1, x2, e1, e2, h1, h2, sz_of (by rw [r1.length, r2.length]; exact hc), fun p hp => ?_⟩)
      exact q p _ hp (r1.append r2)
    · cases hg
  · rename_i x a b
    split at hg
    · rename_i hc
      cases hg
      obtain ⟨p1, x1, e1, h1, r1⟩ := rd_tup hd
      obtain ⟨p2, x2, e2, h2, r2⟩ := rd_tup he
      have l1 := r1.length
      have l2 := r2.length
      simp at l1
      refine .inr (.inr ⟨p1, p2, x1, x2, e1, e2, h1.sq, h2.sq, fun z => by rw [z] at l1; simp at l1, sz_of (by omega), fun z => ?_, fun _ p hp => ?_⟩)
      · subst z
        cases r2
        refine q (.ref p1) H (.inl rfl) ?_
        rw [List.append_nil]
        exact .tup h1 r1
      · refine q (.ref p) _ (.inr ⟨p, _, hp, rfl⟩) ?_
        have hk : ∀ a o, a ∉ A → H a = some o → (upd H p (.tup (x1 ++ x2))) a = some o := fun a o _ e => upd_kept hp a o e
        have hg : ∀ a, a ∈ A → a ∈ A ∨ H a = none := fun a z => .inl z
        exact .tup (SqTA.new upd_same fun z => hA p z hp) ((r1.append r2).mono hk hg)
    · cases hg
  · cases hg
/-- a * b: numbers, a list repeated -/
def rMulA : R2 := fun x y H Q => L2.rI CMul (fun i j => .int (i * j)) x y H Q ∨ rRep x y H Q
def mulG : D → D → Option SV
  | .int i, .int j => if CMul i j then pI (i * j) else none
  | .lst a, .int k => if a.length * k.toNat ≤ 100000 ∧ k ≤ 100000 ∧ -100000 ≤ k then nL (List.replicate k.toNat a).flatten else none
  | _, _ => none
theorem mulG_fine (d e : D) (z : SV) (h : mulG d e = some z) : Fine z := by
  unfold mulG at h
  split at h
  · split at h
    · cases h; exact fine_p _
    · cases h
  · split at h
    · cases h; exact fine_l _
    · cases h
  · cases h
theorem RpL.rep {H : Hp} {A : List Addr} {xs : List V} {ds : List D} (r : RpL K H A xs ds) : ∀ n : Nat, RpL K H A (List.replicate n xs).flatten (List.replicate n ds).flatten
  | 0 => .nil
  | n + 1 => by
    rw [List.replicate_succ, List.replicate_succ, List.flatten_cons, List.flatten_cons]
    exact r.append (RpL.rep r n)
theorem o_mul : Op2s K rMulA mulG := by
  intro H A v u d e z Q hA hd he hg q
  unfold mulG at hg
  split at hg
  · rename_i i j
    split at hg
    · rename_i hc
      cases hg
      exact .inl ⟨i, j, rd_int hd, rd_int he, hc, res_p q (.int _)⟩
    · cases hg
  · rename_i a k
    split at hg
    · rename_i hc
      cases hg
      obtain ⟨p1, x1, e1, h1, r1⟩ := rd_lst hd
      refine .inr ⟨p1, k, x1, e1, rd_int he, h1, by omega, by omega, sz_of (by rw [r1.length]; exact hc.1), fun p hp => ?_⟩
      exact q p _ hp (r1.rep _)
    · cases hg
  · cases hg
end
theorem op_mulA {X : Cx} : OpR X (binaryOp .Mult) rMulA := opr_or op_mul op_rep

mutual
def toPy : D → Option PyData
  | .non => some .none
  | .bl b => some (.bool b)
  | .int i => some (.int i)
  | .str x => some (.str x)
  | .tup xs => (toPyL xs).map .tuple
  | .lst xs => (toPyL xs).map .list
  | _ => none
def toPyL : List D → Option (List PyData)
  | [] => some []
  | x :: xs => match toPy x, toPyL xs with
    | some p, some ps => some (p :: ps)
    | _, _ => none
end
section
variable {K : PySem.W.Frag} {H : Hp} {A : List Addr}
mutual
theorem dp_of : ∀ {v : V} {d : D} {q : PyData}, Rp K H A v d → toPy d = some q → Dp K H v q
  | _, _, _, .non, e => by unfold toPy at e; cases e; exact .non
  | _, _, _, .bl b, e => by unfold toPy at e; cases e; exact .bl b
  | _, _, _, .int i, e => by unfold toPy at e; cases e; exact .int i
  | _, _, _, .str x, e => by unfold toPy at e; cases e; exact .str x
  | _, _, _, .opq v, e => by unfold toPy at e; cases e
  | _, _, q, .tup (ds := ds) h r, e => by
    unfold toPy at e
    cases e2 : toPyL ds with
    | none => rw [e2] at e; cases e
    | some ps => rw [e2] at e; cases e; exact .tup h.sq (dpL_of r e2)
  | _, _, q, .lst (ds := ds) n h r, e => by
    unfold toPy at e
    cases e2 : toPyL ds with
    | none => rw [e2] at e; cases e
    | some ps => rw [e2] at e; cases e; exact .lst (.inl (.inl h)) (dpL_of r e2)
  | _, _, _, .frl h r, e => by unfold toPy at e; cases e
  | _, _, _, .frt h r, e => by unfold toPy at e; cases e
  | _, _, _, .dt n h r, e => by unfold toPy at e; cases e
theorem dpL_of : ∀ {vs : List V} {ds : List D} {ps : List PyData}, RpL K H A vs ds → toPyL ds = some ps → DpAll K H vs ps
  | _, _, _, .nil, e => by unfold toPyL at e; cases e; exact .nil
  | _, _, ps, .cons (d := d) (ds := ds) h r, e => by
    unfold toPyL at e
    cases e1 : toPy d with
    | none => rw [e1] at e; cases e
    | some p =>
      cases e2 : toPyL ds with
      | none => rw [e1, e2] at e; cases e
      | some qs => rw [e1, e2] at e; cases e; exact .cons (dp_of h e1) (dpL_of r e2)
end
theorem dp_rd {v : V} {d : D} {q : PyData} (h : RdOk K H A v d) (e : toPy d = some q) : Dp K H v q := by
  rcases h with h | ⟨a, e1, h⟩
  · exact dp_of h e
  · subst e1
    cases h with
    | lst h r =>
      rename_i xs ds
      unfold toPy at e
      cases e2 : toPyL ds with
      | none => rw [e2] at e; cases e
      | some ps => rw [e2] at e; cases e; exact .lst (.inl (.inl h)) (dpL_of r e2)
    | dt h r => unfold toPy at e; cases e
end
def eqD (d e : D) : Option Bool := match toPy d, toPy e with
  | some p, some q => if SeqAt.shaped p = true ∧ SeqAt.shaped q = true then some (PyData.eqv p q) else none
  | _, _ => none
def eqG (neg : Bool) : D → D → Option SV := fun d e => match eqD d e with
  | some b => pB (if neg then !b else b)
  | none => none
theorem eqG_fine {neg : Bool} (d e : D) (z : SV) (h : eqG neg d e = some z) : Fine z := by
  unfold eqG at h
  split at h
  · cases h; exact fine_p _
  · cases h
section
variable {K : PySem.W.Frag}
theorem eqD_of {H : Hp} {A : List Addr} {v u : V} {d e : D} {b : Bool} (hd : RdOk K H A v d) (he : RdOk K H A u e) (h : eqD d e = some b) : ∃ p q, Dp K H v p ∧ Dp K H u q ∧ SeqAt.shaped p = true ∧ SeqAt.shaped q = true ∧ b = PyData.eqv p q := by
  unfold eqD at h
  split at h
  · rename_i p q e1 e2
    split at h
    · rename_i hs
      cases h
      exact ⟨p, q, dp_rd hd e1, dp_rd he e2, hs.1, hs.2, rfl⟩
    · cases h
  · cases h
theorem o_eq : Op2 K (rEqD K) (eqG false) := by
  intro H A v u d e z Q hd he hg q
  unfold eqG at hg
  split at hg
  · rename_i b hb
    cases hg
    obtain ⟨x, y, h1, h2, h3, h4, h5⟩ := eqD_of hd he hb
    refine ⟨x, y, h1, h2, h3, h4, ?_⟩
    rw [← h5]
    exact res_p q (.bl b)
  · cases hg
theorem o_ne : Op2 K (rNeD K) (eqG true) := by
  intro H A v u d e z Q hd he hg q
  unfold eqG at hg
  split at hg
  · rename_i b hb
    cases hg
    obtain ⟨x, y, h1, h2, h3, h4, h5⟩ := eqD_of hd he hb
    refine ⟨x, y, h1, h2, h3, h4, ?_⟩
    rw [← h5]
    exact res_p q (.bl (!b))
  · cases hg
/-- x is None -/
def isNG (neg : Bool) : D → D → Option SV
  | .non, .non => pB (!neg)
  | .bl _, .non => pB neg
  | .int _, .non => pB neg
  | .str _, .non => pB neg
  | .tup _, .non => pB neg
  | .lst _, .non => pB neg
  | .frl _, .non => pB neg
  | .dt _, .non => pB neg
  | _, _ => none
theorem isNG_fine {neg : Bool} (d e : D) (z : SV) (h : isNG neg d e = some z) : Fine z := by
  unfold isNG at h
  split at h <;> first | (cases h; exact fine_p _) | cases h
theorem isN_core {H : Hp} {A : List Addr} {v u : V} {d e : D} {z : SV} {neg : Bool} {Q : VK} (hd : RdOk K H A v d) (he : RdOk K H A u e) (hg : isNG neg d e = some z) (q : ResOk K H A Q z) : u = .non ∧ ∃ b : Bool, b = decide (v = .non) ∧ Q (.bl (if neg then !b else b)) H := by
  unfold isNG at hg
  split at hg
  case h_9 => cases hg
  all_goals (cases hg; refine ⟨rd_non he, ?_⟩)
  · exact ⟨true, by rw [rd_non hd]; rfl, by cases neg <;> exact res_p q (.bl _)⟩
  · exact ⟨false, by rw [rd_bl hd]; rfl, by cases neg <;> exact res_p q (.bl _)⟩
  · exact ⟨false, by rw [rd_int hd]; rfl, by cases neg <;> exact res_p q (.bl _)⟩
  · exact ⟨false, by rw [rd_str hd]; rfl, by cases neg <;> exact res_p q (.bl _)⟩
  · obtain ⟨a, xs, e1, _⟩ := rd_tup hd; exact ⟨false, by rw [e1]; rfl, by cases neg <;> exact res_p q (.bl _)⟩
  · obtain ⟨a, xs, e1, _⟩ := rd_lst hd; exact ⟨false, by rw [e1]; rfl, by cases neg <;> exact res_p q (.bl _)⟩
  · obtain ⟨a, xs, e1, _⟩ := rd_frl hd; exact ⟨false, by rw [e1]; rfl, by cases neg <;> exact res_p q (.bl _)⟩
  · obtain ⟨a, xs, e1, _⟩ := rd_dt hd; exact ⟨false, by rw [e1]; rfl, by cases neg <;> exact res_p q (.bl _)⟩
theorem o_isN : Op2 K (fun x y H Q => y = .non ∧ Q (.bl (decide (x = .non))) H) (isNG false) := by
  intro H A v u d e z Q hd he hg q
  obtain ⟨h1, b, h2, h3⟩ := isN_core hd he hg q
  exact ⟨h1, by rw [← h2]; exact h3⟩
theorem o_notN : Op2 K (fun x y H Q => y = .non ∧ Q (.bl (!decide (x = .non))) H) (isNG true) := by
  intro H A v u d e z Q hd he hg q
  obtain ⟨h1, b, h2, h3⟩ := isN_core hd he hg q
  exact ⟨h1, by rw [← h2]; exact h3⟩

def ixG : D → D → Option SV := fun d e => match itemsD d, e with
  | some ds, .int i => (match atI ds i with | some x => some ⟨.p, x⟩ | none => none)
  | _, _ => none
theorem ixG_fine (d e : D) (z : SV) (h : ixG d e = some z) : Fine z := by
  unfold ixG at h
  split at h
  · split at h
    · cases h; exact fine_p _
    · cases h
  · cases h
theorem at_of {H : Hp} {A : List Addr} {xs : List V} {ds : List D} {i : Int} {d : D} (r : RpL K H A xs ds) (h : atI ds i = some d) : ∃ v, atI xs i = some v ∧ Rp K H A v d := by
  unfold atI at h ⊢
  rw [r.length]
  cases q : ixN ds.length i with
  | none => rw [q] at h; cases h
  | some j =>
    rw [q] at h
    exact r.get h
theorem o_ix : Op2 K (rIx K) ixG := by
  intro H A v u d e z Q hd he hg q
  unfold ixG at hg
  split at hg
  · rename_i ds i e1
    split at hg
    · rename_i x e2
      cases hg
      obtain ⟨a, xs, h1, h2, h3⟩ := rd_items hd e1
      obtain ⟨w, h4, h5⟩ := at_of h3 e2
      rcases h2 with h2 | h2
      · exact .inl ⟨a, xs, i, w, h1, rd_int he, h2, h4, res_p q h5⟩
      · exact .inr (.inl ⟨a, xs, i, w, h1, rd_int he, h2, h4, res_p q h5⟩)
    · cases hg
  · cases hg
end
end DL

namespace DL
open PySem L2

def intsOf : List D → Option (List Int)
  | [] => some []
  | .int i :: r => (intsOf r).map (i :: ·)
  | _ => none
def blsOf : List D → Option (List Bool)
  | [] => some []
  | .bl i :: r => (blsOf r).map (i :: ·)
  | _ => none
theorem intsOf_eq : ∀ {ds : List D} {ns : List Int}, intsOf ds = some ns → ds = ns.map D.int
  | [], ns, h => by unfold intsOf at h; cases h; rfl
  | .int i :: r, ns, h => by
    unfold intsOf at h
    cases e : intsOf r with
    | none => rw [e] at h; cases h
    | some ms => rw [e] at h; cases h; rw [intsOf_eq e]; rfl
  | .non :: _, _, h => by cases h
  | .bl _ :: _, _, h => by cases h
  | .str _ :: _, _, h => by cases h
  | .opq _ :: _, _, h => by cases h
  | .tup _ :: _, _, h => by cases h
  | .lst _ :: _, _, h => by cases h
  | .frl _ :: _, _, h => by cases h
  | .frt _ :: _, _, h => by cases h
  | .dt _ :: _, _, h => by cases h
theorem blsOf_eq : ∀ {ds : List D} {ns : List Bool}, blsOf ds = some ns → ds = ns.map D.bl
  | [], ns, h => by unfold blsOf at h; cases h; rfl
  | .bl i :: r, ns, h => by
    unfold blsOf at h
    cases e : blsOf r with
    | none => rw [e] at h; cases h
    | some ms => rw [e] at h; cases h; rw [blsOf_eq e]; rfl
  | .non :: _, _, h => by cases h
  | .int _ :: _, _, h => by cases h
  | .str _ :: _, _, h => by cases h
  | .opq _ :: _, _, h => by cases h
  | .tup _ :: _, _, h => by cases h
  | .lst _ :: _, _, h => by cases h
  | .frl _ :: _, _, h => by cases h
  | .frt _ :: _, _, h => by cases h
  | .dt _ :: _, _, h => by cases h
@[simp] theorem intsOf_map : ∀ ns : List Int, intsOf (ns.map D.int) = some ns
  | [] => rfl
  | n :: r => by rw [List.map_cons]; unfold intsOf; rw [intsOf_map r]; rfl
@[simp] theorem blsOf_map : ∀ ns : List Bool, blsOf (ns.map D.bl) = some ns
  | [] => rfl
  | n :: r => by rw [List.map_cons]; unfold blsOf; rw [blsOf_map r]; rfl
section
variable {K : PySem.W.Frag}
def rLenA (K : PySem.W.Frag) : List V → Hp → VK → Prop := fun xs H Q => (∃ p ys, xs = [.ref p] ∧ (SqL K H p ys ∨ SqT K H p ys) ∧ Q (.int ys.length) H) ∨ (∃ z, xs = [.str z] ∧ z.length ≤ sizeLine ∧ Q (.int z.length) H)
def lenG : List D → Option SV
  | [.str z] => if z.length ≤ 100000 then pI z.length else none
  | [d] => (match itemsD d with | some ds => pI ds.length | none => none)
  | _ => none
theorem lenG_fine (d : List D) (z : SV) (h : lenG d = some z) : Fine z := by
  unfold lenG at h
  split at h
  · split at h
    · cases h; exact fine_p _
    · cases h
  · split at h
    · cases h; exact fine_p _
    · cases h
  · cases h
theorem rdL_1 {H : Hp} {A : List Addr} {vs : List V} {d : D} (h : RdL K H A vs [d]) : ∃ v, vs = [v] ∧ RdOk K H A v d := by
  cases h with | cons a b => cases b; exact ⟨_, rfl, a⟩
theorem rdL_2 {H : Hp} {A : List Addr} {vs : List V} {d e : D} (h : RdL K H A vs [d, e]) : ∃ v u, vs = [v, u] ∧ RdOk K H A v d ∧ RdOk K H A u e := by
  cases h with | cons a b => cases b with | cons b c => cases c; exact ⟨_, _, rfl, a, b⟩
theorem o_len : OpCs K (rLenA K) lenG := by
  intro H A vs ds z Q hA hd hg q
  unfold lenG at hg
  split at hg
  · rename_i x
    split at hg
    · rename_i hz
      cases hg
      obtain ⟨v, rfl, h⟩ := rdL_1 hd
      rw [rd_str h]
      exact .inr ⟨x, rfl, sz_of hz, res_p q (.int _)⟩
    · cases hg
  · rename_i d hx
    split at hg
    · rename_i xs e
      cases hg
      obtain ⟨v, rfl, h⟩ := rdL_1 hd
      obtain ⟨a, ys, rfl, h2, h3⟩ := rd_items h e
      refine .inl ⟨a, ys, rfl, h2, ?_⟩
      rw [h3.length]
      exact res_p q (.int _)
    · cases hg
  · cases hg
def rListA (K : PySem.W.Frag) : List V → Hp → VK → Prop := fun xs H Q => ∃ p ys, xs = [.ref p] ∧ (SqL K H p ys ∨ SqT K H p ys) ∧ ∀ l, H l = none → Q (.ref l) (upd H l (.lst ys))
def listG : List D → Option SV
  | [d] => (match itemsD d with | some ds => nL ds | none => none)
  | _ => none
theorem listG_fine (d : List D) (z : SV) (h : listG d = some z) : Fine z := by
  unfold listG at h
  split at h
  · split at h
    · cases h; exact fine_l _
    · cases h
  · cases h
theorem o_list : OpCs K (rListA K) listG := by
  intro H A vs ds z Q hA hd hg q
  unfold listG at hg
  split at hg
  · rename_i d
    split at hg
    · rename_i xs e
      cases hg
      obtain ⟨v, rfl, h⟩ := rdL_1 hd
      obtain ⟨a, ys, rfl, h2, h3⟩ := rd_items h e
      exact ⟨a, ys, rfl, h2, fun l hl => q l ys hl h3⟩
    · cases hg
  · cases hg
def rTupleA (K : PySem.W.Frag) : List V → Hp → VK → Prop := fun xs H Q => ∃ p ys, xs = [.ref p] ∧ ((SqL K H p ys ∧ ∀ l, H l = none → Q (.ref l) (upd H l (.tup ys))) ∨ (SqT K H p ys ∧ Q (.ref p) H))
def tupleG : List D → Option SV
  | [.lst ds] => some ⟨.p, .tup ds⟩
  | [.frl ds] => some ⟨.p, .tup ds⟩
  | [.tup ds] => some ⟨.p, .tup ds⟩
  | _ => none
theorem tupleG_fine (d : List D) (z : SV) (h : tupleG d = some z) : Fine z := by
  unfold tupleG at h
  split at h <;> first | (cases h; exact fine_p _) | cases h
theorem new_tup {H : Hp} {A : List Addr} {ys : List V} {ds : List D} {Q : VK} {l : Addr} (hA : ∀ a ∈ A, H a ≠ none) (h : RpL K H A ys ds) (q : ResOk K H A Q ⟨.p, .tup ds⟩) (hl : H l = none) : Q (.ref l) (upd H l (.tup ys)) := by
  have hk : ∀ a o, a ∉ A → H a = some o → (upd H l (.tup ys)) a = some o := fun a o _ e => upd_kept hl a o e
  have hg : ∀ a, a ∈ A → a ∈ A ∨ H a = none := fun a z => .inl z
  exact q (.ref l) _ (.inr ⟨l, _, hl, rfl⟩) (.tup (SqTA.new upd_same fun z => hA l z hl) (h.mono hk hg))
theorem o_tuple : OpCs K (rTupleA K) tupleG := by
  intro H A vs ds z Q hA hd hg q
  unfold tupleG at hg
  split at hg
  · cases hg
    obtain ⟨v, rfl, h⟩ := rdL_1 hd
    obtain ⟨a, ys, rfl, h2, h3⟩ := rd_lst h
    exact ⟨a, ys, rfl, .inl ⟨.inl (.inl h2), fun l hl => new_tup hA h3 q hl⟩⟩
  · cases hg
    obtain ⟨v, rfl, h⟩ := rdL_1 hd
    obtain ⟨a, ys, rfl, h2, h3⟩ := rd_frl h
    exact ⟨a, ys, rfl, .inl ⟨h2.sq, fun l hl => new_tup hA h3 q hl⟩⟩
  · cases hg
    obtain ⟨v, rfl, h⟩ := rdL_1 hd
    obtain ⟨a, ys, rfl, h2, h3⟩ := rd_tup h
    exact ⟨a, ys, rfl, .inr ⟨h2.sq, res_p q (.tup h2 h3)⟩⟩
  · cases hg
def sumG : List D → Option SV
  | [d] => (match itemsL d with | some ds => (match intsOf ds with | some ns => pI ns.sum | none => none) | none => none)
  | _ => none
theorem sumG_fine (d : List D) (z : SV) (h : sumG d = some z) : Fine z := by
  unfold sumG at h
  split at h
  · split at h
    · split at h
      · cases h; exact fine_p _
      · cases h
    · cases h
  · cases h
theorem o_sum : OpCs K (rSum K) sumG := by
  intro H A vs ds z Q hA hd hg q
  unfold sumG at hg
  split at hg
  · split at hg
    · rename_i xs e
      split at hg
      · rename_i ns e2
        cases hg
        obtain ⟨v, rfl, h⟩ := rdL_1 hd
        obtain ⟨a, ys, rfl, h2, h3⟩ := rd_itemsL h e
        rw [intsOf_eq e2] at h3
        rw [h3.ints_of] at h2
        exact ⟨a, ns, rfl, h2, res_p q (.int _)⟩
      · cases hg
    · cases hg
  · cases hg
def allG (any : Bool) : List D → Option SV
  | [d] => (match itemsL d with | some ds => (match blsOf ds with | some ns => pB (if any then ns.any id else ns.all id) | none => none) | none => none)
  | _ => none
theorem allG_fine {any : Bool} (d : List D) (z : SV) (h : allG any d = some z) : Fine z := by
  unfold allG at h
  split at h
  · split at h
    · split at h
      · cases h; exact fine_p _
      · cases h
    · cases h
  · cases h
theorem all_core {any : Bool} {H : Hp} {A : List Addr} {vs : List V} {ds : List D} {z : SV} {Q : VK} (hd : RdL K H A vs ds) (hg : allG any ds = some z) (q : ResOk K H A Q z) : ∃ (a : Addr) (bs : List Bool), vs = [V.ref a] ∧ SqL K H a (bs.map V.bl) ∧ Q (.bl (if any then bs.any id else bs.all id)) H := by
  unfold allG at hg
  split at hg
  · split at hg
    · rename_i xs e
      split at hg
      · rename_i ns e2
        cases hg
        obtain ⟨v, rfl, h⟩ := rdL_1 hd
        obtain ⟨a, ys, rfl, h2, h3⟩ := rd_itemsL h e
        rw [blsOf_eq e2] at h3
        rw [h3.bls_of] at h2
        exact ⟨a, ns, rfl, h2, res_p q (.bl _)⟩
      · cases hg
    · cases hg
  · cases hg
theorem o_all : OpCs K (rAll K) (allG false) := fun H A vs ds z Q _ hd hg q => all_core hd hg q
theorem o_any : OpCs K (rAny K) (allG true) := fun H A vs ds z Q _ hd hg q => all_core hd hg q
def int2G (g : Int → Int → Int) : List D → Option SV
  | [.int i, .int j] => pI (g i j)
  | _ => none
theorem int2G_fine {g : Int → Int → Int} (d : List D) (z : SV) (h : int2G g d = some z) : Fine z := by
  unfold int2G at h
  split at h
  · cases h; exact fine_p _
  · cases h
theorem o_int2 {g : Int → Int → Int} : OpCs K (fun xs H Q => ∃ i j, xs = [.int i, .int j] ∧ Q (.int (g i j)) H) (int2G g) := by
  intro H A vs ds z Q hA hd hg q
  unfold int2G at hg
  split at hg
  · rename_i i j
    cases hg
    obtain ⟨v, u, rfl, h1, h2⟩ := rdL_2 hd
    exact ⟨i, j, by rw [rd_int h1, rd_int h2], res_p q (.int _)⟩
  · cases hg
def int1G (g : Int → Int) : List D → Option SV
  | [.int i] => pI (g i)
  | _ => none
theorem int1G_fine {g : Int → Int} (d : List D) (z : SV) (h : int1G g d = some z) : Fine z := by
  unfold int1G at h
  split at h
  · cases h; exact fine_p _
  · cases h
theorem o_int1 {g : Int → Int} : OpCs K (fun xs H Q => ∃ i, xs = [.int i] ∧ Q (.int (g i)) H) (int1G g) := by
  intro H A vs ds z Q hA hd hg q
  unfold int1G at hg
  split at hg
  · rename_i i
    cases hg
    obtain ⟨v, rfl, h1⟩ := rdL_1 hd
    exact ⟨i, by rw [rd_int h1], res_p q (.int _)⟩
  · cases hg
def intG : List D → Option SV
  | [.int i] => pI i
  | [.bl b] => pI (if b then 1 else 0)
  | _ => none
theorem intG_fine (d : List D) (z : SV) (h : intG d = some z) : Fine z := by
  unfold intG at h
  split at h <;> first | (cases h; exact fine_p _) | cases h
theorem o_intc : OpCs K (fun xs H Q => (∃ i, xs = [.int i] ∧ Q (.int i) H) ∨ ∃ k, xs = [.bl k] ∧ Q (.int (if k then 1 else 0)) H) intG := by
  intro H A vs ds z Q hA hd hg q
  unfold intG at hg
  split at hg
  · cases hg
    obtain ⟨v, rfl, h1⟩ := rdL_1 hd
    exact .inl ⟨_, by rw [rd_int h1], res_p q (.int _)⟩
  · cases hg
    obtain ⟨v, rfl, h1⟩ := rdL_1 hd
    exact .inr ⟨_, by rw [rd_bl h1], res_p q (.int _)⟩
  · cases hg
/-- isinstance(x, T), T a built-in class -/
def tyD : D → Option String
  | .non => some "NoneType"
  | .bl _ => some "bool"
  | .int _ => some "int"
  | .str _ => some "str"
  | .tup _ => some "tuple"
  | .frt _ => some "tuple"
  | .lst _ => some "list"
  | .dt _ => some "dict"
  | _ => none
theorem tyD_ok {H : Hp} {A : List Addr} {v : V} {d : D} {s : String} (h : RdOk K H A v d) (e : tyD d = some s) : TyX K H v (.type s) := by
  cases d with
  | non => cases e; rw [rd_non h]; exact .base .non
  | bl b => cases e; rw [rd_bl h]; exact .base (.bl b)
  | int i => cases e; rw [rd_int h]; exact .base (.int i)
  | str x => cases e; rw [rd_str h]; exact .base (.str x)
  | tup ds => cases e; obtain ⟨a, xs, rfl, h2, _⟩ := rd_tup h; exact .base (.tup h2.2)
  | frt ds => cases e; obtain ⟨a, xs, rfl, ⟨o, its, n, h1, h2, _⟩, _⟩ := rd_frt h; exact .kTuple h1 h2
  | lst ds => cases e; obtain ⟨a, xs, rfl, h2, _⟩ := rd_lst h; exact .base (.lst h2)
  | dt ds => cases e; obtain ⟨a, xs, rfl, h2, _⟩ := rd_dt h; exact .base (.dT h2)
  | _ => cases e
def isiG : List D → Option SV
  | [d, .opq (.ty n)] => (match tyD d with | some s => (match kitB s n with | some b => pB b | none => none) | none => none)
  | _ => none
theorem isiG_fine (d : List D) (z : SV) (h : isiG d = some z) : Fine z := by
  unfold isiG at h
  split at h
  · split at h
    · split at h
      · cases h; exact fine_p _
      · cases h
    · cases h
  · cases h
theorem o_isi : OpCs K (rIsi K) isiG := by
  intro H A vs ds z Q hA hd hg q
  unfold isiG at hg
  split at hg
  · rename_i d n
    split at hg
    · rename_i s e
      split at hg
      · rename_i b e2
        cases hg
        obtain ⟨v, u, rfl, h1, h2⟩ := rdL_2 hd
        rw [rd_opq h2]
        exact ⟨v, .ty n, .type s, .type n, b, rfl, .ty n, tyD_ok h1 e, kit_ty e2, res_p q (.bl b)⟩
      · cases hg
    · cases hg
  · cases hg
end

section
variable {K : PySem.W.Frag} {E : XK} {F : Fm} {env : En} {σ : St} {H : Hp} {W : List Addr} {ta tb te to : TE} {t : TA}
/-- a method that changes nothing -/
def methL (g : D → List D → Option SV) (fo : En → R Opd) (fa : En → R (List Opd)) : En → R SV := bindR fo fun o e1 => match (o.get e1).bind itemsL with
  | none => .stuck
  | some _ => bindR fa (fun os e => match o.get e, getL os e with
    | some x, some xs => (match g x xs with | some z => .ok z e | none => .stuck)
    | _, _ => .stuck) e1
def OpM (K : PySem.W.Frag) (r : V → List V → Hp → VK → Prop) (g : D → List D → Option SV) : Prop := ∀ H A v vs d ds z Q, RdOk K H A v d → RdL K H A vs ds → g d ds = some z → ResOk K H A Q z → r v vs H Q
theorem ty_list {A : List Addr} {v : V} {d : D} {ds : List D} (h : RdOk K H A v d) (e : itemsL d = some ds) : tyV K "list" v H := by
  obtain ⟨a, xs, rfl, h2, _⟩ := rd_itemsL h e
  exact .inl ⟨rfl, xs, h2⟩
theorem sf_methL {r : V → List V → Hp → VK → Prop} {g : D → List D → Option SV} {fo : En → R Opd} {fa : En → R (List Opd)} (ho : OpM K r g) (hf : ∀ d ds z, g d ds = some z → Fine z) (h1 : SE K E to fo) (h2 : SA K E t fa) : SF K E (tBM K "list" r to t) (methL g fo fa) := by
  intro F env σ H W Q rel p
  refine Sn.go (t := to) h1 rel p fun e1 H1 W1 o v rel1 s1 rv p => ?_
  cases q0 : (o.get e1).bind itemsL with
  | none => rw [q0] at p; exact p.elim
  | some _ =>
    rw [q0] at p; dsimp only at p
    refine ⟨?_, Sn.go (t := t) h2 rel1 p fun e2 H2 W2 os vs rel2 s2 rvs p => ?_⟩
    · cases q1 : o.get e1 with
      | none => rw [q1] at q0; cases q0
      | some d => rw [q1] at q0; exact ty_list (rel1.get rv q1) q0
    · have rv2 := RelO.step s2 rv
      cases q2 : o.get e2 with
      | none => rw [q2] at p; exact p.elim
      | some x =>
        cases q3 : getL os e2 with
        | none => rw [q2, q3] at p; exact p.elim
        | some xs =>
          rw [q2, q3] at p; dsimp only at p
          cases q4 : g x xs with
          | none => rw [q4] at p; exact p.elim
          | some z =>
            rw [q4] at p
            exact ho H2 (W2 ++ F.fr) v vs x xs z Q (rel2.get rv2 q2) (getL_ok rel2 rvs q3) q4 (res_of rel2 p (hf _ _ _ q4))
def countG : D → List D → Option SV := fun d xs => match (itemsL d).bind intsOf, xs with
  | some ns, [.int k] => pI (ns.count k : Nat)
  | _, _ => none
theorem countG_fine (d : D) (ds : List D) (z : SV) (h : countG d ds = some z) : Fine z := by
  unfold countG at h
  split at h
  · cases h; exact fine_p _
  · cases h
theorem o_count : OpM K (rCntI K) countG := by
  intro H A v vs d ds z Q hd hds hg q
  unfold countG at hg
  split at hg
  · rename_i ns k e
    cases hg
    obtain ⟨u, rfl, hu⟩ := rdL_1 hds
    cases e1 : itemsL d with
    | none => rw [e1] at e; cases e
    | some xs =>
      rw [e1] at e
      obtain ⟨a, ys, rfl, h2, h3⟩ := rd_itemsL hd e1
      have e' : intsOf xs = some ns := e
      rw [intsOf_eq e'] at h3
      rw [h3.ints_of] at h2
      exact ⟨a, ns, k, rfl, by rw [rd_int hu], h2, res_p q (.int _)⟩
  · cases hg
/-- a method that changes the list in slot i -/
def mutL (i : Nat) (k : List D → List D → Option (D × List D)) (fa : En → R (List Opd)) : En → R SV := fun e => match e.sv i with
  | some ⟨_, .lst _⟩ => bindR fa (fun os e => match pureL os e with
    | some (ds, e') => (match e'.sv i with
      | some ⟨.p, _⟩ => .stuck
      | some ⟨fl, .lst xs⟩ => (match k ds xs with
        | some (r, ys) => .ok ⟨.p, r⟩ (e'.set i (some ⟨fl, .lst ys⟩))
        | none => .stuck)
      | _ => .stuck)
    | none => .stuck) e
  | _ => .stuck
def OpU (K : PySem.W.Frag) (r : V → List V → Hp → VK → Prop) (k : List D → List D → Option (D × List D)) : Prop := ∀ H A l vs ds xv xs z ys (Q : VK), H l = some (.lst xv) → RpL K H A xv xs → RpL K H A vs ds → k ds xs = some (z, ys) →
  (∀ w yv, Rp K H A w z → RpL K H A yv ys → Q w (upd H l (.lst yv))) → r (.ref l) vs H Q
theorem mut_core {i : Nat} {r : V → List V → Hp → VK → Prop} {k : List D → List D → Option (D × List D)} (ho : OpU K r k) {os : List Opd} {vs : List V} {v : V} {Q : VK} (rel : Rel K F env σ H W) (hv : σ[i]? = some (some v)) (rvs : RelOs K F σ H W os vs)
    (p : Post (rV K) K E F σ H W Q (match pureL os env with
    | some (ds, e') => (match e'.sv i with
      | some ⟨.p, _⟩ => .stuck
      | some ⟨fl, .lst xs⟩ => (match k ds xs with
        | some (r, ys) => .ok ⟨.p, r⟩ (e'.set i (some ⟨fl, .lst ys⟩))
        | none => .stuck)
      | _ => .stuck)
    | none => .stuck)) : r v vs H Q := by
  cases q0 : pureL os env with
  | none => rw [q0] at p; exact p.elim
  | some de =>
    obtain ⟨ds, e'⟩ := de
    rw [q0] at p; dsimp only at p
    obtain ⟨W1, r1, s1, k1⟩ := pureL_ok rel rvs q0
    cases q1 : e'.sv i with
    | none => rw [q1] at p; exact p.elim
    | some sv =>
      rw [q1] at p
      obtain ⟨fl, x⟩ := sv
      obtain ⟨u, h1, h2⟩ := r1.sl i _ q1
      rw [hv] at h1; cases h1
      have go : ∀ (nf : fl ≠ .p) (xs : List D), x = .lst xs → (∀ r ys, k ds xs = some (r, ys) → Post (rV K) K E F σ H W Q (.ok ⟨.p, r⟩ (e'.set i (some ⟨fl, .lst ys⟩)))) → (k ds xs = none → False) → r v vs H Q := fun nf xs ex p1 p2 => by
        subst ex
        rcases h2 with ⟨z, _⟩ | ⟨_, a, e2, ha, hw, hz⟩
        · exact absurd z nf
        · subst e2
          cases hw with
          | lst hl hr =>
            cases q2 : k ds xs with
            | none => exact (p2 q2).elim
            | some ry =>
              obtain ⟨z, ys⟩ := ry
              refine ho H (W1 ++ F.fr) a vs ds _ xs z ys Q hl hr k1 q2 fun w yv hw hyv => ?_
              have st : Step H W1 (upd H a (.lst yv)) W1 := Step.mut ha
              have R2 := r1.write (o := .lst yv) (d := .lst ys) q1 nf hv ha hz (.lst upd_same (st.rpL hyv))
              exact p1 z ys q2 w _ W1 R2 (s1.trans st) ⟨.inl ⟨rfl, st.rp hw⟩, fun z => absurd rfl z⟩
      cases fl with
      | p => exact p.elim
      | o =>
        cases x with
        | lst xs => exact go (by decide) xs rfl (fun r ys e => by dsimp only at p; rw [e] at p; exact p) (fun e => by dsimp only at p; rw [e] at p; exact p)
        | _ => exact p.elim
      | b =>
        cases x with
        | lst xs => exact go (by decide) xs rfl (fun r ys e => by dsimp only at p; rw [e] at p; exact p) (fun e => by dsimp only at p; rw [e] at p; exact p)
        | _ => exact p.elim
theorem sv_ty {i : Nat} {fl : Fl} {ds : List D} (rel : Rel K F env σ H W) (e : env.sv i = some ⟨fl, .lst ds⟩) : ∃ v, σ[i]? = some (some v) ∧ tyV K "list" v H := by
  obtain ⟨v, h1, h2⟩ := rel.sl i _ e
  refine ⟨v, h1, ?_⟩
  have : RdOk K H (W ++ F.fr) v (.lst ds) := by
    rcases h2 with ⟨_, h2⟩ | ⟨_, a, e2, _, h2, _⟩
    · exact .inl h2
    · exact .inr ⟨a, e2, h2⟩
  exact ty_list this rfl
theorem sf_mut {i : Nat} {r : V → List V → Hp → VK → Prop} {k : List D → List D → Option (D × List D)} {fa : En → R (List Opd)} (ho : OpU K r k) (ha : SA K E t fa) : SF K E (tBM K "list" r (tVar i) t) (mutL i k fa) := by
  intro F env σ H W Q rel p
  unfold mutL at p
  split at p
  · rename_i fl ds e
    obtain ⟨v, h1, h2⟩ := sv_ty rel e
    refine ⟨v, h1, h2, ?_⟩
    refine Sn.go (t := t) ha rel p fun e1 H1 W1 os vs rel1 s1 rvs p => ?_
    exact mut_core ho rel1 h1 rvs p
  · exact p.elim
theorem sf_mut0 {i : Nat} {r : V → List V → Hp → VK → Prop} {k : List D → List D → Option (D × List D)} (ho : OpU K r k) : SF K E (tBM0 K "list" r (tVar i)) (mutL i k nilA) := by
  intro F env σ H W Q rel p
  unfold mutL at p
  split at p
  · rename_i fl ds e
    obtain ⟨v, h1, h2⟩ := sv_ty rel e
    exact ⟨v, h1, h2, mut_core ho rel h1 (.nil : RelOs K F σ H W [] []) p⟩
  · exact p.elim
def appendK : List D → List D → Option (D × List D)
  | [d], xs => if xs.length < 100000 then some (.non, xs ++ [d]) else none
  | _, _ => none
theorem o_append : OpU K rAppend appendK := by
  intro H A l vs ds xv xs z ys Q hl hr hv hk q
  unfold appendK at hk
  split at hk
  · split at hk
    · rename_i hz
      cases hk
      cases hv with
      | cons a b =>
        cases b
        exact ⟨l, xv, _, rfl, rfl, hl, sz_lt (by rw [hr.length]; exact hz), q _ _ .non (hr.append (.one a))⟩
    · cases hk
  · cases hk
def popK : List D → List D → Option (D × List D)
  | [], xs => (xs[xs.length - 1]?).map fun d => (d, xs.dropLast)
  | _, _ => none
theorem RpL.dropLast {A : List Addr} : ∀ {vs : List V} {ds : List D}, RpL K H A vs ds → RpL K H A vs.dropLast ds.dropLast := fun {vs ds} h => by
  rw [List.dropLast_eq_take, List.dropLast_eq_take, h.length]
  exact h.take _
theorem o_pop : OpU K rPop popK := by
  intro H A l vs ds xv xs z ys Q hl hr hv hk q
  unfold popK at hk
  split at hk
  · cases hv
    cases e : xs[xs.length - 1]? with
    | none => rw [e] at hk; cases hk
    | some d =>
      rw [e] at hk; cases hk
      obtain ⟨v, h1, h2⟩ := hr.get e
      exact ⟨l, xv, v, rfl, rfl, hl, by rw [hr.length]; exact h1, q _ _ h2 hr.dropLast⟩
  · cases hk
def clearK : List D → List D → Option (D × List D)
  | [], _ => some (.non, [])
  | _, _ => none
theorem o_clear : OpU K rClear clearK := by
  intro H A l vs ds xv xs z ys Q hl hr hv hk q
  unfold clearK at hk
  split at hk
  · cases hk; cases hv
    exact ⟨l, xv, rfl, rfl, hl, q _ _ .non .nil⟩
  · cases hk
def reverseK : List D → List D → Option (D × List D)
  | [], xs => some (.non, xs.reverse)
  | _, _ => none
theorem o_reverse : OpU K rReverse reverseK := by
  intro H A l vs ds xv xs z ys Q hl hr hv hk q
  unfold reverseK at hk
  split at hk
  · cases hk; cases hv
    exact ⟨l, xv, rfl, rfl, hl, q _ _ .non hr.reverse⟩
  · cases hk
def insertK : List D → List D → Option (D × List D)
  | [.int i, d], xs => if xs.length < 100000 ∧ 0 ≤ i ∧ i ≤ 100000 then some (.non, xs.take i.toNat ++ [d] ++ xs.drop i.toNat) else none
  | _, _ => none
theorem o_insert : OpU K (fun x vs H Q => ∃ (l : Addr) (xs : List V) (i : Int) (y : V), x = .ref l ∧ vs = [.int i, y] ∧ H l = some (.lst xs) ∧ xs.length < sizeLine ∧ 0 ≤ i ∧ i < 2 ^ 63 ∧
    Q .non (upd H l (.lst (xs.take i.toNat ++ [y] ++ xs.drop i.toNat)))) insertK := by
  intro H A l vs ds xv xs z ys Q hl hr hv hk q
  unfold insertK at hk
  split at hk
  · split at hk
    · rename_i hz
      cases hk
      cases hv with
      | cons a b =>
        cases b with
        | cons b c =>
          cases c
          cases a
          exact ⟨l, xv, _, _, rfl, rfl, hl, sz_lt (by rw [hr.length]; exact hz.1), hz.2.1, by omega, q _ _ .non (((hr.take _).append (.one b)).append (hr.drop _))⟩
    · cases hk
  · cases hk
def extendK : List D → List D → Option (D × List D)
  | [.lst ds], xs => if xs.length + ds.length ≤ 100000 then some (.non, xs ++ ds) else none
  | _, _ => none
theorem o_extend : OpU K rExtend extendK := by
  intro H A l vs ds xv xs z ys Q hl hr hv hk q
  unfold extendK at hk
  split at hk
  · split at hk
    · rename_i hz
      cases hk
      cases hv with
      | cons a b =>
        cases b
        cases a with
        | lst n h r => exact ⟨l, _, xv, _, rfl, rfl, hl, h, sz_of (by rw [hr.length, r.length]; exact hz), q _ _ .non (hr.append r)⟩
    · cases hk
  · cases hk

def setIxS (i : Nat) (fv : En → R SV) (fj : En → R Opd) : En → RS := bindS fv fun sv e1 => match e1.sv i with
  | some _ => bindS fj (fun j e => match j.get e, e.sv i with
    | some (.int n), some ⟨fl, .lst xs⟩ => if fl = .p then .stuck else (match ixN xs.length n with
      | some m => .nx (e.set i (some ⟨fl, .lst (xs.set m sv.d)⟩))
      | none => .stuck)
    | _, _ => .stuck) e1
  | none => .stuck
theorem ss_setIx {i : Nat} {fv : En → R SV} {fj : En → R Opd} (hv : SF K E te fv) (hj : SE K E tb fj) : SS K E (tAsg te (gSub (tVar i) tb rSetL)) (setIxS i fv fj) := by
  intro F env σ H W T rel p
  refine Sn.goS (t := te) hv rel p fun e1 H1 W1 sv v rel1 s1 rv p => ?_
  obtain ⟨W2, r2, s2, h2⟩ := keep_fresh rel1 rv
  cases q0 : e1.sv i with
  | none => rw [q0] at p; exact p.elim
  | some si =>
    rw [q0] at p; dsimp only at p
    obtain ⟨u, g1, _⟩ := r2.sl i _ q0
    refine ⟨u, g1, Sn.goS (t := tb) hj r2 (PostS.from s2 p) fun e3 H3 W3 j w rel3 s3 rj p => ?_⟩
    have hv3 := s3.rp h2
    cases q1 : j.get e3 with
    | none => rw [q1] at p; exact p.elim
    | some jd =>
      rw [q1] at p
      cases jd with
      | int n =>
        cases q2 : e3.sv i with
        | none => rw [q2] at p; exact p.elim
        | some s3i =>
          rw [q2] at p
          obtain ⟨fl, x⟩ := s3i
          cases x with
          | lst xs =>
            dsimp only at p
            by_cases nf : fl = .p
            · rw [if_pos nf] at p; exact p.elim
            · rw [if_neg nf] at p
              obtain ⟨u', g3, g4⟩ := rel3.sl i _ q2
              rw [g1] at g3; cases g3
              rcases g4 with ⟨z, _⟩ | ⟨_, a, e2, ha, hw, hz⟩
              · exact absurd z nf
              · subst e2
                cases hw with
                | @lst xv _ hl hr =>
                  cases q3 : ixN xs.length n with
                  | none => rw [q3] at p; exact p.elim
                  | some m =>
                    rw [q3] at p
                    refine ⟨a, _, n, m, rfl, rd_int (rel3.get rj q1), hl, by rw [hr.length]; exact q3, ?_⟩
                    have st : Step H3 W3 (upd H3 a (.lst (xv.set m v))) W3 := Step.mut ha
                    exact p σ _ W3 (rel3.write q2 nf g1 ha hz (.lst upd_same (st.rpL (hr.set hv3 m)))) st
          | _ => exact p.elim
      | _ => exact p.elim

def rPt : Option Int → Fm → En → St → Hp → List Addr → Option Int → Prop := fun b _ _ _ _ _ c => b = c
abbrev SO (K : PySem.W.Frag) (E : XK) (t : TO) (f : En → R (Option Int)) : Prop := Sn rPt K E t f
def noPt : En → R (Option Int) := fun e => .ok none e
def somePt (f : En → R Opd) : En → R (Option Int) := bindR f fun o e => match o.get e with | some (.int i) => .ok (some i) e | _ => .stuck
theorem so_none : SO K E tNoPart noPt := fun F env σ H W Q r p => p none H W r (Step.refl H W) rfl
theorem so_some {f : En → R Opd} (h : SE K E te f) : SO K E (tPart te) (somePt f) := by
  intro F env σ H W Q rel p
  refine Sn.go (t := te) h rel p fun e H W o v rel s rv p => ?_
  cases q : o.get e with
  | none => rw [q] at p; exact p.elim
  | some d =>
    rw [q] at p
    cases d with
    | int i => exact ⟨i, rd_int (rel.get rv q), p (some i) H W rel (Step.refl H W) rfl⟩
    | _ => exact p.elim
def cutD (xs : List D) (lo hi : Option Int) : List D := (xs.drop (HT.sIx xs.length 0 lo)).take (HT.sIx xs.length xs.length hi - HT.sIx xs.length 0 lo)
def sliceE (fo : En → R Opd) (fl fh : En → R (Option Int)) : En → R SV := bindR fo fun o => bindR fl fun l => bindR fh fun h e => match (o.get e).bind itemsL with
  | some xs => .ok ⟨.o, .lst (cutD xs l h)⟩ e
  | none => .stuck
theorem RpL.cut {A : List Addr} {vs : List V} {ds : List D} (r : RpL K H A vs ds) (lo hi : Option Int) : RpL K H A (cutV vs lo hi) (cutD ds lo hi) := by
  unfold cutV cutD
  rw [r.length]
  exact (r.drop _).take _
theorem sf_slice {fo : En → R Opd} {fl fh : En → R (Option Int)} {tl th : TO} (h1 : SE K E to fo) (h2 : SO K E tl fl) (h3 : SO K E th fh) : SF K E (tSl (rSlL K) to tl th) (sliceE fo fl fh) := by
  intro F env σ H W Q rel p
  refine Sn.go (t := to) h1 rel p fun e1 H1 W1 o v rel1 s1 rv p => ?_
  refine Sn.go (t := tl) h2 rel1 p fun e2 H2 W2 l l' rel2 s2 el p => ?_
  have el' : l = l' := el
  subst el'
  refine Sn.go (t := th) h3 rel2 p fun e3 H3 W3 h h' rel3 s3 eh p => ?_
  have eh' : h = h' := eh
  subst eh'
  have rv3 := RelO.step (s2.trans s3) rv
  cases q : o.get e3 with
  | none => rw [q] at p; exact p.elim
  | some d =>
    rw [q] at p
    cases q2 : itemsL d with
    | none => rw [show (some d).bind itemsL = itemsL d from rfl, q2] at p; exact p.elim
    | some xs =>
      rw [show (some d).bind itemsL = itemsL d from rfl, q2] at p
      obtain ⟨a, ys, rfl, g2, g3⟩ := rd_itemsL (rel3.get rv3 q) q2
      exact ⟨a, ys, rfl, g2, fun l hl => (res_of rel3 p (fine_l _)) l _ hl (g3.cut _ _)⟩
end
end DL

namespace DL
open PySem L2

section
variable {X : Cx} {tg : Expr}
/-- a list or a tuple is walked -/
def iSeq (K : PySem.W.Frag) (tl : TE) : TI := fun σ H R => tl σ H fun x H1 => ∃ a, x = .ref a ∧ (((∃ xs, SqL K H1 a xs) ∧ R (Itl K a) H1) ∨ ((∃ xs, SqT K H1 a xs) ∧ R (Itt K a) H1))
theorem pi_seq {l : Expr} {tl : TE} (hl : PE X l tl) : PI X tg l (iSeq X.K tl) := by
  constructor
  intro pins s σ H R I h
  refine thn (hl.run pins s σ H _ I h) ?_
  rintro v s1 ⟨x, H1, I1, r1, a, rfl, q1⟩
  cases r1
  have fresh : ∀ b ∈ [s1.heap.objs.size], FpOk X pins H1 b := by
    intro b hb
    rw [List.mem_singleton.mp hb]
    exact I1.fpOk (Nat.le_refl _) (I1.hok.fresh (Nat.le_refl _))
  rcases q1 with ⟨⟨xs, hq⟩, q⟩ | ⟨⟨xs, hq⟩, q⟩
  · obtain ⟨its, rv, p, hz⟩ := I1.list hq
    refine wpAny_pyIter_list p.isList ⟨_, _, _, _, H1, rfl, ?_, turn_list a s1.heap.objs.size, ?_, fresh, q⟩
    · exact I1.kept (t' := s1.toks) fun b o e => Heap.get?_push_of_some _ e
    · exact ⟨_, Heap.get?_push_size _ rfl, rfl, rfl⟩
  · obtain ⟨its, rv, p, hz⟩ := I1.tuple hq
    refine wpAny_pyIter_tuple (show s1.heap.IsTuple a its.toArray from p) ⟨_, _, _, _, H1, rfl, ?_, turn_tuple a s1.heap.objs.size, ?_, fresh, q⟩
    · exact I1.kept (t' := s1.toks) fun b o e => Heap.get?_push_of_some _ e
    · exact ⟨_, Heap.get?_push_size _ rfl, rfl, rfl⟩
/-- a list's item read by value, 0 or above -/
def rGetL (K : PySem.W.Frag) : R2 := fun x y H Q => ∃ p xs i v, x = .ref p ∧ y = .int i ∧ 0 ≤ i ∧ SqL K H p xs ∧ xs[i.toNat]? = some v ∧ Q v H
theorem pget_list : PGet X (rGetL X.K) := by
  rintro pins s σ H x y v u Q I rx ry ⟨p, xs, i, z, rfl, rfl, h0, hq, he, q⟩
  cases rx
  obtain ⟨t, rfl⟩ := ry
  obtain ⟨its, r, pl, hz⟩ := I.list hq
  obtain ⟨w, ew, hw⟩ := r.get he
  have hl := r.length
  have hb := (List.getElem?_eq_some_iff.mp he).1
  have hn := line63
  exact wpAny_getItem_list pl.isList h0 (by omega) (by simpa using ew) ⟨z, H, I, hw, q⟩
end

def seqI (fa : En → R Opd) : En → R Src := bindR fa fun o e => match o with
  | .val d => (match itemsD d with | some ds => .ok ⟨ds, none⟩ e | none => .stuck)
  | .slot i => match e.sv i with
    | some ⟨.p, d⟩ => (match itemsD d with | some ds => .ok ⟨ds, none⟩ e | none => .stuck)
    | some ⟨.o, .lst ds⟩ => .ok ⟨ds, none⟩ (e.set i (some ⟨.p, .lst ds⟩))
    | some ⟨.b, .lst ds⟩ => .ok ⟨ds, some i⟩ e
    | _ => .stuck
def rangeD (lo : Int) (n : Nat) : List D := (List.range n).map fun (k : Nat) => D.int (lo + k)
def rng1 (fa : En → R (List Opd)) : En → R Src := bindR fa fun os e => match getL os e with
  | some [.int n] => if -(2 ^ 62) ≤ n ∧ n < 2 ^ 62 then .ok ⟨rangeD 0 n.toNat, none⟩ e else .stuck
  | _ => .stuck
def rng2 (fa : En → R (List Opd)) : En → R Src := bindR fa fun os e => match getL os e with
  | some [.int m, .int n] => if (-(2 ^ 62) ≤ m ∧ m < 2 ^ 62) ∧ -(2 ^ 62) ≤ n ∧ n < 2 ^ 62 then .ok ⟨rangeD m (n - m).toNat, none⟩ e else .stuck
  | _ => .stuck
section
variable {K : PySem.W.Frag} {E : XK} {F : Fm} {env : En} {σ : St} {H : Hp} {W : List Addr} {ta tb te to tl td ty tv : TE} {t : TA}
theorem it_pure {A : List Addr} {v : V} {d : D} {ds : List D} (s0 : St) (h : Rp K H A v d) (e : itemsD d = some ds) : ∃ a, v = .ref a ∧ (((∃ xs, SqL K H a xs) ∧ ItOk K s0 ⟨ds, none⟩ A H (Itl K a)) ∨ ((∃ xs, SqT K H a xs) ∧ ItOk K s0 ⟨ds, none⟩ A H (Itt K a))) := by
  have listy : ∀ a xs, (∀ A' H', (∀ a o, a ∉ A → H a = some o → H' a = some o) → (∀ a, a ∈ A' → a ∈ A ∨ H a = none) → SqL K H' a xs) → RpL K H A xs ds → ItOk K s0 ⟨ds, none⟩ A H (Itl K a) := fun a xs hs hr A' H' hp hg hA _ => by
    have h1 := hs A' H' hp hg
    have h2 := hr.mono hp hg
    refine ⟨fun i d q => ?_, fun i hi => ⟨xs, h1, by rw [h2.length]; exact hi⟩⟩
    obtain ⟨w, g1, g2⟩ := h2.get q
    refine ⟨⟨xs, w, h1, g1⟩, fun x H'' y => ?_⟩
    obtain ⟨rfl, y⟩ := y
    have := y xs h1
    rw [g1] at this; cases this
    exact ⟨.inl rfl, g2⟩
  have tupy : ∀ a xs, (∀ A' H', (∀ a o, a ∉ A → H a = some o → H' a = some o) → (∀ a, a ∈ A' → a ∈ A ∨ H a = none) → SqT K H' a xs) → RpL K H A xs ds → ItOk K s0 ⟨ds, none⟩ A H (Itt K a) := fun a xs hs hr A' H' hp hg hA _ => by
    have h1 := hs A' H' hp hg
    have h2 := hr.mono hp hg
    refine ⟨fun i d q => ?_, fun i hi => ⟨xs, h1, by rw [h2.length]; exact hi⟩⟩
    obtain ⟨w, g1, g2⟩ := h2.get q
    refine ⟨⟨xs, w, h1, g1⟩, fun x H'' y => ?_⟩
    obtain ⟨rfl, y⟩ := y
    have := y xs h1
    rw [g1] at this; cases this
    exact ⟨.inl rfl, g2⟩
  cases h with
  | lst n hl r => cases e; exact ⟨_, rfl, .inl ⟨⟨_, .inl (.inl hl)⟩, listy _ _ (fun A' H' hp hg => .inl (.inl (hp _ _ n hl))) r⟩⟩
  | frl hl r => cases e; exact ⟨_, rfl, .inl ⟨⟨_, hl.sq⟩, listy _ _ (fun A' H' hp hg => (hl.mono hp hg).sq) r⟩⟩
  | tup hl r => cases e; exact ⟨_, rfl, .inr ⟨⟨_, hl.sq⟩, tupy _ _ (fun A' H' hp hg => (hl.mono hp hg).sq) r⟩⟩
  | frt hl r => cases e; exact ⟨_, rfl, .inr ⟨⟨_, .inr hl⟩, tupy _ _ (fun A' H' hp hg => .inr hl) r⟩⟩
  | _ => cases e
theorem si_seq {fa : En → R Opd} (h : SE K E tl fa) : SI K E (iSeq K tl) (seqI fa) := by
  intro F env σ H W Q rel p
  refine Sn.go (t := tl) h rel p fun e H1 W1 o v rel1 s1 rv p => ?_
  have pure : ∀ (W2 : List Addr) (e2 : En) (d : D), Rel K F e2 σ H1 W2 → Step H1 W1 H1 W2 → Rp K H1 (W2 ++ F.fr) v d → Post (DL.rI K) K E F σ H1 W1 Q (match itemsD d with | some ds => .ok ⟨ds, none⟩ e2 | none => .stuck) →
      ∃ a, v = .ref a ∧ (((∃ xs, SqL K H1 a xs) ∧ Q (Itl K a) H1) ∨ ((∃ xs, SqT K H1 a xs) ∧ Q (Itt K a) H1)) := fun W2 e2 d r2 s2 hd p => by
    cases q : itemsD d with
    | none => rw [q] at p; exact p.elim
    | some ds =>
      rw [q] at p
      obtain ⟨a, ea, hh⟩ := it_pure F.s0 hd q
      refine ⟨a, ea, ?_⟩
      rcases hh with ⟨hx, hi⟩ | ⟨hx, hi⟩
      · exact .inl ⟨hx, p _ H1 W2 r2 s2 hi⟩
      · exact .inr ⟨hx, p _ H1 W2 r2 s2 hi⟩
  cases o with
  | val d => exact pure W1 e d rel1 (Step.refl _ _) rv p
  | slot i =>
    have hv : σ[i]? = some (some v) := rv
    dsimp only at p
    cases q : e.sv i with
    | none => rw [q] at p; exact p.elim
    | some sv =>
      rw [q] at p
      obtain ⟨fl, d⟩ := sv
      obtain ⟨u, g1, g2⟩ := rel1.sl i _ q
      rw [hv] at g1; cases g1
      cases fl with
      | p =>
        rcases g2 with ⟨_, g2⟩ | ⟨n, _⟩
        · exact pure W1 e d rel1 (Step.refl _ _) g2 p
        · exact absurd rfl n
      | o =>
        cases d with
        | lst ds =>
          rcases g2 with ⟨n, _⟩ | ⟨_, a, e2, _⟩
          · cases n
          · subst e2
            obtain ⟨r2, k2⟩ := rel1.freeze q rfl hv
            exact pure _ _ (.lst ds) r2 (Step.drop a) k2 p
        | _ => exact p.elim
      | b =>
        cases d with
        | lst ds =>
          rcases g2 with ⟨n, _⟩ | ⟨_, a, e2, ha, hw, _⟩
          · cases n
          · subst e2
            cases hw with
            | lst hl hr =>
              refine ⟨a, rfl, .inl ⟨⟨_, .inl (.inl hl)⟩, p _ H1 W1 rel1 (Step.refl _ _) fun A' H' hp hg hA hgr => ?_⟩⟩
              obtain ⟨b, f1, f2⟩ := hgr i rfl
              have hb := rel1.bor i _ q rfl
              rw [hv] at hb
              rw [← hb] at f1; cases f1
              cases f2 with
              | lst hl' hr' =>
                rename_i xs' 
                have hs : SqL K H' a xs' := .inl (.inl hl')
                refine ⟨fun i d q => ?_, fun i hi => ⟨xs', hs, by rw [hr'.length]; exact hi⟩⟩
                obtain ⟨w, g1, g2⟩ := hr'.get q
                refine ⟨⟨xs', w, hs, g1⟩, fun x H'' y => ?_⟩
                obtain ⟨rfl, y⟩ := y
                have := y xs' hs
                rw [g1] at this; cases this
                exact ⟨.inl rfl, g2⟩
        | _ => exact p.elim
theorem rangeD_get {lo : Int} {n i : Nat} {d : D} (h : (rangeD lo n)[i]? = some d) : i < n ∧ d = .int (lo + i) := by
  unfold rangeD at h
  rw [List.getElem?_map] at h
  cases q : (List.range n)[i]? with
  | none => rw [q] at h; cases h
  | some k =>
    rw [q] at h
    obtain ⟨h1, h2⟩ := List.getElem?_eq_some_iff.mp q
    rw [List.getElem_range] at h2
    subst h2
    cases h
    exact ⟨by simpa using h1, rfl⟩
theorem it_range {A : List Addr} (s0 : St) (lo : Int) (n : Nat) : ItOk K s0 ⟨rangeD lo n, none⟩ A H (Itr lo n) := fun A' H' hp hg hA _ =>
  ⟨fun i d q => by
    obtain ⟨h1, rfl⟩ := rangeD_get q
    exact ⟨h1, fun x H'' ⟨e1, e2⟩ => by rw [e1, e2]; exact ⟨.inl rfl, .int _⟩⟩, fun i hi => show n ≤ i by simpa [rangeD] using hi⟩
theorem si_rng1 {fa : En → R (List Opd)} (h : SA K E t fa) : SI K E (iRng1 t) (rng1 fa) := by
  intro F env σ H W Q rel p
  refine Sn.go (t := t) h rel p fun e H1 W1 os vs rel1 s1 rvs p => ?_
  cases q : getL os e with
  | none => rw [q] at p; exact p.elim
  | some ds =>
    rw [q] at p
    have hd := getL_ok rel1 rvs q
    split at p
    · rename_i n e1
      cases e1
      obtain ⟨w, rfl, hw⟩ := rdL_1 hd
      split at p
      · rename_i hb
        exact ⟨n, by rw [rd_int hw], hb.1, hb.2, p _ H1 W1 rel1 (Step.refl _ _) (it_range _ _ _)⟩
      · exact p.elim
    · exact p.elim
theorem si_rng2 {fa : En → R (List Opd)} (h : SA K E t fa) : SI K E (iRng2 t) (rng2 fa) := by
  intro F env σ H W Q rel p
  refine Sn.go (t := t) h rel p fun e H1 W1 os vs rel1 s1 rvs p => ?_
  cases q : getL os e with
  | none => rw [q] at p; exact p.elim
  | some ds =>
    rw [q] at p
    have hd := getL_ok rel1 rvs q
    split at p
    · rename_i m n e1
      cases e1
      obtain ⟨w, w', rfl, hw, hw'⟩ := rdL_2 hd
      split at p
      · rename_i hb
        exact ⟨m, n, by rw [rd_int hw, rd_int hw'], ⟨hb.1.1, hb.1.2, hb.2⟩, p _ H1 W1 rel1 (Step.refl _ _) (it_range _ _ _)⟩
      · exact p.elim
    · exact p.elim

def keyD : D → Option Key
  | .int i => some (.inl i)
  | .str x => some (.inr x)
  | _ => none
def keysD : List D → Option (List Key)
  | [] => some []
  | d :: ds => match keyD d, keysD ds with
    | some k, some ks => some (k :: ks)
    | _, _ => none
def tkeyD : D → Option (List Key)
  | .tup ds => keysD ds
  | _ => none
theorem keysD_ok {A : List Addr} : ∀ {vs : List V} {ds : List D} {ks : List Key}, RpL K H A vs ds → keysD ds = some ks → vs = ks.map kV
  | _, _, _, .nil, e => by unfold keysD at e; cases e; rfl
  | _, _, ks, .cons (d := d) (ds := ds) h r, e => by
    unfold keysD at e
    split at e
    · rename_i k ks' e1 e2
      cases e
      rw [List.map_cons, ← keysD_ok r e2]
      cases d with
      | int i => cases e1; cases h; rfl
      | str x => cases e1; cases h; rfl
      | _ => cases e1
    · cases e
def getT (kvs : List (List Key × D)) (k : List Key) : Option D := (kvs.find? fun kv => decide (kv.1 = k)).map (·.2)
def putT (kvs : List (List Key × D)) (k : List Key) (d : D) : List (List Key × D) :=
  if (kvs.any fun kv => decide (kv.1 = k)) = true then kvs.map (fun kv => if kv.1 = k then (kv.1, d) else kv) else kvs ++ [(k, d)]
theorem RpK.length {A : List Addr} : ∀ {vs : List (List Key × V)} {ds : List (List Key × D)}, RpK K H A vs ds → vs.length = ds.length
  | _, _, .nil => rfl
  | _, _, .cons _ r => by rw [List.length_cons, List.length_cons, RpK.length r]
theorem RpK.val {A : List Addr} (k : List Key) : ∀ {vs : List (List Key × V)} {ds : List (List Key × D)}, RpK K H A vs ds → (getT ds k = none → valV vs k = none) ∧ ∀ d, getT ds k = some d → ∃ v, valV vs k = some v ∧ Rp K H A v d
  | _, _, .nil => ⟨fun _ => rfl, fun d e => by cases e⟩
  | _, _, .cons (k := k') (v := v) (d := d) (vs := vs) (ds := ds) h r => by
    by_cases e : k' = k
    · have e1 : getT ((k', d) :: ds) k = some d := by unfold getT; rw [List.find?_cons]; simp [e]
      rw [e1, valV_pos (p := (k', v)) e]
      exact ⟨fun z => (by cases z), fun x z => (by cases z; exact ⟨v, rfl, h⟩)⟩
    · have e1 : getT ((k', d) :: ds) k = getT ds k := by unfold getT; rw [List.find?_cons]; simp [e]
      rw [e1, valV_neg (p := (k', v)) e]
      exact RpK.val k r
theorem RpK.any {A : List Addr} (k : List Key) : ∀ {vs : List (List Key × V)} {ds : List (List Key × D)}, RpK K H A vs ds → (vs.any fun kv => decide (kv.1 = k)) = (ds.any fun kv => decide (kv.1 = k))
  | _, _, .nil => rfl
  | _, _, .cons h r => by rw [List.any_cons, List.any_cons, RpK.any k r]
theorem RpK.app {A : List Addr} {k : List Key} {v : V} {d : D} (h : Rp K H A v d) : ∀ {vs : List (List Key × V)} {ds : List (List Key × D)}, RpK K H A vs ds → RpK K H A (vs ++ [(k, v)]) (ds ++ [(k, d)])
  | _, _, .nil => .cons h .nil
  | _, _, .cons g r => .cons g (RpK.app h r)
theorem RpK.map {A : List Addr} {k : List Key} {v : V} {d : D} (h : Rp K H A v d) : ∀ {vs : List (List Key × V)} {ds : List (List Key × D)}, RpK K H A vs ds → RpK K H A (vs.map fun kv => if kv.1 = k then (kv.1, v) else kv) (ds.map fun kv => if kv.1 = k then (kv.1, d) else kv)
  | _, _, .nil => .nil
  | _, _, .cons (k := k') g r => by
    rw [List.map_cons, List.map_cons]
    by_cases e : k' = k
    · rw [if_pos e, if_pos e]; exact .cons h (RpK.map h r)
    · rw [if_neg e, if_neg e]; exact .cons g (RpK.map h r)
theorem RpK.put {A : List Addr} {k : List Key} {v : V} {d : D} {vs : List (List Key × V)} {ds : List (List Key × D)} (r : RpK K H A vs ds) (h : Rp K H A v d) : RpK K H A (putK vs k v) (putT ds k d) := by
  unfold putK putT
  rw [r.any k]
  split
  · exact r.map h
  · exact r.app h
/-- {} for keys that are tuples -/
def dnewE : En → R SV := fun e => .ok ⟨.o, .dt []⟩ e
theorem sf_dnew : SF K E tDNewT dnewE := by
  intro F env σ H W Q rel p
  intro q hq
  have s : Step H W (upd H q (.dT [])) (q :: W) := Step.newW hq
  refine p (.ref q) _ (q :: W) (rel.newW hq) s ⟨.inr ⟨by simp, q, rfl, List.mem_cons_self, .dt upd_same .nil, fun _ => rel.trk q hq⟩, fun _ => ⟨rfl, fun j sw ej nj z => ?_⟩⟩
  obtain ⟨v, h1, h2⟩ := rel.sl j sw ej
  rw [z] at h1; cases h1
  rcases h2 with ⟨e1, _⟩ | ⟨_, a, e3, ha, _⟩
  · exact nj e1
  · cases e3; exact rel.wt _ ha hq
theorem tkey_ok {A : List Addr} {v : V} {d : D} {k : List Key} (h : RdOk K H A v d) (e : tkeyD d = some k) : ∃ b, v = .ref b ∧ H b = some (.tup (k.map kV)) := by
  cases d with
  | tup ds =>
    obtain ⟨a, xs, rfl, h2, h3⟩ := rd_tup h
    rw [keysD_ok h3 e] at h2
    exact ⟨a, rfl, h2.2⟩
  | _ => cases e
/-- d[k] = e for the dict in slot i -/
def dputS (i : Nat) (fv : En → R SV) (fk : En → R Opd) : En → RS := bindS fv fun sv e1 => match e1.sv i with
  | some _ => bindS fk (fun k e => match (k.get e).bind tkeyD, e.sv i with
    | some ks, some ⟨fl, .dt xs⟩ => if fl = .p then .stuck else if xs.length < 100000 then .nx (e.set i (some ⟨fl, .dt (putT xs ks sv.d)⟩)) else .stuck
    | _, _ => .stuck) e1
  | none => .stuck
theorem ss_dput {i : Nat} {fv : En → R SV} {fk : En → R Opd} (hv : SF K E tv fv) (hk : SE K E ty fk) : SS K E (sDPut (tVar i) ty tv) (dputS i fv fk) := by
  intro F env σ H W T rel p
  refine Sn.goS (t := tv) hv rel p fun e1 H1 W1 sv v rel1 s1 rv p => ?_
  obtain ⟨W2, r2, s2, h2⟩ := keep_fresh rel1 rv
  cases q0 : e1.sv i with
  | none => rw [q0] at p; exact p.elim
  | some si =>
    rw [q0] at p; dsimp only at p
    obtain ⟨u, g1, _⟩ := r2.sl i _ q0
    refine ⟨u, g1, Sn.goS (t := ty) hk r2 (PostS.from s2 p) fun e3 H3 W3 j w rel3 s3 rj p => ?_⟩
    have hv3 := s3.rp h2
    cases q1 : j.get e3 with
    | none => rw [q1] at p; exact p.elim
    | some jd =>
      rw [q1] at p
      cases qk : tkeyD jd with
      | none => rw [show (some jd).bind tkeyD = tkeyD jd from rfl, qk] at p; exact p.elim
      | some ks =>
        rw [show (some jd).bind tkeyD = tkeyD jd from rfl, qk] at p
        obtain ⟨b, rfl, hb⟩ := tkey_ok (rel3.get rj q1) qk
        cases q2 : e3.sv i with
        | none => rw [q2] at p; exact p.elim
        | some s3i =>
          rw [q2] at p
          obtain ⟨fl, x⟩ := s3i
          cases x with
          | dt xs =>
            dsimp only at p
            by_cases nf : fl = .p
            · rw [if_pos nf] at p; exact p.elim
            · rw [if_neg nf] at p
              by_cases hz : xs.length < 100000
              · rw [if_pos hz] at p
                obtain ⟨u', g3, g4⟩ := rel3.sl i _ q2
                rw [g1] at g3; cases g3
                rcases g4 with ⟨z, _⟩ | ⟨_, a, e2, ha, hw, hh⟩
                · exact absurd z nf
                · subst e2
                  cases hw with
                  | @dt xv _ hl hr =>
                    have st : Step H3 W3 (upd H3 a (.dT (putK xv ks v))) W3 := Step.mut ha
                    exact ⟨a, _, rfl, DPut.t hl hb (sz_lt (by rw [hr.length]; exact hz)), p σ _ W3 (rel3.write q2 nf g1 ha hh (.dt upd_same (st.rpK (hr.put hv3)))) st⟩
              · rw [if_neg hz] at p; exact p.elim
          | _ => exact p.elim
/-- d.get(k) -/
def dgetE (fd fk : En → R Opd) : En → R SV := bindR fd fun o e1 => match o.get e1 with
  | some (.dt _) => bindR fk (fun k e => match o.get e, (k.get e).bind tkeyD with
    | some (.dt xs), some ks => .ok ⟨.p, (getT xs ks).getD .non⟩ e
    | _, _ => .stuck) e1
  | _ => .stuck
theorem sf_dget1 {fd fk : En → R Opd} (hd : SE K E td fd) (hk : SE K E ty fk) : SF K E (tDGet1 td ty) (dgetE fd fk) := by
  intro F env σ H W Q rel p
  refine Sn.go (t := td) hd rel p fun e1 H1 W1 o v rel1 s1 rv p => ?_
  cases q0 : o.get e1 with
  | none => rw [q0] at p; exact p.elim
  | some d =>
    rw [q0] at p
    cases d with
    | dt xs0 =>
      dsimp only at p
      obtain ⟨a, ys, rfl, g2, g3⟩ := rd_dt (rel1.get rv q0)
      refine ⟨a, rfl, .inr ⟨ys, .inl g2⟩, Sn.go (t := ty) hk rel1 p fun e2 H2 W2 k w rel2 s2 rk p => ?_⟩
      have rv2 := RelO.step s2 rv
      cases q1 : o.get e2 with
      | none => rw [q1] at p; exact p.elim
      | some d2 =>
        cases q3 : k.get e2 with
        | none => rw [q1, q3] at p; cases d2 <;> exact p.elim
        | some kd =>
          cases d2 with
          | dt xs =>
            cases qk : tkeyD kd with
            | none => rw [q1, q3, show (some kd).bind tkeyD = tkeyD kd from rfl, qk] at p; exact p.elim
            | some ks =>
              rw [q1, q3, show (some kd).bind tkeyD = tkeyD kd from rfl, qk] at p
              dsimp only at p
              obtain ⟨b, rfl, hb⟩ := tkey_ok (rel2.get rk q3) qk
              obtain ⟨a', ys', e', g2', g3'⟩ := rd_dt (rel2.get rv2 q1)
              cases e'
              obtain ⟨n1, n2⟩ := g3'.val ks
              refine ⟨_, DGet.t g2' hb, ?_⟩
              have key : Rp K H2 (W2 ++ F.fr) ((valV ys' ks).getD .non) ((getT xs ks).getD .non) := by
                cases qg : getT xs ks with
                | none => rw [n1 qg]; exact .non
                | some d => obtain ⟨v, m1, m2⟩ := n2 d qg; rw [m1]; exact m2
              exact p _ H2 W2 rel2 (Step.refl _ _) ⟨.inl ⟨rfl, key⟩, fun z => absurd rfl z⟩
          | _ => rw [q1, q3] at p; exact p.elim
    | _ => exact p.elim
end
end DL

namespace DL
open PySem L2
section
variable {K : PySem.W.Frag} {E : XK} {F : Fm} {env : En} {σ : St} {H : Hp} {W : List Addr} {ta tb tc te : TE} {t tk : TA}
def negG : D → Option SV
  | .int i => pI (-i)
  | _ => none
theorem negG_fine (d : D) (z : SV) (h : negG d = some z) : Fine z := by
  unfold negG at h
  split at h
  · cases h; exact fine_p _
  · cases h
theorem o_neg : Op1 K (rU fun i => .int (-i)) negG := by
  intro H A v d z Q hd hg q
  unfold negG at hg
  split at hg
  · cases hg; exact ⟨_, rd_int hd, res_p q (.int _)⟩
  · cases hg
/-- a < b < c -/
def chainE (g g' : Int → Int → Bool) (fa fb fc : En → R Opd) : En → R SV := bindR fa fun a => bindR fb fun b e => match a.get e, b.get e with
  | some (.int i), some (.int j) => if g i j then bindR fc (fun c e => match b.get e, c.get e with
    | some (.int j), some (.int k) => .ok ⟨.p, .bl (g' j k)⟩ e
    | _, _ => .stuck) e else .ok ⟨.p, .bl false⟩ e
  | _, _ => .stuck
theorem sf_chain {g g' : Int → Int → Bool} {fa fb fc : En → R Opd} (ha : SE K E ta fa) (hb : SE K E tb fb) (hc : SE K E tc fc) :
    SF K E (tChain (rI0 fun i j => .bl (g i j)) (rI0 fun i j => .bl (g' i j)) ta tb tc) (chainE g g' fa fb fc) := by
  intro F env σ H W Q rel p
  refine Sn.go (t := ta) ha rel p fun e1 H1 W1 a v rel1 s1 rv p => ?_
  refine Sn.go (t := tb) hb rel1 p fun e2 H2 W2 b u rel2 s2 ru p => ?_
  have rv2 := RelO.step s2 rv
  split at p
  · rename_i i j ei ej
    refine ⟨i, j, rd_int (rel2.get rv2 ei), rd_int (rel2.get ru ej), g i j, rfl, ?_⟩
    cases hg : g i j with
    | false =>
      rw [hg] at p
      exact p _ H2 W2 rel2 (Step.refl _ _) ⟨.inl ⟨rfl, .bl false⟩, fun z => absurd rfl z⟩
    | true =>
      rw [hg] at p
      show tc σ H2 _
      refine Sn.go (t := tc) hc rel2 p fun e3 H3 W3 c w rel3 s3 rw' p => ?_
      have ru3 := RelO.step s3 ru
      split at p
      · rename_i j' k ej' ek
        exact ⟨j', k, rd_int (rel3.get ru3 ej'), rd_int (rel3.get rw' ek), p _ H3 W3 rel3 (Step.refl _ _) ⟨.inl ⟨rfl, .bl _⟩, fun z => absurd rfl z⟩⟩
      · exact p.elim
  · exact p.elim

def spD0 (K : PySem.W.Frag) (G : List SV → RF) : Sp := fun vs H Q _ => spD K G vs H Q E0
def defG (np n : Nat) (body : En → RS) (args : List SV) : RF := if args.length = np then runDef n body args else .stuck
theorem spD0_len {np n : Nat} {body : En → RS} {vs : List V} {Q : VK} (h : spD0 K (defG np n body) vs H Q E) : vs.length = np :=
  spD_len (E := E0) (fun args ne => by unfold defG; rw [if_neg ne]) h
theorem body0 {ts : TS} {body : En → RS} {N : List Str} {np : Nat} {vs : List V} {Q : VK} (hS : SS K E0 ts body) (hn : np ≤ N.length) (h : spD0 K (defG np N.length body) vs H Q E) : ts { nx := fun _ H' => Q .non H', rt := Q } (L2.start N vs) H := by
  have hl := spD0_len h
  refine body_ok (N := N) hS (by omega) ?_
  obtain ⟨args, W, fr, r, p⟩ := h
  have lav : args.length = vs.length := by have := r.len; simpa using this
  refine ⟨args, W, fr, r, ?_⟩
  unfold defG at p
  rw [if_pos (by omega)] at p
  exact p
theorem sf_call0 {G : List SV → RF} {fa : En → R (List Opd)} (ha : SA K E0 t fa) : SF K E0 (tCall (spD0 K G) [] E0 t) (callE G fa) := by
  intro F env σ H W Q r p
  refine Sn.go (t := t) ha r p fun e H W os vs rel s rv p => ?_
  rw [List.append_nil]
  exact callD_ok rel rv p
/-- f(a, .., k = v), n by place and m by name: the parameters' order is the written one -/
def gK {α : Type} (n m : Nat) (us ws : List α) : List α := if us.length = n ∧ ws.length = m then us ++ ws else []
def appK (n m : Nat) (fa fk : En → R (List Opd)) : En → R (List Opd) := bindR fa fun a => bindR fk fun b e => if a.length = n ∧ b.length = m then .ok (a ++ b) e else .stuck
theorem RelOs.append : ∀ {os ps : List Opd} {vs ws : List V}, RelOs K F σ H W os vs → RelOs K F σ H W ps ws → RelOs K F σ H W (os ++ ps) (vs ++ ws)
  | _, _, _, _, .nil, s => s
  | _, _, _, _, .cons h r, s => .cons h (RelOs.append r s)
theorem sf_callK0 {G : List SV → RF} {n m : Nat} {fa fk : En → R (List Opd)} (ha : SA K E0 t fa) (hk : SA K E0 tk fk) : SF K E0 (tCallK (spD0 K G) (gK n m) E0 t tk) (callE G (appK n m fa fk)) := by
  intro F env σ H W Q r p
  have e : callE G (appK n m fa fk) env = bindR fa (fun a => bindR fk fun b e => if a.length = n ∧ b.length = m then callD G (a ++ b) e else .stuck) env := by
    unfold callE appK bindR
    cases fa env with
    | ok a e =>
      dsimp only
      cases fk e with
      | ok b e2 =>
        dsimp only
        by_cases hl : a.length = n ∧ b.length = m
        · rw [if_pos hl, if_pos hl]
        · rw [if_neg hl, if_neg hl]
      | _ => rfl
    | _ => rfl
  rw [e] at p
  refine Sn.go (t := t) ha r p fun e H W os vs rel s rv p => ?_
  refine Sn.go (t := tk) hk rel p fun e2 H2 W2 ps ws rel2 s2 rw' p => ?_
  by_cases hl : os.length = n ∧ ps.length = m
  · rw [if_pos hl] at p
    have e3 : gK n m vs ws = vs ++ ws := by
      unfold gK
      rw [if_pos ⟨by rw [← rv.len]; exact hl.1, by rw [← rw'.len]; exact hl.2⟩]
    show spD0 K G (gK n m vs ws) H2 Q E0
    rw [e3]
    exact callD_ok rel2 ((rv.step s2).append rw') p
  · rw [if_neg hl] at p; exact p.elim
theorem kbinds_app {fd : FuncData} {ps ks : List Str} {n m : Nat} (hn : ps ≠ []) (h : ∀ (us ws : List Value), us.length = n → ws.length = m → bindArgs fd ⟨us, ks.zip ws⟩ = pure (ps.zip (us ++ ws))) : KBinds K fd ps ks (gK n m) (gK n m) := by
  constructor
  · intro s us ws _ hl
    unfold gK at hl ⊢
    by_cases hc : us.length = n ∧ ws.length = m
    · rw [if_pos hc]; exact .of_eq (h us ws hc.1 hc.2)
    · rw [if_neg hc] at hl
      exact absurd (List.eq_nil_of_length_eq_zero hl.symm) hn
  · intro vs us zs ws a b
    unfold gK
    rw [a.length, b.length]
    split
    · exact a.append b
    · exact .nil
/-- x[i] op= e for the list of ints in slot i -/
def augIxS (i : Nat) (g : Int → Int → Int) (fj fv : En → R Opd) : En → RS := fun e0 => match e0.sv i with
  | some _ => bindS fj (fun j e => match j.get e, e.sv i with
    | some (.int n), some ⟨fl, .lst xs⟩ => if 0 ≤ n then (match xs[n.toNat]? with
      | some (.int m) => bindS fv (fun v e2 => match v.get e2, e2.sv i with
        | some (.int k), some ⟨fl, .lst ys⟩ => if fl = .p then .stuck else (match ixN ys.length n with
          | some q => .nx (e2.set i (some ⟨fl, .lst (ys.set q (.int (g m k)))⟩))
          | none => .stuck)
        | _, _ => .stuck) e
      | _ => .stuck) else .stuck
    | _, _ => .stuck) e0
  | none => .stuck
end
end DL

namespace DL
open PySem L2
section
variable {X : Cx} {K : PySem.W.Frag} {tg e l : Expr} {tl to : TE} {t : TA} {T : String} {r : V → List V → Hp → VK → Prop} {gs : TGs} {n : Nat}
theorem call_lenA : CallR X (.builtin "len") (rLenA X.K) := callr_or call_len_seq call_len_str
theorem call_listA : CallR X (.type "list") (rListA X.K) := call_list_of
theorem call_tupleA : CallR X (.type "tuple") (rTupleA X.K) := call_tuple_of
theorem op_addK (h : X.K = K) : OpR X (binaryOp .Add) (rAddA K) := h ▸ op_addA
theorem op_eqK (h : X.K = K) (hu : X.A.units + 64 < cLine) : OpR X (compareOp .Eq) (rEqD K) := h ▸ op_eqD hu
theorem op_neK (h : X.K = K) (hu : X.A.units + 64 < cLine) : OpR X (compareOp .NotEq) (rNeD K) := h ▸ op_neD hu
theorem ix_seqK (h : X.K = K) : IxR X (rIx K) := h ▸ ix_seq
theorem sl_listK (h : X.K = K) : SlR X (rSlL K) := h ▸ sl_list
theorem call_lenK (h : X.K = K) : CallR X (.builtin "len") (rLenA K) := h ▸ call_lenA
theorem call_listK (h : X.K = K) : CallR X (.type "list") (rListA K) := h ▸ call_listA
theorem call_tupleK (h : X.K = K) : CallR X (.type "tuple") (rTupleA K) := h ▸ call_tupleA
theorem call_sumK (h : X.K = K) (hc : X.calm = true) : CallR X (.builtin "sum") (rSum K) := h ▸ cr_sum hc
theorem call_allK (h : X.K = K) (hc : X.calm = true) : CallR X (.builtin "all") (rAll K) := h ▸ cr_all hc
theorem call_anyK (h : X.K = K) (hc : X.calm = true) : CallR X (.builtin "any") (rAny K) := h ▸ cr_any hc
theorem call_isiK' (h : X.K = K) : CallR X (.builtin "isinstance") (rIsi K) := h ▸ call_isi
theorem mt_countK (h : X.K = K) : MtR X "list.count" (rCntI K) := h ▸ mt_lcount
theorem pe_bmK (h : X.K = K) (p : PE X e (tBM X.K T r to t)) : PE X e (tBM K T r to t) := h ▸ p
theorem pe_bm0K (h : X.K = K) (p : PE X e (tBM0 X.K T r to)) : PE X e (tBM0 K T r to) := h ▸ p
theorem pi_seqK (h : X.K = K) (hl : PE X l tl) : PI X tg l (iSeq K tl) := h ▸ pi_seq hl
theorem pg_K (h : X.K = K) (p : PG X tg (gTup X.K n gs)) : PG X tg (gTup K n gs) := h ▸ p
end
end DL

namespace DL
open PySem L2
theorem seqS_nx {f g : En → RS} {e e' : En} (h : f e = .nx e') : seqS f g e = g e' := by unfold seqS; rw [h]
theorem seqS_ret {f g : En → RS} {e e' : En} {sv : SV} (h : f e = .ret sv e') : seqS f g e = .ret sv e' := by unfold seqS; rw [h]
theorem bindS_ok {α : Type} {f : En → R α} {k : α → En → RS} {e e' : En} {a : α} (h : f e = .ok a e') : bindS f k e = k a e' := by unfold bindS; rw [h]
theorem grd_none {ds : List D} {e : En} : Grd ⟨ds, none⟩ e := trivial
/-- a comprehension whose elements leave the slots as they were: filter and map -/
theorem compLoop_map {s : Src} {vs : List Nat} {asg : D → En → Option En} {test : En → R Bool} {elt : En → R Opd} {t : D → Bool} {f : D → D} {e : En} (hG : Grd s e) : ∀ (ds acc : List D), acc.length + ds.length ≤ 100000 →
    (∀ d ∈ ds, ∃ e1 e2, asg d e = some e1 ∧ test e1 = .ok (t d) e2 ∧ (t d = false → wipeE e2 vs = e) ∧ (t d = true → ∃ o e3 e4, elt e2 = .ok o e3 ∧ pureO o e3 = some (f d, e4) ∧ wipeE e4 vs = e)) →
    compLoop s vs asg test elt ds e acc = .ok (acc ++ (ds.filter t).map f) e
  | [], acc, _, _ => by unfold compLoop; rw [if_pos hG]; simp
  | d :: ds, acc, hl, h => by
    obtain ⟨e1, e2, h1, h2, h3, h4⟩ := h d List.mem_cons_self
    unfold compLoop
    rw [if_pos hG, h1]
    dsimp only
    rw [h2]
    rw [List.length_cons] at hl
    cases ht : t d with
    | false =>
      dsimp only
      rw [h3 ht, compLoop_map hG ds acc (by omega) fun x hx => h x (List.mem_cons_of_mem _ hx)]
      simp [ht]
    | true =>
      obtain ⟨o, e3, e4, h5, h6, h7⟩ := h4 ht
      dsimp only
      rw [h5]
      dsimp only
      rw [h6]
      dsimp only
      rw [if_pos (by omega), h7, compLoop_map hG ds (acc ++ [f d]) (by simp; omega) fun x hx => h x (List.mem_cons_of_mem _ hx)]
      simp [ht]
/-- .. without a test -/
theorem compLoop_each {s : Src} {vs : List Nat} {asg : D → En → Option En} {elt : En → R Opd} {f : D → D} {e : En} (hG : Grd s e) (ds : List D) (hl : ds.length ≤ 100000)
    (h : ∀ d ∈ ds, ∃ e1 o e3 e4, asg d e = some e1 ∧ elt e1 = .ok o e3 ∧ pureO o e3 = some (f d, e4) ∧ wipeE e4 vs = e) : compLoop s vs asg (fun e => .ok true e) elt ds e [] = .ok (ds.map f) e := by
  rw [compLoop_map (t := fun _ => true) (f := f) hG ds [] (by simpa using hl) fun d hd => ?_]
  · rw [List.filter_eq_self.mpr fun _ _ => rfl]; rfl
  · obtain ⟨e1, o, e3, e4, h1, h2, h3, h4⟩ := h d hd
    exact ⟨e1, e1, h1, rfl, fun z => (by cases z), fun _ => ⟨o, e3, e4, h2, h3, h4⟩⟩
/-- a for loop by an invariant: what is left, the slots -/
theorem loopS_inv {s : Src} {asg : D → En → Option En} {body : En → RS} (P : List D → En → Prop) {e' : En → Prop} : ∀ (ds : List D) (e : En), P ds e → (∀ ds e, P ds e → Grd s e) →
    (∀ d ds e, P (d :: ds) e → ∃ e1 e2, asg d e = some e1 ∧ body e1 = .nx e2 ∧ P ds e2) → ∃ e2, loopS s asg body ds e = .nx e2 ∧ P [] e2
  | [], e, h, hG, _ => ⟨e, by unfold loopS; rw [if_pos (hG _ _ h)], h⟩
  | d :: ds, e, h, hG, ht => by
    obtain ⟨e1, e2, h1, h2, h3⟩ := ht d ds e h
    obtain ⟨e3, h4, h5⟩ := loopS_inv (e' := e') P ds e2 h3 hG ht
    refine ⟨e3, ?_, h5⟩
    unfold loopS
    rw [if_pos (hG _ _ h), h1]
    dsimp only
    rw [h2]
    exact h4
/-- a while by an invariant and a measure -/
theorem whileS_inv {c : En → R Bool} {body : En → RS} (P : En → Prop) (μ : En → Nat) (hs : ∀ e, P e → (∃ e1, c e = .ok false e1 ∧ e1 = e) ∨ ∃ e1 e2, c e = .ok true e1 ∧ body e1 = .nx e2 ∧ P e2 ∧ μ e2 < μ e) :
    ∀ (e : En), P e → ∃ e2, whileS c body e = .nx e2 ∧ P e2 ∧ c e2 = .ok false e2 := by
  have key : ∀ (n : Nat) (e : En), P e → μ e < n → ∃ e2, whileL c body n e = .nx e2 ∧ P e2 ∧ c e2 = .ok false e2 := by
    intro n
    induction n with
    | zero => intro e _ h; omega
    | succ n ih =>
      intro e hP hm
      rcases hs e hP with ⟨e1, h1, rfl⟩ | ⟨e1, e2, h1, h2, h3, h4⟩
      · exact ⟨e1, by unfold whileL; rw [h1], hP, h1⟩
      · obtain ⟨e3, g1, g2, g3⟩ := ih e2 h3 (by omega)
        refine ⟨e3, ?_, g2, g3⟩
        unfold whileL
        rw [h1]
        dsimp only
        rw [h2]
        exact g1
  intro e hP
  obtain ⟨e2, h1, h2, h3⟩ := key (μ e + 1) e hP (by omega)
  exact ⟨e2, by rw [whileS_eq (μ e + 1) (by rw [h1]; intro z; cases z)]; exact h1, h2, h3⟩
theorem kit_ii : kitB "int" "int" = some true := by decide +kernel
theorem kit_ib : kitB "int" "bool" = some false := by decide +kernel
theorem kit_bi : kitB "bool" "int" = some true := by decide +kernel
theorem kit_bb : kitB "bool" "bool" = some true := by decide +kernel
theorem kit_ll : kitB "list" "list" = some true := by decide +kernel
theorem kit_tt : kitB "tuple" "tuple" = some true := by decide +kernel
theorem kit_lt : kitB "list" "tuple" = some false := by decide +kernel
theorem kit_tl : kitB "tuple" "list" = some false := by decide +kernel
theorem kit_ti : kitB "tuple" "int" = some false := by decide +kernel
theorem kit_li : kitB "list" "int" = some false := by decide +kernel
theorem kit_ni : kitB "NoneType" "int" = some false := by decide +kernel
theorem kit_si : kitB "str" "int" = some false := by decide +kernel
theorem kit_nt : kitB "NoneType" "tuple" = some false := by decide +kernel
theorem kit_it : kitB "int" "tuple" = some false := by decide +kernel
theorem kit_st : kitB "str" "tuple" = some false := by decide +kernel
theorem kit_bt : kitB "bool" "tuple" = some false := by decide +kernel
end DL

namespace DL
open PySem L2
section
variable {K : PySem.W.Frag} {E : XK} {te : TE}
def callF (G : List SV → RF) (f : En → R SV) : En → R SV := bindR f fun sv e => match G [match sv.fl with | .o => ⟨.b, sv.d⟩ | _ => sv] with
  | .ret r [_] => .ok r e
  | _ => .stuck
theorem sf_callF0 {G : List SV → RF} {f : En → R SV} (h : SF K E0 te f) : SF K E0 (tCall (spD0 K G) [] E0 (tCons te tNil)) (callF G f) := by
  intro F env σ H W Q r p
  refine Sn.go (t := te) h r p fun e H W sv v rel s rv p => ?_
  show spD K G [v] H Q E0
  obtain ⟨fl, d⟩ := sv
  have fin : ∀ (sa : SV) (Wc fc : List Addr), Rel K ⟨fc, H, [some v]⟩ [some sa] [some v] H Wc → Post (rV K) K E0 F σ H W Q (match G [sa] with | .ret r [_] => .ok r e | _ => .stuck) →
      (∀ (H' : Hp) (W' : List Addr), Step H Wc H' W' → (∀ a, H' a = none → H a = none) → (∀ a ∈ W', H' a ≠ none) → (∀ a ∈ fc, H' a ≠ none) → (∀ a ∈ W', a ∉ fc) → ∃ W2, Rel K F e σ H' W2 ∧ Step H W H' W2 ∧ (∀ a ∈ W', a ∈ W2) ∧ (∀ a, a ∈ W2 ++ F.fr → a ∈ W' ++ fc ∨ H' a = none)) →
      spD K G [v] H Q E0 := fun sa Wc fc rc p k => by
    refine ⟨[sa], Wc, fc, rc, ?_⟩
    cases qG : G [sa] with
    | stuck => rw [qG] at p; exact p.elim
    | exc x ds => rw [qG] at p; exact p.elim
    | ret rr ds =>
      rw [qG] at p
      match ds, p with
      | [], p => exact p.elim
      | _ :: _ :: _, p => exact p.elim
      | [d0], p =>
        intro u H' W' r' s' ru
        obtain ⟨W2, R2, S2, m1, m2⟩ := k H' W' s' r'.trk r'.wt r'.frt r'.dis
        refine p u H' W2 R2 S2 ⟨?_, fun np => ⟨(ru.2 np).1, fun j sw ej nj z => ?_⟩⟩
        · rcases ru.1 with ⟨e1, h1⟩ | ⟨e1, b, e2, hb, hw, hz⟩
          · exact .inl ⟨e1, h1.mono (fun _ _ _ e => e) m2⟩
          · exact .inr ⟨e1, b, e2, m1 b hb, hw.mono (fun _ _ _ e => e) m2 fun _ e => e, fun z => rel.trk b (hz z)⟩
        · rcases ru.1 with ⟨e1, _⟩ | ⟨e1, b, e2, hb, hw, hz⟩
          · exact np e1
          · subst e2
            have hb0 : H b = none := hz (ru.2 np).1
            obtain ⟨u, h3, h4⟩ := rel.sl j sw ej
            rw [z] at h3; cases h3
            rcases h4 with ⟨n, _⟩ | ⟨_, b2, e3, hb2, _⟩
            · exact nj n
            · cases e3; exact rel.wt _ hb2 hb0
  have keepAll : ∀ (Wx : List Addr), (∀ a ∈ Wx, a ∈ W) → (∀ i sw, e.sv i = some sw → sw.fl ≠ .p → ∀ a, σ[i]? = some (some (.ref a)) → a ∉ Wx) →
      ∀ (H' : Hp) (W' : List Addr), Step H Wx H' W' → (∀ a, H' a = none → H a = none) → (∀ a ∈ W', H' a ≠ none) → (∀ a ∈ W.filter (fun b => decide (b ∉ Wx)) ++ F.fr, H' a ≠ none) → (∀ a ∈ W', a ∉ W.filter (fun b => decide (b ∉ Wx)) ++ F.fr) →
      ∃ W2, Rel K F e σ H' W2 ∧ Step H W H' W2 ∧ (∀ a ∈ W', a ∈ W2) ∧ (∀ a, a ∈ W2 ++ F.fr → a ∈ W' ++ (W.filter (fun b => decide (b ∉ Wx)) ++ F.fr) ∨ H' a = none) := fun Wx hsub hsl H' W' s' ht hw' hf' hd' => by
    have mf : ∀ a, a ∈ W.filter (fun b => decide (b ∉ Wx)) ↔ a ∈ W ∧ a ∉ Wx := fun a => by simp [List.mem_filter]
    have S : Step H W H' (W' ++ W.filter fun b => decide (b ∉ Wx)) := ⟨fun a o n q => s'.pres a o (fun z => n (hsub a z)) q, fun a z => by
      rcases List.mem_append.mp z with z | z
      · rcases s'.grow a z with z | z
        · exact .inl (hsub a z)
        · exact .inr z
      · exact .inl ((mf a).mp z).1⟩
    refine ⟨W' ++ W.filter (fun b => decide (b ∉ Wx)), ⟨rel.len, fun i sw q => ?_, rel.inj, rel.bor, fun a q => rel.trk a (ht a q), fun a z => hf' a (List.mem_append_right _ z), fun a z y => ?_, fun a z => ?_⟩, S, fun a z => List.mem_append_left _ z, fun a z => .inl (by rw [List.append_assoc] at z; exact z)⟩
    · obtain ⟨u, h1, h2⟩ := rel.sl i sw q
      refine ⟨u, h1, ?_⟩
      rcases h2 with ⟨e1, h2⟩ | ⟨e1, a, e2, ha, ho, hz⟩
      · exact .inl ⟨e1, S.rp h2⟩
      · subst e2
        have na := hsl i sw q e1 a h1
        exact .inr ⟨e1, a, rfl, List.mem_append_right _ ((mf a).mpr ⟨ha, na⟩), ho.mono S.pF S.gF (fun o q => s'.pres a o na q), hz⟩
    · rcases List.mem_append.mp z with z | z
      · exact hd' a z (List.mem_append_right _ y)
      · exact rel.dis a ((mf a).mp z).1 y
    · rcases List.mem_append.mp z with z | z
      · exact hw' a z
      · exact hf' a (List.mem_append_left _ z)
  have pureCase : ∀ (sa : SV), sa.fl = .p → Rp K H (W ++ F.fr) v sa.d → Post (rV K) K E0 F σ H W Q (match G [sa] with | .ret r [_] => .ok r e | _ => .stuck) → spD K G [v] H Q E0 := fun sa hf hd p => by
    have mf : ∀ a, a ∈ W.filter (fun b => decide (b ∉ ([] : List Addr))) ↔ a ∈ W := fun a => by simp [List.mem_filter]
    refine fin sa [] (W.filter (fun b => decide (b ∉ ([] : List Addr))) ++ F.fr) ⟨rfl, fun i sw q => ?_, fun i j si sj a ei ej ni nj e1 e2 => ?_, fun i sw q b => ?_, fun _ q => q, fun a z => ?_, fun a z => by simp at z, fun a z => by simp at z⟩ p (keepAll [] (by simp) (fun _ _ _ _ _ _ => by simp))
    · match i, q with
      | 0, q =>
        cases q
        refine ⟨v, rfl, .inl ⟨hf, hd.mono (fun _ _ _ e => e) fun a z => .inl ?_⟩⟩
        rcases List.mem_append.mp (by simpa using z : a ∈ W.filter (fun b => decide (b ∉ ([] : List Addr))) ++ F.fr) with z | z
        · exact List.mem_append_left _ ((mf a).mp z)
        · exact List.mem_append_right _ z
      | i + 1, q => simp [En.sv] at q
    · match i, ei with
      | 0, ei => cases ei; exact absurd hf ni
      | i + 1, ei => simp [En.sv] at ei
    · match i, q with
      | 0, q => rfl
      | i + 1, q => simp [En.sv] at q
    · rcases List.mem_append.mp z with z | z
      · exact rel.wt a ((mf a).mp z)
      · exact rel.frt a z
  cases fl with
  | p =>
    rcases rv.1 with ⟨_, h1⟩ | ⟨n, _⟩
    · exact pureCase ⟨.p, d⟩ rfl h1 p
    · exact absurd rfl n
  | b => exact absurd (rv.2 (by simp)).1 (by simp)
  | o =>
    rcases rv.1 with ⟨n, _⟩ | ⟨_, a, e2, ha, hw, hz⟩
    · cases n
    · subst e2
      have mf : ∀ b, b ∈ W.filter (fun b => decide (b ∉ [a])) ↔ b ∈ W ∧ b ≠ a := fun b => by simp [List.mem_filter]
      have sets : ∀ b, b ∈ [a] ++ (W.filter (fun b => decide (b ∉ [a])) ++ F.fr) → b ∈ W ++ F.fr ∨ H b = none := fun b z => by
        rcases List.mem_append.mp z with z | z
        · rw [List.mem_singleton.mp z]; exact .inl (List.mem_append_left _ ha)
        · rcases List.mem_append.mp z with z | z
          · exact .inl (List.mem_append_left _ ((mf b).mp z).1)
          · exact .inl (List.mem_append_right _ z)
      refine fin ⟨.b, d⟩ [a] (W.filter (fun b => decide (b ∉ [a])) ++ F.fr) ⟨rfl, fun i sw q => ?_, fun i j si sj b ei ej ni nj e1 e2 => ?_, fun i sw q b => ?_, fun _ q => q, fun b z => ?_, fun b z y => ?_, fun b z => ?_⟩ p (keepAll [a] (by simpa using ha) (fun i sw q np b h1 z => ?_))
      · match i, q with
        | 0, q => cases q; exact ⟨_, rfl, .inr ⟨by simp, a, rfl, List.mem_cons_self, hw.mono (fun _ _ _ e => e) sets (fun _ e => e), fun z => by cases z⟩⟩
        | i + 1, q => simp [En.sv] at q
      · match i, j, ei, ej with
        | 0, 0, _, _ => rfl
        | i + 1, _, ei, _ => simp [En.sv] at ei
        | 0, j + 1, _, ej => simp [En.sv] at ej
      · match i, q with
        | 0, q => rfl
        | i + 1, q => simp [En.sv] at q
      · rcases List.mem_append.mp z with z | z
        · exact rel.wt b ((mf b).mp z).1
        · exact rel.frt b z
      · rw [List.mem_singleton.mp z] at y
        rcases List.mem_append.mp y with y | y
        · exact ((mf a).mp y).2 rfl
        · exact rel.dis a ha y
      · rw [List.mem_singleton.mp z]; exact rel.wt a ha
      · rw [List.mem_singleton.mp z] at h1
        exact (rv.2 (by simp)).2 i sw q np h1
end
end DL

namespace DL
open PySem L2
theorem a_bindR {α β : Type} (f : En → R α) (k : α → En → R β) (e : En) : bindR f k e = (fun e => match f e with
    | .ok a e' => k a e'
    | .exc x e' => .exc x e'
    | .stuck => .stuck) e := rfl
theorem a_bindS {α : Type} (f : En → R α) (k : α → En → RS) (e : En) : bindS f k e = (fun e => match f e with
    | .ok a e' => k a e'
    | .exc x e' => .exc x e'
    | .stuck => .stuck) e := rfl
theorem a_opd (f : En → R SV) (e : En) : opd f e = (bindR f fun sv e => .ok (.val sv.d) e) e := rfl
theorem a_constE (d : D) (e : En) : constE d e = (fun e => .ok ⟨.p, d⟩ e) e := rfl
theorem a_varE (i : Nat) (e : En) : varE i e = (fun e => match e.sv i with | some _ => .ok (.slot i) e | none => .stuck) e := rfl
theorem a_keepE (f : En → R Opd) (e : En) : keepE f e = (bindR f fun o e => match pureO o e with | some (d, e') => .ok ⟨.p, d⟩ e' | none => .stuck) e := rfl
theorem a_op1 (g : D → Option SV) (fa : En → R Opd) (e : En) : op1 g fa e = (bindR fa fun a e => match a.get e with
    | some x => (match g x with | some z => .ok z e | none => .stuck)
    | none => .stuck) e := rfl
theorem a_op2 (g : D → D → Option SV) (fa fb : En → R Opd) (e : En) : op2 g fa fb e = (bindR fa fun a => bindR fb fun b e => match a.get e, b.get e with
    | some x, some y => (match g x y with | some z => .ok z e | none => .stuck)
    | _, _ => .stuck) e := rfl
theorem a_nilA (e : En) : nilA e = (fun e => .ok [] e) e := rfl
theorem a_consA (fa : En → R Opd) (fr : En → R (List Opd)) (e : En) : consA fa fr e = (bindR fa fun a => bindR fr fun as e => .ok (a :: as) e) e := rfl
theorem a_callB (g : List D → Option SV) (fa : En → R (List Opd)) (e : En) : callB g fa e = (bindR fa fun os e => match getL os e with
    | some xs => (match g xs with | some z => .ok z e | none => .stuck)
    | none => .stuck) e := rfl
theorem a_tupE (fa : En → R (List Opd)) (e : En) : tupE fa e = (bindR fa fun os e => match pureL os e with
    | some (ds, e') => if ds.length ≤ 100000 then .ok ⟨.p, .tup ds⟩ e' else .stuck
    | none => .stuck) e := rfl
theorem a_lstE (fa : En → R (List Opd)) (e : En) : lstE fa e = (bindR fa fun os e => match pureL os e with
    | some (ds, e') => if ds.length ≤ 100000 then .ok ⟨.o, .lst ds⟩ e' else .stuck
    | none => .stuck) e := rfl
theorem a_testV (f : En → R SV) (e : En) : testV f e = (bindR f fun sv e => match sv.d with | .bl b => .ok b e | _ => .stuck) e := rfl
theorem a_andT (f g : En → R Bool) (e : En) : andT f g e = (bindR f fun b e => if b then g e else .ok false e) e := rfl
theorem a_orT (f g : En → R Bool) (e : En) : orT f g e = (bindR f fun b e => if b then .ok true e else g e) e := rfl
theorem a_notT (f : En → R Bool) (e : En) : notT f e = (bindR f fun b e => .ok (!b) e) e := rfl
theorem a_andV (f g : En → R SV) (e : En) : andV f g e = (bindR f fun sv e => match sv.d with | .bl true => g e | .bl false => .ok ⟨.p, .bl false⟩ e | _ => .stuck) e := rfl
theorem a_orV (f g : En → R SV) (e : En) : orV f g e = (bindR f fun sv e => match sv.d with | .bl true => .ok ⟨.p, .bl true⟩ e | .bl false => g e | _ => .stuck) e := rfl
theorem a_notV (f : En → R SV) (e : En) : notV f e = (bindR f fun sv e => match sv.d with | .bl b => .ok ⟨.p, .bl (!b)⟩ e | _ => .stuck) e := rfl
theorem a_ifE (c : En → R Bool) (f g : En → R SV) (e : En) : ifE c f g e = (bindR c fun b e => if b then f e else g e) e := rfl
theorem a_seqS (f g : En → RS) (e : En) : seqS f g e = (fun e => match f e with
    | .nx e' => g e'
    | .ret sv e' => .ret sv e'
    | .bk e' => .bk e'
    | .ct e' => .ct e'
    | .exc x e' => .exc x e'
    | .stuck => .stuck) e := rfl
theorem a_ifS (c : En → R Bool) (f g : En → RS) (e : En) : ifS c f g e = (bindS c fun b e => if b then f e else g e) e := rfl
theorem a_setS (i : Nat) (f : En → R SV) (e : En) : setS i f e = (bindS f fun sv e => match sv.fl with
    | .b => .stuck
    | _ => if i < e.length then .nx (e.set i (some sv)) else .stuck) e := rfl
theorem a_dropS (f : En → R SV) (e : En) : dropS f e = (bindS f fun _ e => .nx e) e := rfl
theorem a_retS (f : En → R SV) (e : En) : retS f e = (bindS f fun sv e => .ret sv e) e := rfl
theorem a_retVarS (i : Nat) (e : En) : retVarS i e = (fun e => match e.sv i with
    | some ⟨.p, d⟩ => .ret ⟨.p, d⟩ e
    | some ⟨.o, d⟩ => .ret ⟨.o, d⟩ (e.set i none)
    | _ => .stuck) e := rfl
theorem a_asgS (asg : D → En → Option En) (f : En → R SV) (e : En) : asgS asg f e = (bindS f fun sv e => match asg sv.d e with
    | some e' => .nx e'
    | none => .stuck) e := rfl
theorem a_callE (G : List SV → RF) (fa : En → R (List Opd)) (e : En) : callE G fa e = (bindR fa (callD G)) e := rfl
theorem a_callF (G : List SV → RF) (f : En → R SV) (e : En) : callF G f e = (bindR f fun sv e => match G [match sv.fl with | .o => ⟨.b, sv.d⟩ | _ => sv] with
    | .ret r [_] => .ok r e
    | _ => .stuck) e := rfl
theorem a_appK (n m : Nat) (fa fk : En → R (List Opd)) (e : En) : appK n m fa fk e = (bindR fa fun a => bindR fk fun b e => if a.length = n ∧ b.length = m then .ok (a ++ b) e else .stuck) e := rfl
theorem a_forS (fs : En → R Src) (asg : D → En → Option En) (body : En → RS) (e : En) : forS fs asg body e = (bindS fs fun s e => loopS s asg body s.ds e) e := rfl
theorem a_compE (fs : En → R Src) (vs : List Nat) (asg : D → En → Option En) (test : En → R Bool) (elt : En → R Opd) (e : En) : compE fs vs asg test elt e = (bindR fs fun s e =>
    match compLoop s vs asg test elt s.ds (wipeE e vs) [] with
    | .ok acc e' => .ok ⟨.o, .lst acc⟩ (restE e e' vs)
    | _ => .stuck) e := rfl
theorem a_seqI (fa : En → R Opd) (e : En) : seqI fa e = (bindR fa fun o e => match o with
    | .val d => (match itemsD d with | some ds => .ok ⟨ds, none⟩ e | none => .stuck)
    | .slot i => match e.sv i with
    | some ⟨.p, d⟩ => (match itemsD d with | some ds => .ok ⟨ds, none⟩ e | none => .stuck)
    | some ⟨.o, .lst ds⟩ => .ok ⟨ds, none⟩ (e.set i (some ⟨.p, .lst ds⟩))
    | some ⟨.b, .lst ds⟩ => .ok ⟨ds, some i⟩ e
    | _ => .stuck) e := rfl
theorem a_rng1 (fa : En → R (List Opd)) (e : En) : rng1 fa e = (bindR fa fun os e => match getL os e with
    | some [.int n] => if -(2 ^ 62) ≤ n ∧ n < 2 ^ 62 then .ok ⟨rangeD 0 n.toNat, none⟩ e else .stuck
    | _ => .stuck) e := rfl
theorem a_rng2 (fa : En → R (List Opd)) (e : En) : rng2 fa e = (bindR fa fun os e => match getL os e with
    | some [.int m, .int n] => if (-(2 ^ 62) ≤ m ∧ m < 2 ^ 62) ∧ -(2 ^ 62) ≤ n ∧ n < 2 ^ 62 then .ok ⟨rangeD m (n - m).toNat, none⟩ e else .stuck
    | _ => .stuck) e := rfl
theorem a_methL (g : D → List D → Option SV) (fo : En → R Opd) (fa : En → R (List Opd)) (e : En) : methL g fo fa e = (bindR fo fun o e1 => match (o.get e1).bind itemsL with
    | none => .stuck
    | some _ => bindR fa (fun os e => match o.get e, getL os e with
    | some x, some xs => (match g x xs with | some z => .ok z e | none => .stuck)
    | _, _ => .stuck) e1) e := rfl
theorem a_mutL (i : Nat) (k : List D → List D → Option (D × List D)) (fa : En → R (List Opd)) (e : En) : mutL i k fa e = (fun e => match e.sv i with
    | some ⟨_, .lst _⟩ => bindR fa (fun os e => match pureL os e with
    | some (ds, e') => (match e'.sv i with
    | some ⟨.p, _⟩ => .stuck
    | some ⟨fl, .lst xs⟩ => (match k ds xs with
    | some (r, ys) => .ok ⟨.p, r⟩ (e'.set i (some ⟨fl, .lst ys⟩))
    | none => .stuck)
    | _ => .stuck)
    | none => .stuck) e
    | _ => .stuck) e := rfl
theorem a_setIxS (i : Nat) (fv : En → R SV) (fj : En → R Opd) (e : En) : setIxS i fv fj e = (bindS fv fun sv e1 => match e1.sv i with
    | some _ => bindS fj (fun j e => match j.get e, e.sv i with
    | some (.int n), some ⟨fl, .lst xs⟩ => if fl = .p then .stuck else (match ixN xs.length n with
    | some m => .nx (e.set i (some ⟨fl, .lst (xs.set m sv.d)⟩))
    | none => .stuck)
    | _, _ => .stuck) e1
    | none => .stuck) e := rfl
theorem a_noPt (e : En) : noPt e = (fun e => .ok none e) e := rfl
theorem a_somePt (f : En → R Opd) (e : En) : somePt f e = (bindR f fun o e => match o.get e with | some (.int i) => .ok (some i) e | _ => .stuck) e := rfl
theorem a_sliceE (fo : En → R Opd) (fl fh : En → R (Option Int)) (e : En) : sliceE fo fl fh e = (bindR fo fun o => bindR fl fun l => bindR fh fun h e => match (o.get e).bind itemsL with
    | some xs => .ok ⟨.o, .lst (cutD xs l h)⟩ e
    | none => .stuck) e := rfl
theorem a_chainE (g g' : Int → Int → Bool) (fa fb fc : En → R Opd) (e : En) : chainE g g' fa fb fc e = (bindR fa fun a => bindR fb fun b e => match a.get e, b.get e with
    | some (.int i), some (.int j) => if g i j then bindR fc (fun c e => match b.get e, c.get e with
    | some (.int j), some (.int k) => .ok ⟨.p, .bl (g' j k)⟩ e
    | _, _ => .stuck) e else .ok ⟨.p, .bl false⟩ e
    | _, _ => .stuck) e := rfl
theorem a_nameG (i : Nat) (d : D) (e : En) : nameG i d e = (fun d e => if i < e.length then some (e.set i (some ⟨.p, d⟩)) else none) d e := rfl
theorem a_nilG (d : List D) (e : En) : nilG d e = (fun ds e => match ds with | [] => some e | _ => none) d e := rfl
theorem a_consG (g : D → En → Option En) (gs : List D → En → Option En) (d : List D) (e : En) : consG g gs d e = (fun ds e => match ds with
    | [] => none
    | d :: r => match g d e with | some e1 => gs r e1 | none => none) d e := rfl
theorem a_tupG (n : Nat) (gs : List D → En → Option En) (d : D) (e : En) : tupG n gs d e = (fun d e => match d with
    | .tup ds => if ds.length = n then gs ds e else none
    | _ => none) d e := rfl
theorem a_dnewE (e : En) : dnewE e = (fun e => .ok ⟨.o, .dt []⟩ e) e := rfl
theorem a_dputS (i : Nat) (fv : En → R SV) (fk : En → R Opd) (e : En) : dputS i fv fk e = (bindS fv fun sv e1 => match e1.sv i with
    | some _ => bindS fk (fun k e => match (k.get e).bind tkeyD, e.sv i with
    | some ks, some ⟨fl, .dt xs⟩ => if fl = .p then .stuck else if xs.length < 100000 then .nx (e.set i (some ⟨fl, .dt (putT xs ks sv.d)⟩)) else .stuck
    | _, _ => .stuck) e1
    | none => .stuck) e := rfl
theorem a_dgetE (fd fk : En → R Opd) (e : En) : dgetE fd fk e = (bindR fd fun o e1 => match o.get e1 with
    | some (.dt _) => bindR fk (fun k e => match o.get e, (k.get e).bind tkeyD with
    | some (.dt xs), some ks => .ok ⟨.p, (getT xs ks).getD .non⟩ e
    | _, _ => .stuck) e1
    | _ => .stuck) e := rfl
end DL

namespace HT
open PySem PySem.Spec PyProof.Rows L2
section
variable {prog : Program} {w : World} {A : Around} {E : Value → Shared → Prop} {s : Shared}
theorem adjust_rev (n : Nat) : Builtin.Slice.sliceAdjust none none (-1) (n : Int) = ((n : Int) - 1, -1) := by
  unfold Builtin.Slice.sliceAdjust
  simp
theorem places_rev (n : Nat) : Builtin.Slice.slicePlaces ((n : Int) - 1) (-1) (-1) = n := by
  unfold Builtin.Slice.slicePlaces
  have h1 : ¬ ((-1 : Int) > 0) := by decide
  by_cases h : (n : Int) - 1 > -1
  · simp only [h1, if_false, h, if_true]
    rw [show (-(-1) : Int) = 1 by decide, Int.ediv_one]
    omega
  · simp only [h1, if_false, h]
    omega
theorem pick_rev (xs : Array Value) : ((List.range xs.size).filterMap fun (m : Nat) => xs[((xs.size : Int) - 1 + (m : Int) * (-1)).toNat]?).toArray = xs.toList.reverse.toArray := by
  have e : ((List.range xs.size).filterMap fun (m : Nat) => xs[((xs.size : Int) - 1 + (m : Int) * (-1)).toNat]?) = ((List.range xs.size).map fun k => xs.size - 1 - k).filterMap (xs[·]?) := by
    rw [List.filterMap_map]
    have key : ∀ (l : List Nat), (∀ m ∈ l, m < xs.size) → (l.filterMap fun (m : Nat) => xs[((xs.size : Int) - 1 + (m : Int) * (-1)).toNat]?) = l.filterMap ((xs[·]?) ∘ fun k => xs.size - 1 - k) := by
      intro l
      induction l with
      | nil => intro _; rfl
      | cons m r ih =>
        intro h
        have hm := h m List.mem_cons_self
        have e : ((xs.size : Int) - 1 + (m : Int) * (-1)).toNat = xs.size - 1 - m := by omega
        rw [List.filterMap_cons, List.filterMap_cons, ih fun k hk => h k (List.mem_cons_of_mem _ hk), e]
        rfl
    exact key _ fun m hm => List.mem_range.mp hm
  rw [e, PySem.W.krv_range, List.filterMap_reverse, PySem.W.krv_all]
theorem sliceApplied_rev {sl : Addr} {vs : Value} {n : Nat} {Q : Int × Int × Nat → Shared → Prop} (hs : s.heap.IsSliceOf sl .none .none vs) (ps : IsPart vs (some (-1)))
    (h : Q ((n : Int) - 1, -1, n) s) : wpAny (model prog w) A (Builtin.Slice.sliceApplied (.ref sl) (pure (n : Int))) Q E s := by
  obtain ⟨os, hos, hcs, hds⟩ := id hs
  unfold Builtin.Slice.sliceApplied Builtin.Slice.sliceFields
  refine wpAny_bind (wpAny_bind (wpAny_field hos hds (x := .none) rfl (wpAny_bind (wpAny_field hos hds (x := .none) rfl (wpAny_bind (wpAny_field hos hds (x := vs) rfl (wpAny_pure ?_)))))))
  refine wpAny_bind (slicePart_ ps ?_)
  show wpAny _ _ (if ((-1 : Int) == 0) = true then _ else _) _ _ s
  rw [if_neg (by decide)]
  refine wpAny_bind (slicePart_ .none (wpAny_bind (slicePart_ .none (wpAny_bind (wpAny_pure ?_)))))
  show wpAny _ _ (match Builtin.Slice.sliceAdjust none none (-1) (n : Int) with | (lo, hi) => pure (lo, (-1 : Int), Builtin.Slice.slicePlaces lo hi (-1))) _ _ s
  rw [adjust_rev n]
  show wpAny _ _ (pure ((n : Int) - 1, (-1 : Int), Builtin.Slice.slicePlaces ((n : Int) - 1) (-1) (-1))) _ _ s
  rw [places_rev]
  exact wpAny_pure h
theorem getItem_tuple_rev {t sl : Addr} {items : Array Value} {vs : Value} {Q : Value → Shared → Prop} (ht : IsTup s.heap t items) (hs : s.heap.IsSliceOf sl .none .none vs) (ps : IsPart vs (some (-1)))
    (h : Q (.ref s.heap.objs.size) { s with heap := s.heap.push { cls := .type "tuple", data := .seq items.toList.reverse.toArray } })
    (hsz : items.size ≤ sizeLine) : wpAny (model prog w) A (getItem (.ref t) (.ref sl)) Q E s := by
  have htake : sizeOk (.seq items.toList.reverse.toArray) := by
    show items.toList.reverse.toArray.size ≤ sizeLine
    rw [List.size_toArray, List.length_reverse, Array.length_toList]
    omega
  obtain ⟨os, hos, hcs, hds⟩ := id hs
  have hTs : s.TypeIs (.ref sl) "slice" := ⟨os, hos, hcs⟩
  unfold getItem
  try with_reducible refine wpAny_holding ?_
  first | refine wpAny_bind (wpAny_pure ?_) | skip
  refine wpAny_bind (wpAny_sequenceKey ht.typeIs (by decide) ?_)
  refine wpAny_bind (wpAny_callSpecial?_slot (name := Str.ofString "__getitem__") ht.typeIs PyProof.Rows.slot_tuple_getitem
    (wpAny_call_entry PyProof.Rows.slot_tuple_getitem ht.typeIs entry_tuple_getitem ?_ (args_tuple_getitem _ _)))
  show wpAny _ _ (Builtin.Tuple.tupleItemsOf (.ref t) >>= _) _ _ s
  refine wpAny_bind (tupleItemsOf_ ht ?_)
  refine wpAny_bind (wpAny_typeOf hTs ?_)
  rw [if_pos (by decide)]
  refine wpAny_bind (sliceApplied_rev hs ps ?_)
  have hno : ¬ (((((items.size : Nat) : Int) - 1) == 0 && (-1 : Int) == 1 && items.size == items.size) = true) := by simp
  show wpAny _ _ (if ((((items.size : Nat) : Int) - 1) == 0 && (-1 : Int) == 1 && items.size == items.size) = true then _ else _) _ _ s
  rw [if_neg hno, pick_rev]
  first
    | exact wpAny_bind (m := Builtin.Tuple.tupleExact _) (wpAny_newObj_type (wpAny_pure ⟨_, rfl, wpAny_pure h⟩) htake)
    | exact wpAny_bind (m := Builtin.Tuple.tupleExact _) (wpAny_newObj_type (wpAny_bind (wpAny_pure (wpAny_pure ⟨_, rfl, wpAny_pure h⟩))) htake)
    | exact wpAny_bind (wpAny_bind (m := Builtin.Tuple.tupleExact _) (wpAny_newObj_type (wpAny_pure (wpAny_pure ⟨_, rfl, wpAny_pure h⟩)) htake))
    | exact wpAny_bind (wpAny_bind (m := Builtin.Tuple.tupleExact _) (wpAny_newObj_type (wpAny_pure ⟨_, rfl, wpAny_pure h⟩) htake))
end
end HT
namespace DL
open PySem PySem.Spec PyProof.Rows L2
def rRevA (K : PySem.W.Frag) : V → Hp → VK → Prop := fun x H Q => ∃ a xs, x = .ref a ∧ ((SqL K H a xs ∧ ∀ p, H p = none → Q (.ref p) (upd H p (.lst xs.reverse))) ∨ (SqT K H a xs ∧ ∀ p, H p = none → Q (.ref p) (upd H p (.tup xs.reverse))))
section
variable {X : Cx} {K : PySem.W.Frag}
theorem pe_revA {e : Expr} {te : TE} {k : Nat} {p1 p2 p3 pos : Pos} (hK : X.K = K) (he : PE X e te) : PE X (.Subscript e (.Slice none none (some (.UnaryOp .USub (.Constant (.int 1) k p1) p2)) p3) pos) (tUn (rRevA K) te) := by
  subst hK
  refine ⟨fun pins s σ H Q I h => ?_⟩
  refine Subscript_ (thn (he.run pins s σ H _ I h) fun v s1 ⟨x, H1, I1, r1, q1⟩ => ?_)
  obtain ⟨a, xs, ex, q1⟩ := q1
  subst ex
  cases r1
  have hst : PO X (some (.UnaryOp .USub (.Constant (.int 1) k p1) p2)) (tPart (tUn (rU fun i => .int (-i)) (tC (.int 1)))) := po_some (pe_un un_neg pe_int)
  refine wpAny_Slice (thn (po_none.run pins s1 σ H1 (fun o H2 => o = none ∧ H2 = H1) I1 ⟨rfl, rfl⟩) fun vl s2 ⟨l, H2, I2, pl, el, e2⟩ => ?_)
  subst el e2
  refine thn (po_none.run pins s2 σ H2 (fun o H3 => o = none ∧ H3 = H2) I2 ⟨rfl, rfl⟩) fun vu s3 ⟨u, H3, I3, pu, eu, e3⟩ => ?_
  subst eu e3
  refine thn (hst.run pins s3 σ H3 (fun o H4 => o = some (-1) ∧ H4 = H3) I3 ⟨1, rfl, -1, rfl, rfl, rfl⟩) fun vs s4 ⟨o, H4, I4, ps, eo, e4⟩ => ?_
  subst eo e4
  have I5 : Inv X pins σ H4 { s4 with heap := s4.heap.push { cls := .type "slice", data := .fields #[vl, vu, vs] } } := I4.kept (t' := s4.toks) fun b ob q => Heap.get?_push_of_some _ q
  show wpAny (model X.prog X.w) X.A (subscriptTail e (.Slice none none (some (.UnaryOp .USub (.Constant (.int 1) k p1) p2)) p3) (.ref a) (.ref s4.heap.objs.size)) (EP X pins σ Q) X.xe { s4 with heap := s4.heap.push { cls := .type "slice", data := .fields #[vl, vu, vs] } }
  rcases q1 with ⟨hx, q⟩ | ⟨hx, q⟩
  · obtain ⟨its, r, ht, hz⟩ := I5.list hx
    have hlen := r.length
    refine tail_any (ops := [.ref a, .ref s4.heap.objs.size]) ht.isList.typeIs (PySem.slot_list_getitem.lookup) ?_ (by with_unfolding_all rfl)
    refine wpAny_getItem_list_slice ht.isList (Heap.IsSliceOf.new _ vl vu vs) pl pu ps (by decide) ?_ (by rw [List.size_toArray]; omega)
    rw [PySem.W.krv_pick]
    refine ⟨.ref _, _, I5.laid (t' := s4.toks) (o := .lst xs.reverse) (fun b ob q => Heap.get?_push_of_some _ q) (Nat.le_refl _) ?_, rfl, q _ (I5.hok.fresh (Nat.le_refl _))⟩
    exact ⟨by rw [List.length_reverse]; exact hz, _, 0, r.reverse, Heap.get?_push_size _ rfl⟩
  · obtain ⟨its, r, ht, hz⟩ := I5.tuple hx
    have hlen := r.length
    refine tail_any (ops := [.ref a, .ref s4.heap.objs.size]) ht.typeIs (PyProof.Rows.slot_tuple_getitem.lookup) ?_ (by with_unfolding_all rfl)
    cases pl
    cases pu
    refine HT.getItem_tuple_rev ht (Heap.IsSliceOf.new _ _ _ vs) ps ?_ (by rw [List.size_toArray]; omega)
    refine ⟨.ref _, _, I5.laid (t' := s4.toks) (o := .tup xs.reverse) (fun b ob q => Heap.get?_push_of_some _ q) (Nat.le_refl _) ?_, rfl, q _ (I5.hok.fresh (Nat.le_refl _))⟩
    exact ⟨by rw [List.length_reverse]; exact hz, _, r.reverse, IsTup.new _ _⟩
theorem pi_zipK {e e2 : Expr} {ta : TA} {p pos tpos : Pos} {elts : List Expr} {kk : Nat} (hK : X.K = K) (hg : Gl X "zip") (hm : X.mg "zip" = none) (ha : PA X [e, e2] ta)
    (hs : starEach [e, e2] X.env = (false, eval e X.env) :: starEach [e2] X.env := by rfl) (hpl : (backTo pos (starEach [e2] X.env)).any (·.1) = false := by rfl) :
    PI X (.Tuple elts kk tpos) (.Call (.Name "zip" p) [e, e2] [] pos) (RZ.iZipA K ta) := hK ▸ RZ.pi_zipA hg hm ha hs hpl
theorem pi_enumK {e : Expr} {ta : TA} {p pos tpos : Pos} {elts : List Expr} {kk : Nat} (hK : X.K = K) (hg : Gl X "enumerate") (hm : X.mg "enumerate" = none) (ha : PA X [e] ta) (hs : starEach [e] X.env = [(false, eval e X.env)] := by rfl) :
    PI X (.Tuple elts kk tpos) (.Call (.Name "enumerate" p) [e] [] pos) (iEnum K ta) := hK ▸ pi_enum hg hm ha hs
end
def itemsT : D → Option (List D)
  | .tup xs => some xs
  | .frt xs => some xs
  | _ => none
def revG (d : D) : Option SV := match itemsL d with
  | some xs => nL xs.reverse
  | none => match itemsT d with
    | some xs => some ⟨.p, .tup xs.reverse⟩
    | none => none
def zipD (xs ys : List D) : List D := (xs.zip ys).map fun p => .tup [p.1, p.2]
def zipI (fa : En → R (List Opd)) : En → R Src := bindR fa fun os e => match pureL os e with
  | some ([a, b], e') => (match itemsL a, itemsL b with
    | some xs, some ys => .ok ⟨zipD xs ys, none⟩ e'
    | _, _ => match itemsT a, itemsT b with
      | some xs, some ys => .ok ⟨zipD xs ys, none⟩ e'
      | _, _ => .stuck)
  | _ => .stuck
def enumD (n : Nat) : List D → List D
  | [] => []
  | x :: xs => .tup [.int n, x] :: enumD (n + 1) xs
def enumI (fa : En → R (List Opd)) : En → R Src := bindR fa fun os e => match pureL os e with
  | some ([a], e') => (match itemsL a with
    | some xs => .ok ⟨enumD 0 xs, none⟩ e'
    | _ => .stuck)
  | _ => .stuck
section
variable {K : PySem.W.Frag} {E : XK} {F : Fm} {env : En} {σ : L2.St} {H : Hp} {W : List Addr} {ta tb te to tl td ty tv : TE} {t : TA}
def Op1s (K : PySem.W.Frag) (r : V → Hp → VK → Prop) (g : D → Option SV) : Prop := ∀ H A v d z Q, (∀ a ∈ A, H a ≠ none) → RdOk K H A v d → g d = some z → ResOk K H A Q z → r v H Q
theorem sf_op1s {r : V → Hp → VK → Prop} {g : D → Option SV} {fa : En → R Opd} (ho : Op1s K r g) (hf : ∀ d z, g d = some z → Fine z) (ha : SE K E ta fa) : SF K E (tUn r ta) (op1 g fa) := by
  intro F env σ H W Q r p
  refine Sn.go (t := ta) ha r p fun env H W a v rel s rv p => ?_
  cases q : a.get env with
  | none => rw [q] at p; exact p.elim
  | some x =>
    rw [q] at p; dsimp only at p
    cases q2 : g x with
    | none => rw [q2] at p; exact p.elim
    | some z =>
      rw [q2] at p
      exact ho H (W ++ F.fr) v x z Q rel.all (rel.get rv q) q2 (res_of rel p (hf _ _ q2))
theorem revG_fine (d : D) (z : SV) (h : revG d = some z) : Fine z := by
  unfold revG at h
  split at h
  · cases h; exact fine_l _
  · split at h
    · cases h; exact fine_p _
    · cases h
theorem rd_itemsT {A : List Addr} {v : V} {d : D} {ds : List D} (h : RdOk K H A v d) (e : itemsT d = some ds) : ∃ a xs, v = .ref a ∧ SqT K H a xs ∧ RpL K H A xs ds := by
  cases d with
  | tup xs => cases e; obtain ⟨a, xs, h1, h2, h3⟩ := rd_tup h; exact ⟨a, xs, h1, h2.sq, h3⟩
  | frt xs => cases e; obtain ⟨a, xs, h1, h2, h3⟩ := rd_frt h; exact ⟨a, xs, h1, .inr h2, h3⟩
  | _ => cases e
theorem o_rev : Op1s K (rRevA K) revG := by
  intro H A v d z Q hA hd hg q
  unfold revG at hg
  split at hg
  · rename_i xs e
    cases hg
    obtain ⟨a, ys, rfl, h1, h2⟩ := rd_itemsL hd e
    exact ⟨a, ys, rfl, .inl ⟨h1, fun p hp => q p _ hp h2.reverse⟩⟩
  · split at hg
    · rename_i xs e
      cases hg
      obtain ⟨a, ys, rfl, h1, h2⟩ := rd_itemsT hd e
      exact ⟨a, ys, rfl, .inr ⟨h1, fun p hp => new_tup hA h2.reverse q hp⟩⟩
    · cases hg
theorem zipD_get {xs ys : List D} {i : Nat} {d : D} (h : (zipD xs ys)[i]? = some d) : ∃ x y, xs[i]? = some x ∧ ys[i]? = some y ∧ d = .tup [x, y] := by
  unfold zipD at h
  rw [List.getElem?_map] at h
  cases q : (xs.zip ys)[i]? with
  | none => rw [q] at h; cases h
  | some p =>
    rw [q] at h
    obtain ⟨h1, h2⟩ := List.getElem?_zip_eq_some.mp q
    cases h
    exact ⟨_, _, h1, h2, rfl⟩
theorem zipD_len (xs ys : List D) : (zipD xs ys).length = min xs.length ys.length := by simp [zipD]
theorem enumD_get : ∀ {xs : List D} {n i : Nat} {d : D}, (enumD n xs)[i]? = some d → ∃ x, xs[i]? = some x ∧ d = .tup [.int ((n + i : Nat) : Int), x]
  | [], _, _, _, h => by simp [enumD] at h
  | x :: xs, n, 0, d, h => by
    simp [enumD] at h
    exact ⟨x, rfl, by rw [← h]; simp⟩
  | x :: xs, n, i + 1, d, h => by
    obtain ⟨y, h1, h2⟩ := enumD_get (xs := xs) (n := n + 1) (i := i) (d := d) (by simpa [enumD] using h)
    exact ⟨y, by simpa using h1, by rw [h2]; congr 4; omega⟩
theorem enumD_len : ∀ (xs : List D) (n : Nat), (enumD n xs).length = xs.length
  | [], _ => rfl
  | x :: xs, n => by rw [enumD, List.length_cons, List.length_cons, enumD_len]
theorem rp_pair {H' : Hp} {A' : List Addr} {T : Addr} {x y : V} {d e : D} (hA : ∀ a ∈ A', H' a ≠ none) (hT : H' T = none) (hx : Rp K H' A' x d) (hy : Rp K H' A' y e) : Rp K (upd H' T (.tup [x, y])) A' (.ref T) (.tup [d, e]) := by
  have hp : ∀ a o, a ∉ A' → H' a = some o → upd H' T (.tup [x, y]) a = some o := fun a o _ h => by rw [upd_ne (ne_of_none h hT)]; exact h
  exact .tup (.new upd_same fun z => hA T z hT) (.cons (hx.mono hp fun a z => .inl z) (.cons (hy.mono hp fun a z => .inl z) .nil))
/-- a list or a tuple that stands, read later on -/
theorem later_L {A : List Addr} {v : V} {d : D} {ds : List D} (h : Rp K H A v d) (e : itemsL d = some ds) : ∃ a xs, v = .ref a ∧ SqL K H a xs ∧ ∀ A' H', (∀ a o, a ∉ A → H a = some o → H' a = some o) → (∀ a, a ∈ A' → a ∈ A ∨ H a = none) → SqL K H' a xs ∧ RpL K H' A' xs ds := by
  cases h with
  | lst n hl r => cases e; exact ⟨_, _, rfl, .inl (.inl hl), fun A' H' hp hg => ⟨.inl (.inl (hp _ _ n hl)), r.mono hp hg⟩⟩
  | frl hl r => cases e; exact ⟨_, _, rfl, hl.sq, fun A' H' hp hg => ⟨(hl.mono hp hg).sq, r.mono hp hg⟩⟩
  | _ => cases e
theorem later_T {A : List Addr} {v : V} {d : D} {ds : List D} (h : Rp K H A v d) (e : itemsT d = some ds) : ∃ a xs, v = .ref a ∧ SqT K H a xs ∧ ∀ A' H', (∀ a o, a ∉ A → H a = some o → H' a = some o) → (∀ a, a ∈ A' → a ∈ A ∨ H a = none) → SqT K H' a xs ∧ RpL K H' A' xs ds := by
  cases h with
  | tup hl r => cases e; exact ⟨_, _, rfl, hl.sq, fun A' H' hp hg => ⟨(hl.mono hp hg).sq, r.mono hp hg⟩⟩
  | frt hl r => cases e; exact ⟨_, _, rfl, .inr hl, fun A' H' hp hg => ⟨.inr hl, r.mono hp hg⟩⟩
  | _ => cases e
theorem si_zip {fa : En → R (List Opd)} (h : SA K E t fa) : SI K E (RZ.iZipA K t) (zipI fa) := by
  intro F env σ H W Q rel p
  refine Sn.go (t := t) h rel p fun e H1 W1 os vs rel1 s1 rvs p => ?_
  cases q : pureL os e with
  | none => rw [q] at p; exact p.elim
  | some de =>
    obtain ⟨ds, e2⟩ := de
    rw [q] at p
    obtain ⟨W2, r2, s2, hd⟩ := pureL_ok rel1 rvs q
    split at p
    · rename_i a b e3 eq
      cases eq
      cases hd with
      | cons h1 hd =>
      cases hd with
      | cons h2 hd =>
      cases hd
      split at p
      · rename_i xs ys ea eb
        obtain ⟨a1, xv, rfl, f1, g1⟩ := later_L h1 ea
        obtain ⟨a2, yv, rfl, f2, g2⟩ := later_L h2 eb
        refine ⟨a1, a2, xv, yv, rfl, .inl ⟨f1, f2, p _ H1 W2 r2 s2 fun A' H' hp hg hA _ => ?_⟩⟩
        obtain ⟨k1, l1⟩ := g1 A' H' hp hg
        obtain ⟨k2, l2⟩ := g2 A' H' hp hg
        refine ⟨fun i d hd => ?_, fun i hi => ⟨xv, yv, k1, k2, ?_⟩⟩
        · obtain ⟨x, y, m1, m2, rfl⟩ := zipD_get hd
          obtain ⟨u, n1, o1⟩ := l1.get m1
          obtain ⟨w, n2, o2⟩ := l2.get m2
          refine ⟨⟨xv, yv, u, w, k1, k2, n1, n2⟩, ?_⟩
          rintro z H'' ⟨T, x', y', rfl, hT, rfl, hx, hy⟩
          have := hx xv k1; rw [n1] at this; cases this
          have := hy yv k2; rw [n2] at this; cases this
          exact ⟨.inr ⟨T, _, hT, rfl⟩, rp_pair hA hT o1 o2⟩
        · have hi' : (zipD xs ys).length ≤ i := hi
          rw [zipD_len] at hi'
          rw [l1.length, l2.length]
          omega
      · split at p
        · rename_i xs ys ea eb
          obtain ⟨a1, xv, rfl, f1, g1⟩ := later_T h1 ea
          obtain ⟨a2, yv, rfl, f2, g2⟩ := later_T h2 eb
          refine ⟨a1, a2, xv, yv, rfl, .inr ⟨f1, f2, p _ H1 W2 r2 s2 fun A' H' hp hg hA _ => ?_⟩⟩
          obtain ⟨k1, l1⟩ := g1 A' H' hp hg
          obtain ⟨k2, l2⟩ := g2 A' H' hp hg
          refine ⟨fun i d hd => ?_, fun i hi => ⟨xv, yv, k1, k2, ?_⟩⟩
          · obtain ⟨x, y, m1, m2, rfl⟩ := zipD_get hd
            obtain ⟨u, n1, o1⟩ := l1.get m1
            obtain ⟨w, n2, o2⟩ := l2.get m2
            refine ⟨⟨xv, yv, u, w, k1, k2, n1, n2⟩, ?_⟩
            rintro z H'' ⟨T, x', y', rfl, hT, rfl, hx, hy⟩
            have := hx xv k1; rw [n1] at this; cases this
            have := hy yv k2; rw [n2] at this; cases this
            exact ⟨.inr ⟨T, _, hT, rfl⟩, rp_pair hA hT o1 o2⟩
          · have hi' : (zipD xs ys).length ≤ i := hi
            rw [zipD_len] at hi'
            rw [l1.length, l2.length]
            omega
        · exact p.elim
    · exact p.elim
theorem si_enum {fa : En → R (List Opd)} (h : SA K E t fa) : SI K E (iEnum K t) (enumI fa) := by
  intro F env σ H W Q rel p
  refine Sn.go (t := t) h rel p fun e H1 W1 os vs rel1 s1 rvs p => ?_
  cases q : pureL os e with
  | none => rw [q] at p; exact p.elim
  | some de =>
    obtain ⟨ds, e2⟩ := de
    rw [q] at p
    obtain ⟨W2, r2, s2, hd⟩ := pureL_ok rel1 rvs q
    split at p
    · rename_i a e3 eq
      cases eq
      cases hd with
      | cons h1 hd =>
      cases hd
      split at p
      · rename_i xs ea
        obtain ⟨a1, xv, rfl, f1, g1⟩ := later_L h1 ea
        refine ⟨a1, xv, rfl, f1, p _ H1 W2 r2 s2 fun A' H' hp hg hA _ => ?_⟩
        obtain ⟨k1, l1⟩ := g1 A' H' hp hg
        refine ⟨fun i d hd => ?_, fun i hi => ⟨xv, k1, ?_⟩⟩
        · obtain ⟨x, m1, rfl⟩ := enumD_get hd
          obtain ⟨u, n1, o1⟩ := l1.get m1
          refine ⟨⟨xv, u, k1, n1⟩, ?_⟩
          rintro z H'' ⟨T, x', rfl, hT, rfl, hx⟩
          have := hx xv k1; rw [n1] at this; cases this
          refine ⟨.inr ⟨T, _, hT, rfl⟩, rp_pair hA hT ?_ o1⟩
          rw [Nat.zero_add]
          exact .int _
        · have hi' : (enumD 0 xs).length ≤ i := hi
          rw [enumD_len] at hi'
          rw [l1.length]
          omega
      · exact p.elim
    · exact p.elim
end
end DL

namespace DL
open PySem L2
def callP (G : List SV → RF) (fa : En → R (List Opd)) : En → R SV := bindR fa fun os e => match pureL os e with
  | some (ds, e') => callD G (ds.map Opd.val) e'
  | none => .stuck
section
variable {K : PySem.W.Frag} {E : XK} {F : Fm} {env : En} {σ : St} {H : Hp} {W : List Addr} {ta tb te to tl td ty tv : TE} {t : TA}
theorem RelOs.vals : ∀ {vs : List V} {ds : List D}, RpL K H (W ++ F.fr) vs ds → RelOs K F σ H W (ds.map Opd.val) vs
  | _, _, .nil => .nil
  | _, _, .cons h r => .cons h (RelOs.vals r)
theorem sf_callP0 {G : List SV → RF} {fa : En → R (List Opd)} (ha : SA K E0 t fa) : SF K E0 (tCall (spD0 K G) [] E0 t) (callP G fa) := by
  intro F env σ H W Q r p
  refine Sn.go (t := t) ha r p fun e H W os vs rel s rv p => ?_
  rw [List.append_nil]
  cases q : pureL os e with
  | none => rw [q] at p; exact p.elim
  | some de =>
    obtain ⟨ds, e2⟩ := de
    rw [q] at p
    obtain ⟨W2, r2, s2, hd⟩ := pureL_ok rel rv q
    exact callD_ok r2 (RelOs.vals hd) (Post.from s2 p)
theorem spD0_stuck {vs : List V} {Q : VK} (h : spD0 K (fun _ => .stuck) vs H Q E) : False := by
  obtain ⟨args, W, fr, r, p⟩ := h
  exact p
end
theorem a_callP (G : List SV → RF) (fa : En → R (List Opd)) (e : En) : callP G fa e = (bindR fa fun os e => match pureL os e with
  | some (ds, e') => callD G (ds.map Opd.val) e'
  | none => .stuck) e := rfl
theorem a_zipI (fa : En → R (List Opd)) (e : En) : zipI fa e = (bindR fa fun os e => match pureL os e with
  | some ([a, b], e') => (match itemsL a, itemsL b with
    | some xs, some ys => .ok ⟨zipD xs ys, none⟩ e'
    | _, _ => match itemsT a, itemsT b with
      | some xs, some ys => .ok ⟨zipD xs ys, none⟩ e'
      | _, _ => .stuck)
  | _ => .stuck) e := rfl
theorem a_enumI (fa : En → R (List Opd)) (e : En) : enumI fa e = (bindR fa fun os e => match pureL os e with
  | some ([a], e') => (match itemsL a with
    | some xs => .ok ⟨enumD 0 xs, none⟩ e'
    | _ => .stuck)
  | _ => .stuck) e := rfl
end DL

namespace DL
open PySem PySem.Spec PyProof.Rows L2
def rInA (K : PySem.W.Frag) (neg : Bool) : R2 := fun x y H Q => ∃ d ds, Dp K H x d ∧ (Dp K H y (.list ds) ∨ Dp K H y (.tuple ds)) ∧ SeqAt.shaped d = true ∧ SeqAt.shaped (.list ds) = true ∧ Q (.bl (if neg then !(ds.any fun z => PyData.eqv z d) else ds.any fun z => PyData.eqv z d)) H
section
variable {X : Cx} {K : PySem.W.Frag}
theorem op_inA (hK : X.K = K) (hu : X.A.units + 65 < cLine) : OpR X (compareOp .In) (rInA K false) := by
  subst hK
  intro pins s σ H x y v u Q I rx ry h
  obtain ⟨d, ds, hd, he, sd, se, q⟩ := h
  obtain ⟨as, r1⟩ := Dp.reads I d x v hd rx
  rcases he with he | he
  · obtain ⟨bs, r2⟩ := Dp.reads I (.list ds) y u he ry
    exact SeqAt.in_list_reads r2 r1 (SeqAt.canLay_of_shaped se) (SeqAt.canLay_of_shaped sd) (room_in_shaped sd hu) ⟨.bl _, H, I, rfl, q⟩
  · obtain ⟨bs, r2⟩ := Dp.reads I (.tuple ds) y u he ry
    exact SeqAt.in_tuple_reads r2 r1 (SeqAt.canLay_of_shaped se) (SeqAt.canLay_of_shaped sd) (room_in_shaped sd hu) ⟨.bl _, H, I, rfl, q⟩
theorem op_notInA (hK : X.K = K) (hu : X.A.units + 65 < cLine) : OpR X (compareOp .NotIn) (rInA K true) := by
  subst hK
  intro pins s σ H x y v u Q I rx ry h
  obtain ⟨d, ds, hd, he, sd, se, q⟩ := h
  obtain ⟨as, r1⟩ := Dp.reads I d x v hd rx
  rcases he with he | he
  · obtain ⟨bs, r2⟩ := Dp.reads I (.list ds) y u he ry
    exact SeqAt.notIn_list_reads r2 r1 (SeqAt.canLay_of_shaped se) (SeqAt.canLay_of_shaped sd) (room_in_shaped sd hu) ⟨.bl _, H, I, rfl, q⟩
  · obtain ⟨bs, r2⟩ := Dp.reads I (.tuple ds) y u he ry
    exact SeqAt.notIn_tuple_reads r2 r1 (SeqAt.canLay_of_shaped se) (SeqAt.canLay_of_shaped sd) (room_in_shaped sd hu) ⟨.bl _, H, I, rfl, q⟩
theorem units65 {k : Nat} {A : Around} (r : Room k A) : A.units + 65 < cLine := by have := r.un; omega
theorem call_maxK (h : X.K = K) (hc : X.calm = true) : CallR X (.builtin "max") (rMax K) := h ▸ cr_max hc
theorem call_minK (h : X.K = K) (hc : X.calm = true) : CallR X (.builtin "min") (rMin K) := h ▸ cr_min hc
end
def inG (neg : Bool) (d e : D) : Option SV := match toPy d, toPy e with
  | some p, some (.list ds) => if SeqAt.shaped p = true ∧ SeqAt.shaped (.list ds) = true then pB (if neg then !(ds.any fun z => PyData.eqv z p) else ds.any fun z => PyData.eqv z p) else none
  | some p, some (.tuple ds) => if SeqAt.shaped p = true ∧ SeqAt.shaped (.list ds) = true then pB (if neg then !(ds.any fun z => PyData.eqv z p) else ds.any fun z => PyData.eqv z p) else none
  | _, _ => none
theorem inG_fine {neg : Bool} (d e : D) (z : SV) (h : inG neg d e = some z) : Fine z := by
  unfold inG at h
  split at h
  · split at h
    · cases h; exact fine_p _
    · cases h
  · split at h
    · cases h; exact fine_p _
    · cases h
  · cases h
def maxOf : List Int → Int
  | [] => 0
  | [x] => x
  | x :: xs => if maxOf xs ≤ x then x else maxOf xs
theorem maxOf_ok : ∀ (ns : List Int), ns ≠ [] → maxOf ns ∈ ns ∧ ∀ y ∈ ns, y ≤ maxOf ns
  | [], h => absurd rfl h
  | [x], _ => ⟨by simp [maxOf], fun y hy => by simp at hy; subst hy; exact Int.le_refl _⟩
  | x :: y :: r, _ => by
    obtain ⟨h1, h2⟩ := maxOf_ok (y :: r) (by simp)
    unfold maxOf
    split
    · rename_i h
      exact ⟨List.mem_cons_self, fun z hz => by
        rcases List.mem_cons.mp hz with rfl | hz
        · exact Int.le_refl _
        · exact Int.le_trans (h2 z hz) h⟩
    · rename_i h
      exact ⟨List.mem_cons_of_mem _ h1, fun z hz => by
        rcases List.mem_cons.mp hz with rfl | hz
        · omega
        · exact h2 z hz⟩
def maxG : List D → Option SV
  | [d] => (match (itemsL d).bind intsOf with
    | some (n :: ns) => pI (maxOf (n :: ns))
    | _ => none)
  | _ => none
theorem maxG_fine (d : List D) (z : SV) (h : maxG d = some z) : Fine z := by
  unfold maxG at h
  split at h
  · split at h
    · cases h; exact fine_p _
    · cases h
  · cases h
section
variable {K : PySem.W.Frag}
theorem o_in {neg : Bool} : Op2 K (rInA K neg) (inG neg) := by
  intro H A v u d e z Q hd he hg q
  unfold inG at hg
  split at hg
  · rename_i p ds e1 e2
    split at hg
    · rename_i hs
      cases hg
      exact ⟨p, ds, dp_rd hd e1, .inl (dp_rd he e2), hs.1, hs.2, res_p q (.bl _)⟩
    · cases hg
  · rename_i p ds e1 e2
    split at hg
    · rename_i hs
      cases hg
      exact ⟨p, ds, dp_rd hd e1, .inr (dp_rd he e2), hs.1, hs.2, res_p q (.bl _)⟩
    · cases hg
  · cases hg
theorem o_max : OpCs K (rMax K) maxG := by
  intro H A vs ds z Q hA hd hg q
  unfold maxG at hg
  split at hg
  · rename_i d
    obtain ⟨v, rfl, hv⟩ := rdL_1 hd
    split at hg
    · rename_i n ns e
      cases hg
      cases e2 : itemsL d with
      | none => rw [e2] at e; cases e
      | some xs =>
        rw [e2] at e
        obtain ⟨a, ys, rfl, h1, h2⟩ := rd_itemsL hv e2
        have e3 : intsOf xs = some (n :: ns) := e
        have e4 := intsOf_eq e3
        subst e4
        have e5 := h2.ints_of
        subst e5
        obtain ⟨m1, m2⟩ := maxOf_ok (n :: ns) (by simp)
        refine ⟨a, n :: ns, rfl, h1, by simp, fun m hm hy => ?_⟩
        have : m = maxOf (n :: ns) := by
          have := hy _ m1
          have := m2 m hm
          omega
        subst this
        exact res_p q (.int _)
    · cases hg
  · cases hg
end
end DL

namespace DL
open PySem L2
def AllP (e : En) (os : List Opd) : Prop := ∀ o ∈ os, match o with | .val _ => True | .slot i => ∃ d, e.sv i = some ⟨.p, d⟩
theorem wbE_p {e : En} {os : List Opd} (ds : List D) (h : AllP e os) : wbE os ds 0 e = e := by
  apply List.ext_getElem?
  intro j
  rw [wbE_get, Nat.zero_add]
  cases q : e[j]? with
  | none => rfl
  | some x =>
    show some (wb1 os ds j x) = some x
    congr 1
    match x, q with
    | none, q => rfl
    | some ⟨.p, d⟩, q => rfl
    | some ⟨.o, d⟩, q =>
      show (match wbAt j os ds with | some d' => some (⟨.o, d'⟩ : SV) | none => some ⟨.o, d⟩) = _
      cases w : wbAt j os ds with
      | none => rfl
      | some d' =>
        obtain ⟨i, h1, _⟩ := wbAt_some w
        obtain ⟨d2, h2⟩ := h _ (List.mem_of_getElem? h1)
        unfold En.sv at h2
        rw [q] at h2
        cases h2
    | some ⟨.b, d⟩, q =>
      show (match wbAt j os ds with | some d' => some (⟨.b, d'⟩ : SV) | none => some ⟨.b, d⟩) = _
      cases w : wbAt j os ds with
      | none => rfl
      | some d' =>
        obtain ⟨i, h1, _⟩ := wbAt_some w
        obtain ⟨d2, h2⟩ := h _ (List.mem_of_getElem? h1)
        unfold En.sv at h2
        rw [q] at h2
        cases h2
theorem lentS_p {e : En} : ∀ {os : List Opd}, AllP e os → lentS e os = []
  | [], _ => rfl
  | .val d :: os, h => by unfold lentS; exact lentS_p fun o ho => h o (List.mem_cons_of_mem _ ho)
  | .slot i :: os, h => by
    obtain ⟨d, hd⟩ := h (.slot i) List.mem_cons_self
    unfold lentS
    rw [hd]
    exact lentS_p fun o ho => h o (List.mem_cons_of_mem _ ho)
theorem callD_p {G : List SV → RF} {os : List Opd} {e : En} {args : List SV} {sv : SV} {ds : List D} (h : AllP e os) (ha : argL e os = some args) (hG : G args = .ret sv ds) (hl : ds.length = os.length) : callD G os e = .ok sv e := by
  unfold callD
  rw [ha]
  dsimp only
  rw [lentS_p h, if_pos List.nodup_nil, hG]
  dsimp only
  rw [if_pos hl, wbE_p ds h]
/-- f(x, <what F makes>, k = y): x, y slots that are read alone -/
theorem callK_p {G : List SV → RF} {F : En → R SV} {i k : Nat} {e e' : En} {d1 d2 : D} {z sv : SV} {ds : List D} (h1 : e.sv i ≠ none) (hF : F e = .ok z e') (g1 : e'.sv i = some ⟨.p, d1⟩) (g2 : e'.sv k = some ⟨.p, d2⟩)
    (hG : G [⟨.p, d1⟩, ⟨.p, z.d⟩, ⟨.p, d2⟩] = .ret sv ds) (hl : ds.length = 3) : callE G (appK 2 1 (consA (varE i) (consA (opd F) nilA)) (consA (varE k) nilA)) e = .ok sv e' := by
  have v1 : varE i e = .ok (.slot i) e := by
    unfold varE
    cases q : e.sv i with
    | none => exact absurd q h1
    | some _ => rfl
  have v2 : varE k e' = .ok (.slot k) e' := by unfold varE; rw [g2]
  have o1 : opd F e = .ok (.val z.d) e' := by unfold opd; rw [bindR_ok hF]
  have c : (appK 2 1 (consA (varE i) (consA (opd F) nilA)) (consA (varE k) nilA)) e = .ok [.slot i, .val z.d, .slot k] e' := by
    have c1 : consA (opd F) nilA e = .ok [.val z.d] e' := by unfold consA; rw [bindR_ok o1]; rfl
    have c2 : consA (varE i) (consA (opd F) nilA) e = .ok [.slot i, .val z.d] e' := by
      show bindR (varE i) (fun a => bindR (consA (opd F) nilA) fun as e => .ok (a :: as) e) e = _
      rw [bindR_ok v1, bindR_ok c1]
    have c3 : consA (varE k) nilA e' = .ok [.slot k] e' := by unfold consA; rw [bindR_ok v2]; rfl
    unfold appK
    rw [bindR_ok c2, bindR_ok c3]
    rfl
  unfold callE
  rw [bindR_ok c]
  refine callD_p (fun o ho => ?_) ?_ hG hl
  · have : o = .slot i ∨ o = .val z.d ∨ o = .slot k := by simpa using ho
    rcases this with rfl | rfl | rfl
    · exact ⟨_, g1⟩
    · trivial
    · exact ⟨_, g2⟩
  · simp [argL, argO, g1, g2]
theorem wb1_n (os : List Opd) (ds : List D) (j : Nat) : wb1 os ds j none = none := rfl
theorem wb1_p (os : List Opd) (ds : List D) (j : Nat) (d : D) : wb1 os ds j (some ⟨.p, d⟩) = some ⟨.p, d⟩ := rfl
theorem wb1_o (os : List Opd) (ds : List D) (j : Nat) (d : D) : wb1 os ds j (some ⟨.o, d⟩) = match wbAt j os ds with | some d' => some ⟨.o, d'⟩ | none => some ⟨.o, d⟩ := rfl
theorem wb1_b (os : List Opd) (ds : List D) (j : Nat) (d : D) : wb1 os ds j (some ⟨.b, d⟩) = match wbAt j os ds with | some d' => some ⟨.b, d'⟩ | none => some ⟨.b, d⟩ := rfl
theorem wb1_skip {os : List Opd} {ds : List D} {j : Nat} {x : Option SV} (h : wbAt j os ds = none) : wb1 os ds j x = x := by
  match x with
  | none => rfl
  | some ⟨.p, d⟩ => rfl
  | some ⟨.o, d⟩ => show (match wbAt j os ds with | some d' => some (⟨.o, d'⟩ : SV) | none => some ⟨.o, d⟩) = _; rw [h]
  | some ⟨.b, d⟩ => show (match wbAt j os ds with | some d' => some (⟨.b, d'⟩ : SV) | none => some ⟨.b, d⟩) = _; rw [h]
end DL

namespace DL
open PySem L2
structure KB where
  ks : List D
  ds : List Nat
  cs : List (List D)
def kbStep (s : KB) (h : Nat) : Option KB := match s.ds[h]?, s.ks[h]? with
  | some d, some k => (match s.cs[d / 2]? with
    | some c => if d % 2 = 0 then (if h < c.length then some ⟨s.ks, s.ds.set h (d + 1), s.cs.set (d / 2) (c.set h k)⟩ else none)
      else (match c[1 - h]? with | some y => some ⟨s.ks.set h (.tup [k, y]), s.ds.set h (d + 1), s.cs⟩ | none => none)
    | none => none)
  | _, _ => none
def kbRun : List D → KB → Option KB
  | [], s => some s
  | .int h :: r, s => if 0 ≤ h ∧ h ≤ 1 then (match kbStep s h.toNat with | some s' => kbRun r s' | none => none) else none
  | _, _ => none
def kbOut (r : Nat) (s : KB) (h : Nat) : D := if s.ds[h]? = some (2 * r) then s.ks.getD h .non else .non
def kbG : List SV → RF
  | [⟨.p, .tup [x0, x1]⟩, ⟨fl, .lst hs⟩, ⟨.p, .int r⟩] => if 0 ≤ r ∧ r ≤ 1000 ∧ fl ≠ .o then (match kbRun hs ⟨[x0, x1], [0, 0], List.replicate r.toNat [.non, .non]⟩ with
    | some s => .ret ⟨.o, .lst [kbOut r.toNat s 0, kbOut r.toNat s 1]⟩ [.tup [x0, x1], .lst hs, .int r]
    | none => .stuck) else .stuck
  | _ => .stuck
theorem kbG_len (args : List SV) (h : args.length ≠ 3) : kbG args = .stuck := by
  unfold kbG
  split
  · simp at h
  · rfl
theorem at_nat {α : Type} {xs : List α} {n : Nat} {v : α} (h : xs[n]? = some v) : atI xs (n : Int) = some v := atI_nat h
theorem ixN_nat' {n j : Nat} (hj : j < n) : ixN n (j : Int) = some j := by
  unfold ixN
  rw [if_pos (by omega), if_pos (by omega)]
  simp
section
variable {K : PySem.W.Frag}
/-- what stands while it runs: kn, dn, c and the cells as are new and nobody's -/
structure KbIn (K : PySem.W.Frag) (H0 : Hp) (A : List Addr) (c kn dn : Addr) (as : List Addr) (s : KB) (H : Hp) : Prop where
  ex : ∀ b o, H0 b = some o → H b = some o
  hk : ∃ kv, H kn = some (.lst kv) ∧ RpL K H (kn :: dn :: c :: as ++ A) kv s.ks
  hd : H dn = some (.lst (s.ds.map fun n => V.int (n : Nat)))
  hc : H c = some (.lst (as.map V.ref))
  len : as.length = s.cs.length
  lks : s.ks.length = 2
  lds : s.ds.length = 2
  cell : ∀ (j : Nat) a x, as[j]? = some a → s.cs[j]? = some x → ∃ xv, H a = some (.lst xv) ∧ RpL K H (kn :: dn :: c :: as ++ A) xv x
end
end DL

namespace DL
open PySem L2
section
variable {K : PySem.W.Frag}
def kbBody (K : PySem.W.Frag) : TS := tSeq (tAsg (tOp (rIx K) (tVar 3) (tOp (L2.rI CDivW fun i j => V.int (i / j)) (tOp (rIx K) (tVar 5) (tVar 6)) (tC (V.int 2)))) (gName 7))
  (tSeq (tIfS (tTest (tOp rEq (tOp (L2.rI (fun x j => 0 < j) fun i j => V.int (i % j)) (tOp (rIx K) (tVar 5) (tVar 6)) (tC (V.int 2))) (tC (V.int 0))))
      (tAsg (tOp (rIx K) (tVar 4) (tVar 6)) (gSub (tVar 7) (tVar 6) rSetL))
      (tAsg (tTup (tCons (tOp (rIx K) (tVar 4) (tVar 6)) (tCons (tOp (rIx K) (tVar 7) (tOp (rI0 fun i j => V.int (i - j)) (tC (V.int 1)) (tVar 6))) tNil))) (gSub (tVar 4) (tVar 6) rSetL)))
    (tAugS (tVar 5) (tVar 6) (tC (V.int 1)) (rGetL K) (ipI fun i j => i + j) rSetL))
def kbSt (v0 v1 : V) (r : Int) (c kn dn : Addr) (y6 y7 : Option V) : St := [some v0, some v1, some (.int r), some (.ref c), some (.ref kn), some (.ref dn), y6, y7, none]
structure KbSep (H0 : Hp) (A : List Addr) (c kn dn : Addr) (as : List Addr) : Prop where
  nd : as.Nodup
  c1 : c ∉ as
  k1 : kn ∉ as
  d1 : dn ∉ as
  kd : kn ≠ dn
  kc : kn ≠ c
  dc : dn ≠ c
  h0 : ∀ a ∈ kn :: dn :: c :: as, H0 a = none
/-- an object that is ours is written -/
theorem kb_upd {H : Hp} {B : List Addr} {p : Addr} {o : HO} (hp : p ∈ B) {vs : List V} {ds : List D} (h : RpL K H B vs ds) : RpL K (upd H p o) B vs ds :=
  h.mono (fun a u n e => by rw [upd_ne (fun z => n (by rw [z]; exact hp))]; exact e) fun a z => .inl z
theorem kb_new {H : Hp} {B : List Addr} {p : Addr} {o : HO} (hp : H p = none) {vs : List V} {ds : List D} (h : RpL K H B vs ds) : RpL K (upd H p o) B vs ds :=
  h.mono (fun a u n e => upd_kept hp a u e) fun a z => .inl z
theorem kb_turn {H0 H : Hp} {A : List Addr} {c kn dn : Addr} {as : List Addr} {s s' : KB} {h : Nat} {v0 v1 : V} {r : Int} {y7 : Option V} {T : Ends} (S : KbSep H0 A c kn dn as) (I : KbIn K H0 A c kn dn as s H) (hA : ∀ a ∈ A, H0 a ≠ none) (hh : h ≤ 1) (e : kbStep s h = some s')
    (q : ∀ y7 H', KbIn K H0 A c kn dn as s' H' → T.nx (kbSt v0 v1 r c kn dn (some (.int (h : Nat))) y7) H') : kbBody K T (kbSt v0 v1 r c kn dn (some (.int (h : Nat))) y7) H := by
  obtain ⟨kv, hk, rk⟩ := I.hk
  have hd := I.hd
  have hc := I.hc
  unfold kbStep at e
  have hlt : h < s.ds.length := by rw [I.lds]; omega
  have hlk : h < s.ks.length := by rw [I.lks]; omega
  rw [List.getElem?_eq_getElem hlt, List.getElem?_eq_getElem hlk] at e
  generalize hdv : s.ds[h] = d at e
  generalize hkd : s.ks[h] = k at e
  dsimp only at e
  have gd : (s.ds.map fun n => V.int (n : Nat))[h]? = some (.int (d : Nat)) := by rw [List.getElem?_map, List.getElem?_eq_getElem hlt, hdv]; rfl
  obtain ⟨kvh, gk, rkh⟩ := rk.get (show s.ks[h]? = some k by rw [List.getElem?_eq_getElem hlk, hkd])
  cases ec : s.cs[d / 2]? with
  | none => rw [ec] at e; cases e
  | some cx =>
    rw [ec] at e; dsimp only at e
    have hj : d / 2 < as.length := by rw [I.len]; exact (List.getElem?_eq_some_iff.mp ec).1
    generalize ha : as[d / 2] = a
    have ga : as[d / 2]? = some a := by rw [List.getElem?_eq_getElem hj, ha]
    have gar : (as.map V.ref)[d / 2]? = some (.ref a) := by rw [List.getElem?_map, ga]; rfl
    have ham : a ∈ as := List.mem_of_getElem? ga
    obtain ⟨xv, hx, rx⟩ := I.cell (d / 2) a cx ga ec
    have i2 : ((d : Nat) : Int) / 2 = ((d / 2 : Nat) : Int) := by omega
    have im : ((d : Nat) : Int) % 2 = ((d % 2 : Nat) : Int) := by omega
    -- the last statement: done[hand] += 1
    have last : ∀ (σ : St) (H1 : Hp) (s1 : KB), σ = kbSt v0 v1 r c kn dn (some (.int (h : Nat))) (some (.ref a)) → KbIn K H0 A c kn dn as s1 H1 → s1.ds = s.ds → s' = ⟨s1.ks, s.ds.set h (d + 1), s1.cs⟩ →
        tAugS (tVar 5) (tVar 6) (tC (V.int 1)) (rGetL K) (ipI fun i j => i + j) rSetL T σ H1 := by
      intro σ H1 s1 eσ I1 e1 e2
      subst eσ
      have hd1 := I1.hd
      rw [e1] at hd1
      refine ⟨.ref dn, rfl, .int (h : Nat), rfl, dn, _, (h : Nat), .int (d : Nat), rfl, rfl, by omega, .inl (.inl hd1), by simpa using gd, (d : Nat), 1, rfl, rfl, dn, _, (h : Nat), h, rfl, rfl, hd1, ixN_nat' (by rw [List.length_map]; exact hlt), ?_⟩
      refine q _ _ ?_
      subst e2
      obtain ⟨kv1, hk1, rk1⟩ := I1.hk
      have inB : dn ∈ kn :: dn :: c :: as ++ A := by simp
      refine ⟨fun b o eb => ?_, ⟨kv1, ?_, kb_upd inB rk1⟩, ?_, ?_, I1.len, I1.lks, by simp [I.lds], fun j b x gb gx => ?_⟩
      · have : b ≠ dn := fun z => by rw [z, S.h0 dn (by simp)] at eb; cases eb
        rw [upd_ne this]; exact I1.ex b o eb
      · rw [upd_ne S.kd]; exact hk1
      · rw [upd_same, List.map_set]; rfl
      · rw [upd_ne (Ne.symm S.dc)]; exact I1.hc
      · obtain ⟨xv, g1, g2⟩ := I1.cell j b x gb gx
        have : b ≠ dn := fun z => S.d1 (by rw [← z]; exact List.mem_of_getElem? gb)
        exact ⟨xv, by rw [upd_ne this]; exact g1, kb_upd inB g2⟩
    -- cell = cells[done[hand] // 2]
    refine ⟨.ref c, rfl, .ref dn, rfl, .int (h : Nat), rfl, .inl ⟨dn, _, (h : Nat), .int (d : Nat), rfl, rfl, .inl (.inl hd), at_nat gd, ?_⟩⟩
    refine ⟨(d : Nat), 2, rfl, rfl, ⟨by decide, by decide⟩, .inl ⟨c, _, ((d : Nat) : Int) / 2, .ref a, rfl, rfl, .inl (.inl hc), by rw [i2]; exact at_nat gar, ?_⟩⟩
    -- if done[hand] % 2 == 0
    refine ⟨.ref dn, rfl, .int (h : Nat), rfl, .inl ⟨dn, _, (h : Nat), .int (d : Nat), rfl, rfl, .inl (.inl hd), at_nat gd, ?_⟩⟩
    refine ⟨(d : Nat), 2, rfl, rfl, (show (0 : Int) < 2 by decide), rfl, _, rfl, ite2 (fun ev => ?_) (fun od => ?_)⟩
    · have ev' : d % 2 = 0 := by have := V.int.inj (of_decide_eq_true ev); omega
      rw [if_pos ev'] at e
      by_cases hl : h < cx.length
      · rw [if_pos hl] at e
        have e' := (Option.some.inj e).symm
        refine ⟨.ref kn, rfl, .int (h : Nat), rfl, .inl ⟨kn, kv, (h : Nat), kvh, rfl, rfl, .inl (.inl hk), at_nat gk, ?_⟩⟩
        refine ⟨.ref a, rfl, .int (h : Nat), rfl, a, xv, (h : Nat), h, rfl, rfl, hx, ixN_nat' (by rw [rx.length]; exact hl), ?_⟩
        refine last _ _ ⟨s.ks, s.ds, s.cs.set (d / 2) (cx.set h k)⟩ rfl ?_ rfl e'
        have inB : a ∈ kn :: dn :: c :: as ++ A := by simp [ham]
        refine ⟨fun b o eb => ?_, ⟨kv, ?_, kb_upd inB rk⟩, ?_, ?_, by simp [I.len], I.lks, I.lds, fun j b x gb gx => ?_⟩
        · have : b ≠ a := fun z => by rw [z, S.h0 a (by simp [ham])] at eb; cases eb
          rw [upd_ne this]; exact I.ex b o eb
        · rw [upd_ne (fun z => S.k1 (by rw [z]; exact ham))]; exact hk
        · rw [upd_ne (fun z => S.d1 (by rw [z]; exact ham))]; exact hd
        · rw [upd_ne (fun z => S.c1 (by rw [z]; exact ham))]; exact hc
        · by_cases hjj : j = d / 2
          · subst hjj
            rw [ga] at gb; cases gb
            rw [List.getElem?_set_self (by rw [← I.len]; exact hj)] at gx
            cases gx
            exact ⟨_, upd_same, kb_upd inB (rx.set rkh h)⟩
          · rw [List.getElem?_set_ne (Ne.symm hjj)] at gx
            obtain ⟨xv', g1, g2⟩ := I.cell j b x gb gx
            have : b ≠ a := fun z => hjj (by
              subst z
              obtain ⟨l1, f1⟩ := List.getElem?_eq_some_iff.mp gb
              obtain ⟨l2, f2⟩ := List.getElem?_eq_some_iff.mp ga
              exact (List.getElem_inj S.nd).mp (f1.trans f2.symm))
            exact ⟨xv', by rw [upd_ne this]; exact g1, kb_upd inB g2⟩
      · rw [if_neg hl] at e; cases e
    · have od' : ¬ d % 2 = 0 := fun z => od (decide_eq_true (by show V.int (((d : Nat) : Int) % 2) = V.int 0; rw [im, z]; rfl))
      rw [if_neg od'] at e
      cases ey : cx[1 - h]? with
      | none => rw [ey] at e; cases e
      | some y =>
        rw [ey] at e
        have e' := (Option.some.inj e).symm
        obtain ⟨yv, gy, ry⟩ := rx.get ey
        have i1 : (1 : Int) - ((h : Nat) : Int) = ((1 - h : Nat) : Int) := by omega
        refine ⟨.ref kn, rfl, .int (h : Nat), rfl, .inl ⟨kn, kv, (h : Nat), kvh, rfl, rfl, .inl (.inl hk), at_nat gk, ?_⟩⟩
        refine ⟨.ref a, rfl, .int (h : Nat), rfl, 1, (h : Nat), rfl, rfl, .inl ⟨a, xv, (1 : Int) - ((h : Nat) : Int), yv, rfl, rfl, .inl (.inl hx), by rw [i1]; exact at_nat gy, ?_⟩⟩
        refine ⟨by show 2 ≤ sizeLine; decide, fun tp ht => ?_⟩
        have nk : kn ≠ tp := ne_of_none hk ht
        have nd' : dn ≠ tp := ne_of_none hd ht
        have nc : c ≠ tp := ne_of_none hc ht
        have nA : ∀ b ∈ kn :: dn :: c :: as ++ A, b ≠ tp := fun b hb z => by
          subst z
          rcases List.mem_append.mp hb with hb | hb
          · rcases List.mem_cons.mp hb with e1 | hb
            · exact nk e1.symm
            · rcases List.mem_cons.mp hb with e1 | hb
              · exact nd' e1.symm
              · rcases List.mem_cons.mp hb with e1 | hb
                · exact nc e1.symm
                · obtain ⟨j, hj2, ej⟩ := List.mem_iff_getElem.mp hb
                  obtain ⟨xv2, g1, _⟩ := I.cell j b (s.cs[j]'(by rw [← I.len]; exact hj2)) (by rw [List.getElem?_eq_getElem hj2, ej]) (List.getElem?_eq_getElem _)
                  rw [g1] at ht; cases ht
          · cases q0 : H0 b with
            | none => exact hA b hb q0
            | some o => rw [I.ex b o q0] at ht; cases ht
        have rt : Rp K (upd H tp (.tup [kvh, yv])) (kn :: dn :: c :: as ++ A) (.ref tp) (.tup [k, y]) := by
          refine .tup ⟨fun z => nA tp z rfl, upd_same⟩ ?_
          exact kb_new ht (.cons rkh (.cons ry .nil))
        refine ⟨.ref kn, rfl, .int (h : Nat), rfl, kn, kv, (h : Nat), h, rfl, rfl, by rw [upd_ne nk]; exact hk, ixN_nat' (by rw [rk.length]; exact hlk), ?_⟩
        refine last _ _ ⟨s.ks.set h (.tup [k, y]), s.ds, s.cs⟩ rfl ?_ rfl e'
        have inB : kn ∈ kn :: dn :: c :: as ++ A := by simp
        refine ⟨fun b o eb => ?_, ⟨_, upd_same, kb_upd inB ((kb_new ht rk).set rt h)⟩, ?_, ?_, I.len, by simp [I.lks], I.lds, fun j b x gb gx => ?_⟩
        · have : b ≠ kn := fun z => by rw [z, S.h0 kn (by simp)] at eb; cases eb
          rw [upd_ne this]
          exact upd_kept ht b o (I.ex b o eb)
        · rw [upd_ne (Ne.symm S.kd)]; exact upd_kept ht _ _ hd
        · rw [upd_ne (Ne.symm S.kc)]; exact upd_kept ht _ _ hc
        · obtain ⟨xv', g1, g2⟩ := I.cell j b x gb gx
          have : b ≠ kn := fun z => S.k1 (by rw [← z]; exact List.mem_of_getElem? gb)
          exact ⟨xv', by rw [upd_ne this]; exact upd_kept ht _ _ g1, kb_upd inB (kb_new ht g2)⟩
end
end DL

namespace DL
open PySem L2
section
variable {K : PySem.W.Frag}
def kbAll (K : PySem.W.Frag) (aH : Addr) : TS := tSeq (tAsg (tLc (iRng1 (tCons (tVar 2) tNil)) (gName 8) tYes (tLst (tCons (tC V.non) (tCons (tC V.non) tNil))) [8]) (gName 3))
  (tSeq (tAsg (tCB (rListA K) (tCons (tVar 0) tNil)) (gName 4)) (tSeq (tAsg (tLst (tCons (tC (V.int 0)) (tCons (tC (V.int 0)) tNil))) (gName 5))
    (tSeq (tFor (iSeq K (tVar 1)) (gName 6) (kbBody K))
      (tRet (tLc (iSeq K (tC (V.ref aH))) (gName 6) tYes (tIf (tTest (tOp rEq (tOp (rIx K) (tVar 5) (tVar 6)) (tOp (rMulA) (tC (V.int 2)) (tVar 2)))) (tOp (rIx K) (tVar 4) (tVar 6)) (tC V.non)) [6])))))
theorem kb_all {aH : Addr} {H : Hp} {vs : List V} {Q : VK} {E : XK} (hH : KT K aH [.int 0, .int 1]) (h : spD0 K kbG vs H Q E) : kbAll K aH { nx := fun _ H' => Q .non H', rt := Q } (L2.start ["inputs", "weaving", "rounds", "cells", "knows", "done", "hand", "cell", "turn"] vs) H := by
  obtain ⟨args, W, fr, rel, p⟩ := h
  have lav : args.length = vs.length := by have := rel.len; simpa using this
  unfold kbG at p
  split at p
  case h_2 => exact p.elim
  rename_i x0 x1 fl hs r
  by_cases hc : 0 ≤ r ∧ r ≤ 1000 ∧ fl ≠ .o
  case neg => rw [if_neg hc] at p; exact p.elim
  rw [if_pos hc] at p
  cases ek : kbRun hs ⟨[x0, x1], [0, 0], List.replicate r.toNat [.non, .non]⟩ with
  | none => rw [ek] at p; exact p.elim
  | some sF =>
  rw [ek] at p; dsimp only at p
  -- the arguments
  have at' : ∀ (i : Nat) sv, [(⟨.p, .tup [x0, x1]⟩ : SV), ⟨fl, .lst hs⟩, ⟨.p, .int r⟩][i]? = some sv → ∃ v, vs[i]? = some v ∧ RdOk K H (W ++ fr) v sv.d := fun i sv q => by
    obtain ⟨v, h1, h2⟩ := rel.sl i sv (by rw [sv_map]; exact q)
    rw [List.getElem?_map] at h1
    cases e : vs[i]? with
    | none => rw [e] at h1; cases h1
    | some u =>
      rw [e] at h1; cases h1
      refine ⟨_, rfl, ?_⟩
      rcases h2 with ⟨_, h2⟩ | ⟨_, a, e2, _, h2, _⟩
      · exact .inl h2
      · exact .inr ⟨a, e2, h2⟩
  obtain ⟨v0, g0, q0⟩ := at' 0 _ rfl
  obtain ⟨v1, g1, q1⟩ := at' 1 _ rfl
  obtain ⟨v2, g2, q2⟩ := at' 2 _ rfl
  obtain rfl : vs = [v0, v1, v2] := by
    match vs, lav, g0, g1, g2 with
    | [a, b, c], _, g0, g1, g2 => simp at g0 g1 g2; rw [g0, g1, g2]
  obtain ⟨a0, xv, rfl, hx0, rx0⟩ := rd_tup q0
  obtain ⟨a1, hv, rfl, hx1, rx1⟩ := rd_lst q1
  have e2 := rd_int q2
  subst e2
  have rt : (r.toNat : Int) = r := by omega
  have hA : ∀ a ∈ W ++ fr, H a ≠ none := rel.all
  -- cells
  refine ⟨.int r, rfl, r, rfl, by omega, by omega, fun c hc0 => ?_⟩
  refine lc_range (lo := 0) (n := r.toNat) (fun i H' => ∃ as : List Addr, as.length = i ∧ as.Nodup ∧ c ∉ as ∧ H' c = some (.lst (as.map V.ref)) ∧ (∀ a ∈ as, H a = none ∧ H' a = some (.lst [.non, .non])) ∧ ∀ b o, H b = some o → H' b = some o)
    ⟨[], rfl, .nil, by simp, upd_same, by simp, fun b o e => upd_kept hc0 b o e⟩ (fun i H' hi ⟨as, l1, l2, l3, l4, l5, l6⟩ => ?_) (fun H1 ⟨as, l1, l2, l3, l4, l5, l6⟩ => ?_)
  · refine ⟨rfl, ?_⟩
    unfold tYes
    refine iteT ?_
    refine ⟨by show 2 ≤ sizeLine; decide, fun a ha => ?_⟩
    have nac : c ≠ a := ne_of_none l4 ha
    have na : a ∉ as := fun z => by rw [(l5 a z).2] at ha; cases ha
    have ha0 : H a = none := by
      cases e : H a with
      | none => rfl
      | some o => rw [l6 a o e] at ha; cases ha
    refine ⟨_, by rw [upd_ne nac]; exact l4, sz_lt (by rw [List.length_map]; omega), as ++ [a], by simp [l1], ?_, ?_, ?_, fun b hb => ?_, fun b o e => ?_⟩
    · rw [List.nodup_append]
      exact ⟨l2, by simp, fun x hx y hy z => na (by rw [List.mem_singleton.mp hy] at z; rw [← z]; exact hx)⟩
    · simp [l3, nac]
    · rw [upd_same, List.map_append]; rfl
    · rcases List.mem_append.mp hb with hb | hb
      · have nb : b ≠ a := fun z => na (by rw [← z]; exact hb)
        have nbc : b ≠ c := fun z => l3 (by rw [← z]; exact hb)
        exact ⟨(l5 b hb).1, by rw [upd_ne nbc, upd_ne nb]; exact (l5 b hb).2⟩
      · have e : b = a := List.mem_singleton.mp hb
        subst e
        exact ⟨ha0, by rw [upd_ne (Ne.symm nac), upd_same]⟩
    · have nb : b ≠ c := ne_of_none e hc0
      rw [upd_ne nb]
      exact upd_kept ha b o (l6 b o e)
  -- knows
  refine ⟨.ref a0, rfl, a0, xv, rfl, .inr (.inl (.inl (l6 _ _ hx0.2))), fun kn hkn => ?_⟩
  refine ⟨by show 2 ≤ sizeLine; decide, fun dn hdn => ?_⟩
  have nkd : kn ≠ dn := fun z => by rw [← z, upd_same] at hdn; cases hdn
  have nkc : kn ≠ c := fun z => by rw [z, l4] at hkn; cases hkn
  have ndc : dn ≠ c := fun z => by rw [z, upd_ne (Ne.symm nkc), l4] at hdn; cases hdn
  have nka : kn ∉ as := fun z => by rw [(l5 kn z).2] at hkn; cases hkn
  have nda : dn ∉ as := fun z => by rw [upd_ne (fun y => nkd y.symm), (l5 dn z).2] at hdn; cases hdn
  have back : ∀ b, H1 b = none → H b = none := fun b e => by
    cases q : H b with
    | none => rfl
    | some o => rw [l6 b o q] at e; cases e
  have hdn1 : H1 dn = none := by rw [upd_ne (Ne.symm nkd)] at hdn; exact hdn
  have S : KbSep H (W ++ fr) c kn dn as := ⟨l2, l3, nka, nda, nkd, nkc, ndc, fun a z => by
    rcases List.mem_cons.mp z with rfl | z
    · exact back _ hkn
    · rcases List.mem_cons.mp z with rfl | z
      · exact back _ hdn1
      · rcases List.mem_cons.mp z with rfl | z
        · exact hc0
        · exact (l5 a z).1⟩
  have hB : ∀ a, a ∈ kn :: dn :: c :: as ++ (W ++ fr) → a ∈ W ++ fr ∨ H a = none := fun a z => by
    rcases List.mem_append.mp z with z | z
    · exact .inr (S.h0 a z)
    · exact .inl z
  have I0 : KbIn K H (W ++ fr) c kn dn as ⟨[x0, x1], [0, 0], List.replicate r.toNat [.non, .non]⟩ (upd (upd H1 kn (.lst xv)) dn (.lst [.int 0, .int 0])) := by
    have ex : ∀ b o, H b = some o → (upd (upd H1 kn (.lst xv)) dn (.lst [.int 0, .int 0])) b = some o := fun b o e => upd_kept hdn b o (upd_kept hkn b o (l6 b o e))
    refine ⟨ex, ⟨xv, by rw [upd_ne nkd, upd_same], rx0.mono (fun a o _ e => ex a o e) hB⟩, upd_same, by rw [upd_ne (Ne.symm ndc), upd_ne (Ne.symm nkc)]; exact l4, by simp [l1], rfl, rfl, fun j a x ga gx => ⟨[.non, .non], ?_, ?_⟩⟩
    · have hm := List.mem_of_getElem? ga
      rw [upd_ne (fun z => nda (by rw [← z]; exact hm)), upd_ne (fun z => nka (by rw [← z]; exact hm))]
      exact (l5 a hm).2
    · rw [List.getElem?_replicate] at gx
      split at gx
      · cases gx; exact .cons .non (.cons .non .nil)
      · cases gx
  -- the loop
  have hint : ∀ (l : List D) (s s' : KB), kbRun l s = some s' → ∀ d ∈ l, ∃ h : Int, d = .int h := by
    intro l
    induction l with
    | nil => intro s s' _ d hd; simp at hd
    | cons y l ih =>
      intro s s' e d hd
      cases y with
      | int h =>
        unfold kbRun at e
        split at e
        · split at e
          · rcases List.mem_cons.mp hd with rfl | hd
            · exact ⟨h, rfl⟩
            · exact ih _ _ e d hd
          · cases e
        · cases e
      | _ => cases e
  refine ⟨.ref a1, rfl, a1, rfl, .inl ⟨⟨hv, .inl (.inl (I0.ex _ _ hx1))⟩, ?_⟩⟩
  refine for_list (xs := hv) (fun i σ H' => ∃ y6 y7 s, σ = kbSt (.ref a0) (.ref a1) r c kn dn y6 y7 ∧ KbIn K H (W ++ fr) c kn dn as s H' ∧ kbRun (hs.drop i) s = some sF) ⟨none, none, _, rfl, I0, by simpa using ek⟩
    (fun i σ H' _ ⟨_, _, _, _, I, _⟩ => .inl (.inl (I.ex _ _ hx1))) (fun i x σ H' hx ⟨y6, y7, s, eσ, I, er⟩ => ?_) (fun σ H' ⟨y6, y7, s, eσ, I, er⟩ => ?_)
  · subst eσ
    obtain ⟨d, gd, rd⟩ := rx1.get' hx
    have hi : i < hs.length := (List.getElem?_eq_some_iff.mp gd).1
    have ed : hs[i] = d := (List.getElem?_eq_some_iff.mp gd).2
    rw [List.drop_eq_getElem_cons hi, ed] at er
    obtain ⟨hh, rfl⟩ := hint _ _ _ er d List.mem_cons_self
    cases rd
    unfold kbRun at er
    split at er
    · rename_i hb
      split at er
      · rename_i s' es
        obtain ⟨n, rfl⟩ : ∃ n : Nat, hh = (n : Int) := ⟨hh.toNat, by omega⟩
        refine kb_turn (y7 := y7) S I hA (by omega) (by simpa using es) fun y7' H'' I' => ⟨_, y7', s', rfl, I', er⟩
      · cases er
    · cases er
  -- return
  · subst eσ
    have er' : s = sF := by
      rw [List.drop_eq_nil_of_le (by rw [rx1.length]; exact Nat.le_refl _)] at er
      unfold kbRun at er
      exact Option.some.inj er
    subst er'
    obtain ⟨kv, hk, rk⟩ := I.hk
    refine ⟨aH, rfl, .inr ⟨⟨_, .inr hH⟩, fun p' hp => ?_⟩⟩
    have pp : ∀ b o, H b = some o → b ≠ p' := fun b o e z => by rw [z] at e; rw [I.ex _ _ e] at hp; cases hp
    have n1 : kn ≠ p' := ne_of_none hk hp
    have n2 : dn ≠ p' := ne_of_none I.hd hp
    let B := kn :: dn :: c :: as ++ (W ++ fr)
    have hBp : ∀ b ∈ B, b ≠ p' := fun b hb z => by
      subst z
      rcases List.mem_append.mp hb with hb | hb
      · rcases List.mem_cons.mp hb with e1 | hb
        · exact n1 e1.symm
        · rcases List.mem_cons.mp hb with e1 | hb
          · exact n2 e1.symm
          · rcases List.mem_cons.mp hb with e1 | hb
            · rw [e1, I.hc] at hp; cases hp
            · obtain ⟨j, hj2, ej⟩ := List.mem_iff_getElem.mp hb
              obtain ⟨xv2, g1, _⟩ := I.cell j b (s.cs[j]'(by rw [← I.len]; exact hj2)) (by rw [List.getElem?_eq_getElem hj2, ej]) (List.getElem?_eq_getElem _)
              rw [g1] at hp; cases hp
      · cases q0 : H b with
        | none => exact hA b hb q0
        | some o => exact pp b o q0 rfl
    -- one item
    have item : ∀ (n : Nat) (σ : St) (H2 : Hp) (R : VK), n ≤ 1 → σ[2]? = some (some (.int r)) → σ[4]? = some (some (.ref kn)) → σ[5]? = some (some (.ref dn)) → σ[6]? = some (some (.int (n : Nat))) → H2 kn = some (.lst kv) → H2 dn = some (.lst (s.ds.map fun n => V.int (n : Nat))) →
        (∀ v, Rp K H' B v (kbOut r.toNat s n) → R v H2) → tIf (tTest (tOp rEq (tOp (rIx K) (tVar 5) (tVar 6)) (tOp (rMulA) (tC (V.int 2)) (tVar 2)))) (tOp (rIx K) (tVar 4) (tVar 6)) (tC V.non) σ H2 R := by
      intro n σ H2 R hn s2 s4 s5 s6 h4 h5 hR
      have hlt : n < s.ds.length := by rw [I.lds]; omega
      have hlk : n < s.ks.length := by rw [I.lks]; omega
      have gd : (s.ds.map fun n => V.int (n : Nat))[n]? = some (.int (s.ds[n] : Nat)) := by rw [List.getElem?_map, List.getElem?_eq_getElem hlt]; rfl
      obtain ⟨kx, gk, rkx⟩ := rk.get (List.getElem?_eq_getElem hlk)
      refine ⟨.ref dn, s5, .int (n : Nat), s6, .inl ⟨dn, _, (n : Nat), _, rfl, rfl, .inl (.inl h5), at_nat gd, ?_⟩⟩
      refine ⟨.int r, s2, .inl ⟨2, r, rfl, rfl, .inl ⟨by decide, by decide⟩, ?_⟩⟩
      refine ⟨rfl, _, rfl, ite2 (fun ev => ?_) (fun od => ?_)⟩
      · have e1 : ((s.ds[n] : Nat) : Int) = 2 * r := V.int.inj (of_decide_eq_true ev)
        refine ⟨.ref kn, s4, .int (n : Nat), s6, .inl ⟨kn, kv, (n : Nat), kx, rfl, rfl, .inl (.inl h4), at_nat gk, hR kx ?_⟩⟩
        have : kbOut r.toNat s n = s.ks[n] := by
          unfold kbOut
          rw [List.getElem?_eq_getElem hlt, if_pos (by congr 1; omega), List.getD_eq_getElem?_getD, List.getElem?_eq_getElem hlk]; rfl
        rw [this]; exact rkx
      · refine hR .non ?_
        have : kbOut r.toNat s n = .non := by
          unfold kbOut
          rw [List.getElem?_eq_getElem hlt, if_neg (fun z => od (decide_eq_true ?_))]
          have z' := Option.some.inj z
          show V.int ((s.ds[n] : Nat) : Int) = V.int (2 * r)
          congr 1; omega
        rw [this]; exact .non
    have okp : ∀ (av : List V) (b : Addr) (o : HO), b ≠ p' → H' b = some o → (upd H' p' (.lst av)) b = some o := fun av b o n e => by rw [upd_ne n]; exact e
    refine lc_tup (xs := [.int 0, .int 1]) (fun i H2 => ∃ av, H2 = upd H' p' (.lst av) ∧ av.length = i ∧ RpL K H' B av (([kbOut r.toNat s 0, kbOut r.toNat s 1]).take i)) ⟨[], rfl, rfl, .nil⟩ (fun _ _ _ _ => .inr hH) (fun i x H2 hx ⟨av, e2, l2, r2⟩ => ?_) (fun H2 ⟨av, e2, l2, r2⟩ => ?_)
    · subst e2
      have hi : i < 2 := (List.getElem?_eq_some_iff.mp hx).1
      have ex : x = .int (i : Nat) := by
        match i, hi, hx with
        | 0, _, hx => simp at hx; exact hx.symm
        | 1, _, hx => simp at hx; exact hx.symm
      subst ex
      refine ⟨rfl, ?_⟩
      unfold tYes
      refine iteT ?_
      refine item i _ _ _ (by omega) rfl rfl rfl rfl (okp _ _ _ n1 hk) (okp _ _ _ n2 I.hd) fun v hv => ⟨av, upd_same, sz_lt (by omega), av ++ [v], by rw [upd_upd], by simp [l2], ?_⟩
      have : ([kbOut r.toNat s 0, kbOut r.toNat s 1]).take (i + 1) = ([kbOut r.toNat s 0, kbOut r.toNat s 1]).take i ++ [kbOut r.toNat s i] := by
        match i, hi with
        | 0, _ => rfl
        | 1, _ => rfl
      rw [this]
      exact r2.append (.one hv)
    · subst e2
      have hpH : H p' = none := by
        cases q0 : H p' with
        | none => rfl
        | some o => exact absurd rfl (pp p' o q0)
      have kept : ∀ b o, H b = some o → (upd H' p' (.lst av)) b = some o := fun b o e => okp av b o (pp b o e) (I.ex b o e)
      have st : Step H W (upd H' p' (.lst av)) (p' :: W) := ⟨fun a o _ e => kept a o e, fun a z => by
        rcases List.mem_cons.mp z with rfl | z
        · exact .inr hpH
        · exact .inl z⟩
      have R2 := rel.keep st kept (fun a z => List.mem_cons_of_mem _ z) (fun a z => by
        rcases List.mem_cons.mp z with rfl | z
        · rw [upd_same]; simp
        · cases q0 : H a with
          | none => exact absurd q0 (rel.wt a z)
          | some o => rw [kept a o q0]; simp)
      refine p (.ref p') _ (p' :: W) R2 st ⟨.inr ⟨by simp, p', rfl, List.mem_cons_self, .lst upd_same ?_, fun _ => hpH⟩, fun _ => ⟨rfl, fun j sw ej nj z => ?_⟩⟩
      · refine RpL.mono (H := H') (A := B) (fun a o n e => okp av a o (fun z => ?_) e) (fun a z => ?_) r2
        · rw [z, hp] at e; cases e
        · rcases List.mem_append.mp z with z | z
          · rcases List.mem_cons.mp z with rfl | z
            · exact .inr hp
            · exact .inl (List.mem_append_right _ (List.mem_append_left _ z))
          · exact .inl (List.mem_append_right _ (List.mem_append_right _ z))
      · obtain ⟨u, h1, h2⟩ := rel.sl j sw ej
        have z' : ([V.ref a0, V.ref a1, V.int r].map some)[j]? = some (some (.ref p')) := z
        rw [z'] at h1; cases h1
        rcases h2 with ⟨n, _⟩ | ⟨_, a, e3, ha, _⟩
        · exact nj n
        · cases e3; exact rel.wt _ ha hpH
end
end DL

namespace DL
open PySem L2
/-- a thing that may be known behind at most n rounds -/
def Kn : Nat → D → Prop
  | _, .int _ => True
  | _, .non => True
  | n + 1, .tup [a, b] => Kn n a ∧ Kn n b
  | _, _ => False
theorem Kn.up : ∀ {n : Nat} {d : D}, Kn n d → Kn (n + 1) d
  | n, .int _, _ => by cases n <;> trivial
  | n, .non, _ => by cases n <;> trivial
  | 0, .tup xs, h => by simp [Kn] at h
  | n + 1, .tup [a, b], h => ⟨Kn.up h.1, Kn.up h.2⟩
  | n + 1, .tup [], h => by cases h
  | n + 1, .tup [_], h => by cases h
  | n + 1, .tup (_ :: _ :: _ :: _), h => by cases h
  | n, .bl _, h => by cases n <;> cases h
  | n, .str _, h => by cases n <;> cases h
  | n, .opq _, h => by cases n <;> cases h
  | n, .lst _, h => by cases n <;> cases h
  | n, .frl _, h => by cases n <;> cases h
  | n, .frt _, h => by cases n <;> cases h
  | n, .dt _, h => by cases n <;> cases h
theorem Kn.le {n m : Nat} {d : D} (h : Kn n d) (l : n ≤ m) : Kn m d := by
  induction l with
  | refl => exact h
  | step _ ih => exact ih.up
theorem Kn.py : ∀ {n : Nat} {d : D}, Kn n d → ∃ p, toPy d = some p ∧ p.canLay0 = true ∧ p.depth ≤ n
  | n, .int i, _ => ⟨.int i, by unfold toPy; rfl, rfl, by simp [PyData.depth]⟩
  | n, .non, _ => ⟨.none, by unfold toPy; rfl, rfl, by simp [PyData.depth]⟩
  | 0, .tup xs, h => by simp [Kn] at h
  | n + 1, .tup [a, b], h => by
    obtain ⟨p, h1, h2, h3⟩ := Kn.py h.1
    obtain ⟨q, g1, g2, g3⟩ := Kn.py h.2
    refine ⟨.tuple [p, q], ?_, ?_, ?_⟩
    · simp [toPy, toPyL, h1, g1]
    · simp [PyData.canLay0, PyData.canLayAll0, h2, g2]
    · simp only [PyData.depth, PyData.depthAll]; omega
  | n + 1, .tup [], h => by cases h
  | n + 1, .tup [_], h => by cases h
  | n + 1, .tup (_ :: _ :: _ :: _), h => by cases h
  | n, .bl _, h => by cases n <;> cases h
  | n, .str _, h => by cases n <;> cases h
  | n, .opq _, h => by cases n <;> cases h
  | n, .lst _, h => by cases n <;> cases h
  | n, .frl _, h => by cases n <;> cases h
  | n, .frt _, h => by cases n <;> cases h
  | n, .dt _, h => by cases n <;> cases h
theorem shaped_of {p : PyData} (h1 : p.canLay0 = true) (h2 : p.depth ≤ 64) : SeqAt.shaped p = true := by
  unfold SeqAt.shaped
  rw [h1, decide_eq_true h2]; rfl
theorem eqD_self {d : D} {p : PyData} (h : toPy d = some p) (h1 : p.canLay0 = true) (h2 : p.depth ≤ 64) : eqD d d = some true := by
  unfold eqD
  rw [h]
  dsimp only
  rw [if_pos ⟨shaped_of h1 h2, shaped_of h1 h2⟩, SeqAt.eqv_refl p h1]
theorem eqD_int (i j : Int) : eqD (.int i) (.int j) = some (i == j) := by
  unfold eqD toPy
  dsimp only
  rw [if_pos ⟨shaped_of rfl (by simp [PyData.depth]), shaped_of rfl (by simp [PyData.depth])⟩]
  unfold PyData.eqv; rfl
/-- a list of two known things -/
theorem eqD_two {n : Nat} {a b : D} (ha : Kn n a) (hb : Kn n b) (hn : n ≤ 60) : eqD (.lst [a, b]) (.lst [a, b]) = some true := by
  obtain ⟨p, h1, h2, h3⟩ := ha.py
  obtain ⟨q, g1, g2, g3⟩ := hb.py
  refine eqD_self (p := .list [p, q]) ?_ ?_ ?_
  · simp [toPy, toPyL, h1, g1]
  · simp [PyData.canLay0, PyData.canLayAll0, h2, g2]
  · simp only [PyData.depth, PyData.depthAll]; omega
theorem toPyL_ints : ∀ ns : List Int, toPyL (ns.map D.int) = some (ns.map PyData.int)
  | [] => by unfold toPyL; rfl
  | n :: r => by rw [List.map_cons]; unfold toPyL; rw [toPyL_ints r]; unfold toPy; rfl
theorem eqD_ints (ns : List Int) : eqD (.lst (ns.map D.int)) (.lst (ns.map D.int)) = some true := by
  have hc : ∀ ns : List Int, PyData.canLayAll0 (ns.map PyData.int) = true ∧ PyData.depthAll (ns.map PyData.int) = 0 := by
    intro ns
    induction ns with
    | nil => exact ⟨rfl, rfl⟩
    | cons a r ih => simp [PyData.canLayAll0, PyData.depthAll, PyData.canLay0, PyData.depth, ih]
  refine eqD_self (p := .list (ns.map PyData.int)) ?_ ?_ ?_
  · simp [toPy, toPyL_ints]
  · simp [PyData.canLay0, hc]
  · simp only [PyData.depth, (hc ns).2]; omega
/-- [] is no list with items -/
theorem eqD_nil (n : Int) (ns : List Int) : eqD (.lst ((n :: ns).map D.int)) (.lst []) = some false := by
  unfold eqD
  have e1 : toPy (.lst ((n :: ns).map D.int)) = some (.list ((n :: ns).map PyData.int)) := by simp only [toPy, toPyL_ints]; rfl
  have e2 : toPy (.lst []) = some (.list []) := by simp [toPy, toPyL]
  have hc : ∀ ns : List Int, PyData.canLayAll0 (ns.map PyData.int) = true ∧ PyData.depthAll (ns.map PyData.int) = 0 := by
    intro ns
    induction ns with
    | nil => exact ⟨rfl, rfl⟩
    | cons a r ih => simp [PyData.canLayAll0, PyData.depthAll, PyData.canLay0, PyData.depth, ih]
  rw [e1, e2]
  dsimp only
  rw [if_pos ⟨shaped_of (by simp only [PyData.canLay0, (hc _).1]) (by simp only [PyData.depth, (hc _).2]; omega), shaped_of rfl (by simp [PyData.depth, PyData.depthAll])⟩]
  simp [PyData.eqv, PyData.eqvAll]
/-- the shape of a state -/
structure KbOk (r m : Nat) (s : KB) : Prop where
  ks : ∃ a b, s.ks = [a, b] ∧ Kn m a ∧ Kn m b
  cl : s.cs.length = r
  cs : ∀ c ∈ s.cs, ∃ x y, c = [x, y] ∧ Kn m x ∧ Kn m y
theorem kb_step_ok {r m : Nat} {s : KB} {h d0 d1 : Nat} (S : KbOk r m s) (ed : s.ds = [d0, d1]) (hh : h ≤ 1) (hd : (if h = 0 then d0 else d1) < 2 * r) :
    ∃ s', kbStep s h = some s' ∧ KbOk r (m + 1) s' ∧ s'.ds = (if h = 0 then [d0 + 1, d1] else [d0, d1 + 1]) := by
  obtain ⟨a, b, ek, ka, kb⟩ := S.ks
  have up : ∀ c ∈ s.cs, ∃ x y, c = [x, y] ∧ Kn (m + 1) x ∧ Kn (m + 1) y := fun c hc => by
    obtain ⟨x, y, e, h1, h2⟩ := S.cs c hc
    exact ⟨x, y, e, h1.up, h2.up⟩
  have go : ∀ (d : Nat), d < 2 * r → ∃ x y, s.cs[d / 2]? = some [x, y] ∧ Kn m x ∧ Kn m y := fun d hd => by
    have hl : d / 2 < s.cs.length := by rw [S.cl]; omega
    obtain ⟨x, y, e, h1, h2⟩ := S.cs _ (List.getElem_mem hl)
    exact ⟨x, y, by rw [List.getElem?_eq_getElem hl, e], h1, h2⟩
  have setOk : ∀ (k : Nat) (x y : D), Kn (m + 1) x → Kn (m + 1) y → ∀ c ∈ s.cs.set k [x, y], ∃ x y, c = [x, y] ∧ Kn (m + 1) x ∧ Kn (m + 1) y := fun k x y hx hy c hc => by
    rcases List.mem_or_eq_of_mem_set hc with hc | rfl
    · exact up c hc
    · exact ⟨x, y, rfl, hx, hy⟩
  unfold kbStep
  rw [ed, ek]
  have : h = 0 ∨ h = 1 := by omega
  rcases this with rfl | rfl
  · have hd' : d0 < 2 * r := by simpa using hd
    obtain ⟨x, y, ec, kx, ky⟩ := go d0 hd'
    by_cases ev : d0 % 2 = 0
    · refine ⟨⟨[a, b], [d0 + 1, d1], s.cs.set (d0 / 2) [a, y]⟩, by simp [ec, ev], ⟨⟨a, b, rfl, ka.up, kb.up⟩, by simp [S.cl], setOk _ _ _ ka.up ky.up⟩, by simp⟩
    · refine ⟨⟨[.tup [a, y], b], [d0 + 1, d1], s.cs⟩, by simp [ec, ev], ⟨⟨_, b, rfl, ⟨ka, ky⟩, kb.up⟩, S.cl, up⟩, by simp⟩
  · have hd' : d1 < 2 * r := by simpa using hd
    obtain ⟨x, y, ec, kx, ky⟩ := go d1 hd'
    by_cases ev : d1 % 2 = 0
    · refine ⟨⟨[a, b], [d0, d1 + 1], s.cs.set (d1 / 2) [x, b]⟩, by simp [ec, ev], ⟨⟨a, b, rfl, ka.up, kb.up⟩, by simp [S.cl], setOk _ _ _ kx.up kb.up⟩, by simp⟩
    · refine ⟨⟨[a, .tup [b, x]], [d0, d1 + 1], s.cs⟩, by simp [ec, ev], ⟨⟨a, _, rfl, ka.up, ⟨kb, kx⟩⟩, S.cl, up⟩, by simp⟩
/-- hands of a weaving: 0 or 1 -/
def Hands (hs : List Int) : Prop := ∀ h ∈ hs, 0 ≤ h ∧ h ≤ 1
theorem kb_run_ok {r : Nat} : ∀ (hs : List Int) {m : Nat} {s : KB} {d0 d1 : Nat}, KbOk r m s → s.ds = [d0, d1] → Hands hs → d0 + hs.count 0 ≤ 2 * r → d1 + hs.count 1 ≤ 2 * r →
    ∃ s', kbRun (hs.map D.int) s = some s' ∧ KbOk r (m + hs.length) s' ∧ s'.ds = [d0 + hs.count 0, d1 + hs.count 1]
  | [], m, s, d0, d1, S, ed, _, _, _ => ⟨s, rfl, S, by simpa using ed⟩
  | h :: hs, m, s, d0, d1, S, ed, hh, h0, h1 => by
    obtain ⟨g0, g1⟩ := hh h List.mem_cons_self
    have ht : Hands hs := fun x hx => hh x (List.mem_cons_of_mem _ hx)
    have : h = 0 ∨ h = 1 := by omega
    rcases this with rfl | rfl
    · have c0 : List.count (0 : Int) (0 :: hs) = hs.count 0 + 1 := by simp
      have c1 : List.count (1 : Int) (0 :: hs) = hs.count 1 := by simp
      rw [c0] at h0; rw [c1] at h1
      obtain ⟨s1, e1, S1, ed1⟩ := kb_step_ok (h := 0) S ed (by omega) (by simp; omega)
      obtain ⟨s2, e2, S2, ed2⟩ := kb_run_ok hs S1 (by simpa using ed1) ht (by omega) (by omega)
      refine ⟨s2, ?_, by rw [List.length_cons, show m + (hs.length + 1) = m + 1 + hs.length by omega]; exact S2, by rw [ed2, c0, c1]; congr 1; omega⟩
      simp [kbRun, e1, e2]
    · have c0 : List.count (0 : Int) (1 :: hs) = hs.count 0 := by simp
      have c1 : List.count (1 : Int) (1 :: hs) = hs.count 1 + 1 := by simp
      rw [c0] at h0; rw [c1] at h1
      obtain ⟨s1, e1, S1, ed1⟩ := kb_step_ok (h := 1) S ed (by omega) (by simp; omega)
      obtain ⟨s2, e2, S2, ed2⟩ := kb_run_ok hs S1 (by simpa using ed1) ht (by omega) (by omega)
      refine ⟨s2, ?_, by rw [List.length_cons, show m + (hs.length + 1) = m + 1 + hs.length by omega]; exact S2, by rw [ed2, c0, c1]; congr 2; omega⟩
      simp [kbRun, e1, e2]
theorem kb_init (r : Nat) (x y : Int) : KbOk r 0 ⟨[.int x, .int y], [0, 0], List.replicate r [.non, .non]⟩ :=
  ⟨⟨_, _, rfl, trivial, trivial⟩, by simp, fun c hc => ⟨_, _, (List.mem_replicate.mp hc).2, trivial, trivial⟩⟩
theorem kbOut_kn {r m : Nat} {s : KB} (S : KbOk r m s) (h : Nat) : Kn m (kbOut r s h) := by
  obtain ⟨a, b, ek, ka, kb⟩ := S.ks
  have non : Kn m .non := by cases m <;> trivial
  unfold kbOut
  split
  · rw [ek]
    match h with
    | 0 => exact ka
    | 1 => exact kb
    | h + 2 => exact non
  · exact non
end DL

namespace DL
open PySem L2
inductive Spt (x y : Int) : D → Nat → Nat → Int → Bool → Bool → Prop
  | base0 : 0 ≤ x → Spt x y (.int x) 0 0 0 true false
  | base1 : 0 ≤ y → Spt x y (.int y) 1 0 1 false true
  | lone {a : D} {h r : Nat} {m : Int} {f g : Bool} : Spt x y a h r m f g → Spt x y (.tup [a, .non]) h (r + 1) (3 * m) f g
  | see {a b : D} {h r : Nat} {m m' : Int} {f g f' g' : Bool} : h ≤ 1 → Spt x y a h r m f g → Spt x y b (1 - h) r m' f' g' → (m' - m = 1 ∨ m - m' = 1) → Spt x y (.tup [a, b]) h (r + 1) (3 * m + 2 * (m' - m)) (f || f') (g || g')
theorem Spt.hand {x y : Int} {d : D} {h r : Nat} {m : Int} {f g : Bool} (S : Spt x y d h r m f g) : h ≤ 1 := by
  induction S with
  | base0 _ => omega
  | base1 _ => omega
  | lone _ ih => exact ih
  | see hh _ _ _ _ _ => exact hh
theorem Spt.mir {x y : Int} {d : D} {h r : Nat} {m : Int} {f g : Bool} (S : Spt x y d h r m f g) : Spt y x d (1 - h) r (3 ^ r - m) g f := by
  induction S with
  | base0 hx => exact .base1 hx
  | base1 hy => exact .base0 hy
  | @lone a h r m f g _ ih =>
    have := Spt.lone ih
    rw [show (3 : Int) * (3 ^ r - m) = 3 ^ (r + 1) - 3 * m by rw [Int.pow_succ]; omega] at this
    exact this
  | @see a b h r m m' f g f' g' hh _ _ hn ih1 ih2 =>
    have := Spt.see (by omega) ih1 ih2 (by omega)
    rw [show (3 : Int) * (3 ^ r - m) + 2 * (3 ^ r - m' - (3 ^ r - m)) = 3 ^ (r + 1) - (3 * m + 2 * (m' - m)) by rw [Int.pow_succ]; omega] at this
    exact this
theorem Spt.notNon {x y : Int} {d : D} {h r : Nat} {m : Int} {f g : Bool} (S : Spt x y d h r m f g) : d ≠ .non := by
  cases S <;> simp
structure Et where
  d : D
  m : Int
  f : Bool
def Lone (e e' : Et) : Prop := e'.d = .tup [e.d, .non] ∧ e'.m = 3 * e.m ∧ e'.f = e.f
def See (e g e' : Et) : Prop := e'.d = .tup [e.d, g.d] ∧ e'.m = 3 * e.m + 2 * (g.m - e.m) ∧ e'.f = true
def cellOf (A : List Et) (d j : Nat) : D := if 2 * j < d then ((A[j]?).map (·.d)).getD .non else .non
structure Hist (x y : Int) (r d0 d1 : Nat) (A B : List Et) (s : KB) : Prop where
  ds : s.ds = [d0, d1]
  la : A.length = d0 / 2 + 1
  lb : B.length = d1 / 2 + 1
  ks : ∃ e g, A[d0 / 2]? = some e ∧ B[d1 / 2]? = some g ∧ s.ks = [e.d, g.d]
  cl : s.cs.length = r
  cs : ∀ j, j < r → s.cs[j]? = some [cellOf A d0 j, cellOf B d1 j]
  ga : ∀ (j : Nat) e, A[j]? = some e → Spt x y e.d 0 j e.m true e.f
  gb : ∀ (j : Nat) e, B[j]? = some e → Spt x y e.d 1 j e.m e.f true
  nb : ∀ (j : Nat) e g, A[j]? = some e → B[j]? = some g → g.m - e.m = 1 ∨ e.m - g.m = 1
  sa : ∀ (j : Nat) e e', A[j]? = some e → A[j + 1]? = some e' → Lone e e' ∨ ∃ g, B[j]? = some g ∧ See e g e'
  sb : ∀ (j : Nat) e e', B[j]? = some e → B[j + 1]? = some e' → Lone e e' ∨ ∃ g, A[j]? = some g ∧ See e g e'
theorem hist_init {x y : Int} (hx : 0 ≤ x) (hy : 0 ≤ y) (r : Nat) : Hist x y r 0 0 [⟨.int x, 0, false⟩] [⟨.int y, 1, false⟩] ⟨[.int x, .int y], [0, 0], List.replicate r [.non, .non]⟩ where
  ds := rfl
  la := rfl
  lb := rfl
  ks := ⟨_, _, rfl, rfl, rfl⟩
  cl := by simp
  cs := fun j hj => by simp [cellOf, hj]
  ga := fun j e h => by
    match j, h with
    | 0, h => cases h; exact .base0 hx
    | j + 1, h => simp at h
  gb := fun j e h => by
    match j, h with
    | 0, h => cases h; exact .base1 hy
    | j + 1, h => simp at h
  nb := fun j e g h1 h2 => by
    match j, h1 with
    | 0, h1 => cases h1; cases h2; exact .inl rfl
    | j + 1, h1 => simp at h1
  sa := fun j e e' h1 h2 => by simp at h2
  sb := fun j e e' h1 h2 => by simp at h2
theorem cellOf_snoc (A : List Et) (e : Et) (d j : Nat) (hl : A.length = d / 2 + 1) (ho : d % 2 = 1) : cellOf (A ++ [e]) (d + 1) j = cellOf A d j := by
  unfold cellOf
  by_cases h : 2 * j < d
  · rw [if_pos h, if_pos (by omega), List.getElem?_append_left (by omega)]
  · rw [if_neg h, if_neg (by omega)]
theorem cellOf_even (A : List Et) (d j : Nat) (he : d % 2 = 0) (hj : j ≠ d / 2) : cellOf A (d + 1) j = cellOf A d j := by
  unfold cellOf
  by_cases h : 2 * j < d
  · rw [if_pos h, if_pos (by omega)]
  · rw [if_neg h, if_neg (by omega)]
theorem snoc_get {α : Type} {A : List α} {e e' : α} {j : Nat} (h : (A ++ [e])[j]? = some e') : (j < A.length ∧ A[j]? = some e') ∨ (j = A.length ∧ e' = e) := by
  by_cases hj : j < A.length
  · rw [List.getElem?_append_left hj] at h; exact .inl ⟨hj, h⟩
  · have : j = A.length := by
      have := (List.getElem?_eq_some_iff.mp h).1
      simp at this; omega
    subst this
    simp at h; exact .inr ⟨rfl, h.symm⟩
theorem snoc_left {α : Type} {A : List α} {e e' : α} {j : Nat} (h : A[j]? = some e') : (A ++ [e])[j]? = some e' := by
  rw [List.getElem?_append_left (List.getElem?_eq_some_iff.mp h).1]; exact h
theorem get_lt {α : Type} {A : List α} {j : Nat} {e : α} (h : A[j]? = some e) : j < A.length := (List.getElem?_eq_some_iff.mp h).1
section
variable {x y : Int} {r d0 d1 : Nat} {A B : List Et} {s : KB}
theorem hist_put0 (S : Hist x y r d0 d1 A B s) (hd : d0 < 2 * r) (ev : d0 % 2 = 0) : ∃ s', kbStep s 0 = some s' ∧ Hist x y r (d0 + 1) d1 A B s' := by
  obtain ⟨e, g, ea, eb, ek⟩ := S.ks
  have hc := S.cs (d0 / 2) (by omega)
  refine ⟨⟨s.ks, [d0 + 1, d1], s.cs.set (d0 / 2) [e.d, cellOf B d1 (d0 / 2)]⟩, by simp [kbStep, S.ds, ek, hc, ev], ?_⟩
  refine ⟨rfl, by rw [S.la]; omega, S.lb, ⟨e, g, by rw [show (d0 + 1) / 2 = d0 / 2 by omega]; exact ea, eb, ek⟩, by simp [S.cl], fun j hj => ?_, S.ga, S.gb, S.nb, S.sa, S.sb⟩
  by_cases h : j = d0 / 2
  · subst h
    have : cellOf A (d0 + 1) (d0 / 2) = e.d := by unfold cellOf; rw [if_pos (by omega), ea]; rfl
    rw [this]; simp [S.cl, hj]
  · show (s.cs.set (d0 / 2) _)[j]? = _
    rw [List.getElem?_set_ne (fun z => h z.symm), cellOf_even A d0 j ev h]
    exact S.cs j hj
theorem hist_look0 (S : Hist x y r d0 d1 A B s) (hd : d0 < 2 * r) (od : d0 % 2 = 1) : ∃ s' e', kbStep s 0 = some s' ∧ Hist x y r (d0 + 1) d1 (A ++ [e']) B s' := by
  obtain ⟨e, g, ea, eb, ek⟩ := S.ks
  have hc := S.cs (d0 / 2) (by omega)
  have od' : ¬ d0 % 2 = 0 := by omega
  obtain ⟨e', hd', hm', hs', hsp⟩ : ∃ e' : Et, e'.d = .tup [e.d, cellOf B d1 (d0 / 2)] ∧ (∀ q, B[d0 / 2 + 1]? = some q → q.m - e'.m = 1 ∨ e'.m - q.m = 1) ∧ (Lone e e' ∨ ∃ q, B[d0 / 2]? = some q ∧ See e q e') ∧ Spt x y e'.d 0 (d0 / 2 + 1) e'.m true e'.f := by
    by_cases hb : 2 * (d0 / 2) < d1
    · have hl : d0 / 2 < B.length := by rw [S.lb]; omega
      have eg := List.getElem?_eq_getElem hl
      generalize B[d0 / 2] = q at eg
      have hn := S.nb _ _ _ ea eg
      have h1 := S.ga _ _ ea
      have h2 := S.gb _ _ eg
      have ec : cellOf B d1 (d0 / 2) = q.d := by unfold cellOf; rw [if_pos hb, eg]; rfl
      refine ⟨⟨.tup [e.d, q.d], 3 * e.m + 2 * (q.m - e.m), true⟩, by rw [ec], fun q' hq => ?_, .inr ⟨q, eg, rfl, rfl, rfl⟩, ?_⟩
      · rcases S.sb _ _ _ eg hq with ⟨_, z, _⟩ | ⟨w, ew, _, z, _⟩
        · rw [z]; dsimp only; omega
        · rw [ea] at ew; cases ew
          rw [z]; dsimp only; omega
      · have := Spt.see (by omega) h1 h2 hn
        simpa using this
    · have ec : cellOf B d1 (d0 / 2) = .non := by unfold cellOf; rw [if_neg hb]
      refine ⟨⟨.tup [e.d, .non], 3 * e.m, e.f⟩, by rw [ec], fun q' hq => ?_, .inl ⟨rfl, rfl, rfl⟩, .lone (S.ga _ _ ea)⟩
      have := get_lt hq
      rw [S.lb] at this; omega
  refine ⟨⟨[e'.d, g.d], [d0 + 1, d1], s.cs⟩, e', by simp [kbStep, S.ds, ek, hc, od', hd'], ?_⟩
  have e2 : (d0 + 1) / 2 = d0 / 2 + 1 := by omega
  have la := S.la
  refine ⟨rfl, by simp [la]; omega, S.lb, ⟨e', g, by rw [e2, ← la]; simp, eb, rfl⟩, S.cl, fun j hj => by rw [cellOf_snoc A e' d0 j la od]; exact S.cs j hj, fun j u hu => ?_, S.gb, fun j u v hu hv => ?_, fun j u u' hu hu' => ?_, fun j u u' hu hu' => ?_⟩
  · rcases snoc_get hu with ⟨_, h⟩ | ⟨rfl, rfl⟩
    · exact S.ga j u h
    · rw [la]; exact hsp
  · rcases snoc_get hu with ⟨_, h⟩ | ⟨rfl, rfl⟩
    · exact S.nb j u v h hv
    · rw [la] at hv; exact hm' v hv
  · rcases snoc_get hu' with ⟨h1, h⟩ | ⟨h1, rfl⟩
    · rcases snoc_get hu with ⟨_, h'⟩ | ⟨z, _⟩
      · exact S.sa j u u' h' h
      · omega
    · have : j = d0 / 2 := by omega
      subst this
      rcases snoc_get hu with ⟨_, h'⟩ | ⟨z, _⟩
      · rw [ea] at h'; cases h'; exact hs'
      · omega
  · rcases S.sb j u u' hu hu' with h | ⟨q, h1, h2⟩
    · exact .inl h
    · exact .inr ⟨q, snoc_left h1, h2⟩
theorem hist_put1 (S : Hist x y r d0 d1 A B s) (hd : d1 < 2 * r) (ev : d1 % 2 = 0) : ∃ s', kbStep s 1 = some s' ∧ Hist x y r d0 (d1 + 1) A B s' := by
  obtain ⟨g, e, eb, ea, ek⟩ := S.ks
  have hc := S.cs (d1 / 2) (by omega)
  refine ⟨⟨s.ks, [d0, d1 + 1], s.cs.set (d1 / 2) [cellOf A d0 (d1 / 2), e.d]⟩, by simp [kbStep, S.ds, ek, hc, ev], ?_⟩
  refine ⟨rfl, S.la, by rw [S.lb]; omega, ⟨g, e, eb, by rw [show (d1 + 1) / 2 = d1 / 2 by omega]; exact ea, ek⟩, by simp [S.cl], fun j hj => ?_, S.ga, S.gb, S.nb, S.sa, S.sb⟩
  by_cases h : j = d1 / 2
  · subst h
    have : cellOf B (d1 + 1) (d1 / 2) = e.d := by unfold cellOf; rw [if_pos (by omega), ea]; rfl
    rw [this]; simp [S.cl, hj]
  · show (s.cs.set (d1 / 2) _)[j]? = _
    rw [List.getElem?_set_ne (fun z => h z.symm), cellOf_even B d1 j ev h]
    exact S.cs j hj
theorem hist_look1 (S : Hist x y r d0 d1 A B s) (hd : d1 < 2 * r) (od : d1 % 2 = 1) : ∃ s' e', kbStep s 1 = some s' ∧ Hist x y r d0 (d1 + 1) A (B ++ [e']) s' := by
  obtain ⟨g, e, eb, ea, ek⟩ := S.ks
  have hc := S.cs (d1 / 2) (by omega)
  have od' : ¬ d1 % 2 = 0 := by omega
  obtain ⟨e', hd', hm', hs', hsp⟩ : ∃ e' : Et, e'.d = .tup [e.d, cellOf A d0 (d1 / 2)] ∧ (∀ q, A[d1 / 2 + 1]? = some q → q.m - e'.m = 1 ∨ e'.m - q.m = 1) ∧ (Lone e e' ∨ ∃ q, A[d1 / 2]? = some q ∧ See e q e') ∧ Spt x y e'.d 1 (d1 / 2 + 1) e'.m e'.f true := by
    by_cases hb : 2 * (d1 / 2) < d0
    · have hl : d1 / 2 < A.length := by rw [S.la]; omega
      have eg := List.getElem?_eq_getElem hl
      generalize A[d1 / 2] = q at eg
      have hn := S.nb _ _ _ eg ea
      have h1 := S.gb _ _ ea
      have h2 := S.ga _ _ eg
      have ec : cellOf A d0 (d1 / 2) = q.d := by unfold cellOf; rw [if_pos hb, eg]; rfl
      refine ⟨⟨.tup [e.d, q.d], 3 * e.m + 2 * (q.m - e.m), true⟩, by rw [ec], fun q' hq => ?_, .inr ⟨q, eg, rfl, rfl, rfl⟩, ?_⟩
      · rcases S.sa _ _ _ eg hq with ⟨_, z, _⟩ | ⟨w, ew, _, z, _⟩
        · rw [z]; dsimp only; omega
        · rw [ea] at ew; cases ew
          rw [z]; dsimp only; omega
      · have := Spt.see (by omega) h1 h2 (by omega)
        simpa using this
    · have ec : cellOf A d0 (d1 / 2) = .non := by unfold cellOf; rw [if_neg hb]
      refine ⟨⟨.tup [e.d, .non], 3 * e.m, e.f⟩, by rw [ec], fun q' hq => ?_, .inl ⟨rfl, rfl, rfl⟩, .lone (S.gb _ _ ea)⟩
      have := get_lt hq
      rw [S.la] at this; omega
  refine ⟨⟨[g.d, e'.d], [d0, d1 + 1], s.cs⟩, e', by simp [kbStep, S.ds, ek, hc, od', hd'], ?_⟩
  have e2 : (d1 + 1) / 2 = d1 / 2 + 1 := by omega
  have lb := S.lb
  refine ⟨rfl, S.la, by simp [lb]; omega, ⟨g, e', eb, by rw [e2, ← lb]; simp, rfl⟩, S.cl, fun j hj => by rw [cellOf_snoc B e' d1 j lb od]; exact S.cs j hj, S.ga, fun j u hu => ?_, fun j v u hv hu => ?_, fun j u u' hu hu' => ?_, fun j u u' hu hu' => ?_⟩
  · rcases snoc_get hu with ⟨_, h⟩ | ⟨rfl, rfl⟩
    · exact S.gb j u h
    · rw [lb]; exact hsp
  · rcases snoc_get hu with ⟨_, h⟩ | ⟨rfl, rfl⟩
    · exact S.nb j v u hv h
    · rw [lb] at hv; have := hm' v hv; omega
  · rcases S.sa j u u' hu hu' with h | ⟨q, h1, h2⟩
    · exact .inl h
    · exact .inr ⟨q, snoc_left h1, h2⟩
  · rcases snoc_get hu' with ⟨h1, h⟩ | ⟨h1, rfl⟩
    · rcases snoc_get hu with ⟨_, h'⟩ | ⟨z, _⟩
      · exact S.sb j u u' h' h
      · omega
    · have : j = d1 / 2 := by omega
      subst this
      rcases snoc_get hu with ⟨_, h'⟩ | ⟨z, _⟩
      · rw [ea] at h'; cases h'; exact hs'
      · omega
end
/-- the histories of a weaving -/
theorem hist_run {x y : Int} {r : Nat} : ∀ (hs : List Int) {s : KB} {d0 d1 : Nat} {A B : List Et}, Hist x y r d0 d1 A B s → Hands hs → d0 + hs.count 0 ≤ 2 * r → d1 + hs.count 1 ≤ 2 * r →
    ∃ s' A' B', kbRun (hs.map D.int) s = some s' ∧ Hist x y r (d0 + hs.count 0) (d1 + hs.count 1) A' B' s' ∧ (∃ A2, A' = A ++ A2) ∧ ∃ B2, B' = B ++ B2
  | [], s, d0, d1, A, B, S, _, _, _ => ⟨s, A, B, rfl, S, ⟨[], by simp⟩, [], by simp⟩
  | h :: hs, s, d0, d1, A, B, S, hh, h0, h1 => by
    obtain ⟨g0, g1⟩ := hh h List.mem_cons_self
    have ht : Hands hs := fun x hx => hh x (List.mem_cons_of_mem _ hx)
    have : h = 0 ∨ h = 1 := by omega
    rcases this with rfl | rfl
    · have c0 : List.count (0 : Int) (0 :: hs) = hs.count 0 + 1 := by simp
      have c1 : List.count (1 : Int) (0 :: hs) = hs.count 1 := by simp
      rw [c0] at h0; rw [c1] at h1
      obtain ⟨s1, A1, e1, S1, eA⟩ : ∃ s1 A1, kbStep s 0 = some s1 ∧ Hist x y r (d0 + 1) d1 A1 B s1 ∧ ∃ A2, A1 = A ++ A2 := by
        by_cases ev : d0 % 2 = 0
        · obtain ⟨s1, e1, S1⟩ := hist_put0 S (by omega) ev
          exact ⟨s1, A, e1, S1, [], by simp⟩
        · obtain ⟨s1, e', e1, S1⟩ := hist_look0 S (by omega) (by omega)
          exact ⟨s1, _, e1, S1, [e'], rfl⟩
      obtain ⟨s2, A', B', e2, S2, ⟨A3, eA3⟩, eB⟩ := hist_run hs S1 ht (by omega) (by omega)
      refine ⟨s2, A', B', by simp [kbRun, e1, e2], by rw [c0, c1, show d0 + (hs.count 0 + 1) = d0 + 1 + hs.count 0 by omega]; exact S2, ?_, eB⟩
      obtain ⟨A2, eA⟩ := eA
      exact ⟨A2 ++ A3, by rw [eA3, eA, List.append_assoc]⟩
    · have c0 : List.count (0 : Int) (1 :: hs) = hs.count 0 := by simp
      have c1 : List.count (1 : Int) (1 :: hs) = hs.count 1 + 1 := by simp
      rw [c0] at h0; rw [c1] at h1
      obtain ⟨s1, B1, e1, S1, eB⟩ : ∃ s1 B1, kbStep s 1 = some s1 ∧ Hist x y r d0 (d1 + 1) A B1 s1 ∧ ∃ B2, B1 = B ++ B2 := by
        by_cases ev : d1 % 2 = 0
        · obtain ⟨s1, e1, S1⟩ := hist_put1 S (by omega) ev
          exact ⟨s1, B, e1, S1, [], by simp⟩
        · obtain ⟨s1, e', e1, S1⟩ := hist_look1 S (by omega) (by omega)
          exact ⟨s1, _, e1, S1, [e'], rfl⟩
      obtain ⟨s2, A', B', e2, S2, eA, ⟨B3, eB3⟩⟩ := hist_run hs S1 ht (by omega) (by omega)
      refine ⟨s2, A', B', by simp [kbRun, e1, e2], by rw [c0, c1, show d1 + (hs.count 1 + 1) = d1 + 1 + hs.count 1 by omega]; exact S2, eA, ?_⟩
      obtain ⟨B2, eB⟩ := eB
      exact ⟨B2 ++ B3, by rw [eB3, eB, List.append_assoc]⟩
end DL

namespace DL
open PySem L2
def KB.mir (s : KB) : KB := ⟨s.ks.reverse, s.ds.reverse, s.cs.map List.reverse⟩
theorem kb_cell {r m : Nat} {s : KB} (S : KbOk r m s) {d : Nat} (hd : d < 2 * r) : ∃ x y, s.cs[d / 2]? = some [x, y] := by
  have hl : d / 2 < s.cs.length := by rw [S.cl]; omega
  obtain ⟨x, y, e, _, _⟩ := S.cs _ (List.getElem_mem hl)
  exact ⟨x, y, by rw [List.getElem?_eq_getElem hl, e]⟩
theorem kb_mir_step {r m : Nat} {s : KB} {h d0 d1 : Nat} (S : KbOk r m s) (ed : s.ds = [d0, d1]) (hh : h ≤ 1) (hd : (if h = 0 then d0 else d1) < 2 * r) : kbStep s.mir (1 - h) = (kbStep s h).map KB.mir := by
  obtain ⟨a, b, ek, _, _⟩ := S.ks
  have : h = 0 ∨ h = 1 := by omega
  rcases this with rfl | rfl
  · obtain ⟨x, y, ec⟩ := kb_cell S (d := d0) (by simpa using hd)
    have ec' : (s.cs.map List.reverse)[d0 / 2]? = some [y, x] := by rw [List.getElem?_map, ec]; rfl
    by_cases ev : d0 % 2 = 0
    · simp [kbStep, KB.mir, ed, ek, ec, ev, List.map_set]
    · simp [kbStep, KB.mir, ed, ek, ec, ev]
  · obtain ⟨x, y, ec⟩ := kb_cell S (d := d1) (by simpa using hd)
    by_cases ev : d1 % 2 = 0
    · simp [kbStep, KB.mir, ed, ek, ec, ev, List.map_set]
    · simp [kbStep, KB.mir, ed, ek, ec, ev]
theorem kb_mir_run {r : Nat} : ∀ (hs : List Int) {m : Nat} {s : KB} {d0 d1 : Nat}, KbOk r m s → s.ds = [d0, d1] → Hands hs → d0 + hs.count 0 ≤ 2 * r → d1 + hs.count 1 ≤ 2 * r →
    kbRun ((hs.map fun h => 1 - h).map D.int) s.mir = (kbRun (hs.map D.int) s).map KB.mir
  | [], m, s, d0, d1, S, ed, _, _, _ => rfl
  | h :: hs, m, s, d0, d1, S, ed, hh, h0, h1 => by
    obtain ⟨g0, g1⟩ := hh h List.mem_cons_self
    have ht : Hands hs := fun x hx => hh x (List.mem_cons_of_mem _ hx)
    have : h = 0 ∨ h = 1 := by omega
    rcases this with rfl | rfl
    · have c0 : List.count (0 : Int) (0 :: hs) = hs.count 0 + 1 := by simp
      have c1 : List.count (1 : Int) (0 :: hs) = hs.count 1 := by simp
      rw [c0] at h0; rw [c1] at h1
      obtain ⟨s1, e1, S1, ed1⟩ := kb_step_ok (h := 0) S ed (by omega) (by simp; omega)
      have e2 := kb_mir_step (h := 0) S ed (by omega) (by simp; omega)
      rw [e1] at e2
      have ih := kb_mir_run hs S1 (by simpa using ed1) ht (by omega) (by omega)
      have e2' : kbStep s.mir 1 = some s1.mir := e2
      simpa [kbRun, e1, e2'] using ih
    · have c0 : List.count (0 : Int) (1 :: hs) = hs.count 0 := by simp
      have c1 : List.count (1 : Int) (1 :: hs) = hs.count 1 + 1 := by simp
      rw [c0] at h0; rw [c1] at h1
      obtain ⟨s1, e1, S1, ed1⟩ := kb_step_ok (h := 1) S ed (by omega) (by simp; omega)
      have e2 := kb_mir_step (h := 1) S ed (by omega) (by simp; omega)
      rw [e1] at e2
      have ih := kb_mir_run hs S1 (by simpa using ed1) ht (by omega) (by omega)
      have e2' : kbStep s.mir 0 = some s1.mir := e2
      simpa [kbRun, e1, e2'] using ih
theorem kb_mir_out {r m : Nat} {s : KB} {d0 d1 : Nat} (S : KbOk r m s) (ed : s.ds = [d0, d1]) : kbOut r s.mir 0 = kbOut r s 1 ∧ kbOut r s.mir 1 = kbOut r s 0 := by
  obtain ⟨a, b, ek, _, _⟩ := S.ks
  constructor <;> simp [kbOut, KB.mir, ed, ek]
/-- two steps of unlike hands that both put, or both look, or of unlike rounds -/
theorem kb_comm {r m : Nat} {s : KB} {d0 d1 : Nat} (S : KbOk r m s) (ed : s.ds = [d0, d1]) (h0 : d0 < 2 * r) (h1 : d1 < 2 * r) (hc : ¬ (d0 / 2 = d1 / 2 ∧ d0 % 2 ≠ d1 % 2)) :
    (kbStep s 0).bind (kbStep · 1) = (kbStep s 1).bind (kbStep · 0) := by
  obtain ⟨a, b, ek, _, _⟩ := S.ks
  obtain ⟨x0, y0, ec0⟩ := kb_cell S h0
  obtain ⟨x1, y1, ec1⟩ := kb_cell S h1
  have l0 : d0 / 2 < s.cs.length := by rw [S.cl]; omega
  have l1 : d1 / 2 < s.cs.length := by rw [S.cl]; omega
  by_cases e : d0 / 2 = d1 / 2
  · rw [e] at ec0 l0
    rw [ec1] at ec0
    simp only [Option.some.injEq, List.cons.injEq, and_true] at ec0
    obtain ⟨rfl, rfl⟩ := ec0
    have hp : d0 % 2 = d1 % 2 := by
      by_cases q : d0 % 2 = d1 % 2
      · exact q
      · exact absurd ⟨e, q⟩ hc
    by_cases ev : d1 % 2 = 0
    · have g1 : s.cs[d1 / 2]'l1 = [x1, y1] := by
        have := List.getElem?_eq_getElem l1
        rw [ec1] at this
        simpa using this.symm
      simp [kbStep, ed, ek, ec1, e, hp, ev, l1, g1]
    · simp [kbStep, ed, ek, ec1, e, hp, ev]
  · have e' : ¬ d1 / 2 = d0 / 2 := fun z => e z.symm
    by_cases ev0 : d0 % 2 = 0 <;> by_cases ev1 : d1 % 2 = 0
    · simp [kbStep, ed, ek, ec0, ec1, e, e', ev0, ev1, List.getElem?_set_ne, List.set_comm _ _ e]
    · simp [kbStep, ed, ek, ec0, ec1, e, e', ev0, ev1, List.getElem?_set_ne]
    · simp [kbStep, ed, ek, ec0, ec1, e, e', ev0, ev1, List.getElem?_set_ne]
    · simp [kbStep, ed, ek, ec0, ec1, e, e', ev0, ev1]
theorem kbRun_app : ∀ (hs ks : List D) (s : KB), kbRun (hs ++ ks) s = (kbRun hs s).bind (kbRun ks)
  | [], ks, s => rfl
  | .int h :: r, ks, s => by
    simp only [List.cons_append, kbRun]
    split
    · cases kbStep s h.toNat with
      | none => rfl
      | some s' => exact kbRun_app r ks s'
    · rfl
  | .non :: r, ks, s => rfl
  | .bl _ :: r, ks, s => rfl
  | .str _ :: r, ks, s => rfl
  | .opq _ :: r, ks, s => rfl
  | .tup _ :: r, ks, s => rfl
  | .lst _ :: r, ks, s => rfl
  | .frl _ :: r, ks, s => rfl
  | .frt _ :: r, ks, s => rfl
  | .dt _ :: r, ks, s => rfl
theorem kb_two (s : KB) (h k : Nat) (hh : h ≤ 1) (hk : k ≤ 1) : kbRun [.int (h : Int), .int (k : Int)] s = (kbStep s h).bind (kbStep · k) := by
  have a1 : (0 : Int) ≤ h ∧ (h : Int) ≤ 1 := by omega
  have a2 : (0 : Int) ≤ k ∧ (k : Int) ≤ 1 := by omega
  simp only [kbRun, if_pos a1, if_pos a2, Int.toNat_natCast]
  cases kbStep s h with
  | none => rfl
  | some s' =>
    show (match kbStep s' k with | some s' => some s' | none => none) = kbStep s' k
    cases kbStep s' k <;> rfl
/-- the same weaving with two of its steps exchanged -/
theorem kb_swap {r m : Nat} {s : KB} {d0 d1 : Nat} (S : KbOk r m s) (ed : s.ds = [d0, d1]) (h0 : d0 < 2 * r) (h1 : d1 < 2 * r) (hc : ¬ (d0 / 2 = d1 / 2 ∧ d0 % 2 ≠ d1 % 2)) (rest : List D) :
    kbRun (.int 0 :: .int 1 :: rest) s = kbRun (.int 1 :: .int 0 :: rest) s := by
  have e1 := kbRun_app [.int 0, .int 1] rest s
  have e2 := kbRun_app [.int 1, .int 0] rest s
  have k1 := kb_two s 0 1 (by omega) (by omega)
  have k2 := kb_two s 1 0 (by omega) (by omega)
  have k1' : kbRun [.int 0, .int 1] s = (kbStep s 0).bind (kbStep · 1) := k1
  have k2' : kbRun [.int 1, .int 0] s = (kbStep s 1).bind (kbStep · 0) := k2
  rw [k1', kb_comm S ed h0 h1 hc, ← k2'] at e1
  exact e1.trans e2.symm
end DL

namespace DL
open PySem L2
theorem kb_step_keep {s s' : KB} {h k : Nat} (e : kbStep s k = some s') (hk : h ≠ k) : s'.ks[h]? = s.ks[h]? ∧ s'.ds[h]? = s.ds[h]? := by
  unfold kbStep at e
  split at e
  · split at e
    · split at e
      · split at e
        · cases e; exact ⟨rfl, List.getElem?_set_ne (fun z => hk z.symm)⟩
        · cases e
      · split at e
        · cases e; exact ⟨List.getElem?_set_ne (fun z => hk z.symm), List.getElem?_set_ne (fun z => hk z.symm)⟩
        · cases e
    · cases e
  · cases e
/-- steps of the other hand alone change nothing of a hand -/
theorem kb_run_keep {h : Nat} : ∀ (hs : List Int) {s s' : KB}, kbRun (hs.map D.int) s = some s' → (h : Int) ∉ hs → s'.ks[h]? = s.ks[h]? ∧ s'.ds[h]? = s.ds[h]?
  | [], s, s', e, _ => by cases e; exact ⟨rfl, rfl⟩
  | k :: hs, s, s', e, hn => by
    rw [List.map_cons] at e
    simp only [kbRun] at e
    split at e
    · rename_i hk
      cases q : kbStep s k.toNat with
      | none => rw [q] at e; cases e
      | some s1 =>
        rw [q] at e
        have ne : h ≠ k.toNat := fun z => hn (by rw [z]; simp [Int.toNat_of_nonneg hk.1])
        obtain ⟨h1, h2⟩ := kb_step_keep q ne
        obtain ⟨g1, g2⟩ := kb_run_keep hs e fun z => hn (List.mem_cons_of_mem _ z)
        exact ⟨g1.trans h1, g2.trans h2⟩
    · cases e
theorem kbOut_of {r : Nat} {s s' : KB} {h : Nat} (h1 : s'.ks[h]? = s.ks[h]?) (h2 : s'.ds[h]? = s.ds[h]?) : kbOut r s' h = kbOut r s h := by
  unfold kbOut
  rw [h2, List.getD_eq_getElem?_getD, List.getD_eq_getElem?_getD, h1]
/-- what a hand knows that saw nothing -/
def towerD (z : Int) : Nat → D
  | 0 => .int z
  | n + 1 => .tup [towerD z n, .non]
theorem tower0 {x y : Int} (hx : 0 ≤ x) : ∀ n : Nat, Spt x y (towerD x n) 0 n 0 true false
  | 0 => .base0 hx
  | n + 1 => by have := (tower0 hx n).lone (y := y); simpa [towerD] using this
theorem tower1 {x y : Int} (hy : 0 ≤ y) : ∀ n : Nat, Spt x y (towerD y n) 1 n (3 ^ n) false true
  | 0 => .base1 hy
  | n + 1 => by
    have := (tower1 hy n).lone (x := x)
    rw [show (3 : Int) * 3 ^ n = 3 ^ (n + 1) by rw [Int.pow_succ]; omega] at this
    exact this
theorem tower_ne (z : Int) (n : Nat) : towerD z n ≠ .non := by cases n <;> simp [towerD]
theorem rep2 {α : Type} (k : Nat) (d : α) : List.replicate (2 * (k + 1)) d = List.replicate (2 * k) d ++ [d, d] := by
  rw [show 2 * (k + 1) = 2 * k + 2 by omega, ← List.replicate_append_replicate]; rfl
theorem lone_run0 (x y : Int) (r : Nat) : ∀ k : Nat, k ≤ r → ∃ cs, kbRun (List.replicate (2 * k) (.int 0)) ⟨[.int x, .int y], [0, 0], List.replicate r [.non, .non]⟩ = some ⟨[towerD x k, .int y], [2 * k, 0], cs⟩ ∧ cs.length = r ∧ ∀ j, j < r → ∃ u, cs[j]? = some [u, .non]
  | 0, _ => ⟨_, rfl, by simp, fun j hj => ⟨.non, by simp [hj]⟩⟩
  | k + 1, hk => by
    obtain ⟨cs, e, hl, hc⟩ := lone_run0 x y r k (by omega)
    obtain ⟨u, eu⟩ := hc k (by omega)
    have e1 : kbStep ⟨[towerD x k, .int y], [2 * k, 0], cs⟩ 0 = some ⟨[towerD x k, .int y], [2 * k + 1, 0], cs.set k [towerD x k, .non]⟩ := by
      simp [kbStep, eu]
    have e2 : kbStep ⟨[towerD x k, .int y], [2 * k + 1, 0], cs.set k [towerD x k, .non]⟩ 0 = some ⟨[towerD x (k + 1), .int y], [2 * k + 2, 0], cs.set k [towerD x k, .non]⟩ := by
      have q : (2 * k + 1) / 2 = k := by omega
      have q2 : (2 * k + 1) % 2 = 1 := by omega
      simp [kbStep, q, q2, towerD, hl, (by omega : k < r)]
    have e3 := kb_two ⟨[towerD x k, .int y], [2 * k, 0], cs⟩ 0 0 (by omega) (by omega)
    refine ⟨cs.set k [towerD x k, .non], ?_, by simp [hl], fun j hj => ?_⟩
    · rw [rep2, kbRun_app, e]
      show kbRun [.int ((0 : Nat) : Int), .int ((0 : Nat) : Int)] _ = _
      rw [e3, e1]
      exact e2
    · by_cases h : j = k
      · subst h; exact ⟨towerD x j, by simp [hl, hj]⟩
      · rw [List.getElem?_set_ne (fun z => h z.symm)]; exact hc j hj
theorem lone_run1 (x y : Int) (r : Nat) : ∀ k : Nat, k ≤ r → ∃ cs, kbRun (List.replicate (2 * k) (.int 1)) ⟨[.int x, .int y], [0, 0], List.replicate r [.non, .non]⟩ = some ⟨[.int x, towerD y k], [0, 2 * k], cs⟩ ∧ cs.length = r ∧ ∀ j, j < r → ∃ u, cs[j]? = some [.non, u]
  | 0, _ => ⟨_, rfl, by simp, fun j hj => ⟨.non, by simp [hj]⟩⟩
  | k + 1, hk => by
    obtain ⟨cs, e, hl, hc⟩ := lone_run1 x y r k (by omega)
    obtain ⟨u, eu⟩ := hc k (by omega)
    have e1 : kbStep ⟨[.int x, towerD y k], [0, 2 * k], cs⟩ 1 = some ⟨[.int x, towerD y k], [0, 2 * k + 1], cs.set k [.non, towerD y k]⟩ := by
      simp [kbStep, eu]
    have e2 : kbStep ⟨[.int x, towerD y k], [0, 2 * k + 1], cs.set k [.non, towerD y k]⟩ 1 = some ⟨[.int x, towerD y (k + 1)], [0, 2 * k + 2], cs.set k [.non, towerD y k]⟩ := by
      have q : (2 * k + 1) / 2 = k := by omega
      have q2 : (2 * k + 1) % 2 = 1 := by omega
      simp [kbStep, q, q2, towerD, hl, (by omega : k < r)]
    have e3 := kb_two ⟨[.int x, towerD y k], [0, 2 * k], cs⟩ 1 1 (by omega) (by omega)
    refine ⟨cs.set k [.non, towerD y k], ?_, by simp [hl], fun j hj => ?_⟩
    · rw [rep2, kbRun_app, e]
      show kbRun [.int ((1 : Nat) : Int), .int ((1 : Nat) : Int)] _ = _
      rw [e3, e1]
      exact e2
    · by_cases h : j = k
      · subst h; exact ⟨towerD y j, by simp [hl, hj]⟩
      · rw [List.getElem?_set_ne (fun z => h z.symm)]; exact hc j hj
end DL

namespace DL
open PySem L2
abbrev ini (r : Nat) (x y : Int) : KB := ⟨[.int x, .int y], [0, 0], List.replicate r [.non, .non]⟩
theorem run_all {r : Nat} {x y : Int} (hx : 0 ≤ x) (hy : 0 ≤ y) {hs : List Int} (hh : Hands hs) (c0 : hs.count 0 ≤ 2 * r) (c1 : hs.count 1 ≤ 2 * r) :
    ∃ s A B, kbRun (hs.map D.int) (ini r x y) = some s ∧ KbOk r hs.length s ∧ s.ds = [hs.count 0, hs.count 1] ∧ Hist x y r (hs.count 0) (hs.count 1) A B s := by
  obtain ⟨s, A, B, k1, S, _⟩ := hist_run (r := r) hs (hist_init hx hy r) hh (by omega) (by omega)
  obtain ⟨s2, k2, S2, _⟩ := kb_run_ok (r := r) hs (kb_init r x y) rfl hh (by omega) (by omega)
  have : some s2 = some s := k2.symm.trans k1
  cases this
  rw [Nat.zero_add] at S2
  rw [Nat.zero_add, Nat.zero_add] at S
  exact ⟨s, A, B, k1, S2, S.ds, S⟩
theorem out_lt {r : Nat} {s : KB} {c0 c1 h : Nat} (ed : s.ds = [c0, c1]) (hh : h ≤ 1) (hn : (if h = 0 then c0 else c1) ≠ 2 * r) : kbOut r s h = .non := by
  unfold kbOut
  rw [ed]
  have : h = 0 ∨ h = 1 := by omega
  rcases this with rfl | rfl
  · rw [if_neg]; simpa using hn
  · rw [if_neg]; simpa using hn
theorem out_full {x y : Int} {r c0 c1 : Nat} {A B : List Et} {s : KB} (S : Hist x y r c0 c1 A B s) {h : Nat} (hh : h ≤ 1) (hf : (if h = 0 then c0 else c1) = 2 * r) : ∃ m f g, Spt x y (kbOut r s h) h r m f g := by
  obtain ⟨e, g, ea, eb, ek⟩ := S.ks
  unfold kbOut
  rw [S.ds, ek]
  have : h = 0 ∨ h = 1 := by omega
  rcases this with rfl | rfl
  · have e0 : c0 = 2 * r := by simpa using hf
    subst e0
    rw [if_pos (show [2 * r, c1][0]? = some (2 * r) from rfl)]
    have := S.ga _ _ ea
    rw [show 2 * r / 2 = r by omega] at this
    exact ⟨_, _, _, this⟩
  · have e0 : c1 = 2 * r := by simpa using hf
    subst e0
    rw [if_pos (show [c0, 2 * r][1]? = some (2 * r) from rfl)]
    have := S.gb _ _ eb
    rw [show 2 * r / 2 = r by omega] at this
    exact ⟨_, _, _, this⟩
theorem Spt.shape {x y : Int} {d : D} {h r : Nat} {m : Int} {f g : Bool} (S : Spt x y d h r m f g) : (∃ i, d = .int i) ∨ ∃ l, d = .tup l := by
  cases S with
  | base0 _ => exact .inl ⟨_, rfl⟩
  | base1 _ => exact .inl ⟨_, rfl⟩
  | lone _ => exact .inr ⟨_, rfl⟩
  | see _ _ _ _ => exact .inr ⟨_, rfl⟩
theorem Kn.eq {n : Nat} {d : D} (h : Kn n d) (hn : n ≤ 60) : eqD d d = some true := by
  obtain ⟨p, h1, h2, h3⟩ := h.py
  exact eqD_self h1 h2 (by omega)
/-- a known thing that is something is no None -/
theorem Kn.some_py {n : Nat} {d : D} (h : Kn n d) (hs : (∃ i, d = .int i) ∨ ∃ l, d = .tup l) : ∃ p, toPy d = some p ∧ p.canLay0 = true ∧ p.depth ≤ n ∧ PyData.eqv p .none = false := by
  obtain ⟨p, h1, h2, h3⟩ := h.py
  refine ⟨p, h1, h2, h3, ?_⟩
  rcases hs with ⟨i, rfl⟩ | ⟨l, rfl⟩
  · unfold toPy at h1; cases h1; unfold PyData.eqv; rfl
  · unfold toPy at h1
    cases q : toPyL l with
    | none => rw [q] at h1; cases h1
    | some ps => rw [q] at h1; cases h1; unfold PyData.eqv; rfl
theorem none_in {n : Nat} {a b : D} (ha : Kn n a) (hb : Kn n b) (hn : n ≤ 60) (sa : (∃ i, a = .int i) ∨ ∃ l, a = .tup l) (sb : (∃ i, b = .int i) ∨ ∃ l, b = .tup l) : inG false .non (.lst [a, b]) = pB false := by
  obtain ⟨p, p1, p2, p3, p4⟩ := ha.some_py sa
  obtain ⟨q, q1, q2, q3, q4⟩ := hb.some_py sb
  have e1 : toPy (.lst [a, b]) = some (.list [p, q]) := by simp [toPy, toPyL, p1, q1]
  unfold inG
  rw [e1]
  simp only [toPy]
  rw [if_pos ⟨shaped_of rfl (by simp [PyData.depth]), shaped_of (by simp [PyData.canLay0, PyData.canLayAll0, p2, q2]) (by simp only [PyData.depth, PyData.depthAll]; omega)⟩]
  simp [p4, q4]
/-- the first part of a weaving runs where the whole does -/
theorem run_pre {pre post : List Int} {s0 s : KB} (h : kbRun ((pre ++ post).map D.int) s0 = some s) : ∃ s1, kbRun (pre.map D.int) s0 = some s1 ∧ kbRun (post.map D.int) s1 = some s := by
  rw [List.map_append, kbRun_app] at h
  cases q : kbRun (pre.map D.int) s0 with
  | none => rw [q] at h; cases h
  | some s1 => rw [q] at h; exact ⟨s1, rfl, h⟩
theorem kbRun_same {hs : List D} {s0 a b : KB} (h1 : kbRun hs s0 = some a) (h2 : kbRun hs s0 = some b) : a = b := by
  rw [h1] at h2; cases h2; rfl
end DL

namespace DL
open PySem L2
/-- what was known so many rounds ahead -/
def aheadD : Nat → D → D
  | 0, d => d
  | n + 1, .tup [a, _] => aheadD n a
  | _ + 1, d => d
/-- the first l0 steps of hand 0, and l1 of hand 1 -/
def fstep : Nat → Nat → List Int → List Int
  | _, _, [] => []
  | l0, l1, h :: hs => if h = 0 then (if 0 < l0 then h :: fstep (l0 - 1) l1 hs else fstep l0 l1 hs) else (if 0 < l1 then h :: fstep l0 (l1 - 1) hs else fstep l0 l1 hs)
theorem fstep_mem : ∀ (hs : List Int) (l0 l1 : Nat) (z : Int), z ∈ fstep l0 l1 hs → z ∈ hs
  | [], _, _, z, h => by simp [fstep] at h
  | h :: hs, l0, l1, z, hz => by
    unfold fstep at hz
    split at hz
    · split at hz
      · rcases List.mem_cons.mp hz with rfl | hz
        · exact List.mem_cons_self
        · exact List.mem_cons_of_mem _ (fstep_mem hs _ _ z hz)
      · exact List.mem_cons_of_mem _ (fstep_mem hs _ _ z hz)
    · split at hz
      · rcases List.mem_cons.mp hz with rfl | hz
        · exact List.mem_cons_self
        · exact List.mem_cons_of_mem _ (fstep_mem hs _ _ z hz)
      · exact List.mem_cons_of_mem _ (fstep_mem hs _ _ z hz)
theorem fstep_len : ∀ (hs : List Int) (l0 l1 : Nat), (fstep l0 l1 hs).length ≤ hs.length
  | [], _, _ => by simp [fstep]
  | h :: hs, l0, l1 => by
    unfold fstep
    have a := fstep_len hs (l0 - 1) l1
    have b := fstep_len hs l0 (l1 - 1)
    have c := fstep_len hs l0 l1
    split <;> split <;> simp only [List.length_cons] <;> omega
theorem fstep_count : ∀ (hs : List Int) (l0 l1 : Nat), Hands hs → (fstep l0 l1 hs).count 0 = min l0 (hs.count 0) ∧ (fstep l0 l1 hs).count 1 = min l1 (hs.count 1)
  | [], _, _, _ => by simp [fstep]
  | h :: hs, l0, l1, hh => by
    have ht : Hands hs := fun z hz => hh z (List.mem_cons_of_mem _ hz)
    obtain ⟨g0, g1⟩ := hh h List.mem_cons_self
    have a := fstep_count hs (l0 - 1) l1 ht
    have b := fstep_count hs l0 (l1 - 1) ht
    have c := fstep_count hs l0 l1 ht
    unfold fstep
    have : h = 0 ∨ h = 1 := by omega
    rcases this with rfl | rfl
    · rw [if_pos rfl]
      have c0 : List.count (0 : Int) (0 :: hs) = hs.count 0 + 1 := by simp
      have c1 : List.count (1 : Int) (0 :: hs) = hs.count 1 := by simp
      rw [c0, c1]
      split
      · have d0 : ∀ l : List Int, List.count (0 : Int) (0 :: l) = l.count 0 + 1 := fun l => by simp
        have d1 : ∀ l : List Int, List.count (1 : Int) (0 :: l) = l.count 1 := fun l => by simp
        rw [d0, d1]; omega
      · omega
    · rw [if_neg (by decide)]
      have c0 : List.count (0 : Int) (1 :: hs) = hs.count 0 := by simp
      have c1 : List.count (1 : Int) (1 :: hs) = hs.count 1 + 1 := by simp
      rw [c0, c1]
      split
      · have d0 : ∀ l : List Int, List.count (0 : Int) (1 :: l) = l.count 0 := fun l => by simp
        have d1 : ∀ l : List Int, List.count (1 : Int) (1 :: l) = l.count 1 + 1 := fun l => by simp
        rw [d0, d1]; omega
      · omega
/-- a run of k rounds beside one of r: what it knows is what the other one knew -/
structure Beside (k : Nat) (s t : KB) (d0 d1 : Nat) : Prop where
  sd : s.ds = [d0, d1]
  td : t.ds = [min d0 (2 * k), min d1 (2 * k)]
  cs : t.cs = s.cs.take k
  ks : ∃ a b a' b', s.ks = [a, b] ∧ t.ks = [a', b'] ∧ a' = aheadD (d0 / 2 - k) a ∧ b' = aheadD (d1 / 2 - k) b
  cl : ∀ c ∈ s.cs, c.length = 2
theorem take_set {α : Type} (xs : List α) (k j : Nat) (v : α) (h : j < k) : (xs.set j v).take k = (xs.take k).set j v := List.take_set
theorem take_set_ge {α : Type} (xs : List α) (k j : Nat) (v : α) (h : k ≤ j) : (xs.set j v).take k = xs.take k := by
  rw [List.take_set, List.set_eq_of_length_le]
  rw [List.length_take]; omega
theorem beside0 {k d0 d1 : Nat} {s t s' : KB} (S : Beside k s t d0 d1) (e : kbStep s 0 = some s') :
    (if d0 < 2 * k then ∃ t', kbStep t 0 = some t' ∧ Beside k s' t' (d0 + 1) d1 else Beside k s' t (d0 + 1) d1) := by
  obtain ⟨a, b, a', b', e1, e2, e3, e4⟩ := S.ks
  have sd := S.sd
  have td := S.td
  have tc := S.cs
  have cl := S.cl
  obtain ⟨ks, ds, cs⟩ := s
  obtain ⟨ks', ds', cs'⟩ := t
  simp only at e1 e2 sd td tc cl
  subst e1 e2 sd td tc
  cases q : cs[d0 / 2]? with
  | none => simp [kbStep, q] at e
  | some c =>
    have cl2 := cl c (List.mem_of_getElem? q)
    obtain ⟨u, v, rfl⟩ : ∃ u v, c = [u, v] := by
      match c, cl2 with
      | [u, v], _ => exact ⟨u, v, rfl⟩
    by_cases lt : d0 < 2 * k
    · rw [if_pos lt]
      have m0 : min d0 (2 * k) = d0 := by omega
      have m1 : min (d0 + 1) (2 * k) = d0 + 1 := by omega
      have z0 : d0 / 2 - k = 0 := by omega
      have z1 : (d0 + 1) / 2 - k = 0 := by omega
      have q' : (cs.take k)[d0 / 2]? = some [u, v] := by rw [List.getElem?_take_of_lt (by omega), q]
      rw [z0] at e3
      have e3' : a' = a := e3
      subst e3'
      by_cases ev : d0 % 2 = 0
      · simp [kbStep, q, ev] at e
        subst e
        refine ⟨⟨[a', b'], [d0 + 1, min d1 (2 * k)], (cs.take k).set (d0 / 2) [a', v]⟩, by simp [kbStep, m0, q', ev], ⟨rfl, by simp [m1], (take_set _ _ _ _ (by omega)).symm, ⟨_, _, _, _, rfl, rfl, by rw [z1]; rfl, e4⟩, fun c hc => ?_⟩⟩
        rcases List.mem_or_eq_of_mem_set hc with hc | rfl
        · exact cl c hc
        · rfl
      · simp [kbStep, q, ev] at e
        subst e
        exact ⟨⟨[.tup [a', v], b'], [d0 + 1, min d1 (2 * k)], cs.take k⟩, by simp [kbStep, m0, q', ev], ⟨rfl, by simp [m1], rfl, ⟨_, _, _, _, rfl, rfl, by rw [z1]; rfl, e4⟩, cl⟩⟩
    · rw [if_neg lt]
      have m1 : min (d0 + 1) (2 * k) = min d0 (2 * k) := by omega
      by_cases ev : d0 % 2 = 0
      · simp [kbStep, q, ev] at e
        subst e
        refine ⟨rfl, by simp [m1], (take_set_ge _ _ _ _ (by omega)).symm, ⟨_, _, _, _, rfl, rfl, by rw [show (d0 + 1) / 2 - k = d0 / 2 - k by omega]; exact e3, e4⟩, fun c hc => ?_⟩
        rcases List.mem_or_eq_of_mem_set hc with hc | rfl
        · exact cl c hc
        · rfl
      · simp [kbStep, q, ev] at e
        subst e
        exact ⟨rfl, by simp [m1], rfl, ⟨_, _, _, _, rfl, rfl, by rw [show (d0 + 1) / 2 - k = (d0 / 2 - k) + 1 by omega]; exact e3, e4⟩, cl⟩
theorem beside1 {k d0 d1 : Nat} {s t s' : KB} (S : Beside k s t d0 d1) (e : kbStep s 1 = some s') :
    (if d1 < 2 * k then ∃ t', kbStep t 1 = some t' ∧ Beside k s' t' d0 (d1 + 1) else Beside k s' t d0 (d1 + 1)) := by
  obtain ⟨a, b, a', b', e1, e2, e3, e4⟩ := S.ks
  have sd := S.sd
  have td := S.td
  have tc := S.cs
  have cl := S.cl
  obtain ⟨ks, ds, cs⟩ := s
  obtain ⟨ks', ds', cs'⟩ := t
  simp only at e1 e2 sd td tc cl
  subst e1 e2 sd td tc
  cases q : cs[d1 / 2]? with
  | none => simp [kbStep, q] at e
  | some c =>
    have cl2 := cl c (List.mem_of_getElem? q)
    obtain ⟨u, v, rfl⟩ : ∃ u v, c = [u, v] := by
      match c, cl2 with
      | [u, v], _ => exact ⟨u, v, rfl⟩
    by_cases lt : d1 < 2 * k
    · rw [if_pos lt]
      have m0 : min d1 (2 * k) = d1 := by omega
      have m1 : min (d1 + 1) (2 * k) = d1 + 1 := by omega
      have z0 : d1 / 2 - k = 0 := by omega
      have z1 : (d1 + 1) / 2 - k = 0 := by omega
      have q' : (cs.take k)[d1 / 2]? = some [u, v] := by rw [List.getElem?_take_of_lt (by omega), q]
      rw [z0] at e4
      have e4' : b' = b := e4
      subst e4'
      by_cases ev : d1 % 2 = 0
      · simp [kbStep, q, ev] at e
        subst e
        refine ⟨⟨[a', b'], [min d0 (2 * k), d1 + 1], (cs.take k).set (d1 / 2) [u, b']⟩, by simp [kbStep, m0, q', ev], ⟨rfl, by simp [m1], (take_set _ _ _ _ (by omega)).symm, ⟨_, _, _, _, rfl, rfl, e3, by rw [z1]; rfl⟩, fun c hc => ?_⟩⟩
        rcases List.mem_or_eq_of_mem_set hc with hc | rfl
        · exact cl c hc
        · rfl
      · simp [kbStep, q, ev] at e
        subst e
        exact ⟨⟨[a', .tup [b', u]], [min d0 (2 * k), d1 + 1], cs.take k⟩, by simp [kbStep, m0, q', ev], ⟨rfl, by simp [m1], rfl, ⟨_, _, _, _, rfl, rfl, e3, by rw [z1]; rfl⟩, cl⟩⟩
    · rw [if_neg lt]
      have m1 : min (d1 + 1) (2 * k) = min d1 (2 * k) := by omega
      by_cases ev : d1 % 2 = 0
      · simp [kbStep, q, ev] at e
        subst e
        refine ⟨rfl, by simp [m1], (take_set_ge _ _ _ _ (by omega)).symm, ⟨_, _, _, _, rfl, rfl, e3, by rw [show (d1 + 1) / 2 - k = d1 / 2 - k by omega]; exact e4⟩, fun c hc => ?_⟩
        rcases List.mem_or_eq_of_mem_set hc with hc | rfl
        · exact cl c hc
        · rfl
      · simp [kbStep, q, ev] at e
        subst e
        exact ⟨rfl, by simp [m1], rfl, ⟨_, _, _, _, rfl, rfl, e3, by rw [show (d1 + 1) / 2 - k = (d1 / 2 - k) + 1 by omega]; exact e4⟩, cl⟩
theorem beside_run {k : Nat} : ∀ (hs : List Int) {s t s' : KB} {d0 d1 : Nat}, Hands hs → Beside k s t d0 d1 → kbRun (hs.map D.int) s = some s' →
    ∃ t', kbRun ((fstep (2 * k - d0) (2 * k - d1) hs).map D.int) t = some t' ∧ Beside k s' t' (d0 + hs.count 0) (d1 + hs.count 1)
  | [], s, t, s', d0, d1, _, S, e => by cases e; exact ⟨t, rfl, S⟩
  | h :: hs, s, t, s', d0, d1, hh, S, e => by
    obtain ⟨g0, g1⟩ := hh h List.mem_cons_self
    have ht : Hands hs := fun z hz => hh z (List.mem_cons_of_mem _ hz)
    have : h = 0 ∨ h = 1 := by omega
    rcases this with rfl | rfl
    · have c0 : List.count (0 : Int) (0 :: hs) = hs.count 0 + 1 := by simp
      have c1 : List.count (1 : Int) (0 :: hs) = hs.count 1 := by simp
      rw [List.map_cons] at e
      simp only [kbRun] at e
      rw [if_pos (by decide)] at e
      cases q : kbStep s (0 : Int).toNat with
      | none => rw [q] at e; cases e
      | some s1 =>
        rw [q] at e
        have b := beside0 S q
        rw [c0, c1, show d0 + (hs.count 0 + 1) = d0 + 1 + hs.count 0 by omega]
        unfold fstep
        rw [if_pos rfl]
        by_cases lt : d0 < 2 * k
        · rw [if_pos lt] at b
          obtain ⟨t1, b1, b2⟩ := b
          obtain ⟨t', r1, r2⟩ := beside_run hs ht b2 e
          refine ⟨t', ?_, r2⟩
          rw [if_pos (by omega), List.map_cons]
          simp only [kbRun]
          rw [if_pos (by decide), show (0 : Int).toNat = 0 from rfl, b1]
          rw [show 2 * k - d0 - 1 = 2 * k - (d0 + 1) by omega]
          exact r1
        · rw [if_neg lt] at b
          obtain ⟨t', r1, r2⟩ := beside_run hs ht b e
          refine ⟨t', ?_, r2⟩
          rw [if_neg (by omega), show 2 * k - d0 = 2 * k - (d0 + 1) by omega]
          exact r1
    · have c0 : List.count (0 : Int) (1 :: hs) = hs.count 0 := by simp
      have c1 : List.count (1 : Int) (1 :: hs) = hs.count 1 + 1 := by simp
      rw [List.map_cons] at e
      simp only [kbRun] at e
      rw [if_pos (by decide)] at e
      cases q : kbStep s (1 : Int).toNat with
      | none => rw [q] at e; cases e
      | some s1 =>
        rw [q] at e
        have b := beside1 S q
        rw [c0, c1, show d1 + (hs.count 1 + 1) = d1 + 1 + hs.count 1 by omega]
        unfold fstep
        rw [if_neg (by decide)]
        by_cases lt : d1 < 2 * k
        · rw [if_pos lt] at b
          obtain ⟨t1, b1, b2⟩ := b
          obtain ⟨t', r1, r2⟩ := beside_run hs ht b2 e
          refine ⟨t', ?_, r2⟩
          rw [if_pos (by omega), List.map_cons]
          simp only [kbRun]
          rw [if_pos (by decide), show (1 : Int).toNat = 1 from rfl, b1]
          rw [show 2 * k - d1 - 1 = 2 * k - (d1 + 1) by omega]
          exact r1
        · rw [if_neg lt] at b
          obtain ⟨t', r1, r2⟩ := beside_run hs ht b e
          refine ⟨t', ?_, r2⟩
          rw [if_neg (by omega), show 2 * k - d1 = 2 * k - (d1 + 1) by omega]
          exact r1
theorem beside_init {r k : Nat} (x y : Int) (h : k ≤ r) : Beside k (ini r x y) (ini k x y) 0 0 where
  sd := rfl
  td := by simp
  cs := by simp [List.take_replicate, Nat.min_eq_left h]
  ks := ⟨_, _, _, _, rfl, rfl, by rw [show 0 / 2 - k = 0 by omega]; rfl, by rw [show 0 / 2 - k = 0 by omega]; rfl⟩
  cl := fun c hc => by rw [(List.mem_replicate.mp hc).2]; rfl
/-- the first k rounds alone of a whole weaving -/
theorem first_rounds {r k : Nat} {x y : Int} {hs : List Int} {s : KB} (hk : k ≤ r) (hh : Hands hs) (c0 : hs.count 0 = 2 * r) (c1 : hs.count 1 = 2 * r) (e : kbRun (hs.map D.int) (ini r x y) = some s) :
    ∃ t, kbRun ((fstep (2 * k) (2 * k) hs).map D.int) (ini k x y) = some t ∧ kbOut k t 0 = aheadD (r - k) (kbOut r s 0) ∧ kbOut k t 1 = aheadD (r - k) (kbOut r s 1) := by
  obtain ⟨t, h1, S⟩ := beside_run (k := k) hs hh (beside_init x y hk) e
  obtain ⟨a, b, a', b', e1, e2, e3, e4⟩ := S.ks
  have sd := S.sd
  have td := S.td
  rw [c0, c1] at sd td
  rw [c0] at e3
  rw [c1] at e4
  have q : (0 + 2 * r) / 2 - k = r - k := by omega
  rw [q] at e3 e4
  refine ⟨t, h1, ?_, ?_⟩
  · simp [kbOut, sd, td, e1, e2, e3, show 2 * k ≤ 2 * r by omega]
  · simp [kbOut, sd, td, e1, e2, e4, show 2 * k ≤ 2 * r by omega]
end DL

namespace DL
open PySem L2
/-- what both hands know behind a whole weaving, and knew one round ahead -/
structure Last (x y : Int) (r : Nat) (w0 w1 l0 l1 b0 b1 : D) (M0 M1 m0 m1 : Int) : Prop where
  e0 : w0 = .tup [l0, b0]
  e1 : w1 = .tup [l1, b1]
  p0 : ∃ f g, Spt x y w0 0 (r + 1) M0 f g
  p1 : ∃ f g, Spt x y w1 1 (r + 1) M1 f g
  q0 : ∃ f g, Spt x y l0 0 r m0 f g
  q1 : ∃ f g, Spt x y l1 1 r m1 f g
  s0 : (b0 = .non ∧ M0 = 3 * m0) ∨ (b0 = l1 ∧ M0 = 3 * m0 + 2 * (m1 - m0))
  s1 : (b1 = .non ∧ M1 = 3 * m1) ∨ (b1 = l0 ∧ M1 = 3 * m1 + 2 * (m0 - m1))
  nb : m1 - m0 = 1 ∨ m0 - m1 = 1
  nB : M1 - M0 = 1 ∨ M0 - M1 = 1
theorem hist_last {x y : Int} {r : Nat} {A B : List Et} {s : KB} (S : Hist x y (r + 1) (2 * (r + 1)) (2 * (r + 1)) A B s) : ∃ l0 l1 b0 b1 M0 M1 m0 m1, Last x y r (kbOut (r + 1) s 0) (kbOut (r + 1) s 1) l0 l1 b0 b1 M0 M1 m0 m1 := by
  obtain ⟨e', g', ea, eb, ek⟩ := S.ks
  have d2 : 2 * (r + 1) / 2 = r + 1 := by omega
  rw [d2] at ea eb
  have la := S.la
  have lb := S.lb
  rw [d2] at la lb
  have ga : A[r]? = some A[r] := List.getElem?_eq_getElem (by omega)
  have gb : B[r]? = some B[r] := List.getElem?_eq_getElem (by omega)
  generalize A[r]'(by omega) = e at ga
  generalize B[r]'(by omega) = g at gb
  have o0 : kbOut (r + 1) s 0 = e'.d := by simp [kbOut, S.ds, ek]
  have o1 : kbOut (r + 1) s 1 = g'.d := by simp [kbOut, S.ds, ek]
  rw [o0, o1]
  have P0 := S.ga _ _ ea
  have P1 := S.gb _ _ eb
  have Q0 := S.ga _ _ ga
  have Q1 := S.gb _ _ gb
  have nb := S.nb _ _ _ ga gb
  have nB := S.nb _ _ _ ea eb
  have sa := S.sa _ _ _ ga ea
  have sb := S.sb _ _ _ gb eb
  have A0 : ∃ b0, e'.d = .tup [e.d, b0] ∧ ((b0 = .non ∧ e'.m = 3 * e.m) ∨ (b0 = g.d ∧ e'.m = 3 * e.m + 2 * (g.m - e.m))) := by
    rcases sa with ⟨h1, h2, _⟩ | ⟨u, h0, h1, h2, _⟩
    · exact ⟨_, h1, .inl ⟨rfl, h2⟩⟩
    · rw [gb] at h0; cases h0
      exact ⟨_, h1, .inr ⟨rfl, h2⟩⟩
  have A1 : ∃ b1, g'.d = .tup [g.d, b1] ∧ ((b1 = .non ∧ g'.m = 3 * g.m) ∨ (b1 = e.d ∧ g'.m = 3 * g.m + 2 * (e.m - g.m))) := by
    rcases sb with ⟨h1, h2, _⟩ | ⟨u, h0, h1, h2, _⟩
    · exact ⟨_, h1, .inl ⟨rfl, h2⟩⟩
    · rw [ga] at h0; cases h0
      exact ⟨_, h1, .inr ⟨rfl, h2⟩⟩
  obtain ⟨b0, u1, u2⟩ := A0
  obtain ⟨b1, v1, v2⟩ := A1
  exact ⟨e.d, g.d, b0, b1, e'.m, g'.m, e.m, g.m, u1, v1, ⟨_, _, P0⟩, ⟨_, _, P1⟩, ⟨_, _, Q0⟩, ⟨_, _, Q1⟩, u2, v2, nb, nB⟩
/-- x not in (None, y): false of None and of y -/
theorem notIn_none {n : Nat} {b l : D} (hl : Kn n l) (hn : n ≤ 60) (h : b = .non ∨ b = l) : inG true b (.tup [.non, l]) = pB false := by
  obtain ⟨q, q1, q2, q3⟩ := hl.py
  have e1 : toPy (.tup [.non, l]) = some (.tuple [.none, q]) := by simp [toPy, toPyL, q1]
  have sh : SeqAt.shaped (.list [.none, q]) = true := shaped_of (by simp [PyData.canLay0, PyData.canLayAll0, q2]) (by simp only [PyData.depth, PyData.depthAll]; omega)
  unfold inG
  rw [e1]
  rcases h with rfl | rfl
  · simp only [toPy]
    rw [if_pos ⟨shaped_of rfl (by simp [PyData.depth]), sh⟩]
    have : PyData.eqv .none .none = true := SeqAt.eqv_refl _ rfl
    simp [this]
  · rw [q1]
    dsimp only
    rw [if_pos ⟨shaped_of q2 (by omega), sh⟩]
    have : PyData.eqv q q = true := SeqAt.eqv_refl _ q2
    simp [this]
theorem notIn_three {i : Int} (h : i = -2 ∨ i = 0 ∨ i = 2) : inG true (.int i) (.tup [.int (-2), .int 0, .int 2]) = pB false := by
  have e1 : toPy (.tup [.int (-2), .int 0, .int 2]) = some (.tuple [.int (-2), .int 0, .int 2]) := by simp [toPy, toPyL]
  have sh : SeqAt.shaped (.list [.int (-2), .int 0, .int 2]) = true := shaped_of rfl (by simp [PyData.depth, PyData.depthAll])
  have si : SeqAt.shaped (.int i) = true := shaped_of rfl (by simp [PyData.depth])
  unfold inG
  rw [e1]
  simp only [toPy]
  rw [if_pos ⟨si, sh⟩]
  have ev : ∀ a b : Int, PyData.eqv (.int a) (.int b) = (a == b) := fun a b => by unfold PyData.eqv; rfl
  rcases h with rfl | rfl | rfl <;> simp [ev]
theorem Spt.kn {x y : Int} {d : D} {h r : Nat} {m : Int} {f g : Bool} (S : Spt x y d h r m f g) : Kn r d := by
  induction S with
  | base0 _ => trivial
  | base1 _ => trivial
  | @lone a h r m f g _ ih => exact ⟨ih, by cases r <;> trivial⟩
  | see _ _ _ _ ih1 ih2 => exact ⟨ih1, ih2⟩
theorem Spt.eq {x y : Int} {d : D} {h r : Nat} {m : Int} {f g : Bool} (S : Spt x y d h r m f g) (hr : r ≤ 60) : eqD d d = some true := S.kn.eq hr
end DL

namespace DL
open PySem PySem.Spec PyProof.Rows L2
def endsAs (i : Nat) (D : Ends) : Ends := { nx := fun t G => D.nx (t.set i none) G, rt := D.rt, bk := fun t G => D.bk (t.set i none) G, ct := fun t G => D.ct (t.set i none) G }
/-- what is asked of an exception that the first clause takes -/
def wFst (K : PySem.W.Frag) (c : Value) (i : Nat) (ts : Addr → Value → Option Addr → TS) (D : Ends) : WX := fun cl dd st hp =>
  PySem.W.exmOne K cl c = some true ∧ ∀ ax, hp ax = none → ts ax cl dd (endsAs i D) (st.set i (some (.ref ax))) hp
section
variable {X : Cx} {x n : Str} {c : Value} {i : Nat} {body suite : List Stmt} {b₀ : Stmt} {hds : List ExceptHandler} {np pos pos' : Pos} {tb : WX → TS} {ts : Addr → Value → Option Addr → TS}
theorem ps_try_fst (hst : X.stack = X.env :: X.outer) (hfm : X.env.frame = some X.env.locals) (nd : X.N.Nodup) (hsl : X.N[i]? = some n) (hlc : X.env.kindOf n = some .local) (hcl : Names X x c)
    (hbody : ∀ (Wi : WX) (pl : List (Addr × Obj)) (xx : Value → Shared → Prop), Takes (X.tr pl xx) Wi → PassesOwn (model X.prog X.w) X.A X.env xx → PSs (X.tr pl xx) body (tb Wi))
    (hsuite : ∀ (ax : Addr) (ob : Obj) (cl : Value) (dd : Option Addr) (pl : List (Addr × Obj)), Zc cl dd ob → (∃ fv, ob.data = .fields fv) → PSs (X.suite ax ((ax, ob) :: pl)) (b₀ :: suite) (ts ax cl dd)) :
    PS X (.Try body (.ExceptHandler (some (.Name x np)) (some n) (b₀ :: suite) pos' :: hds) [] [] pos) (fun D st hp => tb (wFst X.K c i ts D) D st hp) := by
  constructor
  intro pins sh st hp D inv want
  have good := inv.ok
  have frm : X.A.frames = some (X.env :: X.outer) := good.frames.trans (by rw [hst])
  apply wpAny_Try_except
  let clauses : List ExceptHandler := .ExceptHandler (some (.Name x np)) (some n) (b₀ :: suite) pos' :: hds
  let away : Value → Shared → Prop := fun ev sa => wpAny (model X.prog X.w) X.A (noteFrame ev X.env) (fun _ sb => wpAny (model X.prog X.w) X.A (setFlight ev none) (fun _ sc => wpAny (model X.prog X.w) X.A (handleBy ev X.env clauses) (SP X pins D) X.xe sc) X.xe sb) X.xe sa
  have caught : Takes (X.tr (X.pn ++ pins) away) (wFst X.K c i ts D) := by
    rintro uv sh2 ⟨ax, Bg, shI, pl2, st2, hp2, cl, dd, rfl, inv2', gr, ups, sky0, noA, sameOs, bare, match1, suiteWant⟩
    have inv2 : Inv X pins st2 hp2 shI := Inv.ofTry inv2' good
    have sky1 : Sky Bg (X.env :: X.outer) ax (Zc cl dd) X.env.locals sh2.heap := hst ▸ sky0
    show wpAny (model X.prog X.w) X.A (noteFrame (.ref ax) X.env) _ _ _
    apply Sky.land Zc.steady frm hfm sky1
    intro hA flA upA
    have invA : Inv X pins st2 hp2 { sh2 with heap := hA } := inv2.landed gr flA.1 (ups.trans upA) sameOs bare
    obtain ⟨obA, fvA, getA, zA, datA⟩ := flA.there
    have offFrames : ax ∉ frs (X.env :: X.outer) := by
      intro mem
      obtain ⟨_, ob', get', notF⟩ := (flA.2.2.1).mem mem
      rw [getA] at get'
      cases get'
      exact notF _ datA
    have notLoc : ax ≠ X.env.locals := by
      intro z
      exact offFrames (List.mem_filterMap.mpr ⟨X.env, List.mem_cons_self, by rw [hfm, z]⟩)
    have notFs : ax ∉ X.fs := by
      intro mem
      obtain ⟨en, inEn, q⟩ := List.mem_filterMap.mp mem
      exact offFrames (List.mem_filterMap.mpr ⟨en, List.mem_cons_of_mem _ inEn, q⟩)
    have suA := Inv.suite invA getA datA noA notLoc notFs
    apply wpAny_handleBy_cons (codeAny_handlers_test ?_) (fun q => by cases q)
    have typ : PySem.W.Looks (model X.prog X.w) hA (typeOf (.ref ax)) cl := by
      intro A' Q' E' s' k' q'
      exact wpAny_typeOf_ref (k' _ _ getA) (by rw [zA.1]; exact q')
    have isX := PySem.W.exm_one (M := model X.prog X.w) invA.kIn typ match1
    have named : ∀ {Q' E' : Value → Shared → Prop}, Q' c { sh2 with heap := hA } → wpAny (model X.prog X.w) (X.A.mark (some (.ref ax))) (eval (.Name x np) X.env) Q' E' { sh2 with heap := hA } := by
      intro Q' E' q'
      rcases hcl with ⟨isG, nDbg, inMod | ⟨notMod, inB, nNm⟩⟩
      · exact ld_glob (X := X.suite ax ((ax, obA) :: (X.pn ++ pins))) suA isG inMod q' nDbg
      · exact ld_blt (X := X.suite ax ((ax, obA) :: (X.pn ++ pins))) suA isG notMod inB q' nNm nDbg
    apply named
    apply isX.here
    apply codeAny_handlers_suite_as
    apply HandSPX.lands_againZ flA
    intro hB flB upB
    have invB : Inv X pins st2 hp2 { sh2 with heap := hB } := inv2.landed gr flB.1 ((ups.trans upA).trans upB) sameOs bare
    obtain ⟨obB, fvB, getB, zB, datB⟩ := flB.there
    have suB := Inv.suite invB getB datB noA notLoc notFs
    apply store_ok (X := X.suite ax ((ax, obB) :: (X.pn ++ pins))) (v := .ref ax) suB nd hsl (.inl hlc) rfl ?_ (.inr hlc)
    intro shC suC
    apply wpAny_mono ((hsuite ax obB cl dd (X.pn ++ pins) zB ⟨_, datB⟩).run [] shC _ hp2 _ suC (suiteWant ax noA)) ?_ (fun _ _ z => z.elim)
    intro flow shD fin
    have tidy : ∀ {stE : L2.St} {hpE : Hp} {Q' : Shared → Prop}, Inv (X.suite ax ((ax, obB) :: (X.pn ++ pins))) [] stE hpE shD → (∀ shF, Inv X pins (stE.set i none) hpE shF → Q' shF) →
        wpAny (model X.prog X.w) X.A (do bindName X.env n .none; unbindBehindTheSuite X.env n pos') (fun _ shF => Q' shF) X.xe shD := by
      intro stE hpE Q' suE q'
      exact gone_ok (Inv.unsuite suE good) nd hsl hlc q'
    cases flow with
    | next => obtain ⟨stE, hpE, suE, qE⟩ := fin; exact tidy suE fun shF iF => ⟨_, _, iF, qE⟩
    | brk => obtain ⟨stE, hpE, suE, qE⟩ := fin; exact tidy suE fun shF iF => ⟨_, _, iF, qE⟩
    | cont => obtain ⟨stE, hpE, suE, qE⟩ := fin; exact tidy suE fun shF iF => ⟨_, _, iF, qE⟩
    | ret rv => obtain ⟨vE, stE, hpE, suE, rE, qE⟩ := fin; exact tidy suE fun shF iF => ⟨_, _, _, iF, rE, qE⟩
  have ran := (hbody (wFst X.K c i ts D) (X.pn ++ pins) away caught PassesOwn.looking).run [] sh st hp D (Inv.toTry inv away) want
  apply wpAny_mono ran ?_ (fun _ _ z => z)
  intro flow shD fin
  cases flow with
  | next => obtain ⟨stE, hpE, iE, qE⟩ := fin; exact wpAny_execs_nil ⟨stE, hpE, Inv.ofTry iE good, qE⟩
  | brk => obtain ⟨stE, hpE, iE, qE⟩ := fin; exact ⟨stE, hpE, Inv.ofTry iE good, qE⟩
  | cont => obtain ⟨stE, hpE, iE, qE⟩ := fin; exact ⟨stE, hpE, Inv.ofTry iE good, qE⟩
  | ret rv => obtain ⟨vE, stE, hpE, iE, rE, qE⟩ := fin; exact ⟨vE, stE, hpE, Inv.ofTry iE good, rE, qE⟩
end
end DL

namespace DL
open PySem L2
def trE (tr : Value → Value) (E : XK) : XK := fun c d H => E (tr c) d H
/-- a def that may raise -/
def spX (tr : Value → Value) (K : PySem.W.Frag) (G : List SV → RF) : Sp := fun vs H Q E => spD K G vs H Q (trE tr E)
def raiseS (c : Value) : En → RS := fun e => .exc ⟨c, []⟩ e
/-- a call of a def that never raises, in a def that may -/
def callZ (G : List SV → RF) (fa : En → R (List Opd)) : En → R SV := bindR fa fun os e => match callD G os e with
  | .ok sv e' => .ok sv e'
  | _ => .stuck
noncomputable def anyA (g : Addr → RS) : RS := open Classical in if ∀ a, g a = g 0 then g 0 else .stuck
theorem anyA_const {g : Addr → RS} {r : RS} (h : ∀ a, g a = r) : anyA g = r := by
  unfold anyA
  rw [if_pos (fun a => (h a).trans (h 0).symm)]
  exact h 0
theorem anyA_at {g : Addr → RS} (h : anyA g ≠ .stuck) (a : Addr) : anyA g = g a := by
  unfold anyA at h ⊢
  by_cases q : ∀ a, g a = g 0
  · rw [if_pos q]; exact (q a).symm
  · rw [if_neg q] at h; exact absurd rfl h
def wipeR (i : Nat) : RS → RS
  | .nx e => .nx (e.set i none)
  | .bk e => .bk (e.set i none)
  | .ct e => .ct (e.set i none)
  | .ret sv e => .ret sv (e.set i none)
  | _ => .stuck
/-- try: what f makes, then k / except .. as slot i: suite -/
noncomputable def tryE (f : En → R SV) (k : SV → En → RS) (sub : Value → Option Bool) (i : Nat) (suite : Addr → Value → En → RS) : En → RS := fun e => match f e with
  | .ok sv e' => k sv e'
  | .exc x e' => if sub x.cls = some true ∧ x.fs = [] ∧ i < e'.length then anyA (fun a => wipeR i (suite a x.cls (e'.set i (some ⟨.p, .opq (.ref a)⟩)))) else .stuck
  | .stuck => .stuck
/-- isinstance(e, c), e the caught exception, of the sign s, in slot i -/
def isxE (isub : Value → Value → Option Bool) (i : Nat) (a : Addr) (s c : Value) : En → R SV := fun e => match e.sv i with
  | some ⟨.p, .opq (.ref b)⟩ => if b = a then (match isub s c with | some r => .ok ⟨.p, .bl r⟩ e | none => .stuck) else .stuck
  | _ => .stuck
section
variable {K : PySem.W.Frag} {E : XK} {tr : Value → Value} {F : Fm} {env : En} {σ : St} {H : Hp} {W : List Addr} {ts : TS} {t tk : TA}
theorem spX_len {np n : Nat} {body : En → RS} {vs : List V} {Q : VK} (h : spX tr K (defG np n body) vs H Q E) : vs.length = np :=
  spD_len (E := trE tr E) (fun args ne => by unfold defG; rw [if_neg ne]) h
theorem spX_stuck {vs : List V} {Q : VK} (h : spX tr K (fun _ => .stuck) vs H Q E) : False := by
  obtain ⟨args, W, fr, r, p⟩ := h
  exact p
theorem bodyX {body : En → RS} {N : List Str} {np : Nat} {vs : List V} {Q : VK} (hS : SS K (trE tr E) ts body) (hn : np ≤ N.length) (h : spX tr K (defG np N.length body) vs H Q E) : ts { nx := fun _ H' => Q .non H', rt := Q } (L2.start N vs) H := by
  have hl := spX_len h
  refine body_ok (N := N) hS (by omega) ?_
  obtain ⟨args, W, fr, r, p⟩ := h
  have lav : args.length = vs.length := by have := r.len; simpa using this
  refine ⟨args, W, fr, r, ?_⟩
  unfold defG at p
  rw [if_pos (by omega)] at p
  exact p
theorem ss_raise {c : Value} {C : Addr} (h : tr c = .ref C) : SS K (trE tr E) (fun _ σ H => (fun (_ : St) (H : Hp) (Q : XK) => Q (.ref C) none H) σ H fun cls d H' => E cls d H') (raiseS c) := by
  intro F env σ H W T r p
  have := p c none σ H W r (Step.refl H W) ⟨rfl, rfl⟩
  unfold trE at this
  rw [h] at this
  exact this
/-- f(..), f may raise, in a def that may, or where nothing may leave (E0) -/
theorem sf_callX {G : List SV → RF} {fa : En → R (List Opd)} (ha : SA K (trE tr E) t fa) : SF K (trE tr E) (tCall (spX tr K G) [] E t) (callE G fa) := sf_call ha
theorem sf_callX0 {G : List SV → RF} {fa : En → R (List Opd)} (ha : SA K E0 t fa) : SF K E0 (tCall (spX tr K G) [] E0 t) (callE G fa) := sf_call (E := E0) ha
theorem sf_callXS {G : List SV → RF} {fa : En → R (List Opd)} (ha : SA K (trE tr E) t fa) : SF K (trE tr E) (fun σ H Q => t σ H fun vs H1 => spX tr K G vs H1 Q E) (callE G fa) := by
  intro F env σ H W Q r p
  have := sf_call ha F env σ H W Q r p
  unfold tCall at this
  unfold spX
  simpa only [List.append_nil] using this
theorem post_any {α β : Type} {rel : α → Fm → En → St → Hp → List Addr → β → Prop} {E' : XK} {Q : β → Hp → Prop} {a : α} {e : En} (p : Post rel K E F σ H W Q (.ok a e)) : Post rel K E' F σ H W Q (.ok a e) := p
theorem callZ_ok {G : List SV → RF} {os : List Opd} {vs : List V} {Q : VK} (r : Rel K F env σ H W) (ho : RelOs K F σ H W os vs) (p : Post (rV K) K E F σ H W Q (match callD G os env with | .ok sv e' => .ok sv e' | _ => .stuck)) : spD K G vs H Q E0 := by
  refine callD_ok (E := E0) r ho ?_
  cases q : callD G os env with
  | ok sv e => rw [q] at p; exact p
  | exc x e => rw [q] at p; exact p.elim
  | stuck => rw [q] at p; exact p.elim
theorem sf_callZ {G : List SV → RF} {fa : En → R (List Opd)} (ha : SA K E t fa) {E' : XK} : SF K E (tCall (spD0 K G) [] E' t) (callZ G fa) := by
  intro F env σ H W Q r p
  refine Sn.go (t := t) ha r p fun e H W os vs rel s rv p => ?_
  rw [List.append_nil]
  exact callZ_ok rel rv p
theorem sf_callKX {G : List SV → RF} {n m : Nat} {fa fk : En → R (List Opd)} (ha : SA K (trE tr E) t fa) (hk : SA K (trE tr E) tk fk) : SF K (trE tr E) (tCallK (spX tr K G) (gK n m) E t tk) (callE G (appK n m fa fk)) := by
  intro F env σ H W Q r p
  unfold callE appK at p
  rw [show bindR (bindR fa fun a => bindR fk fun b e => if a.length = n ∧ b.length = m then .ok (a ++ b) e else .stuck) (callD G) env = bindR fa (fun a => bindR fk fun b e => if a.length = n ∧ b.length = m then callD G (a ++ b) e else .stuck) env from by
    unfold bindR
    cases fa env with
    | ok a e =>
      dsimp only
      cases fk e with
      | ok b e2 =>
        dsimp only
        by_cases hl : a.length = n ∧ b.length = m
        · rw [if_pos hl, if_pos hl]
        · rw [if_neg hl, if_neg hl]
      | exc x e2 => rfl
      | stuck => rfl
    | exc x e => rfl
    | stuck => rfl] at p
  refine Sn.go (t := t) ha r p fun e1 H1 W1 os vs rel1 s1 rv p => ?_
  refine Sn.go (t := tk) hk rel1 p fun e2 H2 W2 ps ws rel2 s2 ru p => ?_
  by_cases hl : os.length = n ∧ ps.length = m
  · rw [if_pos hl] at p
    have l1 := rv.len
    have l2 := ru.len
    unfold gK
    rw [if_pos ⟨by omega, by omega⟩]
    exact callD_ok rel2 ((rv.step s2).append ru) p
  · rw [if_neg hl] at p; exact p.elim
/-- slot i holds nothing any more -/
theorem Rel.unset (r : Rel K F env σ H W) (i : Nat) : Rel K F (env.set i none) (σ.set i none) H W := by
  by_cases hi : i < env.length
  · refine ⟨by simp [r.len], fun j sw e => ?_, fun j k sj sk a ej ek nj nk e1 e2 => ?_, fun j sw e b => ?_, r.trk, r.frt, r.dis, r.wt⟩
    · rw [En.sv_set hi] at e
      by_cases hj : j = i
      · rw [if_pos hj] at e; cases e
      · rw [if_neg hj] at e
        rw [List.getElem?_set_ne (fun z => hj z.symm)]
        exact r.sl j sw e
    · rw [En.sv_set hi] at ej ek
      by_cases hj : j = i
      · rw [if_pos hj] at ej; cases ej
      · by_cases hk : k = i
        · rw [if_pos hk] at ek; cases ek
        · rw [if_neg hj] at ej; rw [if_neg hk] at ek
          rw [List.getElem?_set_ne (fun z => hj z.symm)] at e1
          rw [List.getElem?_set_ne (fun z => hk z.symm)] at e2
          exact r.inj j k sj sk a ej ek nj nk e1 e2
    · rw [En.sv_set hi] at e
      by_cases hj : j = i
      · rw [if_pos hj] at e; cases e
      · rw [if_neg hj] at e
        rw [List.getElem?_set_ne (fun z => hj z.symm)]
        exact r.bor j sw e b
  · have l := r.len
    rw [List.set_eq_of_length_le (by omega), List.set_eq_of_length_le (by omega)]
    exact r
theorem Rel.forget' (r : Rel K F env σ H W) (i : Nat) : Rel K F (env.set i none) σ H W := by
  by_cases hi : i < env.length
  · exact r.forget hi
  · rw [List.set_eq_of_length_le (by omega)]; exact r
theorem sv_set_none {e : En} {i j : Nat} {sw : SV} (h : En.sv (e.set i none) j = some sw) : e.sv j = some sw := by
  by_cases hi : i < e.length
  · rw [En.sv_set hi] at h
    by_cases hj : j = i
    · rw [if_pos hj] at h; cases h
    · rw [if_neg hj] at h; exact h
  · rw [List.set_eq_of_length_le (by omega)] at h; exact h
theorem post_suite {i : Nat} {T : Ends} {r : RS} (p : PostS K E F H W T (wipeR i r)) : PostS K E0 F H W (endsAs i T) r := by
  cases r with
  | nx e => exact fun σ' H' W' r' s' => p (σ'.set i none) H' W' (r'.unset i) s'
  | bk e => exact fun σ' H' W' r' s' => p (σ'.set i none) H' W' (r'.unset i) s'
  | ct e => exact fun σ' H' W' r' s' => p (σ'.set i none) H' W' (r'.unset i) s'
  | ret sv e => exact fun v σ' H' W' r' s' rv => p v σ' H' W' (r'.forget' i) s' ⟨rv.1, fun np => ⟨(rv.2 np).1, fun j sw ej nj => (rv.2 np).2 j sw (sv_set_none ej) nj⟩⟩
  | exc x e => exact p.elim
  | stuck => exact p.elim
/-- how a try goes on behind its call -/
structure Goes (K : PySem.W.Frag) (k : SV → En → RS) (kt : Ends → St → V → Hp → Prop) : Prop where
  go : ∀ (E : XK) F e σ H W sv v T, Rel K F e σ H W → rV K sv F e σ H W v → PostS K E F H W T (k sv e) → kt T σ v H
theorem goes_ret : Goes K (fun sv e => .ret sv e) (fun D _ v H => D.rt v H) := ⟨fun E F e σ H W sv v T r rv p => p v σ H W r (Step.refl H W) rv⟩
theorem goes_drop : Goes K (fun _ e => .nx e) (fun D σ _ H => D.nx σ H) := ⟨fun E F e σ H W sv v T r rv p => p σ H W r (Step.refl H W)⟩
theorem ss_tryE {te : XK → TE} {tsu : Addr → Value → Option Addr → TS} {f : En → R SV} {k : SV → En → RS} {kt : Ends → St → V → Hp → Prop} {sub : Value → Option Bool} {i : Nat} {suite : Addr → Value → En → RS} {c : Value} {Eo : XK}
    (hf : ∀ E, SF K (trE tr E) (te E) f) (hk : Goes K k kt) (hm : ∀ s, sub s = some true → PySem.W.exmOne K (tr s) c = some true) (hs : ∀ a s, SS K E0 (tsu a (tr s) none) (suite a s)) :
    SS K Eo (fun D σ H => te (WE (wFst K c i tsu D) σ) σ H fun v H1 => kt D σ v H1) (tryE f k sub i suite) := by
  intro F env σ H W T r p
  refine hf (WE (wFst K c i tsu T) σ) F env σ H W _ r ?_
  unfold tryE at p
  cases q : f env with
  | ok sv e =>
    rw [q] at p
    exact fun v H' W' r' s' rv => hk.go Eo F e σ H' W' sv v T r' rv (PostS.from s' p)
  | exc x e =>
    rw [q] at p
    dsimp only at p
    by_cases hc : sub x.cls = some true ∧ x.fs = [] ∧ i < e.length
    · rw [if_pos hc] at p
      intro cc d H' W' r' s' hx
      obtain ⟨h1, h2⟩ := hx
      subst h1
      have hd : d = none := by
        cases d with
        | none => rfl
        | some a => exact absurd hc.2.1 h2.1
      subst hd
      refine ⟨hm _ hc.1, fun ax hax => ?_⟩
      have ns : anyA (fun a => wipeR i (suite a x.cls (e.set i (some ⟨.p, .opq (.ref a)⟩)))) ≠ .stuck := fun z => by rw [z] at p; exact p
      rw [anyA_at ns ax] at p
      refine hs ax x.cls F _ _ H' W' _ (r'.store (sv := ⟨.p, .opq (.ref ax)⟩) (v := .ref ax) hc.2.2 (.inl ⟨rfl, .opq _⟩) (by simp) (fun z => absurd rfl z)) ?_
      exact post_suite (PostS.from s' p)
    · rw [if_neg hc] at p; exact p.elim
  | stuck => rw [q] at p; exact p.elim
/-- isinstance(e, c) in a suite, whatever the class cl and the dict dd of what was caught -/
def rIsA (K : PySem.W.Frag) (cl : Value) (dd : Option Addr) (a : Addr) : List V → Hp → VK → Prop := fun xs H Q => ∃ D, cl = .ref D ∧ dd = none ∧ ExcC K D ∧ rIsE K D a xs H Q
theorem call_isA {X : Cx} (hK : X.K = K) {a : Addr} {cl : Value} {dd : Option Addr} {oe : Obj} {pn : List (Addr × Obj)} (hz : Zc cl dd oe) (hf : ∃ vs, oe.data = .fields vs) : CallR (X.suite a ((a, oe) :: pn)) (.builtin "isinstance") (rIsA K cl dd a) := by
  subst hK
  intro pins s σ H xs us Q I r h
  obtain ⟨D, rfl, rfl, C, q⟩ := h
  exact call_isE C hz hf pins s σ H xs us Q I r q
/-- what stands of the classes of the program: signs, and what they are to each other -/
structure SubOk (K : PySem.W.Frag) (tr : Value → Value) (isub : Value → Value → Option Bool) : Prop where
  at_ : ∀ s c b, isub s c = some b → ∃ D, tr s = .ref D ∧ ExcC K D ∧ PySem.W.kitOne K (.ref D) (tr c) = some b
theorem sf_isx {isub : Value → Value → Option Bool} (S : SubOk K tr isub) {i : Nat} {a : Addr} {s c : Value} {cv : V} (hc : ∀ u, RelV cv u → u = tr c) : SF K E (tCB (rIsA K (tr s) none a) (tCons (tVar i) (tCons (tC cv) tNil))) (isxE isub i a s c) := by
  intro F env σ H W Q r p
  unfold isxE at p
  split at p
  · rename_i b q
    split at p
    · rename_i e
      subst e
      split at p
      · rename_i rb qb
        obtain ⟨D, h1, h2, h3⟩ := S.at_ s c rb qb
        obtain ⟨v, g1, g2⟩ := r.sl i _ q
        have ev : v = .ref b := by
          rcases g2 with ⟨_, g2⟩ | ⟨n, _⟩
          · cases g2; rfl
          · exact absurd rfl n
        subst ev
        exact ⟨_, g1, D, h1, rfl, h2, cv, tr c, rb, rfl, hc, h3, p _ H W r (Step.refl H W) ⟨.inl ⟨rfl, .bl _⟩, fun z => absurd rfl z⟩⟩
      · exact p.elim
    · exact p.elim
  · exact p.elim
end
theorem a_raiseS (c : Value) (e : En) : raiseS c e = .exc ⟨c, []⟩ e := rfl
theorem a_callZ (G : List SV → RF) (fa : En → R (List Opd)) (e : En) : callZ G fa e = (bindR fa fun os e => match callD G os e with
  | .ok sv e' => .ok sv e'
  | _ => .stuck) e := rfl
theorem a_isxE (isub : Value → Value → Option Bool) (i : Nat) (a : Addr) (s c : Value) (e : En) : isxE isub i a s c e = (match e.sv i with
  | some ⟨.p, .opq (.ref b)⟩ => if b = a then (match isub s c with | some r => .ok ⟨.p, .bl r⟩ e | none => .stuck) else .stuck
  | _ => .stuck) := rfl
theorem tryE_ok {f : En → R SV} {k : SV → En → RS} {sub : Value → Option Bool} {i : Nat} {suite : Addr → Value → En → RS} {e e' : En} {sv : SV} (h : f e = .ok sv e') : tryE f k sub i suite e = k sv e' := by unfold tryE; rw [h]
theorem tryE_exc {f : En → R SV} {k : SV → En → RS} {sub : Value → Option Bool} {i : Nat} {suite : Addr → Value → En → RS} {e e' : En} {c : Value} {r : RS} (h : f e = .exc ⟨c, []⟩ e') (hs : sub c = some true) (hi : i < e'.length)
    (hr : ∀ a, wipeR i (suite a c (e'.set i (some ⟨.p, .opq (.ref a)⟩))) = r) : tryE f k sub i suite e = r := by
  unfold tryE
  rw [h]
  dsimp only
  rw [if_pos ⟨hs, rfl, hi⟩]
  exact anyA_const hr
end DL

namespace DL
open PySem L2
/-- d[k], where k is there -/
def dixE (fd fk : En → R Opd) : En → R SV := bindR fd fun o => bindR fk fun k e => match o.get e, (k.get e).bind tkeyD with
  | some (.dt xs), some ks => (match getT xs ks with | some d => .ok ⟨.p, d⟩ e | none => .stuck)
  | _, _ => .stuck
/-- k in d -/
def dinE (fk fd : En → R Opd) : En → R SV := bindR fk fun k => bindR fd fun o e => match o.get e, (k.get e).bind tkeyD with
  | some (.dt xs), some ks => .ok ⟨.p, .bl (getT xs ks).isSome⟩ e
  | _, _ => .stuck
def callPZ (G : List SV → RF) (fa : En → R (List Opd)) : En → R SV := bindR fa fun os e => match pureL os e with
  | some (ds, e') => (match callD G (ds.map Opd.val) e' with
    | .ok sv e2 => .ok sv e2
    | _ => .stuck)
  | none => .stuck
section
variable {K : PySem.W.Frag} {E : XK} {tr : Value → Value} {F : Fm} {env : En} {σ : St} {H : Hp} {W : List Addr} {ta tb te to tl td ty tv : TE} {t : TA}
theorem sf_dix {fd fk : En → R Opd} (hd : SE K E td fd) (hk : SE K E ty fk) : SF K E (tDGet td ty) (dixE fd fk) := by
  intro F env σ H W Q rel p
  refine Sn.go (t := td) hd rel p fun e1 H1 W1 o v rel1 s1 rv p => ?_
  refine Sn.go (t := ty) hk rel1 p fun e2 H2 W2 k w rel2 s2 rk p => ?_
  have rv2 := RelO.step s2 rv
  cases q1 : o.get e2 with
  | none => rw [q1] at p; exact p.elim
  | some d2 =>
    cases q3 : k.get e2 with
    | none => rw [q1, q3] at p; cases d2 <;> exact p.elim
    | some kd =>
      cases d2 with
      | dt xs =>
        cases qk : tkeyD kd with
        | none => rw [q1, q3, show (some kd).bind tkeyD = tkeyD kd from rfl, qk] at p; exact p.elim
        | some ks =>
          rw [q1, q3, show (some kd).bind tkeyD = tkeyD kd from rfl, qk] at p
          dsimp only at p
          obtain ⟨b, rfl, hb⟩ := tkey_ok (rel2.get rk q3) qk
          obtain ⟨a', ys', e', g2', g3'⟩ := rd_dt (rel2.get rv2 q1)
          cases e'
          obtain ⟨n1, n2⟩ := g3'.val ks
          cases qg : getT xs ks with
          | none => rw [qg] at p; exact p.elim
          | some d =>
            rw [qg] at p
            obtain ⟨v, m1, m2⟩ := n2 d qg
            have g := DGet.t g2' hb
            rw [m1] at g
            exact ⟨a', v, rfl, g, p _ H2 W2 rel2 (Step.refl _ _) ⟨.inl ⟨rfl, m2⟩, fun z => absurd rfl z⟩⟩
      | _ => rw [q1, q3] at p; exact p.elim
theorem sf_din {fd fk : En → R Opd} (hk : SE K E ty fk) (hd : SE K E td fd) : SF K E (tDIn ty td) (dinE fk fd) := by
  intro F env σ H W Q rel p
  refine Sn.go (t := ty) hk rel p fun e1 H1 W1 k w rel1 s1 rk p => ?_
  refine Sn.go (t := td) hd rel1 p fun e2 H2 W2 o v rel2 s2 rv p => ?_
  have rk2 := RelO.step s2 rk
  cases q1 : o.get e2 with
  | none => rw [q1] at p; exact p.elim
  | some d2 =>
    cases q3 : k.get e2 with
    | none => rw [q1, q3] at p; cases d2 <;> exact p.elim
    | some kd =>
      cases d2 with
      | dt xs =>
        cases qk : tkeyD kd with
        | none => rw [q1, q3, show (some kd).bind tkeyD = tkeyD kd from rfl, qk] at p; exact p.elim
        | some ks =>
          rw [q1, q3, show (some kd).bind tkeyD = tkeyD kd from rfl, qk] at p
          dsimp only at p
          obtain ⟨b, rfl, hb⟩ := tkey_ok (rel2.get rk2 q3) qk
          obtain ⟨a', ys', e', g2', g3'⟩ := rd_dt (rel2.get rv q1)
          cases e'
          obtain ⟨n1, n2⟩ := g3'.val ks
          have key : (valV ys' ks).isSome = (getT xs ks).isSome := by
            cases qg : getT xs ks with
            | none => rw [n1 qg]; rfl
            | some d => obtain ⟨v, m1, m2⟩ := n2 d qg; rw [m1]; rfl
          refine ⟨a', _, rfl, DGet.t g2' hb, ?_⟩
          rw [key]
          exact p _ H2 W2 rel2 (Step.refl _ _) ⟨.inl ⟨rfl, .bl _⟩, fun z => absurd rfl z⟩
      | _ => rw [q1, q3] at p; exact p.elim
theorem sf_callPZ {G : List SV → RF} {fa : En → R (List Opd)} (ha : SA K E t fa) {E' : XK} : SF K E (tCall (spD0 K G) [] E' t) (callPZ G fa) := by
  intro F env σ H W Q r p
  refine Sn.go (t := t) ha r p fun e H W os vs rel s rv p => ?_
  rw [List.append_nil]
  cases q : pureL os e with
  | none => rw [q] at p; exact p.elim
  | some de =>
    obtain ⟨ds, e2⟩ := de
    rw [q] at p
    obtain ⟨W2, r2, s2, hd⟩ := pureL_ok rel rv q
    exact callZ_ok r2 (RelOs.vals hd) (Post.from s2 p)
end
theorem a_dixE (fd fk : En → R Opd) (e : En) : dixE fd fk e = (bindR fd fun o => bindR fk fun k e => match o.get e, (k.get e).bind tkeyD with
  | some (.dt xs), some ks => (match getT xs ks with | some d => .ok ⟨.p, d⟩ e | none => .stuck)
  | _, _ => .stuck) e := rfl
theorem a_dinE (fk fd : En → R Opd) (e : En) : dinE fk fd e = (bindR fk fun k => bindR fd fun o e => match o.get e, (k.get e).bind tkeyD with
  | some (.dt xs), some ks => .ok ⟨.p, .bl (getT xs ks).isSome⟩ e
  | _, _ => .stuck) e := rfl
theorem a_callPZ (G : List SV → RF) (fa : En → R (List Opd)) (e : En) : callPZ G fa e = (bindR fa fun os e => match pureL os e with
  | some (ds, e') => (match callD G (ds.map Opd.val) e' with
    | .ok sv e2 => .ok sv e2
    | _ => .stuck)
  | none => .stuck) e := rfl
theorem ex_body0 {K : PySem.W.Frag} {E : XK} {H : Hp} {X : Cx} {b : List Stmt} {ts : TS} {body : En → RS} {N : List Str} {np : Nat} {vs : List V} {Q : VK} (hp : PSs X b ts) (hS : SS K E0 ts body) (hn : np ≤ N.length) (h : spD0 K (defG np N.length body) vs H Q E) :
    ∃ t, PSs X b t ∧ t { nx := fun _ H' => Q .non H', rt := Q } (L2.start N vs) H := ⟨ts, hp, body0 hS hn h⟩
theorem ex_bodyX {K : PySem.W.Frag} {E : XK} {H : Hp} {tr : Value → Value} {X : Cx} {b : List Stmt} {ts : TS} {body : En → RS} {N : List Str} {np : Nat} {vs : List V} {Q : VK} (hp : PSs X b ts) (hS : SS K (trE tr E) ts body) (hn : np ≤ N.length) (h : spX tr K (defG np N.length body) vs H Q E) :
    ∃ t, PSs X b t ∧ t { nx := fun _ H' => Q .non H', rt := Q } (L2.start N vs) H := ⟨ts, hp, bodyX hS hn h⟩
/-- a, b = x, y -/
def parS (i j : Nat) (fa : En → R (List Opd)) : En → RS := bindS fa fun os e => match pureL os e with
  | some ([a, b], e') => if i < e'.length ∧ j < e'.length then .nx ((e'.set i (some ⟨.p, a⟩)).set j (some ⟨.p, b⟩)) else .stuck
  | _ => .stuck
theorem ss_par {K : PySem.W.Frag} {E : XK} {t : TA} {i j : Nat} {fa : En → R (List Opd)} (ha : SA K E t fa) : SS K E (tPar i j t) (parS i j fa) := by
  intro F env σ H W T r p
  refine Sn.goS (t := t) ha r p fun e H W os vs rel s rv p => ?_
  cases q : pureL os e with
  | none => rw [q] at p; exact p.elim
  | some de =>
    obtain ⟨ds, e'⟩ := de
    rw [q] at p
    obtain ⟨W1, r1, s1, k1⟩ := pureL_ok rel rv q
    match ds, k1, p with
    | [a, b], .cons ka (.cons kb .nil), p =>
      dsimp only at p
      by_cases hl : i < e'.length ∧ j < e'.length
      · rw [if_pos hl] at p
        exact ⟨_, _, rfl, p _ H W1 ((r1.store (sv := ⟨.p, a⟩) hl.1 (.inl ⟨rfl, ka⟩) (by simp) (fun z => absurd rfl z)).store (sv := ⟨.p, b⟩) (by simp [hl.2]) (.inl ⟨rfl, kb⟩) (by simp) (fun z => absurd rfl z)) s1⟩
      · rw [if_neg hl] at p; exact p.elim
    | [], _, p => exact p.elim
    | [_], _, p => exact p.elim
    | _ :: _ :: _ :: _, _, p => exact p.elim
theorem a_parS (i j : Nat) (fa : En → R (List Opd)) (e : En) : parS i j fa e = (bindS fa fun os e => match pureL os e with
  | some ([a, b], e') => if i < e'.length ∧ j < e'.length then .nx ((e'.set i (some ⟨.p, a⟩)).set j (some ⟨.p, b⟩)) else .stuck
  | _ => .stuck) e := rfl
/-- what except C and isinstance(e, C) ask of a class of the program -/
theorem kitCls_ref {K : PySem.W.Frag} {t : Value} {C : Addr} {b : Bool} (h2 : PySem.W.isClsIn K C = true) (h3 : PySem.W.typeIn K (.ref C) = some (.type "type")) (h4 : PySem.W.subIn K t (.ref C) = some b) : PySem.W.kitCls K t (.ref C) = some b := by
  have e2 : ((PySem.W.clsIn K C).isSome && PySem.W.typeIn K (.ref C) == some (.type "type")) = true := by
    have h2' : (PySem.W.clsIn K C).isSome = true := h2
    rw [h2', h3]; rfl
  show (if ((PySem.W.clsIn K C).isSome && PySem.W.typeIn K (.ref C) == some (.type "type")) = true then PySem.W.subIn K t (.ref C) else none) = some b
  rw [if_pos e2]; exact h4
theorem exm_ref {K : PySem.W.Frag} {t : Value} {C : Addr} {b : Bool} (h1 : PySem.W.subIn K (.ref C) (.type "BaseException") = some true) (h2 : PySem.W.isClsIn K C = true) (h3 : PySem.W.typeIn K (.ref C) = some (.type "type")) (h4 : PySem.W.subIn K t (.ref C) = some b) : PySem.W.exmOne K t (.ref C) = some b := by
  have e1 : (PySem.W.subIn K (.ref C) (.type "BaseException") == some true) = true := by rw [h1]; rfl
  unfold PySem.W.exmOne
  rw [if_pos e1]; exact kitCls_ref h2 h3 h4
theorem kit_ref {K : PySem.W.Frag} {D C : Addr} {b : Bool} (h2 : PySem.W.isClsIn K C = true) (h3 : PySem.W.typeIn K (.ref C) = some (.type "type")) (h4 : PySem.W.subIn K (.ref D) (.ref C) = some b) (hd : D = C → b = true) : PySem.W.kitOne K (.ref D) (.ref C) = some b := by
  unfold PySem.W.kitOne
  by_cases e : D = C
  · subst e
    rw [if_pos (by exact beq_self_eq_true _), hd rfl]
  · rw [if_neg (by simpa using e)]; exact kitCls_ref h2 h3 h4
theorem kit_type {K : PySem.W.Frag} {D : Addr} {n : String} {b : Bool} (hm : PySem.W.kitMeta n = true) (h4 : PySem.W.subIn K (.ref D) (.type n) = some b) : PySem.W.kitOne K (.ref D) (.type n) = some b := by
  unfold PySem.W.kitOne
  rw [if_neg (by intro z; exact Bool.noConfusion z)]
  show (if PySem.W.kitMeta n = true then PySem.W.subIn K (.ref D) (.type n) else none) = some b
  rw [if_pos hm]; exact h4
end DL

namespace DL
open PySem L2
theorem Spt.par {x y : Int} {d : D} {h r : Nat} {m : Int} {f g : Bool} (S : Spt x y d h r m f g) : m % 2 = h := by
  induction S with
  | base0 _ => rfl
  | base1 _ => rfl
  | lone _ ih => omega
  | see _ _ _ _ ih1 ih2 => omega
theorem Spt.rng {x y : Int} {d : D} {h r : Nat} {m : Int} {f g : Bool} (S : Spt x y d h r m f g) : 0 ≤ m ∧ m ≤ 3 ^ r := by
  induction S with
  | base0 _ => exact ⟨by omega, by simp⟩
  | base1 _ => exact ⟨by omega, by simp⟩
  | lone _ ih => rw [Int.pow_succ]; omega
  | see _ _ _ _ ih1 ih2 => rw [Int.pow_succ]; omega
theorem Spt.flags {x y : Int} {d : D} {h r : Nat} {m : Int} {f g : Bool} (S : Spt x y d h r m f g) : (h = 0 → f = true ∧ (g = false → m = 0)) ∧ (h = 1 → g = true ∧ (f = false → m = 3 ^ r)) := by
  induction S with
  | base0 _ => exact ⟨fun _ => ⟨rfl, fun _ => rfl⟩, fun z => by omega⟩
  | base1 _ => exact ⟨fun z => by omega, fun _ => ⟨rfl, fun _ => by simp⟩⟩
  | lone _ ih =>
    refine ⟨fun z => ⟨(ih.1 z).1, fun w => ?_⟩, fun z => ⟨(ih.2 z).1, fun w => ?_⟩⟩
    · rw [(ih.1 z).2 w]; rfl
    · rw [(ih.2 z).2 w, Int.pow_succ]; omega
  | @see a b h r m m' f g f' g' hh _ _ _ ih1 ih2 =>
    refine ⟨fun z => ⟨?_, fun w => ?_⟩, fun z => ⟨?_, fun w => ?_⟩⟩
    · rw [(ih1.1 z).1]; rfl
    · rw [(ih2.2 (by omega)).1] at w; simp at w
    · rw [(ih1.2 z).1]; rfl
    · rw [(ih2.1 (by omega)).1] at w; simp at w
section
variable {x y : Int} {r d0 d1 : Nat} {A B : List Et} {s : KB}
theorem hist_look0m (S : Hist x y r d0 d1 A B s) (hd : d0 < 2 * r) (od : d0 % 2 = 1) : ∃ s' e e', kbStep s 0 = some s' ∧ Hist x y r (d0 + 1) d1 (A ++ [e']) B s' ∧ A[d0 / 2]? = some e ∧
    ((2 * (d0 / 2) < d1 ∧ ∃ q, B[d0 / 2]? = some q ∧ e'.m = 3 * e.m + 2 * (q.m - e.m)) ∨ (¬ 2 * (d0 / 2) < d1 ∧ e'.m = 3 * e.m)) := by
  obtain ⟨s', e', h1, h2⟩ := hist_look0 S hd od
  obtain ⟨e, g, ea, eb, ek⟩ := S.ks
  refine ⟨s', e, e', h1, h2, ea, ?_⟩
  have hc := S.cs (d0 / 2) (by omega)
  have od' : ¬ d0 % 2 = 0 := by omega
  have la := S.la
  have hs : s'.ks = [.tup [e.d, cellOf B d1 (d0 / 2)], g.d] := by
    have : kbStep s 0 = some ⟨[.tup [e.d, cellOf B d1 (d0 / 2)], g.d], [d0 + 1, d1], s.cs⟩ := by simp [kbStep, S.ds, ek, hc, od']
    rw [h1] at this; cases this; rfl
  obtain ⟨e2, g2, ea2, _, ek2⟩ := h2.ks
  have e2' : (d0 + 1) / 2 = d0 / 2 + 1 := by omega
  have : e2 = e' := by
    rw [e2', ← la] at ea2
    simpa using ea2.symm
  subst this
  rw [hs] at ek2
  have ed : e2.d = .tup [e.d, cellOf B d1 (d0 / 2)] := by
    have := ek2; simp at this; exact this.1.symm
  have sa := h2.sa (d0 / 2) e e2 (snoc_left ea) (by rw [← e2']; exact h2.ks.choose_spec.choose_spec.1 ▸ ea2)
  by_cases hb : 2 * (d0 / 2) < d1
  · have hl : d0 / 2 < B.length := by rw [S.lb]; omega
    have eg := List.getElem?_eq_getElem hl
    generalize B[d0 / 2] = q at eg
    have ec : cellOf B d1 (d0 / 2) = q.d := by unfold cellOf; rw [if_pos hb, eg]; rfl
    rcases sa with ⟨z, _, _⟩ | ⟨q2, eq2, _, z, _⟩
    · rw [ed, ec] at z
      have : q.d = .non := by simpa using z
      exact absurd this (S.gb _ _ eg).notNon
    · rw [eg] at eq2; cases eq2
      exact .inl ⟨hb, q, eg, z⟩
  · have ec : cellOf B d1 (d0 / 2) = .non := by unfold cellOf; rw [if_neg hb]
    rcases sa with ⟨_, z, _⟩ | ⟨q2, eq2, z, _, _⟩
    · exact .inr ⟨hb, z⟩
    · rw [ed, ec] at z
      have : q2.d = .non := by simp at z; exact z.symm
      exact absurd this (S.gb _ _ eq2).notNon
theorem hist_look1m (S : Hist x y r d0 d1 A B s) (hd : d1 < 2 * r) (od : d1 % 2 = 1) : ∃ s' e e', kbStep s 1 = some s' ∧ Hist x y r d0 (d1 + 1) A (B ++ [e']) s' ∧ B[d1 / 2]? = some e ∧
    ((2 * (d1 / 2) < d0 ∧ ∃ q, A[d1 / 2]? = some q ∧ e'.m = 3 * e.m + 2 * (q.m - e.m)) ∨ (¬ 2 * (d1 / 2) < d0 ∧ e'.m = 3 * e.m)) := by
  obtain ⟨s', e', h1, h2⟩ := hist_look1 S hd od
  obtain ⟨g, e, eb, ea, ek⟩ := S.ks
  refine ⟨s', e, e', h1, h2, ea, ?_⟩
  have hc := S.cs (d1 / 2) (by omega)
  have od' : ¬ d1 % 2 = 0 := by omega
  have lb := S.lb
  have hs : s'.ks = [g.d, .tup [e.d, cellOf A d0 (d1 / 2)]] := by
    have : kbStep s 1 = some ⟨[g.d, .tup [e.d, cellOf A d0 (d1 / 2)]], [d0, d1 + 1], s.cs⟩ := by simp [kbStep, S.ds, ek, hc, od']
    rw [h1] at this; cases this; rfl
  obtain ⟨g2, e2, _, ea2, ek2⟩ := h2.ks
  have e2' : (d1 + 1) / 2 = d1 / 2 + 1 := by omega
  have : e2 = e' := by
    rw [e2', ← lb] at ea2
    simpa using ea2.symm
  subst this
  rw [hs] at ek2
  have ed : e2.d = .tup [e.d, cellOf A d0 (d1 / 2)] := by
    have := ek2; simp at this; exact this.2.symm
  have sb := h2.sb (d1 / 2) e e2 (snoc_left ea) (by rw [← e2']; exact ea2)
  by_cases hb : 2 * (d1 / 2) < d0
  · have hl : d1 / 2 < A.length := by rw [S.la]; omega
    have eg := List.getElem?_eq_getElem hl
    generalize A[d1 / 2] = q at eg
    have ec : cellOf A d0 (d1 / 2) = q.d := by unfold cellOf; rw [if_pos hb, eg]; rfl
    rcases sb with ⟨z, _, _⟩ | ⟨q2, eq2, _, z, _⟩
    · rw [ed, ec] at z
      have : q.d = .non := by simpa using z
      exact absurd this (S.ga _ _ eg).notNon
    · rw [eg] at eq2; cases eq2
      exact .inl ⟨hb, q, eg, z⟩
  · have ec : cellOf A d0 (d1 / 2) = .non := by unfold cellOf; rw [if_neg hb]
    rcases sb with ⟨_, z, _⟩ | ⟨q2, eq2, z, _, _⟩
    · exact .inr ⟨hb, z⟩
    · rw [ed, ec] at z
      have : q2.d = .non := by simp at z; exact z.symm
      exact absurd this (S.ga _ _ eq2).notNon
end
theorem getT_cons (k k' : List Key) (d : D) (r : List (List Key × D)) : getT ((k, d) :: r) k' = if k = k' then some d else getT r k' := by
  unfold getT
  rw [List.find?_cons]
  by_cases e : k = k' <;> simp [e]
theorem getT_none_any (kvs : List (List Key × D)) (k : List Key) (h : getT kvs k = none) : (kvs.any fun kv => decide (kv.1 = k)) = false := by
  induction kvs with
  | nil => rfl
  | cons a r ih =>
    obtain ⟨k', d⟩ := a
    rw [getT_cons] at h
    by_cases e : k' = k
    · rw [if_pos e] at h; cases h
    · rw [if_neg e] at h
      rw [List.any_cons, ih h]; simp [e]
theorem getT_app (kvs : List (List Key × D)) (k k' : List Key) (d : D) : getT (kvs ++ [(k, d)]) k' = match getT kvs k' with | some v => some v | none => if k = k' then some d else none := by
  induction kvs with
  | nil => rw [List.nil_append, getT_cons]; rfl
  | cons a r ih =>
    obtain ⟨k2, d2⟩ := a
    rw [List.cons_append, getT_cons, getT_cons]
    by_cases e : k2 = k'
    · rw [if_pos e, if_pos e]
    · rw [if_neg e, if_neg e]; exact ih
theorem getT_put_new (kvs : List (List Key × D)) (k k' : List Key) (d : D) (h : getT kvs k = none) : getT (putT kvs k d) k' = if k = k' then some d else getT kvs k' := by
  unfold putT
  rw [if_neg (by rw [getT_none_any kvs k h]; simp), getT_app]
  by_cases e : k = k'
  · subst e; rw [h, if_pos rfl]
  · simp only [if_neg e]; cases getT kvs k' <;> rfl
theorem putT_new_len (kvs : List (List Key × D)) (k : List Key) (d : D) (h : getT kvs k = none) : (putT kvs k d).length = kvs.length + 1 := by
  unfold putT
  rw [if_neg (by rw [getT_none_any kvs k h]; simp)]
  simp
end DL

namespace My
open PySem L2 DL
def topS (i : Nat) : Stmt := PySem.Challenge.pw_twoalone_k14_places_told.main.body.getD i (.Pass ⟨0, 0, 0, 0⟩)
def isub : Value → Value → Option Bool
  | .ref 5, .ref 1 => some false
  | .ref 5, .type "ValueError" => some true
  | _, _ => none
def sub_NoKnown : Value → Option Bool
  | .ref 5 => some true
  | _ => none
abbrev s_is_from : Stmt := topS 10
abbrev N_is_from : List Str := ["thing", "low", "high"]
theorem sc_is_from : FnScope N_is_from ["thing", "low", "high"] (defScope s_is_from) := ⟨rfl, rfl, rfl, by decide +kernel, rfl, by decide +kernel, by decide +kernel⟩
noncomputable def m_is_from : En → RS :=
  (seqS (ifS (orT (notT (testV (callB isiG (consA (varE 0) (consA (opd (constE (.opq (.ty "int")))) nilA))))) (orT (testV (callB isiG (consA (varE 0) (consA (opd (constE (.opq (.ty "bool")))) nilA)))) (testV (op2 (cmpG (fun i j => decide (i < j))) (varE 0) (varE 1))))) (retS (constE (.bl false))) .nx) (retS (orV (op2 (isNG false) (varE 2) (opd (constE .non))) (op2 (cmpG (fun i j => decide (i ≤ j))) (varE 0) (varE 2)))))
noncomputable def G_is_from : List SV → RF := defG 3 3 m_is_from
abbrev s_sure_rounds : Stmt := topS 11
abbrev N_sure_rounds : List Str := ["rounds", "most"]
theorem sc_sure_rounds : FnScope N_sure_rounds ["rounds", "most"] (defScope s_sure_rounds) := ⟨rfl, rfl, rfl, by decide +kernel, rfl, by decide +kernel, by decide +kernel⟩
noncomputable def m_sure_rounds : En → RS :=
  (ifS (notT (testV (callE G_is_from (consA (varE 0) (consA (opd (constE (.int 0))) (consA (varE 1) nilA)))))) (fun _ => .stuck) .nx)
noncomputable def G_sure_rounds : List SV → RF := defG 2 2 m_sure_rounds
abbrev s_is_weaving : Stmt := topS 12
abbrev N_is_weaving : List Str := ["thing", "steps", "hand"]
theorem sc_is_weaving : FnScope N_is_weaving ["thing", "steps"] (defScope s_is_weaving) := ⟨rfl, rfl, rfl, by decide +kernel, rfl, by decide +kernel, by decide +kernel⟩
noncomputable def m_is_weaving : En → RS :=
  (seqS (ifS (orT (notT (testV (callB isiG (consA (varE 0) (consA (opd (constE (.opq (.ty "list")))) nilA))))) (notT (testV (callB (allG false) (consA (opd (compE (seqI (varE 0)) [2] (nameG 2) (fun e => .ok true e) (opd (callE G_is_from (consA (varE 2) (consA (opd (constE (.int 0))) (consA (opd (constE (.int 1))) nilA))))))) nilA))))) (retS (constE (.bl false))) .nx) (retS (callB (allG false) (consA (opd (compE (seqI (opd (constE (.frt [.int 0, .int 1])))) [2] (nameG 2) (fun e => .ok true e) (opd (op2 (cmpG (fun i j => decide (i ≤ j))) (opd (methL countG (varE 0) (consA (varE 2) nilA))) (varE 1))))) nilA))))
noncomputable def G_is_weaving : List SV → RF := defG 2 3 m_is_weaving
abbrev s_sure_weaving : Stmt := topS 13
abbrev N_sure_weaving : List Str := ["weaving", "steps"]
theorem sc_sure_weaving : FnScope N_sure_weaving ["weaving", "steps"] (defScope s_sure_weaving) := ⟨rfl, rfl, rfl, by decide +kernel, rfl, by decide +kernel, by decide +kernel⟩
noncomputable def m_sure_weaving : En → RS :=
  (ifS (notT (testV (callE G_is_weaving (consA (varE 0) (consA (varE 1) nilA))))) (fun _ => .stuck) .nx)
noncomputable def G_sure_weaving : List SV → RF := defG 2 2 m_sure_weaving
abbrev s_known_behind : Stmt := topS 14
abbrev G_known_behind : List SV → RF := kbG
abbrev s_known : Stmt := topS 15
abbrev N_known : List Str := ["inputs", "weaving", "rounds", "one"]
theorem sc_known : FnScope N_known ["inputs", "weaving", "rounds"] (defScope s_known) := ⟨rfl, rfl, rfl, by decide +kernel, rfl, by decide +kernel, by decide +kernel⟩
noncomputable def m_known : En → RS :=
  (seqS (dropS (callE G_sure_rounds (consA (varE 2) (consA (opd (constE (.int 5))) nilA)))) (seqS (ifS (orT (notT (testV (callB isiG (consA (varE 0) (consA (opd (constE (.opq (.ty "tuple")))) nilA))))) (orT (testV (op2 (eqG true) (opd (callB lenG (consA (varE 0) nilA))) (opd (constE (.int 2))))) (notT (testV (callB (allG false) (consA (opd (compE (seqI (varE 0)) [3] (nameG 3) (fun e => .ok true e) (opd (callE G_is_from (consA (varE 3) (consA (opd (constE (.int 0))) (consA (opd (constE .non)) nilA))))))) nilA)))))) (fun _ => .stuck) .nx) (seqS (dropS (callE G_sure_weaving (consA (varE 1) (consA (opd (op2 mulG (opd (constE (.int 2))) (varE 2))) nilA)))) (retS (callE G_known_behind (consA (varE 0) (consA (varE 1) (consA (varE 2) nilA))))))))
noncomputable def G_known : List SV → RF := defG 3 4 m_known
abbrev s_sure_hand : Stmt := topS 17
abbrev N_sure_hand : List Str := ["hand"]
theorem sc_sure_hand : FnScope N_sure_hand ["hand"] (defScope s_sure_hand) := ⟨rfl, rfl, rfl, by decide +kernel, rfl, by decide +kernel, by decide +kernel⟩
noncomputable def m_sure_hand : En → RS :=
  (ifS (notT (testV (callE G_is_from (consA (varE 0) (consA (opd (constE (.int 0))) (consA (opd (constE (.int 1))) nilA)))))) (fun _ => .stuck) .nx)
noncomputable def G_sure_hand : List SV → RF := defG 1 1 m_sure_hand
abbrev s_both_of : Stmt := topS 20
abbrev N_both_of : List Str := ["one", "other", "first", "second"]
theorem sc_both_of : FnScope N_both_of ["one", "other"] (defScope s_both_of) := ⟨rfl, rfl, rfl, by decide +kernel, rfl, by decide +kernel, by decide +kernel⟩
noncomputable def m_both_of : En → RS :=
  (retS (callB tupleG (consA (opd (compE (zipI (consA (varE 0) (consA (varE 1) nilA))) [2, 3] (tupG 2 (consG (nameG 2) (consG (nameG 3) nilG))) (fun e => .ok true e) (opd (ifE (testV (op2 (isNG false) (varE 2) (opd (constE .non)))) (keepE (varE 3)) (keepE (varE 2)))))) nilA)))
noncomputable def G_both_of : List SV → RF := defG 2 4 m_both_of
abbrev s_fit : Stmt := topS 19
abbrev N_fit : List Str := ["one", "other", "first", "second"]
theorem sc_fit : FnScope N_fit ["one", "other"] (defScope s_fit) := ⟨rfl, rfl, rfl, by decide +kernel, rfl, by decide +kernel, by decide +kernel⟩
noncomputable def m_fit : En → RS :=
  (retS (callB (allG false) (consA (opd (compE (zipI (consA (varE 0) (consA (varE 1) nilA))) [2, 3] (tupG 2 (consG (nameG 2) (consG (nameG 3) nilG))) (fun e => .ok true e) (opd (orV (op2 (isNG false) (varE 2) (opd (constE .non))) (orV (op2 (isNG false) (varE 3) (opd (constE .non))) (op2 (eqG false) (varE 2) (varE 3))))))) nilA)))
noncomputable def G_fit : List SV → RF := defG 2 4 m_fit
abbrev s_spot_of : Stmt := topS 18
abbrev N_spot_of : List Str := ["thing", "hand", "most", "rounds", "mine", "inputs", "others", "its", "more", "one"]
theorem sc_spot_of : FnScope N_spot_of ["thing", "hand", "most"] (defScope s_spot_of) := ⟨rfl, rfl, rfl, by decide +kernel, rfl, by decide +kernel, by decide +kernel⟩
noncomputable def m_spot_of (Gr : List SV → RF) : En → RS :=
  (seqS (ifS (testV (callZ G_is_from (consA (varE 0) (consA (opd (constE (.int 0))) (consA (opd (constE .non)) nilA))))) (retS (tupE (consA (opd (constE (.int 0))) (consA (varE 1) (consA (opd (callB tupleG (consA (opd (compE (seqI (opd (constE (.frt [.int 0, .int 1])))) [9] (nameG 9) (fun e => .ok true e) (opd (ifE (testV (op2 (eqG false) (varE 1) (varE 9))) (keepE (varE 0)) (constE .non))))) nilA))) nilA))))) .nx) (seqS (ifS (orT (notT (testV (callB isiG (consA (varE 0) (consA (opd (constE (.opq (.ty "tuple")))) nilA))))) (orT (testV (op2 (eqG true) (opd (callB lenG (consA (varE 0) nilA))) (opd (constE (.int 2))))) (testV (op2 (eqG false) (varE 2) (opd (constE (.int 0))))))) (raiseS (.ref 5)) .nx) (seqS (asgS (tupG 3 (consG (nameG 3) (consG (nameG 4) (consG (nameG 5) nilG)))) (callE Gr (consA (opd (op2 ixG (varE 0) (opd (constE (.int 0))))) (consA (varE 1) (consA (opd (op2 subG (varE 2) (opd (constE (.int 1))))) nilA))))) (seqS (ifS (testV (op2 (isNG false) (opd (op2 ixG (varE 0) (opd (constE (.int 1))))) (opd (constE .non)))) (retS (tupE (consA (opd (op2 addG (varE 3) (opd (constE (.int 1))))) (consA (opd (op2 mulG (opd (constE (.int 3))) (varE 4))) (consA (varE 5) nilA))))) .nx) (seqS (asgS (tupG 3 (consG (nameG 6) (consG (nameG 7) (consG (nameG 8) nilG)))) (callE Gr (consA (opd (op2 ixG (varE 0) (opd (constE (.int 1))))) (consA (opd (op2 subG (opd (constE (.int 1))) (varE 1))) (consA (opd (op2 subG (varE 2) (opd (constE (.int 1))))) nilA))))) (seqS (ifS (orT (testV (op2 (eqG true) (varE 6) (varE 3))) (orT (testV (op2 (eqG true) (opd (callB (int1G fun i => if i < 0 then -i else i) (consA (opd (op2 subG (varE 7) (varE 4))) nilA))) (opd (constE (.int 1))))) (notT (testV (callPZ G_fit (consA (varE 5) (consA (varE 8) nilA))))))) (raiseS (.ref 5)) .nx) (retS (tupE (consA (opd (op2 addG (varE 3) (opd (constE (.int 1))))) (consA (opd (op2 addG (opd (op2 mulG (opd (constE (.int 3))) (varE 4))) (opd (op2 mulG (opd (constE (.int 2))) (opd (op2 subG (varE 7) (varE 4))))))) (consA (opd (callPZ G_both_of (consA (varE 5) (consA (varE 8) nilA)))) nilA)))))))))))
noncomputable def G_spot_of : Nat → List SV → RF
  | 0 => fun _ => .stuck
  | n + 1 => defG 3 10 (m_spot_of (G_spot_of n))
abbrev s_place : Stmt := topS 21
abbrev N_place : List Str := ["known", "hand"]
theorem sc_place : FnScope N_place ["known", "hand"] (defScope s_place) := ⟨rfl, rfl, rfl, by decide +kernel, rfl, by decide +kernel, by decide +kernel⟩
noncomputable def m_place : En → RS :=
  (seqS (dropS (callZ G_sure_hand (consA (varE 1) nilA))) (retS (op2 ixG (opd (callE (G_spot_of 6) (consA (varE 0) (consA (varE 1) (consA (opd (constE (.int 5))) nilA))))) (opd (constE (.int 1))))))
noncomputable def G_place : List SV → RF := defG 2 2 m_place
abbrev s__law_cell_at : Stmt := topS 23
abbrev N__law_cell_at : List Str := ["_law_script", "_law_k"]
theorem sc__law_cell_at : FnScope N__law_cell_at ["_law_script", "_law_k"] (defScope s__law_cell_at) := ⟨rfl, rfl, rfl, by decide +kernel, rfl, by decide +kernel, by decide +kernel⟩
noncomputable def m__law_cell_at : En → RS :=
  (seqS (ifS (testV (op2 (cmpG (fun i j => decide (i < j))) (varE 1) (opd (callB lenG (consA (varE 0) nilA))))) (retS (op2 ixG (varE 0) (varE 1))) .nx) (retS (constE (.int 0))))
noncomputable def G__law_cell_at : List SV → RF := defG 2 2 m__law_cell_at
abbrev s__law_well : Stmt := topS 24
abbrev N__law_well : List Str := ["_law_cell"]
theorem sc__law_well : FnScope N__law_well ["_law_cell"] (defScope s__law_well) := ⟨rfl, rfl, rfl, by decide +kernel, rfl, by decide +kernel, by decide +kernel⟩
noncomputable def m__law_well : En → RS :=
  (retS (lstE (consA (opd (op2 mulG (varE 0) (opd (callB intG (consA (opd (op2 (cmpG (fun i j => decide (j ≤ i))) (varE 0) (opd (op2 (numG CPow fun i j => i ^ j.toNat) (opd (constE (.int 10))) (opd (constE (.int 18))))))) nilA))))) (consA (opd (op2 (numG (fun _ j => 0 < j) fun i j => i % j) (varE 0) (opd (constE (.int 2147483629))))) (consA (opd (constE (.int 0))) nilA)))))
noncomputable def G__law_well : List SV → RF := defG 1 1 m__law_well
abbrev s__law_draw : Stmt := topS 25
abbrev N__law_draw : List Str := ["_law_well_here", "_law_many", "_law_number", "_law_found"]
theorem sc__law_draw : FnScope N__law_draw ["_law_well_here", "_law_many"] (defScope s__law_draw) := ⟨rfl, rfl, rfl, by decide +kernel, rfl, by decide +kernel, by decide +kernel⟩
noncomputable def m__law_draw : En → RS :=
  (seqS (ifS (testV (op2 (cmpG (fun i j => decide (j < i))) (opd (op2 ixG (varE 0) (opd (constE (.int 0))))) (opd (constE (.int 0))))) (seqS (setS 3 (op2 (numG (fun _ j => 0 < j) fun i j => i % j) (opd (op2 ixG (varE 0) (opd (constE (.int 0))))) (varE 1))) (seqS (setIxS 0 (op2 (numG CDivW fun i j => i / j) (opd (op2 ixG (varE 0) (opd (constE (.int 0))))) (varE 1)) (opd (constE (.int 0)))) (retVarS 3))) .nx) (seqS (setIxS 0 (op2 addG (opd (op2 ixG (varE 0) (opd (constE (.int 2))))) (opd (constE (.int 1)))) (opd (constE (.int 2)))) (seqS (setS 2 (op2 (numG (fun _ j => 0 < j) fun i j => i % j) (opd (op2 mulG (opd (op2 addG (opd (op2 addG (opd (op2 ixG (varE 0) (opd (constE (.int 1))))) (opd (op2 mulG (opd (constE (.int 86969))) (opd (op2 ixG (varE 0) (opd (constE (.int 2))))))))) (opd (constE (.int 1))))) (opd (constE (.int 48271))))) (opd (constE (.int 2147483629))))) (seqS (setS 2 (op2 (numG (fun _ j => 0 < j) fun i j => i % j) (opd (op2 mulG (varE 2) (opd (op2 addG (opd (op2 addG (opd (op2 (numG CDivW fun i j => i / j) (varE 2) (opd (constE (.int 1013))))) (opd (constE (.int 69623))))) (opd (op2 ixG (varE 0) (opd (constE (.int 2))))))))) (opd (constE (.int 2147483587))))) (retS (op2 (numG (fun _ j => 0 < j) fun i j => i % j) (opd (op2 (numG CDivW fun i j => i / j) (opd (op2 (numG (fun _ j => 0 < j) fun i j => i % j) (opd (op2 mulG (varE 2) (opd (op2 addG (opd (op2 (numG CDivW fun i j => i / j) (varE 2) (opd (constE (.int 2003))))) (opd (constE (.int 40692))))))) (opd (constE (.int 2147483563))))) (opd (constE (.int 3))))) (varE 1)))))))
noncomputable def G__law_draw : List SV → RF := defG 2 4 m__law_draw
abbrev s__law_one : Stmt := topS 26
abbrev N__law_one : List Str := ["_law_well_here", "_law_some"]
theorem sc__law_one : FnScope N__law_one ["_law_well_here", "_law_some"] (defScope s__law_one) := ⟨rfl, rfl, rfl, by decide +kernel, rfl, by decide +kernel, by decide +kernel⟩
noncomputable def m__law_one : En → RS :=
  (retS (op2 ixG (varE 1) (opd (callE G__law_draw (consA (varE 0) (consA (opd (callB lenG (consA (varE 1) nilA))) nilA))))))
noncomputable def G__law_one : List SV → RF := defG 2 2 m__law_one
abbrev s__law_power : Stmt := topS 27
abbrev N__law_power : List Str := ["_law_deep", "_law_found", "_law_turn"]
theorem sc__law_power : FnScope N__law_power ["_law_deep"] (defScope s__law_power) := ⟨rfl, rfl, rfl, by decide +kernel, rfl, by decide +kernel, by decide +kernel⟩
noncomputable def m__law_power : En → RS :=
  (seqS (setS 1 (constE (.int 1))) (seqS (forS (rng1 (consA (varE 0) nilA)) (nameG 2) (setS 1 (op2 mulG (opd (constE (.int 3))) (varE 1)))) (retVarS 1)))
noncomputable def G__law_power : List SV → RF := defG 1 3 m__law_power
abbrev s__law_weaving : Stmt := topS 28
abbrev N__law_weaving : List Str := ["_law_well_here", "_law_deep", "_law_stops", "_law_many", "_law_left", "_law_found", "_law_hand", "_law_step"]
theorem sc__law_weaving : FnScope N__law_weaving ["_law_well_here", "_law_deep", "_law_stops"] (defScope s__law_weaving) := ⟨rfl, rfl, rfl, by decide +kernel, rfl, by decide +kernel, by decide +kernel⟩
noncomputable def m__law_weaving : En → RS :=
  (seqS (setS 3 (lstE (consA (opd (op2 mulG (opd (constE (.int 2))) (varE 1))) (consA (opd (op2 mulG (opd (constE (.int 2))) (varE 1))) nilA)))) (seqS (ifS (testV (keepE (varE 2))) (setIxS 3 (callE G__law_draw (consA (varE 0) (consA (opd (op2 addG (opd (op2 mulG (opd (constE (.int 2))) (varE 1))) (opd (constE (.int 1))))) nilA))) (opd (callE G__law_draw (consA (varE 0) (consA (opd (constE (.int 2))) nilA))))) .nx) (seqS (setS 4 (callB listG (consA (varE 3) nilA))) (seqS (setS 5 (lstE nilA)) (seqS (whileS (testV (op2 (cmpG (fun i j => decide (j < i))) (opd (callB sumG (consA (varE 4) nilA))) (opd (constE (.int 0))))) (seqS (setS 6 (callE G__law_one (consA (varE 0) (consA (opd (compE (rng1 (consA (opd (constE (.int 2))) nilA)) [6] (nameG 6) (testV (op2 (cmpG (fun i j => decide (j < i))) (opd (op2 ixG (varE 4) (varE 6))) (opd (constE (.int 0))))) (varE 6))) nilA)))) (forS (rng1 (consA (opd (callB (int2G fun i j => if j < i then j else i) (consA (opd (op2 ixG (varE 4) (varE 6))) (consA (opd (op2 addG (opd (constE (.int 1))) (opd (callE G__law_draw (consA (varE 0) (consA (opd (callE G__law_one (consA (varE 0) (consA (opd (lstE (consA (opd (constE (.int 1))) (consA (opd (constE (.int 2))) (consA (opd (constE (.int 5))) nilA))))) nilA)))) nilA)))))) nilA)))) nilA)) (nameG 7) (seqS (dropS (mutL 5 appendK (consA (varE 6) nilA))) (setIxS 4 (op2 subG (opd (op2 ixG (varE 4) (varE 6))) (opd (constE (.int 1)))) (varE 6)))))) (retVarS 5))))))
noncomputable def G__law_weaving : List SV → RF := defG 3 8 m__law_weaving
abbrev s__law_places : Stmt := topS 29
abbrev N__law_places : List Str := ["_law_weaving_here", "_law_deep", "_law_cells", "_law_spots", "_law_done", "_law_hand", "_law_turn"]
theorem sc__law_places : FnScope N__law_places ["_law_weaving_here", "_law_deep"] (defScope s__law_places) := ⟨rfl, rfl, rfl, by decide +kernel, rfl, by decide +kernel, by decide +kernel⟩
noncomputable def m__law_places : En → RS :=
  (seqS (setS 2 dnewE) (seqS (setS 3 (lstE (consA (opd (constE (.int 0))) (consA (opd (constE (.int 1))) nilA)))) (seqS (setS 4 (lstE (consA (opd (constE (.int 0))) (consA (opd (constE (.int 0))) nilA)))) (seqS (forS (seqI (varE 0)) (nameG 5) (seqS (setS 6 (op2 (numG CDivW fun i j => i / j) (opd (op2 ixG (varE 4) (varE 5))) (opd (constE (.int 2))))) (seqS (ifS (testV (op2 (eqG false) (opd (op2 (numG (fun _ j => 0 < j) fun i j => i % j) (opd (op2 ixG (varE 4) (varE 5))) (opd (constE (.int 2))))) (opd (constE (.int 0))))) (dputS 2 (op2 ixG (varE 3) (varE 5)) (opd (tupE (consA (varE 6) (consA (varE 5) nilA))))) (ifS (testV (dinE (opd (tupE (consA (varE 6) (consA (opd (op2 subG (opd (constE (.int 1))) (varE 5))) nilA)))) (varE 2))) (setIxS 3 (op2 addG (opd (op2 mulG (opd (constE (.int 3))) (opd (op2 ixG (varE 3) (varE 5))))) (opd (op2 mulG (opd (constE (.int 2))) (opd (op2 subG (opd (dixE (varE 2) (opd (tupE (consA (varE 6) (consA (opd (op2 subG (opd (constE (.int 1))) (varE 5))) nilA)))))) (opd (op2 ixG (varE 3) (varE 5)))))))) (varE 5)) (setIxS 3 (op2 mulG (opd (constE (.int 3))) (opd (op2 ixG (varE 3) (varE 5)))) (varE 5)))) (setIxS 4 (op2 addG (opd (op2 ixG (varE 4) (varE 5))) (opd (constE (.int 1)))) (varE 5))))) (retS (compE (rng1 (consA (opd (constE (.int 2))) nilA)) [5] (nameG 5) (fun e => .ok true e) (opd (op2 ixG (opd (lstE (consA (opd (constE .non)) (consA (opd (op2 ixG (varE 3) (varE 5))) nilA)))) (opd (callB intG (consA (opd (op2 (eqG false) (opd (op2 ixG (varE 4) (varE 5))) (opd (op2 mulG (opd (constE (.int 2))) (varE 1))))) nilA)))))))))))
noncomputable def G__law_places : List SV → RF := defG 2 7 m__law_places
abbrev s__law_told : Stmt := topS 30
abbrev N__law_told : List Str := ["_law_thing", "_law_hand", "e"]
theorem sc__law_told : FnScope N__law_told ["_law_thing", "_law_hand"] (defScope s__law_told) := ⟨rfl, rfl, rfl, by decide +kernel, rfl, by decide +kernel, by decide +kernel⟩
noncomputable def m__law_told : En → RS :=
  (tryE (callE G_place (consA (varE 0) (consA (varE 1) nilA))) (fun sv e => .ret sv e) sub_NoKnown 2 (fun a s => (retS (op2 ixG (opd (lstE (consA (opd (constE (.str (Str.ofString "other")))) (consA (opd (constE (.str (Str.ofString "known")))) nilA)))) (opd (callB intG (consA (opd (andV (isxE isub 2 a s (.type "ValueError")) (notV (isxE isub 2 a s (.ref 1))))) nilA)))))))
noncomputable def G__law_told : List SV → RF := defG 2 3 m__law_told
abbrev s__law_mixed_right : Stmt := topS 31
abbrev N__law_mixed_right : List Str := ["_law_well_here", "_law_inputs", "_law_deep", "_law_hand", "_law_mine", "_law_its", "_law_due", "_law_one_here", "_law_two", "_law_spot", "_law_other"]
theorem sc__law_mixed_right : FnScope N__law_mixed_right ["_law_well_here", "_law_inputs", "_law_deep"] (defScope s__law_mixed_right) := ⟨rfl, rfl, rfl, by decide +kernel, rfl, by decide +kernel, by decide +kernel⟩
noncomputable def m__law_mixed_right : En → RS :=
  (seqS (setS 3 (callE G__law_draw (consA (varE 0) (consA (opd (constE (.int 2))) nilA)))) (seqS (parS 7 8 (consA (opd (callE G__law_weaving (consA (varE 0) (consA (varE 2) (consA (opd (constE (.bl false))) nilA))))) (consA (opd (callE G__law_weaving (consA (varE 0) (consA (varE 2) (consA (opd (constE (.bl false))) nilA))))) nilA))) (seqS (setS 4 (op2 ixG (opd (callE G_known (appK 2 1 (consA (varE 1) (consA (varE 7) nilA)) (consA (varE 2) nilA)))) (varE 3))) (seqS (setS 5 (op2 ixG (opd (callE G_known (appK 2 1 (consA (varE 1) (consA (varE 8) nilA)) (consA (varE 2) nilA)))) (opd (op2 subG (opd (constE (.int 1))) (varE 3))))) (seqS (parS 9 10 (consA (opd (op2 ixG (opd (callE G__law_places (consA (varE 7) (consA (varE 2) nilA)))) (varE 3))) (consA (opd (op2 ixG (opd (callE G__law_places (consA (varE 8) (consA (varE 2) nilA)))) (opd (op2 subG (opd (constE (.int 1))) (varE 3))))) nilA))) (seqS (setS 6 (constE (.str (Str.ofString "known")))) (seqS (ifS (andT (testV (op2 (eqG false) (opd (callB (int1G fun i => if i < 0 then -i else i) (consA (opd (op2 subG (varE 10) (varE 9))) nilA))) (opd (constE (.int 1))))) (testV (op2 (cmpG (fun i j => decide (i < j))) (varE 2) (opd (constE (.int 5)))))) (setS 6 (op2 addG (opd (op2 mulG (opd (constE (.int 3))) (varE 9))) (opd (op2 mulG (opd (constE (.int 2))) (opd (op2 subG (varE 10) (varE 9))))))) .nx) (seqS (ifS (testV (op2 (eqG true) (opd (callE G__law_told (consA (opd (tupE (consA (varE 4) (consA (varE 5) nilA)))) (consA (varE 3) nilA)))) (varE 6))) (retS (constE (.bl false))) .nx) (seqS (ifS (andT (testV (op2 (eqG true) (opd (op2 ixG (varE 1) (opd (constE (.int 0))))) (opd (op2 ixG (varE 1) (opd (constE (.int 1))))))) (testV (op2 (eqG true) (opd (callE G__law_told (consA (opd (tupE (consA (varE 4) (consA (varE 4) nilA)))) (consA (varE 3) nilA)))) (opd (constE (.str (Str.ofString "known"))))))) (retS (constE (.bl false))) .nx) (retS (op2 (eqG false) (opd (callE G__law_told (consA (opd (tupE (consA (varE 4) (consA (opd (constE .non)) nilA)))) (consA (varE 3) nilA)))) (opd (op2 ixG (opd (lstE (consA (opd (constE (.str (Str.ofString "known")))) (consA (opd (op2 mulG (opd (constE (.int 3))) (varE 9))) nilA)))) (opd (callB intG (consA (opd (op2 (cmpG (fun i j => decide (i < j))) (varE 2) (opd (constE (.int 5))))) nilA))))))))))))))))
noncomputable def G__law_mixed_right : List SV → RF := defG 3 11 m__law_mixed_right
abbrev s__law_right : Stmt := topS 32
abbrev N__law_right : List Str := ["_law_well_here", "_law_deep", "_law_inputs", "_law_weaving_here", "_law_found", "_law_due", "_law_hand", "_law_told_here"]
theorem sc__law_right : FnScope N__law_right ["_law_well_here"] (defScope s__law_right) := ⟨rfl, rfl, rfl, by decide +kernel, rfl, by decide +kernel, by decide +kernel⟩
noncomputable def m__law_right : En → RS :=
  (seqS (setS 1 (op2 addG (opd (constE (.int 1))) (opd (callE G__law_draw (consA (varE 0) (consA (opd (constE (.int 5))) nilA)))))) (seqS (setS 2 (tupE (consA (opd (callE G__law_draw (consA (varE 0) (consA (opd (constE (.int 3))) nilA)))) (consA (opd (callE G__law_draw (consA (varE 0) (consA (opd (callE G__law_one (consA (varE 0) (consA (opd (lstE (consA (opd (constE (.int 3))) (consA (opd (op2 (numG CPow fun i j => i ^ j.toNat) (opd (constE (.int 10))) (opd (constE (.int 20))))) nilA)))) nilA)))) nilA)))) nilA)))) (seqS (setS 3 (callE G__law_weaving (consA (varE 0) (consA (varE 1) (consA (opd (op2 (eqG false) (opd (callE G__law_draw (consA (varE 0) (consA (opd (constE (.int 2))) nilA)))) (opd (constE (.int 0))))) nilA))))) (seqS (setS 4 (callE G_known (appK 2 1 (consA (varE 2) (consA (varE 3) nilA)) (consA (varE 1) nilA)))) (seqS (setS 5 (callE G__law_places (consA (varE 3) (consA (varE 1) nilA)))) (seqS (forS (rng1 (consA (opd (constE (.int 2))) nilA)) (nameG 6) (ifS (testV (op2 (isNG true) (opd (op2 ixG (varE 4) (varE 6))) (opd (constE .non)))) (seqS (setS 7 (callE G_place (consA (opd (op2 ixG (varE 4) (varE 6))) (consA (varE 6) nilA)))) (ifS (orT (testV (op2 (eqG true) (varE 7) (opd (op2 ixG (varE 5) (varE 6))))) (orT (testV (callB isiG (consA (varE 7) (consA (opd (constE (.opq (.ty "bool")))) nilA)))) (orT (testV (op2 (eqG true) (opd (op2 (numG (fun _ j => 0 < j) fun i j => i % j) (varE 7) (opd (constE (.int 2))))) (varE 6))) (notT (testV (chainE (fun i j => decide (i ≤ j)) (fun i j => decide (i ≤ j)) (opd (constE (.int 0))) (varE 7) (opd (callE G__law_power (consA (varE 1) nilA))))))))) (retS (constE (.bl false))) .nx)) .nx)) (seqS (ifS (andT (testV (op2 (inG true) (opd (constE .non)) (varE 5))) (testV (op2 (eqG true) (opd (callB (int1G fun i => if i < 0 then -i else i) (consA (opd (op2 subG (opd (op2 ixG (varE 5) (opd (constE (.int 0))))) (opd (op2 ixG (varE 5) (opd (constE (.int 1))))))) nilA))) (opd (constE (.int 1)))))) (retS (constE (.bl false))) .nx) (seqS (ifS (notT (testV (callE G__law_mixed_right (consA (varE 0) (consA (varE 2) (consA (opd (op2 ixG (opd (lstE (consA (varE 1) (consA (opd (constE (.int 5))) nilA)))) (opd (callE G__law_draw (consA (varE 0) (consA (opd (constE (.int 2))) nilA)))))) nilA)))))) (retS (constE (.bl false))) .nx) (retS (andV (op2 (eqG false) (opd (callE G_place (consA (opd (op2 ixG (varE 2) (opd (constE (.int 0))))) (consA (opd (constE (.int 0))) nilA)))) (opd (constE (.int 0)))) (op2 (eqG false) (opd (callE G_place (consA (opd (op2 ixG (varE 2) (opd (constE (.int 1))))) (consA (opd (constE (.int 1))) nilA)))) (opd (constE (.int 1))))))))))))))
noncomputable def G__law_right : List SV → RF := defG 1 8 m__law_right
abbrev s_law : Stmt := topS 33
abbrev N_law : List Str := ["_law_script", "_law_cell"]
theorem sc_law : FnScope N_law ["_law_script"] (defScope s_law) := ⟨rfl, rfl, rfl, by decide +kernel, rfl, by decide +kernel, by decide +kernel⟩
noncomputable def m_law : En → RS :=
  (seqS (forS (seqI (opd (op2 addG (opd (lstE (consA (opd (callE G__law_cell_at (consA (varE 0) (consA (opd (constE (.int 0))) nilA)))) nilA))) (opd (sliceE (varE 0) (somePt (opd (constE (.int 1)))) (somePt (opd (constE (.int 10))))))))) (nameG 1) (ifS (notT (testV (callF G__law_right (callE G__law_well (consA (varE 1) nilA))))) (retS (constE (.bl false))) .nx)) (retS (constE (.bl true))))
noncomputable def G_law : List SV → RF := defG 1 2 m_law
structure Txt (K : PySem.W.Frag) (mg : Str → Option Value) where
  a_is_from : Addr
  fd_is_from : FuncData
  F_is_from : Fun K "is_from" "is_from" s_is_from a_is_from fd_is_from
  g_is_from : mg "is_from" = some (.ref a_is_from)
  b_is_from : Binds K fd_is_from ["thing", "low", "high"] []
  a_sure_rounds : Addr
  fd_sure_rounds : FuncData
  F_sure_rounds : Fun K "sure_rounds" "sure_rounds" s_sure_rounds a_sure_rounds fd_sure_rounds
  g_sure_rounds : mg "sure_rounds" = some (.ref a_sure_rounds)
  b_sure_rounds : Binds K fd_sure_rounds ["rounds", "most"] []
  a_is_weaving : Addr
  fd_is_weaving : FuncData
  F_is_weaving : Fun K "is_weaving" "is_weaving" s_is_weaving a_is_weaving fd_is_weaving
  g_is_weaving : mg "is_weaving" = some (.ref a_is_weaving)
  b_is_weaving : Binds K fd_is_weaving ["thing", "steps"] []
  a_sure_weaving : Addr
  fd_sure_weaving : FuncData
  F_sure_weaving : Fun K "sure_weaving" "sure_weaving" s_sure_weaving a_sure_weaving fd_sure_weaving
  g_sure_weaving : mg "sure_weaving" = some (.ref a_sure_weaving)
  b_sure_weaving : Binds K fd_sure_weaving ["weaving", "steps"] []
  a_known_behind : Addr
  fd_known_behind : FuncData
  F_known_behind : Fun K "known_behind" "known_behind" s_known_behind a_known_behind fd_known_behind
  g_known_behind : mg "known_behind" = some (.ref a_known_behind)
  b_known_behind : Binds K fd_known_behind ["inputs", "weaving", "rounds"] []
  a_known : Addr
  fd_known : FuncData
  F_known : Fun K "known" "known" s_known a_known fd_known
  g_known : mg "known" = some (.ref a_known)
  a_sure_hand : Addr
  fd_sure_hand : FuncData
  F_sure_hand : Fun K "sure_hand" "sure_hand" s_sure_hand a_sure_hand fd_sure_hand
  g_sure_hand : mg "sure_hand" = some (.ref a_sure_hand)
  b_sure_hand : Binds K fd_sure_hand ["hand"] []
  a_spot_of : Addr
  fd_spot_of : FuncData
  F_spot_of : Fun K "spot_of" "spot_of" s_spot_of a_spot_of fd_spot_of
  g_spot_of : mg "spot_of" = some (.ref a_spot_of)
  b_spot_of : Binds K fd_spot_of ["thing", "hand", "most"] []
  a_fit : Addr
  fd_fit : FuncData
  F_fit : Fun K "fit" "fit" s_fit a_fit fd_fit
  g_fit : mg "fit" = some (.ref a_fit)
  b_fit : Binds K fd_fit ["one", "other"] []
  a_both_of : Addr
  fd_both_of : FuncData
  F_both_of : Fun K "both_of" "both_of" s_both_of a_both_of fd_both_of
  g_both_of : mg "both_of" = some (.ref a_both_of)
  b_both_of : Binds K fd_both_of ["one", "other"] []
  a_place : Addr
  fd_place : FuncData
  F_place : Fun K "place" "place" s_place a_place fd_place
  g_place : mg "place" = some (.ref a_place)
  b_place : Binds K fd_place ["known", "hand"] []
  a__law_cell_at : Addr
  fd__law_cell_at : FuncData
  F__law_cell_at : Fun K "_law_cell_at" "_law_cell_at" s__law_cell_at a__law_cell_at fd__law_cell_at
  g__law_cell_at : mg "_law_cell_at" = some (.ref a__law_cell_at)
  b__law_cell_at : Binds K fd__law_cell_at ["_law_script", "_law_k"] []
  a__law_well : Addr
  fd__law_well : FuncData
  F__law_well : Fun K "_law_well" "_law_well" s__law_well a__law_well fd__law_well
  g__law_well : mg "_law_well" = some (.ref a__law_well)
  b__law_well : Binds K fd__law_well ["_law_cell"] []
  a__law_draw : Addr
  fd__law_draw : FuncData
  F__law_draw : Fun K "_law_draw" "_law_draw" s__law_draw a__law_draw fd__law_draw
  g__law_draw : mg "_law_draw" = some (.ref a__law_draw)
  b__law_draw : Binds K fd__law_draw ["_law_well_here", "_law_many"] []
  a__law_one : Addr
  fd__law_one : FuncData
  F__law_one : Fun K "_law_one" "_law_one" s__law_one a__law_one fd__law_one
  g__law_one : mg "_law_one" = some (.ref a__law_one)
  b__law_one : Binds K fd__law_one ["_law_well_here", "_law_some"] []
  a__law_power : Addr
  fd__law_power : FuncData
  F__law_power : Fun K "_law_power" "_law_power" s__law_power a__law_power fd__law_power
  g__law_power : mg "_law_power" = some (.ref a__law_power)
  b__law_power : Binds K fd__law_power ["_law_deep"] []
  a__law_weaving : Addr
  fd__law_weaving : FuncData
  F__law_weaving : Fun K "_law_weaving" "_law_weaving" s__law_weaving a__law_weaving fd__law_weaving
  g__law_weaving : mg "_law_weaving" = some (.ref a__law_weaving)
  b__law_weaving : Binds K fd__law_weaving ["_law_well_here", "_law_deep", "_law_stops"] []
  a__law_places : Addr
  fd__law_places : FuncData
  F__law_places : Fun K "_law_places" "_law_places" s__law_places a__law_places fd__law_places
  g__law_places : mg "_law_places" = some (.ref a__law_places)
  b__law_places : Binds K fd__law_places ["_law_weaving_here", "_law_deep"] []
  a__law_told : Addr
  fd__law_told : FuncData
  F__law_told : Fun K "_law_told" "_law_told" s__law_told a__law_told fd__law_told
  g__law_told : mg "_law_told" = some (.ref a__law_told)
  b__law_told : Binds K fd__law_told ["_law_thing", "_law_hand"] []
  a__law_mixed_right : Addr
  fd__law_mixed_right : FuncData
  F__law_mixed_right : Fun K "_law_mixed_right" "_law_mixed_right" s__law_mixed_right a__law_mixed_right fd__law_mixed_right
  g__law_mixed_right : mg "_law_mixed_right" = some (.ref a__law_mixed_right)
  b__law_mixed_right : Binds K fd__law_mixed_right ["_law_well_here", "_law_inputs", "_law_deep"] []
  a__law_right : Addr
  fd__law_right : FuncData
  F__law_right : Fun K "_law_right" "_law_right" s__law_right a__law_right fd__law_right
  g__law_right : mg "_law_right" = some (.ref a__law_right)
  b__law_right : Binds K fd__law_right ["_law_well_here"] []
  a_law : Addr
  fd_law : FuncData
  F_law : Fun K "law" "law" s_law a_law fd_law
  g_law : mg "law" = some (.ref a_law)
  b_law : Binds K fd_law ["_law_script"] []
  k_known : KBinds K fd_known ["inputs", "weaving", "rounds"] ["rounds"] (gK 2 1) (gK 2 1)
  m_ValueError : mg "ValueError" = none
  m_abs : mg "abs" = none
  m_all : mg "all" = none
  m_bool : mg "bool" = none
  m_int : mg "int" = none
  m_isinstance : mg "isinstance" = none
  m_len : mg "len" = none
  m_list : mg "list" = none
  m_min : mg "min" = none
  m_range : mg "range" = none
  m_sum : mg "sum" = none
  m_tuple : mg "tuple" = none
  m_zip : mg "zip" = none
  a_HANDS : Addr
  g_HANDS : mg "HANDS" = some (.ref a_HANDS)
  c_HANDS : ∀ H A, Rp K H A (.ref a_HANDS) (.frt [.int 0, .int 1])
  t_HANDS : KT K a_HANDS [.int 0, .int 1]
  g_MOST_ROUNDS : ∃ t, mg "MOST_ROUNDS" = some (Value.int 5 t)
  c_NoHand : Addr
  g_NoHand : mg "NoHand" = some (.ref c_NoHand)
  x_NoHand : PySem.W.excIn K c_NoHand [.type "ValueError", .type "Exception", .type "BaseException", .type "object"] "ValueError.__new__" = true
  k_NoHand : PySem.W.keepIn K (.ref c_NoHand) = true
  s_NoHand : PySem.W.subIn K (.ref c_NoHand) (.type "BaseException") = some true
  t_NoHand : PySem.W.typeIn K (.ref c_NoHand) = some (.type "type")
  c_NoKnown : Addr
  g_NoKnown : mg "NoKnown" = some (.ref c_NoKnown)
  x_NoKnown : PySem.W.excIn K c_NoKnown [.type "ValueError", .type "Exception", .type "BaseException", .type "object"] "ValueError.__new__" = true
  k_NoKnown : PySem.W.keepIn K (.ref c_NoKnown) = true
  s_NoKnown : PySem.W.subIn K (.ref c_NoKnown) (.type "BaseException") = some true
  t_NoKnown : PySem.W.typeIn K (.ref c_NoKnown) = some (.type "type")
  e_NoKnown : ExcC K c_NoKnown
  xm_NoKnown_NoKnown : PySem.W.exmOne K (.ref c_NoKnown) (.ref c_NoKnown) = some true
  kt_NoKnown_NoHand : PySem.W.kitOne K (.ref c_NoKnown) (.ref c_NoHand) = some false
  kt_NoKnown_ValueError : PySem.W.kitOne K (.ref c_NoKnown) (.type "ValueError") = some true
def Txt.tr {K : PySem.W.Frag} {mg : Str → Option Value} (T : Txt K mg) : Value → Value
  | .ref 1 => .ref T.c_NoHand
  | .ref 5 => .ref T.c_NoKnown
  | v => v
theorem Txt.subOk {K : PySem.W.Frag} {mg : Str → Option Value} (T : Txt K mg) : SubOk K T.tr isub := ⟨fun s c b h => by
  unfold isub at h
  split at h
  · cases h; exact ⟨T.c_NoKnown, rfl, T.e_NoKnown, T.kt_NoKnown_NoHand⟩
  · cases h; exact ⟨T.c_NoKnown, rfl, T.e_NoKnown, T.kt_NoKnown_ValueError⟩
  · cases h⟩
theorem Txt.sub_NoKnown {K : PySem.W.Frag} {mg : Str → Option Value} (T : Txt K mg) : ∀ s, My.sub_NoKnown s = some true → PySem.W.exmOne K (T.tr s) (.ref T.c_NoKnown) = some true := fun s h => by
  unfold My.sub_NoKnown at h
  split at h
  · exact T.xm_NoKnown_NoKnown
  · cases h
end My

namespace My
open PySem L2 DL
abbrev N_known_behind : List Str := ["inputs", "weaving", "rounds", "cells", "knows", "done", "hand", "cell", "turn"]
theorem sc_known_behind : FnScope N_known_behind ["inputs", "weaving", "rounds"] (defScope s_known_behind) := ⟨rfl, rfl, rfl, by decide +kernel, rfl, by decide +kernel, by decide +kernel⟩
section
variable {P : Program} {w : World} {K : PySem.W.Frag} {mg : Str → Option Value} {base : Heap}
theorem ok_known_behind (T : Txt K mg) : FnOk P w K mg base CX0 1 T.a_known_behind T.fd_known_behind ["inputs", "weaving", "rounds"] (spD0 K G_known_behind) := by
  refine T.F_known_behind.ok sc_known_behind (fun vs H Q E h => spD_len (E := E0) kbG_len h) (fun cdv A outer s H vs Q E hr h => ?_)
  refine ⟨_, pss_cons (ps_setLc (i := 3) (own := [("turn", 8)]) rfl sc_known_behind.nd rfl rfl (sw_true rfl rfl rfl (by decide +kernel)) (pi_range1 (by rfl) T.m_range (pa_cons (pv 2) pa_nil)) (blkOk_by (own := [("turn", 8)]) (N := N_known_behind) (sc := defScope s_known_behind) (by decide +kernel)) (fun _ _ _ _ _ => pg_name (i := 8) sc_known_behind.nd rfl (.inl rfl)) (fun _ _ _ _ _ => pts_nil) (fun _ _ _ _ _ => pe_lst (pa_cons pe_non (pa_cons pe_non pa_nil))))
    (pss_cons (ps_set (i := 4) sc_known_behind.nd rfl (by first | exact .inl rfl | exact .inr rfl) (pe_callTy (call_listK (K := K) rfl) (by rfl) T.m_list (by decide +kernel) (pa_cons (pv 0) pa_nil)))
    (pss_cons (ps_set (i := 5) sc_known_behind.nd rfl (by first | exact .inl rfl | exact .inr rfl) (pe_lst (pa_cons pe_int (pa_cons pe_int pa_nil))))
    (pss_cons (ps_for PassesOwn.never rfl (pi_seqK (K := K) rfl (pv 1)) (pg_name (i := 6) sc_known_behind.nd rfl (by first | exact .inl rfl | exact .inr rfl))
      (pss_cons (ps_set (i := 7) sc_known_behind.nd rfl (by first | exact .inl rfl | exact .inr rfl) (pe_ix (ix_seqK (K := K) rfl) (pv 3) (pe_op op_fdivW (pe_ix (ix_seqK (K := K) rfl) (pv 5) (pv 6) (fun _ _ => rfl)) pe_int) (fun _ _ => rfl)))
      (pss_cons (ps_if (pt_cmpR op_eq (pe_op op_mod (pe_ix (ix_seqK (K := K) rfl) (pv 5) (pv 6) (fun _ _ => rfl)) pe_int) pe_int (nomark _))
        (pss_one (ps_asg (pe_ix (ix_seqK (K := K) rfl) (pv 4) (pv 6) (fun _ _ => rfl)) (pg_sub (pv 7) (pv 6) set_list)))
        (pss_one (ps_asg (pe_tup (pa_cons (pe_ix (ix_seqK (K := K) rfl) (pv 4) (pv 6) (fun _ _ => rfl)) (pa_cons (pe_ix (ix_seqK (K := K) rfl) (pv 7) (pe_op op_sub pe_int (pv 6)) (fun _ _ => rfl)) pa_nil))) (pg_sub (pv 4) (pv 6) set_list))))
      (pss_one (ps_augS (pv 5) (pv 6) pget_list pe_int ip_add set_list)))))
    (pss_one (ps_ret (pe_lc (own := [("hand", 6)]) rfl sc_known_behind.nd (pi_seqK (K := K) rfl (pe_glob (v := .ref T.a_HANDS) (by rfl) T.g_HANDS rfl)) (blkOk_by (own := [("hand", 6)]) (N := N_known_behind) (sc := defScope s_known_behind) (by decide +kernel)) (fun _ _ _ _ _ => pg_name (i := 6) sc_known_behind.nd rfl (by first | exact .inl rfl | exact .inr rfl)) (fun _ _ _ _ _ => pts_nil)
      (fun _ _ _ _ _ => pe_ifExp (pt_cmpR op_eq (pe_ix (ix_seqK (K := K) rfl) (pv 5) (pv 6) (fun _ _ => rfl)) (pe_op op_mulA pe_int (pv 2)) (nomark _)) (pe_ix (ix_seqK (K := K) rfl) (pv 4) (pv 6) (fun _ _ => rfl)) pe_non))))))), ?_⟩
  exact kb_all T.t_HANDS h
theorem ok_is_from (T : Txt K mg) : FnOk P w K mg base CX0 1 T.a_is_from T.fd_is_from ["thing", "low", "high"] (spD0 K G_is_from) := by
  refine T.F_is_from.ok sc_is_from (fun vs H Q E h => spD0_len h) (fun cdv A outer s H vs Q E hr h => ?_)
  exact ex_body0 (N := N_is_from) (body := m_is_from) (pss_cons (ps_if (PW.pt (pw_or (pt_not (pt_val (pe_callB (call_isiK' (K := K) rfl) (by rfl) T.m_isinstance (by decide +kernel) (pa_cons (pv 0) (pa_cons (pe_bltn (v := .ty "int") (by rfl) T.m_int (by decide +kernel) rfl) pa_nil))))) (pw_or (pt_val (pe_callB (call_isiK' (K := K) rfl) (by rfl) T.m_isinstance (by decide +kernel) (pa_cons (pv 0) (pa_cons (pe_bltn (v := .ty "bool") (by rfl) T.m_bool (by decide +kernel) rfl) pa_nil)))) (pw_or1 (pt_cmpR op_lt (pv 0) (pv 1) (nomark _)))))) (pss_one (ps_ret pe_bl)) pss_nil) (pss_one (ps_ret (pe_or (pe_cmpR op_isN (pv 2) pe_non (nomark _)) (pe_one (pe_cmpR op_le (pv 0) (pv 2) (nomark _))))))) (ss_seq (ss_if (sb_or (sb_not (sb_B (sf_callBs o_isi isiG_fine (sa_cons se_var (sa_cons (se_of sf_opq) sa_nil))))) (sb_or (sb_B (sf_callBs o_isi isiG_fine (sa_cons se_var (sa_cons (se_of sf_opq) sa_nil)))) (sb_test (sf_op2 o_cmp cmpG_fine se_var se_var)))) (ss_ret sf_bl) ss_nil) (ss_ret (sf_or (sf_op2 o_isN isNG_fine se_var (se_of sf_non)) (sf_op2 o_cmp cmpG_fine se_var se_var)))) (by decide) h
theorem ok_sure_rounds (T : Txt K mg) : FnOk P w K mg base CX0 2 T.a_sure_rounds T.fd_sure_rounds ["rounds", "most"] (spD0 K G_sure_rounds) := by
  refine T.F_sure_rounds.ok sc_sure_rounds (fun vs H Q E h => spD0_len h) (fun cdv A outer s H vs Q E hr h => ?_)
  exact ex_body0 (N := N_sure_rounds) (body := m_sure_rounds) (pss_one (ps_if (pt_not (pt_val (pe_call (ok_is_from T) (hr.mono (by decide)) (by rfl) T.g_is_from T.F_is_from.kp T.b_is_from .nil pass0 (pa_cons (pv 0) (pa_cons pe_int (pa_cons (pv 1) pa_nil)))))) (pss_one ps_never) pss_nil)) (ss_if (sb_not (sb_B (sf_call0 (sa_cons se_var (sa_cons (se_of sf_int) (sa_cons se_var sa_nil)))))) ss_never ss_nil) (by decide) h
theorem ok_is_weaving (T : Txt K mg) : FnOk P w K mg base CX0 2 T.a_is_weaving T.fd_is_weaving ["thing", "steps"] (spD0 K G_is_weaving) := by
  refine T.F_is_weaving.ok sc_is_weaving (fun vs H Q E h => spD0_len h) (fun cdv A outer s H vs Q E hr h => ?_)
  exact ex_body0 (N := N_is_weaving) (body := m_is_weaving) (pss_cons (ps_if (PW.pt (pw_or (pt_not (pt_val (pe_callB (call_isiK' (K := K) rfl) (by rfl) T.m_isinstance (by decide +kernel) (pa_cons (pv 0) (pa_cons (pe_bltn (v := .ty "list") (by rfl) T.m_list (by decide +kernel) rfl) pa_nil))))) (pw_or1 (pt_not (pt_val (pe_callB (call_allK (K := K) rfl rfl) (by rfl) T.m_all (by decide +kernel) (pa_cons (pe_lc (own := [("hand", 2)]) rfl sc_is_weaving.nd (pi_seqK (K := K) rfl (pv 0)) (blkOk_by (own := [("hand", 2)]) (N := N_is_weaving) (sc := defScope s_is_weaving) (by decide +kernel)) (fun _ _ _ _ _ => (pg_name (i := 2) sc_is_weaving.nd rfl (by first | exact .inl rfl | exact .inr rfl))) (fun _ _ _ _ _ => pts_nil) (fun _ _ _ _ _ => (pe_call (ok_is_from T) (hr.mono (by decide)) (by rfl) T.g_is_from T.F_is_from.kp T.b_is_from .nil pass0 (pa_cons (pv 2) (pa_cons pe_int (pa_cons pe_int pa_nil)))))) pa_nil))))))) (pss_one (ps_ret pe_bl)) pss_nil) (pss_one (ps_ret (pe_callB (call_allK (K := K) rfl rfl) (by rfl) T.m_all (by decide +kernel) (pa_cons (pe_lc (own := [("hand", 2)]) rfl sc_is_weaving.nd (pi_seqK (K := K) rfl (pe_glob (v := .ref T.a_HANDS) (by rfl) T.g_HANDS rfl)) (blkOk_by (own := [("hand", 2)]) (N := N_is_weaving) (sc := defScope s_is_weaving) (by decide +kernel)) (fun _ _ _ _ _ => (pg_name (i := 2) sc_is_weaving.nd rfl (by first | exact .inl rfl | exact .inr rfl))) (fun _ _ _ _ _ => pts_nil) (fun _ _ _ _ _ => (pe_cmpR op_le (pe_bmK (K := K) rfl (pe_bm PySem.F.plainAttrs_list PySem.F.slot_list_count PySem.F.type_list_count (mt_countK (K := K) rfl) (pv 0) (pa_cons (pv 2) pa_nil))) (pv 1) (nomark _)))) pa_nil))))) (ss_seq (ss_if (sb_or (sb_not (sb_B (sf_callBs o_isi isiG_fine (sa_cons se_var (sa_cons (se_of sf_opq) sa_nil))))) (sb_not (sb_B (sf_callBs o_all allG_fine (sa_cons (se_of (sf_lc (si_seq se_var) sg_name (by decide) sb_yes (se_of (sf_call0 (sa_cons se_var (sa_cons (se_of sf_int) (sa_cons (se_of sf_int) sa_nil))))))) sa_nil))))) (ss_ret sf_bl) ss_nil) (ss_ret (sf_callBs o_all allG_fine (sa_cons (se_of (sf_lc (si_seq (se_of (sf_glob T.c_HANDS))) sg_name (by decide) sb_yes (se_of (sf_op2 o_cmp cmpG_fine (se_of (sf_methL o_count countG_fine se_var (sa_cons se_var sa_nil))) se_var)))) sa_nil)))) (by decide) h
theorem ok_sure_weaving (T : Txt K mg) : FnOk P w K mg base CX0 3 T.a_sure_weaving T.fd_sure_weaving ["weaving", "steps"] (spD0 K G_sure_weaving) := by
  refine T.F_sure_weaving.ok sc_sure_weaving (fun vs H Q E h => spD0_len h) (fun cdv A outer s H vs Q E hr h => ?_)
  exact ex_body0 (N := N_sure_weaving) (body := m_sure_weaving) (pss_one (ps_if (pt_not (pt_val (pe_call (ok_is_weaving T) (hr.mono (by decide)) (by rfl) T.g_is_weaving T.F_is_weaving.kp T.b_is_weaving .nil pass0 (pa_cons (pv 0) (pa_cons (pv 1) pa_nil))))) (pss_one ps_never) pss_nil)) (ss_if (sb_not (sb_B (sf_call0 (sa_cons se_var (sa_cons se_var sa_nil))))) ss_never ss_nil) (by decide) h
theorem ok_known (T : Txt K mg) : FnOk P w K mg base CX0 4 T.a_known T.fd_known ["inputs", "weaving", "rounds"] (spD0 K G_known) := by
  refine T.F_known.ok sc_known (fun vs H Q E h => spD0_len h) (fun cdv A outer s H vs Q E hr h => ?_)
  exact ex_body0 (N := N_known) (body := m_known) (pss_cons (ps_expr (pe_call (ok_sure_rounds T) (hr.mono (by decide)) (by rfl) T.g_sure_rounds T.F_sure_rounds.kp T.b_sure_rounds .nil pass0 (pa_cons (pv 2) (pa_cons (pe_glob (v := .int 5) (by rfl) (Classical.choose_spec T.g_MOST_ROUNDS) ⟨_, rfl⟩) pa_nil)))) (pss_cons (ps_if (PW.pt (pw_or (pt_not (pt_val (pe_callB (call_isiK' (K := K) rfl) (by rfl) T.m_isinstance (by decide +kernel) (pa_cons (pv 0) (pa_cons (pe_bltn (v := .ty "tuple") (by rfl) T.m_tuple (by decide +kernel) rfl) pa_nil))))) (pw_or (pt_cmpR (op_neK (K := K) rfl hr.units) (pe_callB (call_lenK (K := K) rfl) (by rfl) T.m_len PySem.boot_len (pa_cons (pv 0) pa_nil)) pe_int (nomark _)) (pw_or1 (pt_not (pt_val (pe_callB (call_allK (K := K) rfl rfl) (by rfl) T.m_all (by decide +kernel) (pa_cons (pe_lc (own := [("one", 3)]) rfl sc_known.nd (pi_seqK (K := K) rfl (pv 0)) (blkOk_by (own := [("one", 3)]) (N := N_known) (sc := defScope s_known) (by decide +kernel)) (fun _ _ _ _ _ => (pg_name (i := 3) sc_known.nd rfl (by first | exact .inl rfl | exact .inr rfl))) (fun _ _ _ _ _ => pts_nil) (fun _ _ _ _ _ => (pe_call (ok_is_from T) (hr.mono (by decide)) (by rfl) T.g_is_from T.F_is_from.kp T.b_is_from .nil pass0 (pa_cons (pv 3) (pa_cons pe_int (pa_cons pe_non pa_nil)))))) pa_nil)))))))) (pss_one ps_never) pss_nil) (pss_cons (ps_expr (pe_call (ok_sure_weaving T) (hr.mono (by decide)) (by rfl) T.g_sure_weaving T.F_sure_weaving.kp T.b_sure_weaving .nil pass0 (pa_cons (pv 1) (pa_cons (pe_op op_mulA pe_int (pv 2)) pa_nil)))) (pss_one (ps_ret (pe_call (ok_known_behind T) (hr.mono (by decide)) (by rfl) T.g_known_behind T.F_known_behind.kp T.b_known_behind .nil pass0 (pa_cons (pv 0) (pa_cons (pv 1) (pa_cons (pv 2) pa_nil))))))))) (ss_seq (ss_drop (sf_call0 (sa_cons se_var (sa_cons (se_of sf_int) sa_nil)))) (ss_seq (ss_if (sb_or (sb_not (sb_B (sf_callBs o_isi isiG_fine (sa_cons se_var (sa_cons (se_of sf_opq) sa_nil))))) (sb_or (sb_test (sf_op2 o_ne eqG_fine (se_of (sf_callBs o_len lenG_fine (sa_cons se_var sa_nil))) (se_of sf_int))) (sb_not (sb_B (sf_callBs o_all allG_fine (sa_cons (se_of (sf_lc (si_seq se_var) sg_name (by decide) sb_yes (se_of (sf_call0 (sa_cons se_var (sa_cons (se_of sf_int) (sa_cons (se_of sf_non) sa_nil))))))) sa_nil)))))) ss_never ss_nil) (ss_seq (ss_drop (sf_call0 (sa_cons se_var (sa_cons (se_of (sf_op2s o_mul mulG_fine (se_of sf_int) se_var)) sa_nil)))) (ss_ret (sf_call0 (sa_cons se_var (sa_cons se_var (sa_cons se_var sa_nil)))))))) (by decide) h
theorem ok_sure_hand (T : Txt K mg) : FnOk P w K mg base CX0 2 T.a_sure_hand T.fd_sure_hand ["hand"] (spD0 K G_sure_hand) := by
  refine T.F_sure_hand.ok sc_sure_hand (fun vs H Q E h => spD0_len h) (fun cdv A outer s H vs Q E hr h => ?_)
  exact ex_body0 (N := N_sure_hand) (body := m_sure_hand) (pss_one (ps_if (pt_not (pt_val (pe_call (ok_is_from T) (hr.mono (by decide)) (by rfl) T.g_is_from T.F_is_from.kp T.b_is_from .nil pass0 (pa_cons (pv 0) (pa_cons pe_int (pa_cons pe_int pa_nil)))))) (pss_one ps_never) pss_nil)) (ss_if (sb_not (sb_B (sf_call0 (sa_cons se_var (sa_cons (se_of sf_int) (sa_cons (se_of sf_int) sa_nil)))))) ss_never ss_nil) (by decide) h
theorem ok_both_of (T : Txt K mg) : FnOk P w K mg base CX0 1 T.a_both_of T.fd_both_of ["one", "other"] (spD0 K G_both_of) := by
  refine T.F_both_of.ok sc_both_of (fun vs H Q E h => spD0_len h) (fun cdv A outer s H vs Q E hr h => ?_)
  exact ex_body0 (N := N_both_of) (body := m_both_of) (pss_one (ps_ret (pe_callTy (call_tupleK (K := K) rfl) (by rfl) T.m_tuple (by decide +kernel) (pa_cons (pe_lc (own := [("first", 2), ("second", 3)]) rfl sc_both_of.nd (pi_zipK (K := K) rfl (by rfl) T.m_zip (pa_cons (pv 0) (pa_cons (pv 1) pa_nil))) (blkOk_by (own := [("first", 2), ("second", 3)]) (N := N_both_of) (sc := defScope s_both_of) (by decide +kernel)) (fun _ _ _ _ _ => (pg_K (K := K) (n := 2) rfl (pg_tup rfl (pgs_cons (pg_name (i := 2) sc_both_of.nd rfl (by first | exact .inl rfl | exact .inr rfl)) (pgs_cons (pg_name (i := 3) sc_both_of.nd rfl (by first | exact .inl rfl | exact .inr rfl)) pgs_nil))))) (fun _ _ _ _ _ => pts_nil) (fun _ _ _ _ _ => (pe_ifExp (pt_cmpR op_isN (pv 2) pe_non (nomark _)) (pv 3) (pv 2)))) pa_nil)))) (ss_ret (sf_callBs o_tuple tupleG_fine (sa_cons (se_of (sf_lc (si_zip (sa_cons se_var (sa_cons se_var sa_nil))) (sg_tup (sgs_cons sg_name (sgs_cons sg_name sgs_nil))) (by decide) sb_yes (se_of (sf_if (sb_test (sf_op2 o_isN isNG_fine se_var (se_of sf_non))) (sf_keep se_var) (sf_keep se_var))))) sa_nil))) (by decide) h
theorem ok_fit (T : Txt K mg) : FnOk P w K mg base CX0 1 T.a_fit T.fd_fit ["one", "other"] (spD0 K G_fit) := by
  refine T.F_fit.ok sc_fit (fun vs H Q E h => spD0_len h) (fun cdv A outer s H vs Q E hr h => ?_)
  exact ex_body0 (N := N_fit) (body := m_fit) (pss_one (ps_ret (pe_callB (call_allK (K := K) rfl rfl) (by rfl) T.m_all (by decide +kernel) (pa_cons (pe_lc (own := [("first", 2), ("second", 3)]) rfl sc_fit.nd (pi_zipK (K := K) rfl (by rfl) T.m_zip (pa_cons (pv 0) (pa_cons (pv 1) pa_nil))) (blkOk_by (own := [("first", 2), ("second", 3)]) (N := N_fit) (sc := defScope s_fit) (by decide +kernel)) (fun _ _ _ _ _ => (pg_K (K := K) (n := 2) rfl (pg_tup rfl (pgs_cons (pg_name (i := 2) sc_fit.nd rfl (by first | exact .inl rfl | exact .inr rfl)) (pgs_cons (pg_name (i := 3) sc_fit.nd rfl (by first | exact .inl rfl | exact .inr rfl)) pgs_nil))))) (fun _ _ _ _ _ => pts_nil) (fun _ _ _ _ _ => (pe_or (pe_cmpR op_isN (pv 2) pe_non (nomark _)) (pe_or (pe_cmpR op_isN (pv 3) pe_non (nomark _)) (pe_one (pe_cmpR (op_eqK (K := K) rfl hr.units) (pv 2) (pv 3) (nomark _))))))) pa_nil)))) (ss_ret (sf_callBs o_all allG_fine (sa_cons (se_of (sf_lc (si_zip (sa_cons se_var (sa_cons se_var sa_nil))) (sg_tup (sgs_cons sg_name (sgs_cons sg_name sgs_nil))) (by decide) sb_yes (se_of (sf_or (sf_op2 o_isN isNG_fine se_var (se_of sf_non)) (sf_or (sf_op2 o_isN isNG_fine se_var (se_of sf_non)) (sf_op2 o_eq eqG_fine se_var se_var)))))) sa_nil))) (by decide) h
theorem okn_spot_of (T : Txt K mg) : ∀ n : Nat, FnOk P w K mg base (L2.CX P w) (2 + n) T.a_spot_of T.fd_spot_of ["thing", "hand", "most"] (spX T.tr K (G_spot_of n))
  | 0 => T.F_spot_of.okX sc_spot_of (fun vs H Q E h => (spX_stuck h).elim) (fun cdv A outer s H vs Q E hr h => (spX_stuck h).elim)
  | n + 1 => by
    have ih := okn_spot_of T n
    refine T.F_spot_of.okX (k := 2 + n) sc_spot_of (fun vs H Q E h => spX_len h) (fun cdv A outer s H vs Q E hr h => ?_)
    refine ⟨_, (pss_cons (ps_if (pt_val (pe_call (ok_is_from T) (hr.mono (by omega)) (by rfl) T.g_is_from T.F_is_from.kp T.b_is_from .nil pass0 (pa_cons (pv 0) (pa_cons pe_int (pa_cons pe_non pa_nil))))) (pss_one (ps_ret (pe_tup (pa_cons pe_int (pa_cons (pv 1) (pa_cons (pe_callTy (call_tupleK (K := K) rfl) (by rfl) T.m_tuple (by decide +kernel) (pa_cons (pe_lc (own := [("one", 9)]) rfl sc_spot_of.nd (pi_seqK (K := K) rfl (pe_glob (v := .ref T.a_HANDS) (by rfl) T.g_HANDS rfl)) (blkOk_by (own := [("one", 9)]) (N := N_spot_of) (sc := defScope s_spot_of) (by decide +kernel)) (fun _ _ _ _ _ => (pg_name (i := 9) sc_spot_of.nd rfl (by first | exact .inl rfl | exact .inr rfl))) (fun _ _ _ _ _ => pts_nil) (fun _ _ _ _ _ => (pe_ifExp (pt_cmpR (op_eqK (K := K) rfl hr.units) (pv 1) (pv 9) (nomark _)) (pv 0) pe_non))) pa_nil)) pa_nil)))))) pss_nil) (pss_cons (ps_if (PW.pt (pw_or (pt_not (pt_val (pe_callB (call_isiK' (K := K) rfl) (by rfl) T.m_isinstance (by decide +kernel) (pa_cons (pv 0) (pa_cons (pe_bltn (v := .ty "tuple") (by rfl) T.m_tuple (by decide +kernel) rfl) pa_nil))))) (pw_or (pt_cmpR (op_neK (K := K) rfl hr.units) (pe_callB (call_lenK (K := K) rfl) (by rfl) T.m_len PySem.boot_len (pa_cons (pv 0) pa_nil)) pe_int (nomark _)) (pw_or1 (pt_cmpR (op_eqK (K := K) rfl hr.units) (pv 2) pe_int (nomark _)))))) (pss_one (ps_raise rfl (takes_of rfl rfl rfl rfl) (pmk_own PySem.F.excBase_ValueError T.x_NoKnown T.g_NoKnown T.k_NoKnown (raises_own T.s_NoKnown T.t_NoKnown) (by rfl)))) pss_nil) (pss_cons (ps_asg (pe_callS ih hr (by rfl) T.g_spot_of T.F_spot_of.kp T.b_spot_of (fun σ => passAt (takes_of rfl rfl rfl rfl) σ) (pa_cons (pe_ix (ix_seqK (K := K) rfl) (pv 0) pe_int (fun _ _ => rfl)) (pa_cons (pv 1) (pa_cons (pe_op op_sub (pv 2) pe_int) pa_nil)))) (pg_K (K := K) (n := 3) rfl (pg_tup rfl (pgs_cons (pg_name (i := 3) sc_spot_of.nd rfl (by first | exact .inl rfl | exact .inr rfl)) (pgs_cons (pg_name (i := 4) sc_spot_of.nd rfl (by first | exact .inl rfl | exact .inr rfl)) (pgs_cons (pg_name (i := 5) sc_spot_of.nd rfl (by first | exact .inl rfl | exact .inr rfl)) pgs_nil)))))) (pss_cons (ps_if (pt_cmpR op_isN (pe_ix (ix_seqK (K := K) rfl) (pv 0) pe_int (fun _ _ => rfl)) pe_non (nomark _)) (pss_one (ps_ret (pe_tup (pa_cons (pe_op (op_addK (K := K) rfl) (pv 3) pe_int) (pa_cons (pe_op op_mulA pe_int (pv 4)) (pa_cons (pv 5) pa_nil)))))) pss_nil) (pss_cons (ps_asg (pe_callS ih hr (by rfl) T.g_spot_of T.F_spot_of.kp T.b_spot_of (fun σ => passAt (takes_of rfl rfl rfl rfl) σ) (pa_cons (pe_ix (ix_seqK (K := K) rfl) (pv 0) pe_int (fun _ _ => rfl)) (pa_cons (pe_op op_sub pe_int (pv 1)) (pa_cons (pe_op op_sub (pv 2) pe_int) pa_nil)))) (pg_K (K := K) (n := 3) rfl (pg_tup rfl (pgs_cons (pg_name (i := 6) sc_spot_of.nd rfl (by first | exact .inl rfl | exact .inr rfl)) (pgs_cons (pg_name (i := 7) sc_spot_of.nd rfl (by first | exact .inl rfl | exact .inr rfl)) (pgs_cons (pg_name (i := 8) sc_spot_of.nd rfl (by first | exact .inl rfl | exact .inr rfl)) pgs_nil)))))) (pss_cons (ps_if (PW.pt (pw_or (pt_cmpR (op_neK (K := K) rfl hr.units) (pv 6) (pv 3) (nomark _)) (pw_or (pt_cmpR (op_neK (K := K) rfl hr.units) (pe_callB call_abs (by rfl) T.m_abs (by decide +kernel) (pa_cons (pe_op op_sub (pv 7) (pv 4)) pa_nil)) pe_int (nomark _)) (pw_or1 (pt_not (pt_val (pe_call (ok_fit T) (hr.mono (by omega)) (by rfl) T.g_fit T.F_fit.kp T.b_fit .nil pass0 (pa_cons (pv 5) (pa_cons (pv 8) pa_nil))))))))) (pss_one (ps_raise rfl (takes_of rfl rfl rfl rfl) (pmk_own PySem.F.excBase_ValueError T.x_NoKnown T.g_NoKnown T.k_NoKnown (raises_own T.s_NoKnown T.t_NoKnown) (by rfl)))) pss_nil) (pss_one (ps_ret (pe_tup (pa_cons (pe_op (op_addK (K := K) rfl) (pv 3) pe_int) (pa_cons (pe_op (op_addK (K := K) rfl) (pe_op op_mulA pe_int (pv 4)) (pe_op op_mulA pe_int (pe_op op_sub (pv 7) (pv 4)))) (pa_cons (pe_call (ok_both_of T) (hr.mono (by omega)) (by rfl) T.g_both_of T.F_both_of.kp T.b_both_of .nil pass0 (pa_cons (pv 5) (pa_cons (pv 8) pa_nil))) pa_nil)))))))))))), ?_⟩
    exact bodyX (N := N_spot_of) (body := m_spot_of (G_spot_of n)) (ss_seq (ss_if (sb_B (sf_callZ (sa_cons se_var (sa_cons (se_of sf_int) (sa_cons (se_of sf_non) sa_nil))))) (ss_ret (sf_tup (sa_cons (se_of sf_int) (sa_cons se_var (sa_cons (se_of (sf_callBs o_tuple tupleG_fine (sa_cons (se_of (sf_lc (si_seq (se_of (sf_glob T.c_HANDS))) sg_name (by decide) sb_yes (se_of (sf_if (sb_test (sf_op2 o_eq eqG_fine se_var se_var)) (sf_keep se_var) sf_non)))) sa_nil))) sa_nil))))) ss_nil) (ss_seq (ss_if (sb_or (sb_not (sb_B (sf_callBs o_isi isiG_fine (sa_cons se_var (sa_cons (se_of sf_opq) sa_nil))))) (sb_or (sb_test (sf_op2 o_ne eqG_fine (se_of (sf_callBs o_len lenG_fine (sa_cons se_var sa_nil))) (se_of sf_int))) (sb_test (sf_op2 o_eq eqG_fine se_var (se_of sf_int))))) (ss_raise (c := .ref 5) (C := T.c_NoKnown) rfl) ss_nil) (ss_seq (ss_asg (sf_callXS (sa_cons (se_of (sf_op2 o_ix ixG_fine se_var (se_of sf_int))) (sa_cons se_var (sa_cons (se_of (sf_op2 o_sub subG_fine se_var (se_of sf_int))) sa_nil)))) (sg_tup (sgs_cons sg_name (sgs_cons sg_name (sgs_cons sg_name sgs_nil))))) (ss_seq (ss_if (sb_test (sf_op2 o_isN isNG_fine (se_of (sf_op2 o_ix ixG_fine se_var (se_of sf_int))) (se_of sf_non))) (ss_ret (sf_tup (sa_cons (se_of (sf_op2s o_add addG_fine se_var (se_of sf_int))) (sa_cons (se_of (sf_op2s o_mul mulG_fine (se_of sf_int) se_var)) (sa_cons se_var sa_nil))))) ss_nil) (ss_seq (ss_asg (sf_callXS (sa_cons (se_of (sf_op2 o_ix ixG_fine se_var (se_of sf_int))) (sa_cons (se_of (sf_op2 o_sub subG_fine (se_of sf_int) se_var)) (sa_cons (se_of (sf_op2 o_sub subG_fine se_var (se_of sf_int))) sa_nil)))) (sg_tup (sgs_cons sg_name (sgs_cons sg_name (sgs_cons sg_name sgs_nil))))) (ss_seq (ss_if (sb_or (sb_test (sf_op2 o_ne eqG_fine se_var se_var)) (sb_or (sb_test (sf_op2 o_ne eqG_fine (se_of (sf_callBs o_int1 int1G_fine (sa_cons (se_of (sf_op2 o_sub subG_fine se_var se_var)) sa_nil))) (se_of sf_int))) (sb_not (sb_B (sf_callPZ (sa_cons se_var (sa_cons se_var sa_nil))))))) (ss_raise (c := .ref 5) (C := T.c_NoKnown) rfl) ss_nil) (ss_ret (sf_tup (sa_cons (se_of (sf_op2s o_add addG_fine se_var (se_of sf_int))) (sa_cons (se_of (sf_op2s o_add addG_fine (se_of (sf_op2s o_mul mulG_fine (se_of sf_int) se_var)) (se_of (sf_op2s o_mul mulG_fine (se_of sf_int) (se_of (sf_op2 o_sub subG_fine se_var se_var)))))) (sa_cons (se_of (sf_callPZ (sa_cons se_var (sa_cons se_var sa_nil)))) sa_nil))))))))))) (by decide) h
theorem ok_spot_of (T : Txt K mg) : FnOk P w K mg base (L2.CX P w) 8 T.a_spot_of T.fd_spot_of ["thing", "hand", "most"] (spX T.tr K (G_spot_of 6)) := okn_spot_of T 6
theorem ok_place (T : Txt K mg) : FnOk P w K mg base (L2.CX P w) 9 T.a_place T.fd_place ["known", "hand"] (spX T.tr K G_place) := by
  refine T.F_place.okX sc_place (fun vs H Q E h => spX_len h) (fun cdv A outer s H vs Q E hr h => ?_)
  exact ex_bodyX (N := N_place) (body := m_place) (pss_cons (ps_expr (pe_call (ok_sure_hand T) (hr.mono (by decide)) (by rfl) T.g_sure_hand T.F_sure_hand.kp T.b_sure_hand .nil pass0 (pa_cons (pv 1) pa_nil))) (pss_one (ps_ret (pe_ix (ix_seqK (K := K) rfl) (pe_callS (ok_spot_of T) (hr.mono (by decide)) (by rfl) T.g_spot_of T.F_spot_of.kp T.b_spot_of (fun σ => passAt (takes_of rfl rfl rfl rfl) σ) (pa_cons (pv 0) (pa_cons (pv 1) (pa_cons (pe_glob (v := .int 5) (by rfl) (Classical.choose_spec T.g_MOST_ROUNDS) ⟨_, rfl⟩) pa_nil)))) pe_int (fun _ _ => rfl))))) (ss_seq (ss_drop (sf_callZ (sa_cons se_var sa_nil))) (ss_ret (sf_op2 o_ix ixG_fine (se_of (sf_callXS (sa_cons se_var (sa_cons se_var (sa_cons (se_of sf_int) sa_nil))))) (se_of sf_int)))) (by decide) h
theorem ok__law_cell_at (T : Txt K mg) : FnOk P w K mg base CX0 1 T.a__law_cell_at T.fd__law_cell_at ["_law_script", "_law_k"] (spD0 K G__law_cell_at) := by
  refine T.F__law_cell_at.ok sc__law_cell_at (fun vs H Q E h => spD0_len h) (fun cdv A outer s H vs Q E hr h => ?_)
  exact ex_body0 (N := N__law_cell_at) (body := m__law_cell_at) (pss_cons (ps_if (pt_cmpR op_lt (pv 1) (pe_callB (call_lenK (K := K) rfl) (by rfl) T.m_len PySem.boot_len (pa_cons (pv 0) pa_nil)) (nomark _)) (pss_one (ps_ret (pe_ix (ix_seqK (K := K) rfl) (pv 0) (pv 1) (fun _ _ => rfl)))) pss_nil) (pss_one (ps_ret pe_int))) (ss_seq (ss_if (sb_test (sf_op2 o_cmp cmpG_fine se_var (se_of (sf_callBs o_len lenG_fine (sa_cons se_var sa_nil))))) (ss_ret (sf_op2 o_ix ixG_fine se_var se_var)) ss_nil) (ss_ret sf_int)) (by decide) h
theorem ok__law_well (T : Txt K mg) : FnOk P w K mg base CX0 1 T.a__law_well T.fd__law_well ["_law_cell"] (spD0 K G__law_well) := by
  refine T.F__law_well.ok sc__law_well (fun vs H Q E h => spD0_len h) (fun cdv A outer s H vs Q E hr h => ?_)
  exact ex_body0 (N := N__law_well) (body := m__law_well) (pss_one (ps_ret (pe_lst (pa_cons (pe_op op_mulA (pv 0) (pe_callTy call_int1 (by rfl) T.m_int (by decide +kernel) (pa_cons (pe_cmpR op_ge (pv 0) (pe_op op_pow pe_int pe_int) (nomark _)) pa_nil))) (pa_cons (pe_op op_mod (pv 0) pe_int) (pa_cons pe_int pa_nil)))))) (ss_ret (sf_lst (sa_cons (se_of (sf_op2s o_mul mulG_fine se_var (se_of (sf_callBs o_intc intG_fine (sa_cons (se_of (sf_op2 o_cmp cmpG_fine se_var (se_of (sf_op2 o_num numG_fine (se_of sf_int) (se_of sf_int))))) sa_nil))))) (sa_cons (se_of (sf_op2 o_num numG_fine se_var (se_of sf_int))) (sa_cons (se_of sf_int) sa_nil))))) (by decide) h
theorem ok__law_draw (T : Txt K mg) : FnOk P w K mg base CX0 1 T.a__law_draw T.fd__law_draw ["_law_well_here", "_law_many"] (spD0 K G__law_draw) := by
  refine T.F__law_draw.ok sc__law_draw (fun vs H Q E h => spD0_len h) (fun cdv A outer s H vs Q E hr h => ?_)
  exact ex_body0 (N := N__law_draw) (body := m__law_draw) (pss_cons (ps_if (pt_cmpR op_gt (pe_ix (ix_seqK (K := K) rfl) (pv 0) pe_int (fun _ _ => rfl)) pe_int (nomark _)) (pss_cons (ps_set (i := 3) sc__law_draw.nd rfl (by first | exact .inl rfl | exact .inr rfl) (pe_op op_mod (pe_ix (ix_seqK (K := K) rfl) (pv 0) pe_int (fun _ _ => rfl)) (pv 1))) (pss_cons (ps_asg (pe_op op_fdivW (pe_ix (ix_seqK (K := K) rfl) (pv 0) pe_int (fun _ _ => rfl)) (pv 1)) (pg_sub (pv 0) pe_int set_list)) (pss_one (ps_ret (pv 3))))) pss_nil) (pss_cons (ps_asg (pe_op (op_addK (K := K) rfl) (pe_ix (ix_seqK (K := K) rfl) (pv 0) pe_int (fun _ _ => rfl)) pe_int) (pg_sub (pv 0) pe_int set_list)) (pss_cons (ps_set (i := 2) sc__law_draw.nd rfl (by first | exact .inl rfl | exact .inr rfl) (pe_op op_mod (pe_op op_mulA (pe_op (op_addK (K := K) rfl) (pe_op (op_addK (K := K) rfl) (pe_ix (ix_seqK (K := K) rfl) (pv 0) pe_int (fun _ _ => rfl)) (pe_op op_mulA pe_int (pe_ix (ix_seqK (K := K) rfl) (pv 0) pe_int (fun _ _ => rfl)))) pe_int) pe_int) pe_int)) (pss_cons (ps_set (i := 2) sc__law_draw.nd rfl (by first | exact .inl rfl | exact .inr rfl) (pe_op op_mod (pe_op op_mulA (pv 2) (pe_op (op_addK (K := K) rfl) (pe_op (op_addK (K := K) rfl) (pe_op op_fdivW (pv 2) pe_int) pe_int) (pe_ix (ix_seqK (K := K) rfl) (pv 0) pe_int (fun _ _ => rfl)))) pe_int)) (pss_one (ps_ret (pe_op op_mod (pe_op op_fdivW (pe_op op_mod (pe_op op_mulA (pv 2) (pe_op (op_addK (K := K) rfl) (pe_op op_fdivW (pv 2) pe_int) pe_int)) pe_int) pe_int) (pv 1)))))))) (ss_seq (ss_if (sb_test (sf_op2 o_cmp cmpG_fine (se_of (sf_op2 o_ix ixG_fine se_var (se_of sf_int))) (se_of sf_int))) (ss_seq (ss_set (sf_op2 o_num numG_fine (se_of (sf_op2 o_ix ixG_fine se_var (se_of sf_int))) se_var)) (ss_seq (ss_setIx (sf_op2 o_num numG_fine (se_of (sf_op2 o_ix ixG_fine se_var (se_of sf_int))) se_var) (se_of sf_int)) ss_retVar)) ss_nil) (ss_seq (ss_setIx (sf_op2s o_add addG_fine (se_of (sf_op2 o_ix ixG_fine se_var (se_of sf_int))) (se_of sf_int)) (se_of sf_int)) (ss_seq (ss_set (sf_op2 o_num numG_fine (se_of (sf_op2s o_mul mulG_fine (se_of (sf_op2s o_add addG_fine (se_of (sf_op2s o_add addG_fine (se_of (sf_op2 o_ix ixG_fine se_var (se_of sf_int))) (se_of (sf_op2s o_mul mulG_fine (se_of sf_int) (se_of (sf_op2 o_ix ixG_fine se_var (se_of sf_int))))))) (se_of sf_int))) (se_of sf_int))) (se_of sf_int))) (ss_seq (ss_set (sf_op2 o_num numG_fine (se_of (sf_op2s o_mul mulG_fine se_var (se_of (sf_op2s o_add addG_fine (se_of (sf_op2s o_add addG_fine (se_of (sf_op2 o_num numG_fine se_var (se_of sf_int))) (se_of sf_int))) (se_of (sf_op2 o_ix ixG_fine se_var (se_of sf_int))))))) (se_of sf_int))) (ss_ret (sf_op2 o_num numG_fine (se_of (sf_op2 o_num numG_fine (se_of (sf_op2 o_num numG_fine (se_of (sf_op2s o_mul mulG_fine se_var (se_of (sf_op2s o_add addG_fine (se_of (sf_op2 o_num numG_fine se_var (se_of sf_int))) (se_of sf_int))))) (se_of sf_int))) (se_of sf_int))) se_var)))))) (by decide) h
theorem ok__law_one (T : Txt K mg) : FnOk P w K mg base CX0 2 T.a__law_one T.fd__law_one ["_law_well_here", "_law_some"] (spD0 K G__law_one) := by
  refine T.F__law_one.ok sc__law_one (fun vs H Q E h => spD0_len h) (fun cdv A outer s H vs Q E hr h => ?_)
  exact ex_body0 (N := N__law_one) (body := m__law_one) (pss_one (ps_ret (pe_ix (ix_seqK (K := K) rfl) (pv 1) (pe_call (ok__law_draw T) (hr.mono (by decide)) (by rfl) T.g__law_draw T.F__law_draw.kp T.b__law_draw .nil pass0 (pa_cons (pv 0) (pa_cons (pe_callB (call_lenK (K := K) rfl) (by rfl) T.m_len PySem.boot_len (pa_cons (pv 1) pa_nil)) pa_nil))) (fun _ _ => rfl)))) (ss_ret (sf_op2 o_ix ixG_fine se_var (se_of (sf_call0 (sa_cons se_var (sa_cons (se_of (sf_callBs o_len lenG_fine (sa_cons se_var sa_nil))) sa_nil)))))) (by decide) h
theorem ok__law_power (T : Txt K mg) : FnOk P w K mg base CX0 1 T.a__law_power T.fd__law_power ["_law_deep"] (spD0 K G__law_power) := by
  refine T.F__law_power.ok sc__law_power (fun vs H Q E h => spD0_len h) (fun cdv A outer s H vs Q E hr h => ?_)
  exact ex_body0 (N := N__law_power) (body := m__law_power) (pss_cons (ps_set (i := 1) sc__law_power.nd rfl (by first | exact .inl rfl | exact .inr rfl) pe_int) (pss_cons (ps_for PassesOwn.never rfl (pi_range1 (by rfl) T.m_range (pa_cons (pv 0) pa_nil)) (pg_name (i := 2) sc__law_power.nd rfl (by first | exact .inl rfl | exact .inr rfl)) (pss_one (ps_set (i := 1) sc__law_power.nd rfl (by first | exact .inl rfl | exact .inr rfl) (pe_op op_mulA pe_int (pv 1))))) (pss_one (ps_ret (pv 1))))) (ss_seq (ss_set sf_int) (ss_seq (ss_for (si_rng1 (sa_cons se_var sa_nil)) sg_name (ss_set (sf_op2s o_mul mulG_fine (se_of sf_int) se_var))) ss_retVar)) (by decide) h
theorem ok__law_weaving (T : Txt K mg) : FnOk P w K mg base CX0 3 T.a__law_weaving T.fd__law_weaving ["_law_well_here", "_law_deep", "_law_stops"] (spD0 K G__law_weaving) := by
  refine T.F__law_weaving.ok sc__law_weaving (fun vs H Q E h => spD0_len h) (fun cdv A outer s H vs Q E hr h => ?_)
  exact ex_body0 (N := N__law_weaving) (body := m__law_weaving) (pss_cons (ps_set (i := 3) sc__law_weaving.nd rfl (by first | exact .inl rfl | exact .inr rfl) (pe_lst (pa_cons (pe_op op_mulA pe_int (pv 1)) (pa_cons (pe_op op_mulA pe_int (pv 1)) pa_nil)))) (pss_cons (ps_if (pt_val (pv 2)) (pss_one (ps_asg (pe_call (ok__law_draw T) (hr.mono (by decide)) (by rfl) T.g__law_draw T.F__law_draw.kp T.b__law_draw .nil pass0 (pa_cons (pv 0) (pa_cons (pe_op (op_addK (K := K) rfl) (pe_op op_mulA pe_int (pv 1)) pe_int) pa_nil))) (pg_sub (pv 3) (pe_call (ok__law_draw T) (hr.mono (by decide)) (by rfl) T.g__law_draw T.F__law_draw.kp T.b__law_draw .nil pass0 (pa_cons (pv 0) (pa_cons pe_int pa_nil))) set_list))) pss_nil) (pss_cons (ps_set (i := 4) sc__law_weaving.nd rfl (by first | exact .inl rfl | exact .inr rfl) (pe_callTy (call_listK (K := K) rfl) (by rfl) T.m_list (by decide +kernel) (pa_cons (pv 3) pa_nil))) (pss_cons (ps_set (i := 5) sc__law_weaving.nd rfl (by first | exact .inl rfl | exact .inr rfl) (pe_lst pa_nil)) (pss_cons (ps_while PassesOwn.never (pt_cmpR op_gt (pe_callB (call_sumK (K := K) rfl rfl) (by rfl) T.m_sum (by decide +kernel) (pa_cons (pv 4) pa_nil)) pe_int (nomark _)) (pss_cons (ps_set (i := 6) sc__law_weaving.nd rfl (by first | exact .inl rfl | exact .inr rfl) (pe_call (ok__law_one T) (hr.mono (by decide)) (by rfl) T.g__law_one T.F__law_one.kp T.b__law_one .nil pass0 (pa_cons (pv 0) (pa_cons (pe_lc (own := [("_law_hand", 6)]) rfl sc__law_weaving.nd (pi_range1 (by rfl) T.m_range (pa_cons pe_int pa_nil)) (blkOk_by (own := [("_law_hand", 6)]) (N := N__law_weaving) (sc := defScope s__law_weaving) (by decide +kernel)) (fun _ _ _ _ _ => (pg_name (i := 6) sc__law_weaving.nd rfl (by first | exact .inl rfl | exact .inr rfl))) (fun _ _ _ _ _ => (pts_one (pt_cmpR op_gt (pe_ix (ix_seqK (K := K) rfl) (pv 4) (pv 6) (fun _ _ => rfl)) pe_int (nomark _)))) (fun _ _ _ _ _ => (pv 6))) pa_nil)))) (pss_one (ps_for PassesOwn.never rfl (pi_range1 (by rfl) T.m_range (pa_cons (pe_callB (call_min2 rfl) (by rfl) T.m_min (by decide +kernel) (pa_cons (pe_ix (ix_seqK (K := K) rfl) (pv 4) (pv 6) (fun _ _ => rfl)) (pa_cons (pe_op (op_addK (K := K) rfl) pe_int (pe_call (ok__law_draw T) (hr.mono (by decide)) (by rfl) T.g__law_draw T.F__law_draw.kp T.b__law_draw .nil pass0 (pa_cons (pv 0) (pa_cons (pe_call (ok__law_one T) (hr.mono (by decide)) (by rfl) T.g__law_one T.F__law_one.kp T.b__law_one .nil pass0 (pa_cons (pv 0) (pa_cons (pe_lst (pa_cons pe_int (pa_cons pe_int (pa_cons pe_int pa_nil)))) pa_nil))) pa_nil)))) pa_nil))) pa_nil)) (pg_name (i := 7) sc__law_weaving.nd rfl (by first | exact .inl rfl | exact .inr rfl)) (pss_cons (ps_expr (pe_bmK (K := K) rfl (pe_bm PySem.F.plainAttrs_list PySem.F.slot_list_append PySem.F.type_list_append mt_append (pv 5) (pa_cons (pv 6) pa_nil)))) (pss_one (ps_asg (pe_op op_sub (pe_ix (ix_seqK (K := K) rfl) (pv 4) (pv 6) (fun _ _ => rfl)) pe_int) (pg_sub (pv 4) (pv 6) set_list)))))))) (pss_one (ps_ret (pv 5)))))))) (ss_seq (ss_set (sf_lst (sa_cons (se_of (sf_op2s o_mul mulG_fine (se_of sf_int) se_var)) (sa_cons (se_of (sf_op2s o_mul mulG_fine (se_of sf_int) se_var)) sa_nil)))) (ss_seq (ss_if (sb_B (sf_keep se_var)) (ss_setIx (sf_call0 (sa_cons se_var (sa_cons (se_of (sf_op2s o_add addG_fine (se_of (sf_op2s o_mul mulG_fine (se_of sf_int) se_var)) (se_of sf_int))) sa_nil))) (se_of (sf_call0 (sa_cons se_var (sa_cons (se_of sf_int) sa_nil))))) ss_nil) (ss_seq (ss_set (sf_callBs o_list listG_fine (sa_cons se_var sa_nil))) (ss_seq (ss_set (sf_lst sa_nil)) (ss_seq (ss_while (sb_test (sf_op2 o_cmp cmpG_fine (se_of (sf_callBs o_sum sumG_fine (sa_cons se_var sa_nil))) (se_of sf_int))) (ss_seq (ss_set (sf_call0 (sa_cons se_var (sa_cons (se_of (sf_lc (si_rng1 (sa_cons (se_of sf_int) sa_nil)) sg_name (by decide) (sb_test (sf_op2 o_cmp cmpG_fine (se_of (sf_op2 o_ix ixG_fine se_var se_var)) (se_of sf_int))) se_var)) sa_nil)))) (ss_for (si_rng1 (sa_cons (se_of (sf_callBs o_int2 int2G_fine (sa_cons (se_of (sf_op2 o_ix ixG_fine se_var se_var)) (sa_cons (se_of (sf_op2s o_add addG_fine (se_of sf_int) (se_of (sf_call0 (sa_cons se_var (sa_cons (se_of (sf_call0 (sa_cons se_var (sa_cons (se_of (sf_lst (sa_cons (se_of sf_int) (sa_cons (se_of sf_int) (sa_cons (se_of sf_int) sa_nil))))) sa_nil)))) sa_nil)))))) sa_nil)))) sa_nil)) sg_name (ss_seq (ss_drop (sf_mut o_append (sa_cons se_var sa_nil))) (ss_setIx (sf_op2 o_sub subG_fine (se_of (sf_op2 o_ix ixG_fine se_var se_var)) (se_of sf_int)) se_var))))) ss_retVar))))) (by decide) h
theorem ok__law_places (T : Txt K mg) : FnOk P w K mg base CX0 1 T.a__law_places T.fd__law_places ["_law_weaving_here", "_law_deep"] (spD0 K G__law_places) := by
  refine T.F__law_places.ok sc__law_places (fun vs H Q E h => spD0_len h) (fun cdv A outer s H vs Q E hr h => ?_)
  exact ex_body0 (N := N__law_places) (body := m__law_places) (pss_cons (ps_set (i := 2) sc__law_places.nd rfl (by first | exact .inl rfl | exact .inr rfl) pe_dnewT) (pss_cons (ps_set (i := 3) sc__law_places.nd rfl (by first | exact .inl rfl | exact .inr rfl) (pe_lst (pa_cons pe_int (pa_cons pe_int pa_nil)))) (pss_cons (ps_set (i := 4) sc__law_places.nd rfl (by first | exact .inl rfl | exact .inr rfl) (pe_lst (pa_cons pe_int (pa_cons pe_int pa_nil)))) (pss_cons (ps_for PassesOwn.never rfl (pi_seqK (K := K) rfl (pv 0)) (pg_name (i := 5) sc__law_places.nd rfl (by first | exact .inl rfl | exact .inr rfl)) (pss_cons (ps_set (i := 6) sc__law_places.nd rfl (by first | exact .inl rfl | exact .inr rfl) (pe_op op_fdivW (pe_ix (ix_seqK (K := K) rfl) (pv 4) (pv 5) (fun _ _ => rfl)) pe_int)) (pss_cons (ps_if (pt_cmpR (op_eqK (K := K) rfl hr.units) (pe_op op_mod (pe_ix (ix_seqK (K := K) rfl) (pv 4) (pv 5) (fun _ _ => rfl)) pe_int) pe_int (nomark _)) (pss_one (ps_dput (hu_of hr) (pv 2) (pe_tup (pa_cons (pv 6) (pa_cons (pv 5) pa_nil))) (pe_ix (ix_seqK (K := K) rfl) (pv 3) (pv 5) (fun _ _ => rfl)) rfl)) (pss_one (ps_if (pt_cmp (pc_din (hu_of hr) (pe_tup (pa_cons (pv 6) (pa_cons (pe_op op_sub pe_int (pv 5)) pa_nil))) (pv 2)) (by with_unfolding_all rfl)) (pss_one (ps_asg (pe_op (op_addK (K := K) rfl) (pe_op op_mulA pe_int (pe_ix (ix_seqK (K := K) rfl) (pv 3) (pv 5) (fun _ _ => rfl))) (pe_op op_mulA pe_int (pe_op op_sub (pe_dget (hu_of hr) (pv 2) (pe_tup (pa_cons (pv 6) (pa_cons (pe_op op_sub pe_int (pv 5)) pa_nil))) (fun _ _ => rfl)) (pe_ix (ix_seqK (K := K) rfl) (pv 3) (pv 5) (fun _ _ => rfl))))) (pg_sub (pv 3) (pv 5) set_list))) (pss_one (ps_asg (pe_op op_mulA pe_int (pe_ix (ix_seqK (K := K) rfl) (pv 3) (pv 5) (fun _ _ => rfl))) (pg_sub (pv 3) (pv 5) set_list)))))) (pss_one (ps_asg (pe_op (op_addK (K := K) rfl) (pe_ix (ix_seqK (K := K) rfl) (pv 4) (pv 5) (fun _ _ => rfl)) pe_int) (pg_sub (pv 4) (pv 5) set_list)))))) (pss_one (ps_ret (pe_lc (own := [("_law_hand", 5)]) rfl sc__law_places.nd (pi_range1 (by rfl) T.m_range (pa_cons pe_int pa_nil)) (blkOk_by (own := [("_law_hand", 5)]) (N := N__law_places) (sc := defScope s__law_places) (by decide +kernel)) (fun _ _ _ _ _ => (pg_name (i := 5) sc__law_places.nd rfl (by first | exact .inl rfl | exact .inr rfl))) (fun _ _ _ _ _ => pts_nil) (fun _ _ _ _ _ => (pe_ix (ix_seqK (K := K) rfl) (pe_lst (pa_cons pe_non (pa_cons (pe_ix (ix_seqK (K := K) rfl) (pv 3) (pv 5) (fun _ _ => rfl)) pa_nil))) (pe_callTy call_int1 (by rfl) T.m_int (by decide +kernel) (pa_cons (pe_cmpR (op_eqK (K := K) rfl hr.units) (pe_ix (ix_seqK (K := K) rfl) (pv 4) (pv 5) (fun _ _ => rfl)) (pe_op op_mulA pe_int (pv 1)) (nomark _)) pa_nil)) (fun _ _ => rfl)))))))))) (ss_seq (ss_set sf_dnew) (ss_seq (ss_set (sf_lst (sa_cons (se_of sf_int) (sa_cons (se_of sf_int) sa_nil)))) (ss_seq (ss_set (sf_lst (sa_cons (se_of sf_int) (sa_cons (se_of sf_int) sa_nil)))) (ss_seq (ss_for (si_seq se_var) sg_name (ss_seq (ss_set (sf_op2 o_num numG_fine (se_of (sf_op2 o_ix ixG_fine se_var se_var)) (se_of sf_int))) (ss_seq (ss_if (sb_test (sf_op2 o_eq eqG_fine (se_of (sf_op2 o_num numG_fine (se_of (sf_op2 o_ix ixG_fine se_var se_var)) (se_of sf_int))) (se_of sf_int))) (ss_dput (sf_op2 o_ix ixG_fine se_var se_var) (se_of (sf_tup (sa_cons se_var (sa_cons se_var sa_nil))))) (ss_if (sb_B (sf_din (se_of (sf_tup (sa_cons se_var (sa_cons (se_of (sf_op2 o_sub subG_fine (se_of sf_int) se_var)) sa_nil)))) se_var)) (ss_setIx (sf_op2s o_add addG_fine (se_of (sf_op2s o_mul mulG_fine (se_of sf_int) (se_of (sf_op2 o_ix ixG_fine se_var se_var)))) (se_of (sf_op2s o_mul mulG_fine (se_of sf_int) (se_of (sf_op2 o_sub subG_fine (se_of (sf_dix se_var (se_of (sf_tup (sa_cons se_var (sa_cons (se_of (sf_op2 o_sub subG_fine (se_of sf_int) se_var)) sa_nil)))))) (se_of (sf_op2 o_ix ixG_fine se_var se_var))))))) se_var) (ss_setIx (sf_op2s o_mul mulG_fine (se_of sf_int) (se_of (sf_op2 o_ix ixG_fine se_var se_var))) se_var))) (ss_setIx (sf_op2s o_add addG_fine (se_of (sf_op2 o_ix ixG_fine se_var se_var)) (se_of sf_int)) se_var)))) (ss_ret (sf_lc (si_rng1 (sa_cons (se_of sf_int) sa_nil)) sg_name (by decide) sb_yes (se_of (sf_op2 o_ix ixG_fine (se_of (sf_lst (sa_cons (se_of sf_non) (sa_cons (se_of (sf_op2 o_ix ixG_fine se_var se_var)) sa_nil)))) (se_of (sf_callBs o_intc intG_fine (sa_cons (se_of (sf_op2 o_eq eqG_fine (se_of (sf_op2 o_ix ixG_fine se_var se_var)) (se_of (sf_op2s o_mul mulG_fine (se_of sf_int) se_var)))) sa_nil))))))))))) (by decide) h
theorem ok__law_told (T : Txt K mg) : FnOk P w K mg base CX0 10 T.a__law_told T.fd__law_told ["_law_thing", "_law_hand"] (spD0 K G__law_told) := by
  refine T.F__law_told.ok sc__law_told (fun vs H Q E h => spD0_len h) (fun cdv A outer s H vs Q E hr h => ?_)
  exact ex_body0 (N := N__law_told) (body := m__law_told) (pss_one (ps_try_fst (i := 2) rfl rfl sc__law_told.nd rfl (by rfl) ⟨by rfl, by decide, .inl T.g_NoKnown⟩ (fun Wi pl xx tk _ => pss_one (ps_ret (pe_callS (ok_place T) (hr.mono (by decide)) (by rfl) T.g_place T.F_place.kp T.b_place (fun σ => passAt tk σ) (pa_cons (pv 0) (pa_cons (pv 1) pa_nil))))) (fun a ob cl dd pl hz hf => (pss_one (ps_ret (pe_ix (ix_seqK (K := K) rfl) (pe_lst (pa_cons pe_str (pa_cons pe_str pa_nil))) (pe_callTy call_int1 (by rfl) T.m_int (by decide +kernel) (pa_cons (pe_and (pe_callB (call_isA (K := K) rfl hz hf) (by rfl) T.m_isinstance (by decide +kernel) (pa_cons (pv 2) (pa_cons (pe_bltn (v := .ty "ValueError") (by rfl) T.m_ValueError (by decide +kernel) rfl) pa_nil))) (pe_one (pe_not (pe_callB (call_isA (K := K) rfl hz hf) (by rfl) T.m_isinstance (by decide +kernel) (pa_cons (pv 2) (pa_cons (pe_glob (v := .ref T.c_NoHand) (by rfl) T.g_NoHand rfl) pa_nil)))))) pa_nil)) (fun _ _ => rfl))))))) (ss_tryE (tr := T.tr) (fun E => (sf_callXS (sa_cons se_var (sa_cons se_var sa_nil)))) goes_ret T.sub_NoKnown (fun a s => (ss_ret (sf_op2 o_ix ixG_fine (se_of (sf_lst (sa_cons (se_of sf_str) (sa_cons (se_of sf_str) sa_nil)))) (se_of (sf_callBs o_intc intG_fine (sa_cons (se_of (sf_and (sf_isx T.subOk (c := .type "ValueError") (cv := .ty "ValueError") (fun u h => h)) (sf_not (sf_isx T.subOk (c := .ref 1) (cv := .ref T.c_NoHand) (fun u h => h))))) sa_nil))))))) (by decide) h
theorem ok__law_mixed_right (T : Txt K mg) : FnOk P w K mg base CX0 11 T.a__law_mixed_right T.fd__law_mixed_right ["_law_well_here", "_law_inputs", "_law_deep"] (spD0 K G__law_mixed_right) := by
  refine T.F__law_mixed_right.ok sc__law_mixed_right (fun vs H Q E h => spD0_len h) (fun cdv A outer s H vs Q E hr h => ?_)
  exact ex_body0 (N := N__law_mixed_right) (body := m__law_mixed_right) (pss_cons (ps_set (i := 3) sc__law_mixed_right.nd rfl (by first | exact .inl rfl | exact .inr rfl) (pe_call (ok__law_draw T) (hr.mono (by decide)) (by rfl) T.g__law_draw T.F__law_draw.kp T.b__law_draw .nil pass0 (pa_cons (pv 0) (pa_cons pe_int pa_nil)))) (pss_cons (ps_par (i := 7) (j := 8) rfl sc__law_mixed_right.nd rfl rfl (by decide) rfl rfl (pa_cons (pe_call (ok__law_weaving T) (hr.mono (by decide)) (by rfl) T.g__law_weaving T.F__law_weaving.kp T.b__law_weaving .nil pass0 (pa_cons (pv 0) (pa_cons (pv 2) (pa_cons pe_bl pa_nil)))) (pa_cons (pe_call (ok__law_weaving T) (hr.mono (by decide)) (by rfl) T.g__law_weaving T.F__law_weaving.kp T.b__law_weaving .nil pass0 (pa_cons (pv 0) (pa_cons (pv 2) (pa_cons pe_bl pa_nil)))) pa_nil)) rfl) (pss_cons (ps_set (i := 4) sc__law_mixed_right.nd rfl (by first | exact .inl rfl | exact .inr rfl) (pe_ix (ix_seqK (K := K) rfl) (pe_callK (ok_known T) (hr.mono (by decide)) (by rfl) T.g_known T.F_known.kp T.k_known pass0 (pa_cons (pv 1) (pa_cons (pv 7) pa_nil)) (pk_cons (pv 2) pk_nil)) (pv 3) (fun _ _ => rfl))) (pss_cons (ps_set (i := 5) sc__law_mixed_right.nd rfl (by first | exact .inl rfl | exact .inr rfl) (pe_ix (ix_seqK (K := K) rfl) (pe_callK (ok_known T) (hr.mono (by decide)) (by rfl) T.g_known T.F_known.kp T.k_known pass0 (pa_cons (pv 1) (pa_cons (pv 8) pa_nil)) (pk_cons (pv 2) pk_nil)) (pe_op op_sub pe_int (pv 3)) (fun _ _ => rfl))) (pss_cons (ps_par (i := 9) (j := 10) rfl sc__law_mixed_right.nd rfl rfl (by decide) rfl rfl (pa_cons (pe_ix (ix_seqK (K := K) rfl) (pe_call (ok__law_places T) (hr.mono (by decide)) (by rfl) T.g__law_places T.F__law_places.kp T.b__law_places .nil pass0 (pa_cons (pv 7) (pa_cons (pv 2) pa_nil))) (pv 3) (fun _ _ => rfl)) (pa_cons (pe_ix (ix_seqK (K := K) rfl) (pe_call (ok__law_places T) (hr.mono (by decide)) (by rfl) T.g__law_places T.F__law_places.kp T.b__law_places .nil pass0 (pa_cons (pv 8) (pa_cons (pv 2) pa_nil))) (pe_op op_sub pe_int (pv 3)) (fun _ _ => rfl)) pa_nil)) rfl) (pss_cons (ps_set (i := 6) sc__law_mixed_right.nd rfl (by first | exact .inl rfl | exact .inr rfl) pe_str) (pss_cons (ps_if (PW.pt (pw_and (pt_cmpR (op_eqK (K := K) rfl hr.units) (pe_callB call_abs (by rfl) T.m_abs (by decide +kernel) (pa_cons (pe_op op_sub (pv 10) (pv 9)) pa_nil)) pe_int (nomark _)) (pw_and1 (pt_cmpR op_lt (pv 2) pe_int (nomark _))))) (pss_one (ps_set (i := 6) sc__law_mixed_right.nd rfl (by first | exact .inl rfl | exact .inr rfl) (pe_op (op_addK (K := K) rfl) (pe_op op_mulA pe_int (pv 9)) (pe_op op_mulA pe_int (pe_op op_sub (pv 10) (pv 9)))))) pss_nil) (pss_cons (ps_if (pt_cmpR (op_neK (K := K) rfl hr.units) (pe_call (ok__law_told T) (hr.mono (by decide)) (by rfl) T.g__law_told T.F__law_told.kp T.b__law_told .nil pass0 (pa_cons (pe_tup (pa_cons (pv 4) (pa_cons (pv 5) pa_nil))) (pa_cons (pv 3) pa_nil))) (pv 6) (nomark _)) (pss_one (ps_ret pe_bl)) pss_nil) (pss_cons (ps_if (PW.pt (pw_and (pt_cmpR (op_neK (K := K) rfl hr.units) (pe_ix (ix_seqK (K := K) rfl) (pv 1) pe_int (fun _ _ => rfl)) (pe_ix (ix_seqK (K := K) rfl) (pv 1) pe_int (fun _ _ => rfl)) (nomark _)) (pw_and1 (pt_cmpR (op_neK (K := K) rfl hr.units) (pe_call (ok__law_told T) (hr.mono (by decide)) (by rfl) T.g__law_told T.F__law_told.kp T.b__law_told .nil pass0 (pa_cons (pe_tup (pa_cons (pv 4) (pa_cons (pv 4) pa_nil))) (pa_cons (pv 3) pa_nil))) pe_str (nomark _))))) (pss_one (ps_ret pe_bl)) pss_nil) (pss_one (ps_ret (pe_cmpR (op_eqK (K := K) rfl hr.units) (pe_call (ok__law_told T) (hr.mono (by decide)) (by rfl) T.g__law_told T.F__law_told.kp T.b__law_told .nil pass0 (pa_cons (pe_tup (pa_cons (pv 4) (pa_cons pe_non pa_nil))) (pa_cons (pv 3) pa_nil))) (pe_ix (ix_seqK (K := K) rfl) (pe_lst (pa_cons pe_str (pa_cons (pe_op op_mulA pe_int (pv 9)) pa_nil))) (pe_callTy call_int1 (by rfl) T.m_int (by decide +kernel) (pa_cons (pe_cmpR op_lt (pv 2) pe_int (nomark _)) pa_nil)) (fun _ _ => rfl)) (nomark _))))))))))))) (ss_seq (ss_set (sf_call0 (sa_cons se_var (sa_cons (se_of sf_int) sa_nil)))) (ss_seq (ss_par (sa_cons (se_of (sf_call0 (sa_cons se_var (sa_cons se_var (sa_cons (se_of sf_bl) sa_nil))))) (sa_cons (se_of (sf_call0 (sa_cons se_var (sa_cons se_var (sa_cons (se_of sf_bl) sa_nil))))) sa_nil))) (ss_seq (ss_set (sf_op2 o_ix ixG_fine (se_of (sf_callK0 (sa_cons se_var (sa_cons se_var sa_nil)) (sa_cons se_var sa_nil))) se_var)) (ss_seq (ss_set (sf_op2 o_ix ixG_fine (se_of (sf_callK0 (sa_cons se_var (sa_cons se_var sa_nil)) (sa_cons se_var sa_nil))) (se_of (sf_op2 o_sub subG_fine (se_of sf_int) se_var)))) (ss_seq (ss_par (sa_cons (se_of (sf_op2 o_ix ixG_fine (se_of (sf_call0 (sa_cons se_var (sa_cons se_var sa_nil)))) se_var)) (sa_cons (se_of (sf_op2 o_ix ixG_fine (se_of (sf_call0 (sa_cons se_var (sa_cons se_var sa_nil)))) (se_of (sf_op2 o_sub subG_fine (se_of sf_int) se_var)))) sa_nil))) (ss_seq (ss_set sf_str) (ss_seq (ss_if (sb_and (sb_test (sf_op2 o_eq eqG_fine (se_of (sf_callBs o_int1 int1G_fine (sa_cons (se_of (sf_op2 o_sub subG_fine se_var se_var)) sa_nil))) (se_of sf_int))) (sb_test (sf_op2 o_cmp cmpG_fine se_var (se_of sf_int)))) (ss_set (sf_op2s o_add addG_fine (se_of (sf_op2s o_mul mulG_fine (se_of sf_int) se_var)) (se_of (sf_op2s o_mul mulG_fine (se_of sf_int) (se_of (sf_op2 o_sub subG_fine se_var se_var)))))) ss_nil) (ss_seq (ss_if (sb_test (sf_op2 o_ne eqG_fine (se_of (sf_call0 (sa_cons (se_of (sf_tup (sa_cons se_var (sa_cons se_var sa_nil)))) (sa_cons se_var sa_nil)))) se_var)) (ss_ret sf_bl) ss_nil) (ss_seq (ss_if (sb_and (sb_test (sf_op2 o_ne eqG_fine (se_of (sf_op2 o_ix ixG_fine se_var (se_of sf_int))) (se_of (sf_op2 o_ix ixG_fine se_var (se_of sf_int))))) (sb_test (sf_op2 o_ne eqG_fine (se_of (sf_call0 (sa_cons (se_of (sf_tup (sa_cons se_var (sa_cons se_var sa_nil)))) (sa_cons se_var sa_nil)))) (se_of sf_str)))) (ss_ret sf_bl) ss_nil) (ss_ret (sf_op2 o_eq eqG_fine (se_of (sf_call0 (sa_cons (se_of (sf_tup (sa_cons se_var (sa_cons (se_of sf_non) sa_nil)))) (sa_cons se_var sa_nil)))) (se_of (sf_op2 o_ix ixG_fine (se_of (sf_lst (sa_cons (se_of sf_str) (sa_cons (se_of (sf_op2s o_mul mulG_fine (se_of sf_int) se_var)) sa_nil)))) (se_of (sf_callBs o_intc intG_fine (sa_cons (se_of (sf_op2 o_cmp cmpG_fine se_var (se_of sf_int))) sa_nil)))))))))))))))) (by decide) h
theorem ok__law_right (T : Txt K mg) : FnOk P w K mg base CX0 12 T.a__law_right T.fd__law_right ["_law_well_here"] (spD0 K G__law_right) := by
  refine T.F__law_right.ok sc__law_right (fun vs H Q E h => spD0_len h) (fun cdv A outer s H vs Q E hr h => ?_)
  exact ex_body0 (N := N__law_right) (body := m__law_right) (pss_cons (ps_set (i := 1) sc__law_right.nd rfl (by first | exact .inl rfl | exact .inr rfl) (pe_op (op_addK (K := K) rfl) pe_int (pe_call (ok__law_draw T) (hr.mono (by decide)) (by rfl) T.g__law_draw T.F__law_draw.kp T.b__law_draw .nil pass0 (pa_cons (pv 0) (pa_cons pe_int pa_nil))))) (pss_cons (ps_set (i := 2) sc__law_right.nd rfl (by first | exact .inl rfl | exact .inr rfl) (pe_tup (pa_cons (pe_call (ok__law_draw T) (hr.mono (by decide)) (by rfl) T.g__law_draw T.F__law_draw.kp T.b__law_draw .nil pass0 (pa_cons (pv 0) (pa_cons pe_int pa_nil))) (pa_cons (pe_call (ok__law_draw T) (hr.mono (by decide)) (by rfl) T.g__law_draw T.F__law_draw.kp T.b__law_draw .nil pass0 (pa_cons (pv 0) (pa_cons (pe_call (ok__law_one T) (hr.mono (by decide)) (by rfl) T.g__law_one T.F__law_one.kp T.b__law_one .nil pass0 (pa_cons (pv 0) (pa_cons (pe_lst (pa_cons pe_int (pa_cons (pe_op op_pow pe_int pe_int) pa_nil))) pa_nil))) pa_nil))) pa_nil)))) (pss_cons (ps_set (i := 3) sc__law_right.nd rfl (by first | exact .inl rfl | exact .inr rfl) (pe_call (ok__law_weaving T) (hr.mono (by decide)) (by rfl) T.g__law_weaving T.F__law_weaving.kp T.b__law_weaving .nil pass0 (pa_cons (pv 0) (pa_cons (pv 1) (pa_cons (pe_cmpR (op_eqK (K := K) rfl hr.units) (pe_call (ok__law_draw T) (hr.mono (by decide)) (by rfl) T.g__law_draw T.F__law_draw.kp T.b__law_draw .nil pass0 (pa_cons (pv 0) (pa_cons pe_int pa_nil))) pe_int (nomark _)) pa_nil))))) (pss_cons (ps_set (i := 4) sc__law_right.nd rfl (by first | exact .inl rfl | exact .inr rfl) (pe_callK (ok_known T) (hr.mono (by decide)) (by rfl) T.g_known T.F_known.kp T.k_known pass0 (pa_cons (pv 2) (pa_cons (pv 3) pa_nil)) (pk_cons (pv 1) pk_nil))) (pss_cons (ps_set (i := 5) sc__law_right.nd rfl (by first | exact .inl rfl | exact .inr rfl) (pe_call (ok__law_places T) (hr.mono (by decide)) (by rfl) T.g__law_places T.F__law_places.kp T.b__law_places .nil pass0 (pa_cons (pv 3) (pa_cons (pv 1) pa_nil)))) (pss_cons (ps_for PassesOwn.never rfl (pi_range1 (by rfl) T.m_range (pa_cons pe_int pa_nil)) (pg_name (i := 6) sc__law_right.nd rfl (by first | exact .inl rfl | exact .inr rfl)) (pss_one (ps_if (pt_cmpR op_notN (pe_ix (ix_seqK (K := K) rfl) (pv 4) (pv 6) (fun _ _ => rfl)) pe_non (nomark _)) (pss_cons (ps_set (i := 7) sc__law_right.nd rfl (by first | exact .inl rfl | exact .inr rfl) (pe_call (ok_place T) (hr.mono (by decide)) (by rfl) T.g_place T.F_place.kp T.b_place .nil passL (pa_cons (pe_ix (ix_seqK (K := K) rfl) (pv 4) (pv 6) (fun _ _ => rfl)) (pa_cons (pv 6) pa_nil)))) (pss_one (ps_if (PW.pt (pw_or (pt_cmpR (op_neK (K := K) rfl hr.units) (pv 7) (pe_ix (ix_seqK (K := K) rfl) (pv 5) (pv 6) (fun _ _ => rfl)) (nomark _)) (pw_or (pt_val (pe_callB (call_isiK' (K := K) rfl) (by rfl) T.m_isinstance (by decide +kernel) (pa_cons (pv 7) (pa_cons (pe_bltn (v := .ty "bool") (by rfl) T.m_bool (by decide +kernel) rfl) pa_nil)))) (pw_or (pt_cmpR (op_neK (K := K) rfl hr.units) (pe_op op_mod (pv 7) pe_int) (pv 6) (nomark _)) (pw_or1 (pt_not (pt_chain op_le op_le pe_int (pv 7) (pe_call (ok__law_power T) (hr.mono (by decide)) (by rfl) T.g__law_power T.F__law_power.kp T.b__law_power .nil pass0 (pa_cons (pv 1) pa_nil))))))))) (pss_one (ps_ret pe_bl)) pss_nil))) pss_nil))) (pss_cons (ps_if (PW.pt (pw_and (pt_cmpR (op_notInA (K := K) rfl (units65 hr)) pe_non (pv 5) (by with_unfolding_all rfl)) (pw_and1 (pt_cmpR (op_neK (K := K) rfl hr.units) (pe_callB call_abs (by rfl) T.m_abs (by decide +kernel) (pa_cons (pe_op op_sub (pe_ix (ix_seqK (K := K) rfl) (pv 5) pe_int (fun _ _ => rfl)) (pe_ix (ix_seqK (K := K) rfl) (pv 5) pe_int (fun _ _ => rfl))) pa_nil)) pe_int (nomark _))))) (pss_one (ps_ret pe_bl)) pss_nil) (pss_cons (ps_if (pt_not (pt_val (pe_call (ok__law_mixed_right T) (hr.mono (by decide)) (by rfl) T.g__law_mixed_right T.F__law_mixed_right.kp T.b__law_mixed_right .nil pass0 (pa_cons (pv 0) (pa_cons (pv 2) (pa_cons (pe_ix (ix_seqK (K := K) rfl) (pe_lst (pa_cons (pv 1) (pa_cons pe_int pa_nil))) (pe_call (ok__law_draw T) (hr.mono (by decide)) (by rfl) T.g__law_draw T.F__law_draw.kp T.b__law_draw .nil pass0 (pa_cons (pv 0) (pa_cons pe_int pa_nil))) (fun _ _ => rfl)) pa_nil)))))) (pss_one (ps_ret pe_bl)) pss_nil) (pss_one (ps_ret (pe_and (pe_cmpR (op_eqK (K := K) rfl hr.units) (pe_call (ok_place T) (hr.mono (by decide)) (by rfl) T.g_place T.F_place.kp T.b_place .nil passL (pa_cons (pe_ix (ix_seqK (K := K) rfl) (pv 2) pe_int (fun _ _ => rfl)) (pa_cons pe_int pa_nil))) pe_int (nomark _)) (pe_one (pe_cmpR (op_eqK (K := K) rfl hr.units) (pe_call (ok_place T) (hr.mono (by decide)) (by rfl) T.g_place T.F_place.kp T.b_place .nil passL (pa_cons (pe_ix (ix_seqK (K := K) rfl) (pv 2) pe_int (fun _ _ => rfl)) (pa_cons pe_int pa_nil))) pe_int (nomark _)))))))))))))) (ss_seq (ss_set (sf_op2s o_add addG_fine (se_of sf_int) (se_of (sf_call0 (sa_cons se_var (sa_cons (se_of sf_int) sa_nil)))))) (ss_seq (ss_set (sf_tup (sa_cons (se_of (sf_call0 (sa_cons se_var (sa_cons (se_of sf_int) sa_nil)))) (sa_cons (se_of (sf_call0 (sa_cons se_var (sa_cons (se_of (sf_call0 (sa_cons se_var (sa_cons (se_of (sf_lst (sa_cons (se_of sf_int) (sa_cons (se_of (sf_op2 o_num numG_fine (se_of sf_int) (se_of sf_int))) sa_nil)))) sa_nil)))) sa_nil)))) sa_nil)))) (ss_seq (ss_set (sf_call0 (sa_cons se_var (sa_cons se_var (sa_cons (se_of (sf_op2 o_eq eqG_fine (se_of (sf_call0 (sa_cons se_var (sa_cons (se_of sf_int) sa_nil)))) (se_of sf_int))) sa_nil))))) (ss_seq (ss_set (sf_callK0 (sa_cons se_var (sa_cons se_var sa_nil)) (sa_cons se_var sa_nil))) (ss_seq (ss_set (sf_call0 (sa_cons se_var (sa_cons se_var sa_nil)))) (ss_seq (ss_for (si_rng1 (sa_cons (se_of sf_int) sa_nil)) sg_name (ss_if (sb_test (sf_op2 o_notN isNG_fine (se_of (sf_op2 o_ix ixG_fine se_var se_var)) (se_of sf_non))) (ss_seq (ss_set (sf_callX0 (sa_cons (se_of (sf_op2 o_ix ixG_fine se_var se_var)) (sa_cons se_var sa_nil)))) (ss_if (sb_or (sb_test (sf_op2 o_ne eqG_fine se_var (se_of (sf_op2 o_ix ixG_fine se_var se_var)))) (sb_or (sb_B (sf_callBs o_isi isiG_fine (sa_cons se_var (sa_cons (se_of sf_opq) sa_nil)))) (sb_or (sb_test (sf_op2 o_ne eqG_fine (se_of (sf_op2 o_num numG_fine se_var (se_of sf_int))) se_var)) (sb_not (sb_test (sf_chain (se_of sf_int) se_var (se_of (sf_call0 (sa_cons se_var sa_nil))))))))) (ss_ret sf_bl) ss_nil)) ss_nil)) (ss_seq (ss_if (sb_and (sb_test (sf_op2 o_in inG_fine (se_of sf_non) se_var)) (sb_test (sf_op2 o_ne eqG_fine (se_of (sf_callBs o_int1 int1G_fine (sa_cons (se_of (sf_op2 o_sub subG_fine (se_of (sf_op2 o_ix ixG_fine se_var (se_of sf_int))) (se_of (sf_op2 o_ix ixG_fine se_var (se_of sf_int))))) sa_nil))) (se_of sf_int)))) (ss_ret sf_bl) ss_nil) (ss_seq (ss_if (sb_not (sb_B (sf_call0 (sa_cons se_var (sa_cons se_var (sa_cons (se_of (sf_op2 o_ix ixG_fine (se_of (sf_lst (sa_cons se_var (sa_cons (se_of sf_int) sa_nil)))) (se_of (sf_call0 (sa_cons se_var (sa_cons (se_of sf_int) sa_nil)))))) sa_nil)))))) (ss_ret sf_bl) ss_nil) (ss_ret (sf_and (sf_op2 o_eq eqG_fine (se_of (sf_callX0 (sa_cons (se_of (sf_op2 o_ix ixG_fine se_var (se_of sf_int))) (sa_cons (se_of sf_int) sa_nil)))) (se_of sf_int)) (sf_op2 o_eq eqG_fine (se_of (sf_callX0 (sa_cons (se_of (sf_op2 o_ix ixG_fine se_var (se_of sf_int))) (sa_cons (se_of sf_int) sa_nil)))) (se_of sf_int)))))))))))) (by decide) h
theorem ok_law (T : Txt K mg) : FnOk P w K mg base CX0 13 T.a_law T.fd_law ["_law_script"] (spD0 K G_law) := by
  refine T.F_law.ok sc_law (fun vs H Q E h => spD0_len h) (fun cdv A outer s H vs Q E hr h => ?_)
  exact ex_body0 (N := N_law) (body := m_law) (pss_cons (ps_for PassesOwn.never rfl (pi_seqK (K := K) rfl (pe_op (op_addK (K := K) rfl) (pe_lst (pa_cons (pe_call (ok__law_cell_at T) (hr.mono (by decide)) (by rfl) T.g__law_cell_at T.F__law_cell_at.kp T.b__law_cell_at .nil pass0 (pa_cons (pv 0) (pa_cons pe_int pa_nil))) pa_nil)) (pe_slice (sl_listK (K := K) rfl) (pv 0) (po_some pe_int) (po_some pe_int)))) (pg_name (i := 1) sc_law.nd rfl (by first | exact .inl rfl | exact .inr rfl)) (pss_one (ps_if (pt_not (pt_val (pe_call (ok__law_right T) (hr.mono (by decide)) (by rfl) T.g__law_right T.F__law_right.kp T.b__law_right .nil pass0 (pa_cons (pe_call (ok__law_well T) (hr.mono (by decide)) (by rfl) T.g__law_well T.F__law_well.kp T.b__law_well .nil pass0 (pa_cons (pv 1) pa_nil)) pa_nil)))) (pss_one (ps_ret pe_bl)) pss_nil))) (pss_one (ps_ret pe_bl))) (ss_seq (ss_for (si_seq (se_of (sf_op2s o_add addG_fine (se_of (sf_lst (sa_cons (se_of (sf_call0 (sa_cons se_var (sa_cons (se_of sf_int) sa_nil)))) sa_nil))) (se_of (sf_slice se_var (so_some (se_of sf_int)) (so_some (se_of sf_int))))))) sg_name (ss_if (sb_not (sb_B (sf_callF0 (sf_call0 (sa_cons se_var sa_nil))))) (ss_ret sf_bl) ss_nil)) (ss_ret sf_bl)) (by decide) h
end
end My

namespace My
open PySem L2 DL
theorem is_from_int (i lo hi : Int) : G_is_from [⟨.p, .int i⟩, ⟨.p, .int lo⟩, ⟨.p, .int hi⟩] = .ret ⟨.p, .bl (decide (lo ≤ i) && decide (i ≤ hi))⟩ [.int i, .int lo, .int hi] := by
  by_cases h : i < lo
  · have h' : ¬ lo ≤ i := by omega
    simp [a_bindR, a_bindS, a_opd, a_constE, a_varE, a_keepE, a_op1, a_op2, a_nilA, a_consA, a_callB, a_tupE, a_lstE, a_testV, a_andT, a_orT, a_notT, a_andV, a_orV, a_notV, a_ifE, a_seqS, a_ifS, a_setS, a_dropS, a_retS, a_retVarS, a_asgS, a_callE, a_callF, a_appK, a_forS, a_compE, a_seqI, a_rng1, a_rng2, a_methL, a_mutL, a_setIxS, a_noPt, a_somePt, a_sliceE, a_chainE, a_nameG, a_nilG, a_consG, a_tupG, a_dnewE, a_dputS, a_dgetE, a_callP, a_zipI, a_enumI, revG, itemsT, inG, maxG, zipD, enumD, defG, runDef, env0, En.sv, getL, Opd.get, pureO, pureL, callD, argL, argO, lentS, wbE, wb1, wbAt, endF, backD, pB, pI, nL, numG, cmpG, subG, addG, mulG, negG, isNG, ixG, itemsD, itemsL, lenG, listG, tupleG, sumG, allG, int1G, int2G, intG, isiG, tyD, appendK, popK, clearK, insertK, reverseK, extendK, countG, atI, ixN, eqG, intsOf, blsOf, wipeE, restE, tkeyD, keysD, keyD, kit_ii, kit_ib, kit_bi, kit_bb, kit_ll, kit_tt, kit_lt, kit_tl, kit_ti, kit_li, kit_ni, kit_si, kit_nt, kit_it, kit_st, kit_bt, a_raiseS, a_callZ, a_callPZ, a_dixE, a_dinE, a_parS, a_isxE, G_is_from, m_is_from, h, h']
  · have h' : lo ≤ i := by omega
    simp [a_bindR, a_bindS, a_opd, a_constE, a_varE, a_keepE, a_op1, a_op2, a_nilA, a_consA, a_callB, a_tupE, a_lstE, a_testV, a_andT, a_orT, a_notT, a_andV, a_orV, a_notV, a_ifE, a_seqS, a_ifS, a_setS, a_dropS, a_retS, a_retVarS, a_asgS, a_callE, a_callF, a_appK, a_forS, a_compE, a_seqI, a_rng1, a_rng2, a_methL, a_mutL, a_setIxS, a_noPt, a_somePt, a_sliceE, a_chainE, a_nameG, a_nilG, a_consG, a_tupG, a_dnewE, a_dputS, a_dgetE, a_callP, a_zipI, a_enumI, revG, itemsT, inG, maxG, zipD, enumD, defG, runDef, env0, En.sv, getL, Opd.get, pureO, pureL, callD, argL, argO, lentS, wbE, wb1, wbAt, endF, backD, pB, pI, nL, numG, cmpG, subG, addG, mulG, negG, isNG, ixG, itemsD, itemsL, lenG, listG, tupleG, sumG, allG, int1G, int2G, intG, isiG, tyD, appendK, popK, clearK, insertK, reverseK, extendK, countG, atI, ixN, eqG, intsOf, blsOf, wipeE, restE, tkeyD, keysD, keyD, kit_ii, kit_ib, kit_bi, kit_bb, kit_ll, kit_tt, kit_lt, kit_tl, kit_ti, kit_li, kit_ni, kit_si, kit_nt, kit_it, kit_st, kit_bt, a_raiseS, a_callZ, a_callPZ, a_dixE, a_dinE, a_parS, a_isxE, G_is_from, m_is_from, h, h']
theorem is_from_non (i lo : Int) : G_is_from [⟨.p, .int i⟩, ⟨.p, .int lo⟩, ⟨.p, .non⟩] = .ret ⟨.p, .bl (decide (lo ≤ i))⟩ [.int i, .int lo, .non] := by
  by_cases h : i < lo
  · have h' : ¬ lo ≤ i := by omega
    simp [a_bindR, a_bindS, a_opd, a_constE, a_varE, a_keepE, a_op1, a_op2, a_nilA, a_consA, a_callB, a_tupE, a_lstE, a_testV, a_andT, a_orT, a_notT, a_andV, a_orV, a_notV, a_ifE, a_seqS, a_ifS, a_setS, a_dropS, a_retS, a_retVarS, a_asgS, a_callE, a_callF, a_appK, a_forS, a_compE, a_seqI, a_rng1, a_rng2, a_methL, a_mutL, a_setIxS, a_noPt, a_somePt, a_sliceE, a_chainE, a_nameG, a_nilG, a_consG, a_tupG, a_dnewE, a_dputS, a_dgetE, a_callP, a_zipI, a_enumI, revG, itemsT, inG, maxG, zipD, enumD, defG, runDef, env0, En.sv, getL, Opd.get, pureO, pureL, callD, argL, argO, lentS, wbE, wb1, wbAt, endF, backD, pB, pI, nL, numG, cmpG, subG, addG, mulG, negG, isNG, ixG, itemsD, itemsL, lenG, listG, tupleG, sumG, allG, int1G, int2G, intG, isiG, tyD, appendK, popK, clearK, insertK, reverseK, extendK, countG, atI, ixN, eqG, intsOf, blsOf, wipeE, restE, tkeyD, keysD, keyD, kit_ii, kit_ib, kit_bi, kit_bb, kit_ll, kit_tt, kit_lt, kit_tl, kit_ti, kit_li, kit_ni, kit_si, kit_nt, kit_it, kit_st, kit_bt, a_raiseS, a_callZ, a_callPZ, a_dixE, a_dinE, a_parS, a_isxE, G_is_from, m_is_from, h, h']
  · have h' : lo ≤ i := by omega
    simp [a_bindR, a_bindS, a_opd, a_constE, a_varE, a_keepE, a_op1, a_op2, a_nilA, a_consA, a_callB, a_tupE, a_lstE, a_testV, a_andT, a_orT, a_notT, a_andV, a_orV, a_notV, a_ifE, a_seqS, a_ifS, a_setS, a_dropS, a_retS, a_retVarS, a_asgS, a_callE, a_callF, a_appK, a_forS, a_compE, a_seqI, a_rng1, a_rng2, a_methL, a_mutL, a_setIxS, a_noPt, a_somePt, a_sliceE, a_chainE, a_nameG, a_nilG, a_consG, a_tupG, a_dnewE, a_dputS, a_dgetE, a_callP, a_zipI, a_enumI, revG, itemsT, inG, maxG, zipD, enumD, defG, runDef, env0, En.sv, getL, Opd.get, pureO, pureL, callD, argL, argO, lentS, wbE, wb1, wbAt, endF, backD, pB, pI, nL, numG, cmpG, subG, addG, mulG, negG, isNG, ixG, itemsD, itemsL, lenG, listG, tupleG, sumG, allG, int1G, int2G, intG, isiG, tyD, appendK, popK, clearK, insertK, reverseK, extendK, countG, atI, ixN, eqG, intsOf, blsOf, wipeE, restE, tkeyD, keysD, keyD, kit_ii, kit_ib, kit_bi, kit_bb, kit_ll, kit_tt, kit_lt, kit_tl, kit_ti, kit_li, kit_ni, kit_si, kit_nt, kit_it, kit_st, kit_bt, a_raiseS, a_callZ, a_callPZ, a_dixE, a_dinE, a_parS, a_isxE, G_is_from, m_is_from, h, h']
theorem sure_rounds_ok (r m : Int) (h0 : 0 ≤ r) (h1 : r ≤ m) : G_sure_rounds [⟨.p, .int r⟩, ⟨.p, .int m⟩] = .ret ⟨.p, .non⟩ [.int r, .int m] := by
  simp [a_bindR, a_bindS, a_opd, a_constE, a_varE, a_keepE, a_op1, a_op2, a_nilA, a_consA, a_callB, a_tupE, a_lstE, a_testV, a_andT, a_orT, a_notT, a_andV, a_orV, a_notV, a_ifE, a_seqS, a_ifS, a_setS, a_dropS, a_retS, a_retVarS, a_asgS, a_callE, a_callF, a_appK, a_forS, a_compE, a_seqI, a_rng1, a_rng2, a_methL, a_mutL, a_setIxS, a_noPt, a_somePt, a_sliceE, a_chainE, a_nameG, a_nilG, a_consG, a_tupG, a_dnewE, a_dputS, a_dgetE, a_callP, a_zipI, a_enumI, revG, itemsT, inG, maxG, zipD, enumD, defG, runDef, env0, En.sv, getL, Opd.get, pureO, pureL, callD, argL, argO, lentS, wbE, wb1, wbAt, endF, backD, pB, pI, nL, numG, cmpG, subG, addG, mulG, negG, isNG, ixG, itemsD, itemsL, lenG, listG, tupleG, sumG, allG, int1G, int2G, intG, isiG, tyD, appendK, popK, clearK, insertK, reverseK, extendK, countG, atI, ixN, eqG, intsOf, blsOf, wipeE, restE, tkeyD, keysD, keyD, kit_ii, kit_ib, kit_bi, kit_bb, kit_ll, kit_tt, kit_lt, kit_tl, kit_ti, kit_li, kit_ni, kit_si, kit_nt, kit_it, kit_st, kit_bt, a_raiseS, a_callZ, a_callPZ, a_dixE, a_dinE, a_parS, a_isxE, G_sure_rounds, m_sure_rounds, is_from_int, h0, h1]
theorem cdiv_lit {x : Int} {n : Nat} (h : 0 < (n : Int)) (hl : n.log2 < 9000) : CDivW x (n : Int) := ⟨h, by simpa using hl⟩
theorem cd2 (x : Int) : CDivW x 2 := ⟨by decide, by decide⟩
theorem cd3 (x : Int) : CDivW x 3 := ⟨by decide, by decide⟩
theorem cd1013 (x : Int) : CDivW x 1013 := ⟨by decide, by decide⟩
theorem cd2003 (x : Int) : CDivW x 2003 := ⟨by decide, by decide⟩
theorem cm_l (x : Int) : CMul 86969 x := .inl ⟨by decide, by decide⟩
theorem cm_r (x : Int) : CMul x 48271 := .inr ⟨by decide, by decide⟩
theorem cm2 (x : Int) : CMul 2 x := .inl ⟨by decide, by decide⟩
theorem cm_m {x y : Int} : CMul (x % 2147483629) y := .inl ⟨by omega, by omega⟩
theorem cm_n {x y : Int} : CMul (x % 2147483587) y := .inl ⟨by omega, by omega⟩
theorem cm_0 (x : Int) : CMul x 0 := .inr ⟨by decide, by decide⟩
theorem cm_1 (x : Int) : CMul x 1 := .inr ⟨by decide, by decide⟩
def mixM (b c : Int) : Int := (b + 86969 * (c + 1) + 1) * 48271 % 2147483629 * ((b + 86969 * (c + 1) + 1) * 48271 % 2147483629 / 1013 + 69623 + (c + 1)) % 2147483587
def mixN (b c : Int) : Int := mixM b c * (mixM b c / 2003 + 40692) % 2147483563 / 3
/-- a draw: some number below many -/
theorem draw_ok (a b c many : Int) (h0 : 0 < many) (hl : many.natAbs.log2 < 9000) : ∃ v a' c' : Int, 0 ≤ v ∧ v < many ∧
    G__law_draw [⟨.b, .lst [.int a, .int b, .int c]⟩, ⟨.p, .int many⟩] = .ret ⟨.p, .int v⟩ [.lst [.int a', .int b, .int c'], .int many] := by
  have cd : ∀ x, CDivW x many := fun x => ⟨h0, hl⟩
  by_cases h : 0 < a
  · refine ⟨a % many, a / many, c, Int.emod_nonneg _ (by omega), Int.emod_lt_of_pos _ h0, ?_⟩
    simp [a_bindR, a_bindS, a_opd, a_constE, a_varE, a_keepE, a_op1, a_op2, a_nilA, a_consA, a_callB, a_tupE, a_lstE, a_testV, a_andT, a_orT, a_notT, a_andV, a_orV, a_notV, a_ifE, a_seqS, a_ifS, a_setS, a_dropS, a_retS, a_retVarS, a_asgS, a_callE, a_callF, a_appK, a_forS, a_compE, a_seqI, a_rng1, a_rng2, a_methL, a_mutL, a_setIxS, a_noPt, a_somePt, a_sliceE, a_chainE, a_nameG, a_nilG, a_consG, a_tupG, a_dnewE, a_dputS, a_dgetE, a_callP, a_zipI, a_enumI, revG, itemsT, inG, maxG, zipD, enumD, defG, runDef, env0, En.sv, getL, Opd.get, pureO, pureL, callD, argL, argO, lentS, wbE, wb1, wbAt, endF, backD, pB, pI, nL, numG, cmpG, subG, addG, mulG, negG, isNG, ixG, itemsD, itemsL, lenG, listG, tupleG, sumG, allG, int1G, int2G, intG, isiG, tyD, appendK, popK, clearK, insertK, reverseK, extendK, countG, atI, ixN, eqG, intsOf, blsOf, wipeE, restE, tkeyD, keysD, keyD, kit_ii, kit_ib, kit_bi, kit_bb, kit_ll, kit_tt, kit_lt, kit_tl, kit_ti, kit_li, kit_ni, kit_si, kit_nt, kit_it, kit_st, kit_bt, a_raiseS, a_callZ, a_callPZ, a_dixE, a_dinE, a_parS, a_isxE, G__law_draw, m__law_draw, h, h0, cd]
  · refine ⟨mixN b c % many, a, c + 1, Int.emod_nonneg _ (by omega), Int.emod_lt_of_pos _ h0, ?_⟩
    simp [a_bindR, a_bindS, a_opd, a_constE, a_varE, a_keepE, a_op1, a_op2, a_nilA, a_consA, a_callB, a_tupE, a_lstE, a_testV, a_andT, a_orT, a_notT, a_andV, a_orV, a_notV, a_ifE, a_seqS, a_ifS, a_setS, a_dropS, a_retS, a_retVarS, a_asgS, a_callE, a_callF, a_appK, a_forS, a_compE, a_seqI, a_rng1, a_rng2, a_methL, a_mutL, a_setIxS, a_noPt, a_somePt, a_sliceE, a_chainE, a_nameG, a_nilG, a_consG, a_tupG, a_dnewE, a_dputS, a_dgetE, a_callP, a_zipI, a_enumI, revG, itemsT, inG, maxG, zipD, enumD, defG, runDef, env0, En.sv, getL, Opd.get, pureO, pureL, callD, argL, argO, lentS, wbE, wb1, wbAt, endF, backD, pB, pI, nL, numG, cmpG, subG, addG, mulG, negG, isNG, ixG, itemsD, itemsL, lenG, listG, tupleG, sumG, allG, int1G, int2G, intG, isiG, tyD, appendK, popK, clearK, insertK, reverseK, extendK, countG, atI, ixN, eqG, intsOf, blsOf, wipeE, restE, tkeyD, keysD, keyD, kit_ii, kit_ib, kit_bi, kit_bb, kit_ll, kit_tt, kit_lt, kit_tl, kit_ti, kit_li, kit_ni, kit_si, kit_nt, kit_it, kit_st, kit_bt, a_raiseS, a_callZ, a_callPZ, a_dixE, a_dinE, a_parS, a_isxE, G__law_draw, m__law_draw, h, h0, cd, cd1013, cd2003, cd3, cm_l, cm_r, cm_m, cm_n, mixN, mixM]
theorem well_ok (c : Int) : ∃ a b : Int, G__law_well [⟨.p, .int c⟩] = .ret ⟨.o, .lst [.int a, .int b, .int 0]⟩ [.int c] := by
  by_cases h : 1000000000000000000 ≤ c
  · exact ⟨c, c % 2147483629, by simp [a_bindR, a_bindS, a_opd, a_constE, a_varE, a_keepE, a_op1, a_op2, a_nilA, a_consA, a_callB, a_tupE, a_lstE, a_testV, a_andT, a_orT, a_notT, a_andV, a_orV, a_notV, a_ifE, a_seqS, a_ifS, a_setS, a_dropS, a_retS, a_retVarS, a_asgS, a_callE, a_callF, a_appK, a_forS, a_compE, a_seqI, a_rng1, a_rng2, a_methL, a_mutL, a_setIxS, a_noPt, a_somePt, a_sliceE, a_chainE, a_nameG, a_nilG, a_consG, a_tupG, a_dnewE, a_dputS, a_dgetE, a_callP, a_zipI, a_enumI, revG, itemsT, inG, maxG, zipD, enumD, defG, runDef, env0, En.sv, getL, Opd.get, pureO, pureL, callD, argL, argO, lentS, wbE, wb1, wbAt, endF, backD, pB, pI, nL, numG, cmpG, subG, addG, mulG, negG, isNG, ixG, itemsD, itemsL, lenG, listG, tupleG, sumG, allG, int1G, int2G, intG, isiG, tyD, appendK, popK, clearK, insertK, reverseK, extendK, countG, atI, ixN, eqG, intsOf, blsOf, wipeE, restE, tkeyD, keysD, keyD, kit_ii, kit_ib, kit_bi, kit_bb, kit_ll, kit_tt, kit_lt, kit_tl, kit_ti, kit_li, kit_ni, kit_si, kit_nt, kit_it, kit_st, kit_bt, a_raiseS, a_callZ, a_callPZ, a_dixE, a_dinE, a_parS, a_isxE, G__law_well, m__law_well, CPow, h, cm_1]⟩
  · exact ⟨0, c % 2147483629, by simp [a_bindR, a_bindS, a_opd, a_constE, a_varE, a_keepE, a_op1, a_op2, a_nilA, a_consA, a_callB, a_tupE, a_lstE, a_testV, a_andT, a_orT, a_notT, a_andV, a_orV, a_notV, a_ifE, a_seqS, a_ifS, a_setS, a_dropS, a_retS, a_retVarS, a_asgS, a_callE, a_callF, a_appK, a_forS, a_compE, a_seqI, a_rng1, a_rng2, a_methL, a_mutL, a_setIxS, a_noPt, a_somePt, a_sliceE, a_chainE, a_nameG, a_nilG, a_consG, a_tupG, a_dnewE, a_dputS, a_dgetE, a_callP, a_zipI, a_enumI, revG, itemsT, inG, maxG, zipD, enumD, defG, runDef, env0, En.sv, getL, Opd.get, pureO, pureL, callD, argL, argO, lentS, wbE, wb1, wbAt, endF, backD, pB, pI, nL, numG, cmpG, subG, addG, mulG, negG, isNG, ixG, itemsD, itemsL, lenG, listG, tupleG, sumG, allG, int1G, int2G, intG, isiG, tyD, appendK, popK, clearK, insertK, reverseK, extendK, countG, atI, ixN, eqG, intsOf, blsOf, wipeE, restE, tkeyD, keysD, keyD, kit_ii, kit_ib, kit_bi, kit_bb, kit_ll, kit_tt, kit_lt, kit_tl, kit_ti, kit_li, kit_ni, kit_si, kit_nt, kit_it, kit_st, kit_bt, a_raiseS, a_callZ, a_callPZ, a_dixE, a_dinE, a_parS, a_isxE, G__law_well, m__law_well, CPow, h, cm_0]⟩
/-- one of some things, drawn -/
theorem one_ok (a b c : Int) (fl : Fl) (xs : List D) (hx : 0 < xs.length) (hl : xs.length ≤ 100000) (hf : fl ≠ .o) : ∃ (n : Nat) (x : D) (a' c' : Int), xs[n]? = some x ∧
    G__law_one [⟨.b, .lst [.int a, .int b, .int c]⟩, ⟨fl, .lst xs⟩] = .ret ⟨.p, x⟩ [.lst [.int a', .int b, .int c'], .lst xs] := by
  obtain ⟨v, a', c', h1, h2, h3⟩ := draw_ok a b c xs.length (by omega) (by
    have : xs.length.log2 ≤ 17 := by
      have := Nat.log2_lt (n := xs.length) (k := 18) (by omega)
      omega
    simpa using (by omega : xs.length.log2 < 9000))
  have hv : v.toNat < xs.length := by omega
  refine ⟨v.toNat, xs[v.toNat], a', c', List.getElem?_eq_getElem hv, ?_⟩
  have e1 : v < (xs.length : Int) := h2
  cases fl with
  | o => exact absurd rfl hf
  | p => simp [a_bindR, a_bindS, a_opd, a_constE, a_varE, a_keepE, a_op1, a_op2, a_nilA, a_consA, a_callB, a_tupE, a_lstE, a_testV, a_andT, a_orT, a_notT, a_andV, a_orV, a_notV, a_ifE, a_seqS, a_ifS, a_setS, a_dropS, a_retS, a_retVarS, a_asgS, a_callE, a_callF, a_appK, a_forS, a_compE, a_seqI, a_rng1, a_rng2, a_methL, a_mutL, a_setIxS, a_noPt, a_somePt, a_sliceE, a_chainE, a_nameG, a_nilG, a_consG, a_tupG, a_dnewE, a_dputS, a_dgetE, a_callP, a_zipI, a_enumI, revG, itemsT, inG, maxG, zipD, enumD, defG, runDef, env0, En.sv, getL, Opd.get, pureO, pureL, callD, argL, argO, lentS, wbE, wb1, wbAt, endF, backD, pB, pI, nL, numG, cmpG, subG, addG, mulG, negG, isNG, ixG, itemsD, itemsL, lenG, listG, tupleG, sumG, allG, int1G, int2G, intG, isiG, tyD, appendK, popK, clearK, insertK, reverseK, extendK, countG, atI, ixN, eqG, intsOf, blsOf, wipeE, restE, tkeyD, keysD, keyD, kit_ii, kit_ib, kit_bi, kit_bb, kit_ll, kit_tt, kit_lt, kit_tl, kit_ti, kit_li, kit_ni, kit_si, kit_nt, kit_it, kit_st, kit_bt, a_raiseS, a_callZ, a_callPZ, a_dixE, a_dinE, a_parS, a_isxE, G__law_one, m__law_one, h3, h1, e1, hv, List.getElem?_eq_getElem]
  | b => simp [a_bindR, a_bindS, a_opd, a_constE, a_varE, a_keepE, a_op1, a_op2, a_nilA, a_consA, a_callB, a_tupE, a_lstE, a_testV, a_andT, a_orT, a_notT, a_andV, a_orV, a_notV, a_ifE, a_seqS, a_ifS, a_setS, a_dropS, a_retS, a_retVarS, a_asgS, a_callE, a_callF, a_appK, a_forS, a_compE, a_seqI, a_rng1, a_rng2, a_methL, a_mutL, a_setIxS, a_noPt, a_somePt, a_sliceE, a_chainE, a_nameG, a_nilG, a_consG, a_tupG, a_dnewE, a_dputS, a_dgetE, a_callP, a_zipI, a_enumI, revG, itemsT, inG, maxG, zipD, enumD, defG, runDef, env0, En.sv, getL, Opd.get, pureO, pureL, callD, argL, argO, lentS, wbE, wb1, wbAt, endF, backD, pB, pI, nL, numG, cmpG, subG, addG, mulG, negG, isNG, ixG, itemsD, itemsL, lenG, listG, tupleG, sumG, allG, int1G, int2G, intG, isiG, tyD, appendK, popK, clearK, insertK, reverseK, extendK, countG, atI, ixN, eqG, intsOf, blsOf, wipeE, restE, tkeyD, keysD, keyD, kit_ii, kit_ib, kit_bi, kit_bb, kit_ll, kit_tt, kit_lt, kit_tl, kit_ti, kit_li, kit_ni, kit_si, kit_nt, kit_it, kit_st, kit_bt, a_raiseS, a_callZ, a_callPZ, a_dixE, a_dinE, a_parS, a_isxE, G__law_one, m__law_one, h3, h1, e1, hv, List.getElem?_eq_getElem]

theorem comp_from (s : Src) (x0 x1 : Option SV) (hG : Grd s [x0, x1, none]) (hs : List Int) (hl : hs.length ≤ 1000) (hh : Hands hs) : compLoop s [2] (nameG 2) (fun e => .ok true e) (opd (callE G_is_from (consA (varE 2) (consA (opd (constE (.int 0))) (consA (opd (constE (.int 1))) nilA))))) (hs.map D.int) [x0, x1, none] [] =
    .ok (hs.map fun _ => D.bl true) [x0, x1, none] := by
  rw [compLoop_each (f := fun _ => .bl true) hG (hs.map D.int) (by simp; omega) fun d hd => ?_]
  · simp
  · obtain ⟨h, hm, rfl⟩ := List.mem_map.mp hd
    obtain ⟨g0, g1⟩ := hh h hm
    refine ⟨[x0, x1, some ⟨.p, .int h⟩], .val (.bl true), [x0, x1, some ⟨.p, .int h⟩], _, rfl, ?_, rfl, rfl⟩
    rcases x0 with _ | ⟨f0, d0⟩ <;> rcases x1 with _ | ⟨f1, d1⟩ <;> (try cases f0) <;> (try cases f1) <;> simp [a_bindR, a_bindS, a_opd, a_constE, a_varE, a_keepE, a_op1, a_op2, a_nilA, a_consA, a_callB, a_tupE, a_lstE, a_testV, a_andT, a_orT, a_notT, a_andV, a_orV, a_notV, a_ifE, a_seqS, a_ifS, a_setS, a_dropS, a_retS, a_retVarS, a_asgS, a_callE, a_callF, a_appK, a_forS, a_compE, a_seqI, a_rng1, a_rng2, a_methL, a_mutL, a_setIxS, a_noPt, a_somePt, a_sliceE, a_chainE, a_nameG, a_nilG, a_consG, a_tupG, a_dnewE, a_dputS, a_dgetE, a_callP, a_zipI, a_enumI, revG, itemsT, inG, maxG, zipD, enumD, defG, runDef, env0, En.sv, getL, Opd.get, pureO, pureL, callD, argL, argO, lentS, wbE, wb1, wbAt, endF, backD, pB, pI, nL, numG, cmpG, subG, addG, mulG, negG, isNG, ixG, itemsD, itemsL, lenG, listG, tupleG, sumG, allG, int1G, int2G, intG, isiG, tyD, appendK, popK, clearK, insertK, reverseK, extendK, countG, atI, ixN, eqG, intsOf, blsOf, wipeE, restE, tkeyD, keysD, keyD, kit_ii, kit_ib, kit_bi, kit_bb, kit_ll, kit_tt, kit_lt, kit_tl, kit_ti, kit_li, kit_ni, kit_si, kit_nt, kit_it, kit_st, kit_bt, a_raiseS, a_callZ, a_callPZ, a_dixE, a_dinE, a_parS, a_isxE, is_from_int, g0, g1]
theorem comp_count (fl : Fl) (hs : List Int) (n : Int) (h0 : (hs.count 0 : Int) ≤ n) (h1 : (hs.count 1 : Int) ≤ n) : compLoop ⟨[.int 0, .int 1], none⟩ [2] (nameG 2) (fun e => .ok true e) (opd (op2 (cmpG (fun i j => decide (i ≤ j))) (opd (methL countG (varE 0) (consA (varE 2) nilA))) (varE 1))) [.int 0, .int 1] [some ⟨fl, .lst (hs.map D.int)⟩, some ⟨.p, .int n⟩, none] [] =
    .ok [.bl true, .bl true] [some ⟨fl, .lst (hs.map D.int)⟩, some ⟨.p, .int n⟩, none] := by
  rw [compLoop_each (f := fun _ => .bl true) grd_none _ (by simp) fun d hd => ?_]
  · rfl
  · have : d = .int 0 ∨ d = .int 1 := by simpa using hd
    rcases this with rfl | rfl
    · refine ⟨_, .val (.bl true), [some ⟨fl, .lst (hs.map D.int)⟩, some ⟨.p, .int n⟩, some ⟨.p, .int 0⟩], _, rfl, ?_, rfl, rfl⟩
      simp [a_bindR, a_bindS, a_opd, a_constE, a_varE, a_keepE, a_op1, a_op2, a_nilA, a_consA, a_callB, a_tupE, a_lstE, a_testV, a_andT, a_orT, a_notT, a_andV, a_orV, a_notV, a_ifE, a_seqS, a_ifS, a_setS, a_dropS, a_retS, a_retVarS, a_asgS, a_callE, a_callF, a_appK, a_forS, a_compE, a_seqI, a_rng1, a_rng2, a_methL, a_mutL, a_setIxS, a_noPt, a_somePt, a_sliceE, a_chainE, a_nameG, a_nilG, a_consG, a_tupG, a_dnewE, a_dputS, a_dgetE, a_callP, a_zipI, a_enumI, revG, itemsT, inG, maxG, zipD, enumD, defG, runDef, env0, En.sv, getL, Opd.get, pureO, pureL, callD, argL, argO, lentS, wbE, wb1, wbAt, endF, backD, pB, pI, nL, numG, cmpG, subG, addG, mulG, negG, isNG, ixG, itemsD, itemsL, lenG, listG, tupleG, sumG, allG, int1G, int2G, intG, isiG, tyD, appendK, popK, clearK, insertK, reverseK, extendK, countG, atI, ixN, eqG, intsOf, blsOf, wipeE, restE, tkeyD, keysD, keyD, kit_ii, kit_ib, kit_bi, kit_bb, kit_ll, kit_tt, kit_lt, kit_tl, kit_ti, kit_li, kit_ni, kit_si, kit_nt, kit_it, kit_st, kit_bt, a_raiseS, a_callZ, a_callPZ, a_dixE, a_dinE, a_parS, a_isxE, h0]
    · refine ⟨_, .val (.bl true), [some ⟨fl, .lst (hs.map D.int)⟩, some ⟨.p, .int n⟩, some ⟨.p, .int 1⟩], _, rfl, ?_, rfl, rfl⟩
      simp [a_bindR, a_bindS, a_opd, a_constE, a_varE, a_keepE, a_op1, a_op2, a_nilA, a_consA, a_callB, a_tupE, a_lstE, a_testV, a_andT, a_orT, a_notT, a_andV, a_orV, a_notV, a_ifE, a_seqS, a_ifS, a_setS, a_dropS, a_retS, a_retVarS, a_asgS, a_callE, a_callF, a_appK, a_forS, a_compE, a_seqI, a_rng1, a_rng2, a_methL, a_mutL, a_setIxS, a_noPt, a_somePt, a_sliceE, a_chainE, a_nameG, a_nilG, a_consG, a_tupG, a_dnewE, a_dputS, a_dgetE, a_callP, a_zipI, a_enumI, revG, itemsT, inG, maxG, zipD, enumD, defG, runDef, env0, En.sv, getL, Opd.get, pureO, pureL, callD, argL, argO, lentS, wbE, wb1, wbAt, endF, backD, pB, pI, nL, numG, cmpG, subG, addG, mulG, negG, isNG, ixG, itemsD, itemsL, lenG, listG, tupleG, sumG, allG, int1G, int2G, intG, isiG, tyD, appendK, popK, clearK, insertK, reverseK, extendK, countG, atI, ixN, eqG, intsOf, blsOf, wipeE, restE, tkeyD, keysD, keyD, kit_ii, kit_ib, kit_bi, kit_bb, kit_ll, kit_tt, kit_lt, kit_tl, kit_ti, kit_li, kit_ni, kit_si, kit_nt, kit_it, kit_st, kit_bt, a_raiseS, a_callZ, a_callPZ, a_dixE, a_dinE, a_parS, a_isxE, h1]
theorem bls_true : ∀ (n : List Int), blsOf (n.map fun _ => D.bl true) = some (n.map fun _ => true)
  | [] => rfl
  | _ :: r => by rw [List.map_cons, List.map_cons]; unfold blsOf; rw [bls_true r]; rfl
theorem is_weaving_ok (fl : Fl) (hs : List Int) (n : Int) (hf : fl ≠ .o) (hl : hs.length ≤ 1000) (hh : Hands hs) (h0 : (hs.count 0 : Int) ≤ n) (h1 : (hs.count 1 : Int) ≤ n) :
    G_is_weaving [⟨fl, .lst (hs.map D.int)⟩, ⟨.p, .int n⟩] = .ret ⟨.p, .bl true⟩ [.lst (hs.map D.int), .int n] := by
  have c2 := comp_count fl hs n h0 h1
  cases fl with
  | o => exact absurd rfl hf
  | p =>
    have c1 := comp_from ⟨hs.map D.int, none⟩ (some ⟨.p, .lst (hs.map D.int)⟩) (some ⟨.p, .int n⟩) trivial hs hl hh
    simp [a_bindR, a_bindS, a_opd, a_constE, a_varE, a_keepE, a_op1, a_op2, a_nilA, a_consA, a_callB, a_tupE, a_lstE, a_testV, a_andT, a_orT, a_notT, a_andV, a_orV, a_notV, a_ifE, a_seqS, a_ifS, a_setS, a_dropS, a_retS, a_retVarS, a_asgS, a_callE, a_callF, a_appK, a_forS, a_compE, a_seqI, a_rng1, a_rng2, a_methL, a_mutL, a_setIxS, a_noPt, a_somePt, a_sliceE, a_chainE, a_nameG, a_nilG, a_consG, a_tupG, a_dnewE, a_dputS, a_dgetE, a_callP, a_zipI, a_enumI, revG, itemsT, inG, maxG, zipD, enumD, defG, runDef, env0, En.sv, getL, Opd.get, pureO, pureL, callD, argL, argO, lentS, wbE, wb1, wbAt, endF, backD, pB, pI, nL, numG, cmpG, subG, addG, mulG, negG, isNG, ixG, itemsD, itemsL, lenG, listG, tupleG, sumG, allG, int1G, int2G, intG, isiG, tyD, appendK, popK, clearK, insertK, reverseK, extendK, countG, atI, ixN, eqG, intsOf, blsOf, wipeE, restE, tkeyD, keysD, keyD, kit_ii, kit_ib, kit_bi, kit_bb, kit_ll, kit_tt, kit_lt, kit_tl, kit_ti, kit_li, kit_ni, kit_si, kit_nt, kit_it, kit_st, kit_bt, a_raiseS, a_callZ, a_callPZ, a_dixE, a_dinE, a_parS, a_isxE, G_is_weaving, m_is_weaving, c1, c2, bls_true]
  | b =>
    have c1 := comp_from ⟨hs.map D.int, some 0⟩ (some ⟨.b, .lst (hs.map D.int)⟩) (some ⟨.p, .int n⟩) rfl hs hl hh
    simp [a_bindR, a_bindS, a_opd, a_constE, a_varE, a_keepE, a_op1, a_op2, a_nilA, a_consA, a_callB, a_tupE, a_lstE, a_testV, a_andT, a_orT, a_notT, a_andV, a_orV, a_notV, a_ifE, a_seqS, a_ifS, a_setS, a_dropS, a_retS, a_retVarS, a_asgS, a_callE, a_callF, a_appK, a_forS, a_compE, a_seqI, a_rng1, a_rng2, a_methL, a_mutL, a_setIxS, a_noPt, a_somePt, a_sliceE, a_chainE, a_nameG, a_nilG, a_consG, a_tupG, a_dnewE, a_dputS, a_dgetE, a_callP, a_zipI, a_enumI, revG, itemsT, inG, maxG, zipD, enumD, defG, runDef, env0, En.sv, getL, Opd.get, pureO, pureL, callD, argL, argO, lentS, wbE, wb1, wbAt, endF, backD, pB, pI, nL, numG, cmpG, subG, addG, mulG, negG, isNG, ixG, itemsD, itemsL, lenG, listG, tupleG, sumG, allG, int1G, int2G, intG, isiG, tyD, appendK, popK, clearK, insertK, reverseK, extendK, countG, atI, ixN, eqG, intsOf, blsOf, wipeE, restE, tkeyD, keysD, keyD, kit_ii, kit_ib, kit_bi, kit_bb, kit_ll, kit_tt, kit_lt, kit_tl, kit_ti, kit_li, kit_ni, kit_si, kit_nt, kit_it, kit_st, kit_bt, a_raiseS, a_callZ, a_callPZ, a_dixE, a_dinE, a_parS, a_isxE, G_is_weaving, m_is_weaving, c1, c2, bls_true]
end My

namespace My
open PySem L2 DL
theorem sure_weaving_ok (fl : Fl) (hs : List Int) (n : Int) (hf : fl ≠ .o) (hl : hs.length ≤ 1000) (hh : Hands hs) (h0 : (hs.count 0 : Int) ≤ n) (h1 : (hs.count 1 : Int) ≤ n) :
    G_sure_weaving [⟨fl, .lst (hs.map D.int)⟩, ⟨.p, .int n⟩] = .ret ⟨.p, .non⟩ [.lst (hs.map D.int), .int n] := by
  have e := is_weaving_ok fl hs n hf hl hh h0 h1
  cases fl with
  | o => exact absurd rfl hf
  | p => simp [a_bindR, a_bindS, a_opd, a_constE, a_varE, a_keepE, a_op1, a_op2, a_nilA, a_consA, a_callB, a_tupE, a_lstE, a_testV, a_andT, a_orT, a_notT, a_andV, a_orV, a_notV, a_ifE, a_seqS, a_ifS, a_setS, a_dropS, a_retS, a_retVarS, a_asgS, a_callE, a_callF, a_appK, a_forS, a_compE, a_seqI, a_rng1, a_rng2, a_methL, a_mutL, a_setIxS, a_noPt, a_somePt, a_sliceE, a_chainE, a_nameG, a_nilG, a_consG, a_tupG, a_dnewE, a_dputS, a_dgetE, a_callP, a_zipI, a_enumI, revG, itemsT, inG, maxG, zipD, enumD, defG, runDef, env0, En.sv, getL, Opd.get, pureO, pureL, callD, argL, argO, lentS, wbE, wb1, wbAt, endF, backD, pB, pI, nL, numG, cmpG, subG, addG, mulG, negG, isNG, ixG, itemsD, itemsL, lenG, listG, tupleG, sumG, allG, int1G, int2G, intG, isiG, tyD, appendK, popK, clearK, insertK, reverseK, extendK, countG, atI, ixN, eqG, intsOf, blsOf, wipeE, restE, tkeyD, keysD, keyD, kit_ii, kit_ib, kit_bi, kit_bb, kit_ll, kit_tt, kit_lt, kit_tl, kit_ti, kit_li, kit_ni, kit_si, kit_nt, kit_it, kit_st, kit_bt, a_raiseS, a_callZ, a_callPZ, a_dixE, a_dinE, a_parS, a_isxE, G_sure_weaving, m_sure_weaving, e]
  | b => simp [a_bindR, a_bindS, a_opd, a_constE, a_varE, a_keepE, a_op1, a_op2, a_nilA, a_consA, a_callB, a_tupE, a_lstE, a_testV, a_andT, a_orT, a_notT, a_andV, a_orV, a_notV, a_ifE, a_seqS, a_ifS, a_setS, a_dropS, a_retS, a_retVarS, a_asgS, a_callE, a_callF, a_appK, a_forS, a_compE, a_seqI, a_rng1, a_rng2, a_methL, a_mutL, a_setIxS, a_noPt, a_somePt, a_sliceE, a_chainE, a_nameG, a_nilG, a_consG, a_tupG, a_dnewE, a_dputS, a_dgetE, a_callP, a_zipI, a_enumI, revG, itemsT, inG, maxG, zipD, enumD, defG, runDef, env0, En.sv, getL, Opd.get, pureO, pureL, callD, argL, argO, lentS, wbE, wb1, wbAt, endF, backD, pB, pI, nL, numG, cmpG, subG, addG, mulG, negG, isNG, ixG, itemsD, itemsL, lenG, listG, tupleG, sumG, allG, int1G, int2G, intG, isiG, tyD, appendK, popK, clearK, insertK, reverseK, extendK, countG, atI, ixN, eqG, intsOf, blsOf, wipeE, restE, tkeyD, keysD, keyD, kit_ii, kit_ib, kit_bi, kit_bb, kit_ll, kit_tt, kit_lt, kit_tl, kit_ti, kit_li, kit_ni, kit_si, kit_nt, kit_it, kit_st, kit_bt, a_raiseS, a_callZ, a_callPZ, a_dixE, a_dinE, a_parS, a_isxE, G_sure_weaving, m_sure_weaving, e]
theorem comp_inputs (x y : Int) (hx : 0 ≤ x) (hy : 0 ≤ y) (x0 x1 x2 : Option SV) : compLoop ⟨[.int x, .int y], none⟩ [3] (nameG 3) (fun e => .ok true e) (opd (callE G_is_from (consA (varE 3) (consA (opd (constE (.int 0))) (consA (opd (constE .non)) nilA))))) [.int x, .int y] [x0, x1, x2, none] [] =
    .ok [.bl true, .bl true] [x0, x1, x2, none] := by
  rw [compLoop_each (f := fun _ => .bl true) grd_none _ (by simp) fun d hd => ?_]
  · rfl
  · have : ∃ z : Int, 0 ≤ z ∧ d = .int z := by
      have : d = .int x ∨ d = .int y := by simpa using hd
      rcases this with rfl | rfl
      · exact ⟨x, hx, rfl⟩
      · exact ⟨y, hy, rfl⟩
    obtain ⟨z, hz, rfl⟩ := this
    refine ⟨[x0, x1, x2, some ⟨.p, .int z⟩], .val (.bl true), [x0, x1, x2, some ⟨.p, .int z⟩], _, rfl, ?_, rfl, rfl⟩
    rcases x0 with _ | ⟨f0, d0⟩ <;> rcases x1 with _ | ⟨f1, d1⟩ <;> rcases x2 with _ | ⟨f2, d2⟩ <;> (try cases f0) <;> (try cases f1) <;> (try cases f2) <;> simp [a_bindR, a_bindS, a_opd, a_constE, a_varE, a_keepE, a_op1, a_op2, a_nilA, a_consA, a_callB, a_tupE, a_lstE, a_testV, a_andT, a_orT, a_notT, a_andV, a_orV, a_notV, a_ifE, a_seqS, a_ifS, a_setS, a_dropS, a_retS, a_retVarS, a_asgS, a_callE, a_callF, a_appK, a_forS, a_compE, a_seqI, a_rng1, a_rng2, a_methL, a_mutL, a_setIxS, a_noPt, a_somePt, a_sliceE, a_chainE, a_nameG, a_nilG, a_consG, a_tupG, a_dnewE, a_dputS, a_dgetE, a_callP, a_zipI, a_enumI, revG, itemsT, inG, maxG, zipD, enumD, defG, runDef, env0, En.sv, getL, Opd.get, pureO, pureL, callD, argL, argO, lentS, wbE, wb1, wbAt, endF, backD, pB, pI, nL, numG, cmpG, subG, addG, mulG, negG, isNG, ixG, itemsD, itemsL, lenG, listG, tupleG, sumG, allG, int1G, int2G, intG, isiG, tyD, appendK, popK, clearK, insertK, reverseK, extendK, countG, atI, ixN, eqG, intsOf, blsOf, wipeE, restE, tkeyD, keysD, keyD, kit_ii, kit_ib, kit_bi, kit_bb, kit_ll, kit_tt, kit_lt, kit_tl, kit_ti, kit_li, kit_ni, kit_si, kit_nt, kit_it, kit_st, kit_bt, a_raiseS, a_callZ, a_callPZ, a_dixE, a_dinE, a_parS, a_isxE, is_from_non, hz]
theorem known_ok (fl : Fl) (hf : fl ≠ .o) (x y r : Int) (hx : 0 ≤ x) (hy : 0 ≤ y) (hs : List Int) (hl : hs.length ≤ 1000) (hh : Hands hs) (r0 : 0 ≤ r) (r5 : r ≤ 5) (c0 : (hs.count 0 : Int) ≤ 2 * r) (c1 : (hs.count 1 : Int) ≤ 2 * r) {s : KB}
    (hk : kbRun (hs.map D.int) ⟨[.int x, .int y], [0, 0], List.replicate r.toNat [.non, .non]⟩ = some s) :
    G_known [⟨.p, .tup [.int x, .int y]⟩, ⟨fl, .lst (hs.map D.int)⟩, ⟨.p, .int r⟩] = .ret ⟨.o, .lst [kbOut r.toNat s 0, kbOut r.toNat s 1]⟩ [.tup [.int x, .int y], .lst (hs.map D.int), .int r] := by
  have e := sure_weaving_ok fl hs (2 * r) hf hl hh c0 c1
  have r1 : r ≤ 1000 := by omega
  cases fl with
  | o => exact absurd rfl hf
  | p => simp [a_bindR, a_bindS, a_opd, a_constE, a_varE, a_keepE, a_op1, a_op2, a_nilA, a_consA, a_callB, a_tupE, a_lstE, a_testV, a_andT, a_orT, a_notT, a_andV, a_orV, a_notV, a_ifE, a_seqS, a_ifS, a_setS, a_dropS, a_retS, a_retVarS, a_asgS, a_callE, a_callF, a_appK, a_forS, a_compE, a_seqI, a_rng1, a_rng2, a_methL, a_mutL, a_setIxS, a_noPt, a_somePt, a_sliceE, a_chainE, a_nameG, a_nilG, a_consG, a_tupG, a_dnewE, a_dputS, a_dgetE, a_callP, a_zipI, a_enumI, revG, itemsT, inG, maxG, zipD, enumD, defG, runDef, env0, En.sv, getL, Opd.get, pureO, pureL, callD, argL, argO, lentS, wbE, wb1, wbAt, endF, backD, pB, pI, nL, numG, cmpG, subG, addG, mulG, negG, isNG, ixG, itemsD, itemsL, lenG, listG, tupleG, sumG, allG, int1G, int2G, intG, isiG, tyD, appendK, popK, clearK, insertK, reverseK, extendK, countG, atI, ixN, eqG, intsOf, blsOf, wipeE, restE, tkeyD, keysD, keyD, kit_ii, kit_ib, kit_bi, kit_bb, kit_ll, kit_tt, kit_lt, kit_tl, kit_ti, kit_li, kit_ni, kit_si, kit_nt, kit_it, kit_st, kit_bt, a_raiseS, a_callZ, a_callPZ, a_dixE, a_dinE, a_parS, a_isxE, G_known, m_known, sure_rounds_ok, r0, r5, r1, comp_inputs, hx, hy, eqD_int, cm2, e, kbG, hk]
  | b => simp [a_bindR, a_bindS, a_opd, a_constE, a_varE, a_keepE, a_op1, a_op2, a_nilA, a_consA, a_callB, a_tupE, a_lstE, a_testV, a_andT, a_orT, a_notT, a_andV, a_orV, a_notV, a_ifE, a_seqS, a_ifS, a_setS, a_dropS, a_retS, a_retVarS, a_asgS, a_callE, a_callF, a_appK, a_forS, a_compE, a_seqI, a_rng1, a_rng2, a_methL, a_mutL, a_setIxS, a_noPt, a_somePt, a_sliceE, a_chainE, a_nameG, a_nilG, a_consG, a_tupG, a_dnewE, a_dputS, a_dgetE, a_callP, a_zipI, a_enumI, revG, itemsT, inG, maxG, zipD, enumD, defG, runDef, env0, En.sv, getL, Opd.get, pureO, pureL, callD, argL, argO, lentS, wbE, wb1, wbAt, endF, backD, pB, pI, nL, numG, cmpG, subG, addG, mulG, negG, isNG, ixG, itemsD, itemsL, lenG, listG, tupleG, sumG, allG, int1G, int2G, intG, isiG, tyD, appendK, popK, clearK, insertK, reverseK, extendK, countG, atI, ixN, eqG, intsOf, blsOf, wipeE, restE, tkeyD, keysD, keyD, kit_ii, kit_ib, kit_bi, kit_bb, kit_ll, kit_tt, kit_lt, kit_tl, kit_ti, kit_li, kit_ni, kit_si, kit_nt, kit_it, kit_st, kit_bt, a_raiseS, a_callZ, a_callPZ, a_dixE, a_dinE, a_parS, a_isxE, G_known, m_known, sure_rounds_ok, r0, r5, r1, comp_inputs, hx, hy, eqD_int, cm2, e, kbG, hk]
end My

namespace My
open PySem L2 DL
/-- the slots of _law_weaving -/
def envW (a b c : Int) (r : Int) (st : Bool) (m0 m1 : Int) (l0 l1 : Int) (hs : List Int) (x6 x7 : Option SV) : En :=
  [some ⟨.b, .lst [.int a, .int b, .int c]⟩, some ⟨.p, .int r⟩, some ⟨.p, .bl st⟩, some ⟨.o, .lst [.int m0, .int m1]⟩, some ⟨.o, .lst [.int l0, .int l1]⟩, some ⟨.o, .lst (hs.map D.int)⟩, x6, x7]
def Pl (x : Option SV) : Prop := x = none ∨ ∃ d, x = some ⟨.p, d⟩
noncomputable def wComp : En → R SV := compE (rng1 (consA (opd (constE (.int 2))) nilA)) [6] (nameG 6) (testV (op2 (cmpG (fun i j => decide (j < i))) (opd (op2 ixG (varE 4) (varE 6))) (opd (constE (.int 0))))) (varE 6)
noncomputable def wPick : En → R SV := callE G__law_one (consA (varE 0) (consA (opd wComp) nilA))
noncomputable def wNum : En → R Src := rng1 (consA (opd (callB (int2G fun i j => if j < i then j else i) (consA (opd (op2 ixG (varE 4) (varE 6))) (consA (opd (op2 addG (opd (constE (.int 1))) (opd (callE G__law_draw (consA (varE 0) (consA (opd (callE G__law_one (consA (varE 0) (consA (opd (lstE (consA (opd (constE (.int 1))) (consA (opd (constE (.int 2))) (consA (opd (constE (.int 5))) nilA))))) nilA)))) nilA)))))) nilA)))) nilA)
noncomputable def wIn : En → RS := seqS (dropS (mutL 5 appendK (consA (varE 6) nilA))) (setIxS 4 (op2 subG (opd (op2 ixG (varE 4) (varE 6))) (opd (constE (.int 1)))) (varE 6))
noncomputable def wCond : En → R Bool := testV (op2 (cmpG (fun i j => decide (j < i))) (opd (callB sumG (consA (varE 4) nilA))) (opd (constE (.int 0))))
noncomputable def wBody : En → RS := seqS (setS 6 wPick) (forS wNum (nameG 7) wIn)
theorem wComp_ok (a b c r : Int) (st : Bool) (m0 m1 l0 l1 : Int) (hs : List Int) (x6 x7 : Option SV) (h6 : Pl x6) : wComp (envW a b c r st m0 m1 l0 l1 hs x6 x7) = .ok ⟨.o, .lst (([D.int 0, D.int 1].filter fun d => match d with | .int 0 => decide (0 < l0) | _ => decide (0 < l1)))⟩ (envW a b c r st m0 m1 l0 l1 hs x6 x7) := by
  have lp := compLoop_map (s := ⟨rangeD 0 2, none⟩) (vs := [6]) (asg := nameG 6) (test := testV (op2 (cmpG (fun i j => decide (j < i))) (opd (op2 ixG (varE 4) (varE 6))) (opd (constE (.int 0))))) (elt := varE 6) (t := fun d => match d with | .int 0 => decide (0 < l0) | _ => decide (0 < l1)) (f := fun d => d) (e := envW a b c r st m0 m1 l0 l1 hs none x7) grd_none [D.int 0, D.int 1] [] (by simp) (fun d hd => by
    have : d = .int 0 ∨ d = .int 1 := by simpa using hd
    rcases this with rfl | rfl
    · refine ⟨envW a b c r st m0 m1 l0 l1 hs (some ⟨.p, .int 0⟩) x7, envW a b c r st m0 m1 l0 l1 hs (some ⟨.p, .int 0⟩) x7, rfl, ?_, fun _ => rfl, fun _ => ⟨.slot 6, envW a b c r st m0 m1 l0 l1 hs (some ⟨.p, .int 0⟩) x7, _, rfl, rfl, rfl⟩⟩
      simp [a_bindR, a_bindS, a_opd, a_constE, a_varE, a_keepE, a_op1, a_op2, a_nilA, a_consA, a_callB, a_tupE, a_lstE, a_testV, a_andT, a_orT, a_notT, a_andV, a_orV, a_notV, a_ifE, a_seqS, a_ifS, a_setS, a_dropS, a_retS, a_retVarS, a_asgS, a_callE, a_callF, a_appK, a_forS, a_compE, a_seqI, a_rng1, a_rng2, a_methL, a_mutL, a_setIxS, a_noPt, a_somePt, a_sliceE, a_chainE, a_nameG, a_nilG, a_consG, a_tupG, a_dnewE, a_dputS, a_dgetE, a_callP, a_zipI, a_enumI, revG, itemsT, inG, maxG, zipD, enumD, defG, runDef, env0, En.sv, getL, Opd.get, pureO, pureL, callD, argL, argO, lentS, wbE, wb1, wbAt, endF, backD, pB, pI, nL, numG, cmpG, subG, addG, mulG, negG, isNG, ixG, itemsD, itemsL, lenG, listG, tupleG, sumG, allG, int1G, int2G, intG, isiG, tyD, appendK, popK, clearK, insertK, reverseK, extendK, countG, atI, ixN, eqG, intsOf, blsOf, wipeE, restE, tkeyD, keysD, keyD, kit_ii, kit_ib, kit_bi, kit_bb, kit_ll, kit_tt, kit_lt, kit_tl, kit_ti, kit_li, kit_ni, kit_si, kit_nt, kit_it, kit_st, kit_bt, a_raiseS, a_callZ, a_callPZ, a_dixE, a_dinE, a_parS, a_isxE, envW]
    · refine ⟨envW a b c r st m0 m1 l0 l1 hs (some ⟨.p, .int 1⟩) x7, envW a b c r st m0 m1 l0 l1 hs (some ⟨.p, .int 1⟩) x7, rfl, ?_, fun _ => rfl, fun _ => ⟨.slot 6, envW a b c r st m0 m1 l0 l1 hs (some ⟨.p, .int 1⟩) x7, _, rfl, rfl, rfl⟩⟩
      simp [a_bindR, a_bindS, a_opd, a_constE, a_varE, a_keepE, a_op1, a_op2, a_nilA, a_consA, a_callB, a_tupE, a_lstE, a_testV, a_andT, a_orT, a_notT, a_andV, a_orV, a_notV, a_ifE, a_seqS, a_ifS, a_setS, a_dropS, a_retS, a_retVarS, a_asgS, a_callE, a_callF, a_appK, a_forS, a_compE, a_seqI, a_rng1, a_rng2, a_methL, a_mutL, a_setIxS, a_noPt, a_somePt, a_sliceE, a_chainE, a_nameG, a_nilG, a_consG, a_tupG, a_dnewE, a_dputS, a_dgetE, a_callP, a_zipI, a_enumI, revG, itemsT, inG, maxG, zipD, enumD, defG, runDef, env0, En.sv, getL, Opd.get, pureO, pureL, callD, argL, argO, lentS, wbE, wb1, wbAt, endF, backD, pB, pI, nL, numG, cmpG, subG, addG, mulG, negG, isNG, ixG, itemsD, itemsL, lenG, listG, tupleG, sumG, allG, int1G, int2G, intG, isiG, tyD, appendK, popK, clearK, insertK, reverseK, extendK, countG, atI, ixN, eqG, intsOf, blsOf, wipeE, restE, tkeyD, keysD, keyD, kit_ii, kit_ib, kit_bi, kit_bb, kit_ll, kit_tt, kit_lt, kit_tl, kit_ti, kit_li, kit_ni, kit_si, kit_nt, kit_it, kit_st, kit_bt, a_raiseS, a_callZ, a_callPZ, a_dixE, a_dinE, a_parS, a_isxE, envW])
  unfold wComp
  rw [a_compE, bindR_ok (f := rng1 (consA (opd (constE (.int 2))) nilA)) (a := ⟨rangeD 0 2, none⟩) (e' := envW a b c r st m0 m1 l0 l1 hs x6 x7) (by simp [a_bindR, a_bindS, a_opd, a_constE, a_varE, a_keepE, a_op1, a_op2, a_nilA, a_consA, a_callB, a_tupE, a_lstE, a_testV, a_andT, a_orT, a_notT, a_andV, a_orV, a_notV, a_ifE, a_seqS, a_ifS, a_setS, a_dropS, a_retS, a_retVarS, a_asgS, a_callE, a_callF, a_appK, a_forS, a_compE, a_seqI, a_rng1, a_rng2, a_methL, a_mutL, a_setIxS, a_noPt, a_somePt, a_sliceE, a_chainE, a_nameG, a_nilG, a_consG, a_tupG, a_dnewE, a_dputS, a_dgetE, a_callP, a_zipI, a_enumI, revG, itemsT, inG, maxG, zipD, enumD, defG, runDef, env0, En.sv, getL, Opd.get, pureO, pureL, callD, argL, argO, lentS, wbE, wb1, wbAt, endF, backD, pB, pI, nL, numG, cmpG, subG, addG, mulG, negG, isNG, ixG, itemsD, itemsL, lenG, listG, tupleG, sumG, allG, int1G, int2G, intG, isiG, tyD, appendK, popK, clearK, insertK, reverseK, extendK, countG, atI, ixN, eqG, intsOf, blsOf, wipeE, restE, tkeyD, keysD, keyD, kit_ii, kit_ib, kit_bi, kit_bb, kit_ll, kit_tt, kit_lt, kit_tl, kit_ti, kit_li, kit_ni, kit_si, kit_nt, kit_it, kit_st, kit_bt, a_raiseS, a_callZ, a_callPZ, a_dixE, a_dinE, a_parS, a_isxE])]
  dsimp only
  rw [show wipeE (envW a b c r st m0 m1 l0 l1 hs x6 x7) [6] = envW a b c r st m0 m1 l0 l1 hs none x7 from rfl, show rangeD 0 2 = [D.int 0, D.int 1] from rfl]
  rw [show rangeD 0 2 = [D.int 0, D.int 1] from rfl] at lp
  rw [lp]
  dsimp only
  rw [List.map_id', List.nil_append]
  rcases h6 with rfl | ⟨d, rfl⟩ <;> rfl
theorem wPick_ok (a b c r : Int) (st : Bool) (m0 m1 l0 l1 : Int) (hs : List Int) (x6 x7 : Option SV) (h6 : Pl x6) (hp : 0 < l0 ∨ 0 < l1) : ∃ (h : Nat) (a' c' : Int), h ≤ 1 ∧ 0 < (if h = 0 then l0 else l1) ∧
    wPick (envW a b c r st m0 m1 l0 l1 hs x6 x7) = .ok ⟨.p, .int h⟩ (envW a' b c' r st m0 m1 l0 l1 hs x6 x7) := by
  have ec := wComp_ok a b c r st m0 m1 l0 l1 hs x6 x7 h6
  generalize hL : ([D.int 0, D.int 1].filter fun d => match d with | .int 0 => decide (0 < l0) | _ => decide (0 < l1)) = L at ec
  have hlen : 0 < L.length ∧ L.length ≤ 2 ∧ ∀ x ∈ L, ∃ h : Nat, h ≤ 1 ∧ 0 < (if h = 0 then l0 else l1) ∧ x = .int h := by
    subst hL
    by_cases p0 : 0 < l0 <;> by_cases p1 : 0 < l1
    · refine ⟨by simp [p0, p1], by simp [p0, p1], fun x hx => ?_⟩
      have : x = .int 0 ∨ x = .int 1 := by simpa [p0, p1] using hx
      rcases this with rfl | rfl
      · exact ⟨0, by omega, by simpa using p0, rfl⟩
      · exact ⟨1, by omega, by simpa using p1, rfl⟩
    · refine ⟨by simp [p0, p1], by simp [p0, p1], fun x hx => ?_⟩
      have : x = .int 0 := by simpa [p0, p1] using hx
      exact ⟨0, by omega, by simpa using p0, this⟩
    · refine ⟨by simp [p0, p1], by simp [p0, p1], fun x hx => ?_⟩
      have : x = .int 1 := by simpa [p0, p1] using hx
      exact ⟨1, by omega, by simpa using p1, this⟩
    · omega
  obtain ⟨n, x, a', c', e1, e2⟩ := one_ok a b c .p L hlen.1 (by omega) (by decide)
  obtain ⟨h, h1, h2, rfl⟩ := hlen.2.2 x (List.mem_of_getElem? e1)
  refine ⟨h, a', c', h1, h2, ?_⟩
  unfold envW at ec ⊢
  rcases h6 with rfl | ⟨d, rfl⟩ <;> rcases x7 with _ | ⟨f7, d7⟩ <;> (try cases f7) <;> simp [a_bindR, a_bindS, a_opd, a_constE, a_varE, a_keepE, a_op1, a_op2, a_nilA, a_consA, a_callB, a_tupE, a_lstE, a_testV, a_andT, a_orT, a_notT, a_andV, a_orV, a_notV, a_ifE, a_seqS, a_ifS, a_setS, a_dropS, a_retS, a_retVarS, a_asgS, a_callE, a_callF, a_appK, a_forS, a_compE, a_seqI, a_rng1, a_rng2, a_methL, a_mutL, a_setIxS, a_noPt, a_somePt, a_sliceE, a_chainE, a_nameG, a_nilG, a_consG, a_tupG, a_dnewE, a_dputS, a_dgetE, a_callP, a_zipI, a_enumI, revG, itemsT, inG, maxG, zipD, enumD, defG, runDef, env0, En.sv, getL, Opd.get, pureO, pureL, callD, argL, argO, lentS, wbE, wb1, wbAt, endF, backD, pB, pI, nL, numG, cmpG, subG, addG, mulG, negG, isNG, ixG, itemsD, itemsL, lenG, listG, tupleG, sumG, allG, int1G, int2G, intG, isiG, tyD, appendK, popK, clearK, insertK, reverseK, extendK, countG, atI, ixN, eqG, intsOf, blsOf, wipeE, restE, tkeyD, keysD, keyD, kit_ii, kit_ib, kit_bi, kit_bb, kit_ll, kit_tt, kit_lt, kit_tl, kit_ti, kit_li, kit_ni, kit_si, kit_nt, kit_it, kit_st, kit_bt, a_raiseS, a_callZ, a_callPZ, a_dixE, a_dinE, a_parS, a_isxE, wPick, ec, e2]
/-- how many steps at once -/
theorem wNum_ok (a b c r : Int) (st : Bool) (m0 m1 l0 l1 : Int) (hs : List Int) (h : Nat) (x7 : Option SV) (hh : h ≤ 1) (hp : 0 < (if h = 0 then l0 else l1)) (hb : (if h = 0 then l0 else l1) ≤ 1000) : ∃ (n : Nat) (a' c' : Int), 0 < n ∧ (n : Int) ≤ (if h = 0 then l0 else l1) ∧
    wNum (envW a b c r st m0 m1 l0 l1 hs (some ⟨.p, .int h⟩) x7) = .ok ⟨rangeD 0 n, none⟩ (envW a' b c' r st m0 m1 l0 l1 hs (some ⟨.p, .int h⟩) x7) := by
  obtain ⟨n, x, a1, c1, e1, e2⟩ := one_ok a b c .p [.int 1, .int 2, .int 5] (by simp) (by simp) (by decide)
  have hx : ∃ m : Int, x = .int m ∧ 0 < m ∧ m ≤ 5 := by
    have := List.mem_of_getElem? e1
    have : x = .int 1 ∨ x = .int 2 ∨ x = .int 5 := by simpa using this
    rcases this with rfl | rfl | rfl
    · exact ⟨1, rfl, by omega, by omega⟩
    · exact ⟨2, rfl, by omega, by omega⟩
    · exact ⟨5, rfl, by omega, by omega⟩
  obtain ⟨m, rfl, m0', m5⟩ := hx
  obtain ⟨v, a2, c2, v0, v1, e3⟩ := draw_ok a1 b c1 m m0' (by
    have : m.natAbs.log2 < 9000 := by
      have := Nat.log2_lt (n := m.natAbs) (k := 3) (by omega)
      omega
    exact this)
  have : h = 0 ∨ h = 1 := by omega
  rcases this with rfl | rfl
  · simp only [if_true] at hp hb ⊢
    refine ⟨(if 1 + v < l0 then 1 + v else l0).toNat, a2, c2, by split <;> omega, by split <;> omega, ?_⟩
    have hb1 : -4611686018427387904 ≤ (if 1 + v < l0 then 1 + v else l0) := by split <;> omega
    have hb2 : (if 1 + v < l0 then 1 + v else l0) < 4611686018427387904 := by split <;> omega
    rcases x7 with _ | ⟨f7, d7⟩ <;> (try cases f7) <;> simp [a_bindR, a_bindS, a_opd, a_constE, a_varE, a_keepE, a_op1, a_op2, a_nilA, a_consA, a_callB, a_tupE, a_lstE, a_testV, a_andT, a_orT, a_notT, a_andV, a_orV, a_notV, a_ifE, a_seqS, a_ifS, a_setS, a_dropS, a_retS, a_retVarS, a_asgS, a_callE, a_callF, a_appK, a_forS, a_compE, a_seqI, a_rng1, a_rng2, a_methL, a_mutL, a_setIxS, a_noPt, a_somePt, a_sliceE, a_chainE, a_nameG, a_nilG, a_consG, a_tupG, a_dnewE, a_dputS, a_dgetE, a_callP, a_zipI, a_enumI, revG, itemsT, inG, maxG, zipD, enumD, defG, runDef, env0, En.sv, getL, Opd.get, pureO, pureL, callD, argL, argO, lentS, wbE, wb1, wbAt, endF, backD, pB, pI, nL, numG, cmpG, subG, addG, mulG, negG, isNG, ixG, itemsD, itemsL, lenG, listG, tupleG, sumG, allG, int1G, int2G, intG, isiG, tyD, appendK, popK, clearK, insertK, reverseK, extendK, countG, atI, ixN, eqG, intsOf, blsOf, wipeE, restE, tkeyD, keysD, keyD, kit_ii, kit_ib, kit_bi, kit_bb, kit_ll, kit_tt, kit_lt, kit_tl, kit_ti, kit_li, kit_ni, kit_si, kit_nt, kit_it, kit_st, kit_bt, a_raiseS, a_callZ, a_callPZ, a_dixE, a_dinE, a_parS, a_isxE, wNum, envW, e2, e3, hb1, hb2]
  · have n0 : ¬ (1 : Nat) = 0 := by decide
    simp only [n0, if_false] at hp hb ⊢
    refine ⟨(if 1 + v < l1 then 1 + v else l1).toNat, a2, c2, by split <;> omega, by split <;> omega, ?_⟩
    have hb1 : -4611686018427387904 ≤ (if 1 + v < l1 then 1 + v else l1) := by split <;> omega
    have hb2 : (if 1 + v < l1 then 1 + v else l1) < 4611686018427387904 := by split <;> omega
    rcases x7 with _ | ⟨f7, d7⟩ <;> (try cases f7) <;> simp [a_bindR, a_bindS, a_opd, a_constE, a_varE, a_keepE, a_op1, a_op2, a_nilA, a_consA, a_callB, a_tupE, a_lstE, a_testV, a_andT, a_orT, a_notT, a_andV, a_orV, a_notV, a_ifE, a_seqS, a_ifS, a_setS, a_dropS, a_retS, a_retVarS, a_asgS, a_callE, a_callF, a_appK, a_forS, a_compE, a_seqI, a_rng1, a_rng2, a_methL, a_mutL, a_setIxS, a_noPt, a_somePt, a_sliceE, a_chainE, a_nameG, a_nilG, a_consG, a_tupG, a_dnewE, a_dputS, a_dgetE, a_callP, a_zipI, a_enumI, revG, itemsT, inG, maxG, zipD, enumD, defG, runDef, env0, En.sv, getL, Opd.get, pureO, pureL, callD, argL, argO, lentS, wbE, wb1, wbAt, endF, backD, pB, pI, nL, numG, cmpG, subG, addG, mulG, negG, isNG, ixG, itemsD, itemsL, lenG, listG, tupleG, sumG, allG, int1G, int2G, intG, isiG, tyD, appendK, popK, clearK, insertK, reverseK, extendK, countG, atI, ixN, eqG, intsOf, blsOf, wipeE, restE, tkeyD, keysD, keyD, kit_ii, kit_ib, kit_bi, kit_bb, kit_ll, kit_tt, kit_lt, kit_tl, kit_ti, kit_li, kit_ni, kit_si, kit_nt, kit_it, kit_st, kit_bt, a_raiseS, a_callZ, a_callPZ, a_dixE, a_dinE, a_parS, a_isxE, wNum, envW, e2, e3, hb1, hb2]
theorem wIn_ok (a b c r : Int) (st : Bool) (m0 m1 l0 l1 : Int) (hs : List Int) (h : Nat) (x7 : Option SV) (hh : h ≤ 1) (hl : hs.length < 1000) :
    wIn (envW a b c r st m0 m1 l0 l1 hs (some ⟨.p, .int h⟩) x7) = .nx (envW a b c r st m0 m1 (if h = 0 then l0 - 1 else l0) (if h = 0 then l1 else l1 - 1) (hs ++ [(h : Int)]) (some ⟨.p, .int h⟩) x7) := by
  have hl2 : hs.length < 100000 := by omega
  have : h = 0 ∨ h = 1 := by omega
  rcases this with rfl | rfl <;> simp [a_bindR, a_bindS, a_opd, a_constE, a_varE, a_keepE, a_op1, a_op2, a_nilA, a_consA, a_callB, a_tupE, a_lstE, a_testV, a_andT, a_orT, a_notT, a_andV, a_orV, a_notV, a_ifE, a_seqS, a_ifS, a_setS, a_dropS, a_retS, a_retVarS, a_asgS, a_callE, a_callF, a_appK, a_forS, a_compE, a_seqI, a_rng1, a_rng2, a_methL, a_mutL, a_setIxS, a_noPt, a_somePt, a_sliceE, a_chainE, a_nameG, a_nilG, a_consG, a_tupG, a_dnewE, a_dputS, a_dgetE, a_callP, a_zipI, a_enumI, revG, itemsT, inG, maxG, zipD, enumD, defG, runDef, env0, En.sv, getL, Opd.get, pureO, pureL, callD, argL, argO, lentS, wbE, wb1, wbAt, endF, backD, pB, pI, nL, numG, cmpG, subG, addG, mulG, negG, isNG, ixG, itemsD, itemsL, lenG, listG, tupleG, sumG, allG, int1G, int2G, intG, isiG, tyD, appendK, popK, clearK, insertK, reverseK, extendK, countG, atI, ixN, eqG, intsOf, blsOf, wipeE, restE, tkeyD, keysD, keyD, kit_ii, kit_ib, kit_bi, kit_bb, kit_ll, kit_tt, kit_lt, kit_tl, kit_ti, kit_li, kit_ni, kit_si, kit_nt, kit_it, kit_st, kit_bt, a_raiseS, a_callZ, a_callPZ, a_dixE, a_dinE, a_parS, a_isxE, wIn, envW, hl2]
end My

namespace My
open PySem L2 DL
theorem wLoop_ok (a b c r : Int) (st : Bool) (m0 m1 l0 l1 : Int) (hs : List Int) (h n : Nat) (x7 : Option SV) (hh : h ≤ 1) (hl : hs.length + n ≤ 1000) :
    ∃ x7', loopS ⟨rangeD 0 n, none⟩ (nameG 7) wIn (rangeD 0 n) (envW a b c r st m0 m1 l0 l1 hs (some ⟨.p, .int h⟩) x7) = .nx (envW a b c r st m0 m1 (if h = 0 then l0 - n else l0) (if h = 0 then l1 else l1 - n) (hs ++ List.replicate n (h : Int)) (some ⟨.p, .int h⟩) x7') := by
  let P : List D → En → Prop := fun ds e => ∃ (k : Nat) (x7 : Option SV), k + ds.length = n ∧ e = envW a b c r st m0 m1 (if h = 0 then l0 - k else l0) (if h = 0 then l1 else l1 - k) (hs ++ List.replicate k (h : Int)) (some ⟨.p, .int h⟩) x7
  obtain ⟨e2, h1, k, x7', hk, he⟩ := loopS_inv (s := ⟨rangeD 0 n, none⟩) (asg := nameG 7) (body := wIn) (e' := fun _ => True) P (rangeD 0 n) (envW a b c r st m0 m1 l0 l1 hs (some ⟨.p, .int h⟩) x7) ⟨0, x7, by simp [rangeD], by simp⟩ (fun _ _ _ => trivial) (by
    rintro d ds e ⟨k, x7, hk, rfl⟩
    rw [List.length_cons] at hk
    refine ⟨envW a b c r st m0 m1 (if h = 0 then l0 - k else l0) (if h = 0 then l1 else l1 - k) (hs ++ List.replicate k (h : Int)) (some ⟨.p, .int h⟩) (some ⟨.p, d⟩), _, rfl, wIn_ok _ _ _ _ _ _ _ _ _ _ h _ hh (by simp; omega), k + 1, some ⟨.p, d⟩, by omega, ?_⟩
    have e1 : hs ++ List.replicate k (h : Int) ++ [(h : Int)] = hs ++ List.replicate (k + 1) (h : Int) := by rw [List.append_assoc, List.replicate_succ']
    rw [e1]
    by_cases h0 : h = 0
    · simp only [h0, if_true]
      congr 1
      simp; omega
    · simp only [h0, if_false]
      congr 1
      simp; omega)
  have : k = n := by simpa using hk
  subst this
  exact ⟨x7', by rw [h1, he]⟩
theorem count_rep (h : Nat) (n : Nat) (hh : h ≤ 1) : (List.replicate n (h : Int)).count 0 = (if h = 0 then n else 0) ∧ (List.replicate n (h : Int)).count 1 = (if h = 0 then 0 else n) := by
  have : h = 0 ∨ h = 1 := by omega
  rcases this with rfl | rfl
  · constructor <;> simp [List.count_replicate]
  · constructor <;> simp [List.count_replicate]
def wMu (e : En) : Nat := match e.sv 4 with | some ⟨_, .lst [.int x, .int y]⟩ => (x + y).toNat | _ => 0
theorem wWhile_ok (b r : Int) (st : Bool) (m0 m1 : Int) (a c l0 l1 : Int) (h0 : 0 ≤ l0) (h1 : 0 ≤ l1) (b0 : l0 ≤ 10) (b1 : l1 ≤ 10) : ∃ (a' c' : Int) (hs : List Int) (x6 x7 : Option SV) (l0' l1' : Int), Hands hs ∧ (hs.count 0 : Int) = l0 ∧ (hs.count 1 : Int) = l1 ∧ hs.length ≤ 20 ∧
    whileS wCond wBody (envW a b c r st m0 m1 l0 l1 [] none none) = .nx (envW a' b c' r st m0 m1 l0' l1' hs x6 x7) := by
  let P : En → Prop := fun e => ∃ (a c k0 k1 : Int) (hs : List Int) (x6 x7 : Option SV), e = envW a b c r st m0 m1 k0 k1 hs x6 x7 ∧ 0 ≤ k0 ∧ 0 ≤ k1 ∧ Hands hs ∧ (hs.count 0 : Int) + k0 = l0 ∧ (hs.count 1 : Int) + k1 = l1 ∧ (hs.length : Int) + k0 + k1 = l0 + l1 ∧ Pl x6
  have cond : ∀ (a c k0 k1 : Int) (hs : List Int) (x6 x7 : Option SV), wCond (envW a b c r st m0 m1 k0 k1 hs x6 x7) = .ok (decide (0 < k0 + k1)) (envW a b c r st m0 m1 k0 k1 hs x6 x7) := fun a c k0 k1 hs x6 x7 => by
    simp [a_bindR, a_bindS, a_opd, a_constE, a_varE, a_keepE, a_op1, a_op2, a_nilA, a_consA, a_callB, a_tupE, a_lstE, a_testV, a_andT, a_orT, a_notT, a_andV, a_orV, a_notV, a_ifE, a_seqS, a_ifS, a_setS, a_dropS, a_retS, a_retVarS, a_asgS, a_callE, a_callF, a_appK, a_forS, a_compE, a_seqI, a_rng1, a_rng2, a_methL, a_mutL, a_setIxS, a_noPt, a_somePt, a_sliceE, a_chainE, a_nameG, a_nilG, a_consG, a_tupG, a_dnewE, a_dputS, a_dgetE, a_callP, a_zipI, a_enumI, revG, itemsT, inG, maxG, zipD, enumD, defG, runDef, env0, En.sv, getL, Opd.get, pureO, pureL, callD, argL, argO, lentS, wbE, wb1, wbAt, endF, backD, pB, pI, nL, numG, cmpG, subG, addG, mulG, negG, isNG, ixG, itemsD, itemsL, lenG, listG, tupleG, sumG, allG, int1G, int2G, intG, isiG, tyD, appendK, popK, clearK, insertK, reverseK, extendK, countG, atI, ixN, eqG, intsOf, blsOf, wipeE, restE, tkeyD, keysD, keyD, kit_ii, kit_ib, kit_bi, kit_bb, kit_ll, kit_tt, kit_lt, kit_tl, kit_ti, kit_li, kit_ni, kit_si, kit_nt, kit_it, kit_st, kit_bt, a_raiseS, a_callZ, a_callPZ, a_dixE, a_dinE, a_parS, a_isxE, wCond, envW]
  obtain ⟨e2, g1, ⟨a', c', k0, k1, hs, x6, x7, rfl, p0, p1, hh, q0, q1, ql, _⟩, gc⟩ := whileS_inv (c := wCond) (body := wBody) P wMu (by
    rintro e ⟨a, c, k0, k1, hs, x6, x7, rfl, p0, p1, hh, q0, q1, ql, h6⟩
    by_cases hz : 0 < k0 + k1
    · obtain ⟨h, a1, c1, hh1, hp, e1⟩ := wPick_ok a b c r st m0 m1 k0 k1 hs x6 x7 h6 (by omega)
      obtain ⟨n, a2, c2, hn, hn2, e2⟩ := wNum_ok a1 b c1 r st m0 m1 k0 k1 hs h x7 hh1 hp (by split <;> omega)
      have hnl : (n : Int) ≤ 10 := by
        split at hn2 <;> omega
      obtain ⟨x7', e3⟩ := wLoop_ok a2 b c2 r st m0 m1 k0 k1 hs h n x7 hh1 (by omega)
      refine .inr ⟨_, envW a2 b c2 r st m0 m1 (if h = 0 then k0 - n else k0) (if h = 0 then k1 else k1 - n) (hs ++ List.replicate n (h : Int)) (some ⟨.p, .int h⟩) x7', by rw [cond, decide_eq_true hz], ?_, ⟨a2, c2, _, _, _, _, x7', rfl, ?_, ?_, ?_, ?_, ?_, ?_, .inr ⟨_, rfl⟩⟩, ?_⟩
      · unfold wBody
        rw [seqS_nx (e' := envW a1 b c1 r st m0 m1 k0 k1 hs (some ⟨.p, .int h⟩) x7) (by rw [a_setS, bindS_ok e1]; rfl), a_forS, bindS_ok e2]
        exact e3
      · split <;> (split at hn2 <;> omega)
      · split <;> (split at hn2 <;> omega)
      · intro z hz
        rcases List.mem_append.mp hz with hz | hz
        · exact hh z hz
        · have := (List.mem_replicate.mp hz).2
          omega
      · have := (count_rep h n hh1).1
        rw [List.count_append, this]
        split <;> omega
      · have := (count_rep h n hh1).2
        rw [List.count_append, this]
        split <;> omega
      · rw [List.length_append, List.length_replicate]
        split <;> omega
      · show ((if h = 0 then k0 - n else k0) + (if h = 0 then k1 else k1 - n)).toNat < (k0 + k1).toNat
        split <;> (split at hn2 <;> omega)
    · exact .inl ⟨_, by rw [cond, decide_eq_false hz], rfl⟩) (envW a b c r st m0 m1 l0 l1 [] none none) ⟨a, c, l0, l1, [], none, none, rfl, h0, h1, fun z hz => by simp at hz, by simp, by simp, by simp, .inl rfl⟩
  have kz : ¬ 0 < k0 + k1 := by
    rw [cond] at gc
    simpa using gc
  exact ⟨a', c', hs, x6, x7, k0, k1, hh, by omega, by omega, by omega, g1⟩
theorem weaving_ok' (a b c r : Int) (st : Bool) (r0 : 0 ≤ r) (r5 : r ≤ 5) : ∃ (a' c' : Int) (hs : List Int), Hands hs ∧ (hs.count 0 : Int) ≤ 2 * r ∧ (hs.count 1 : Int) ≤ 2 * r ∧ hs.length ≤ 20 ∧ (st = false → (hs.count 0 : Int) = 2 * r ∧ (hs.count 1 : Int) = 2 * r) ∧
    G__law_weaving [⟨.b, .lst [.int a, .int b, .int c]⟩, ⟨.p, .int r⟩, ⟨.p, .bl st⟩] = .ret ⟨.o, .lst (hs.map D.int)⟩ [.lst [.int a', .int b, .int c'], .int r, .bl st] := by
  have pre : ∃ (a1 c1 m0 m1 : Int), 0 ≤ m0 ∧ 0 ≤ m1 ∧ m0 ≤ 2 * r ∧ m1 ≤ 2 * r ∧ (st = false → m0 = 2 * r ∧ m1 = 2 * r) ∧ ∀ g : En → RS, m__law_weaving = seqS (setS 3 (lstE (consA (opd (op2 mulG (opd (constE (.int 2))) (varE 1))) (consA (opd (op2 mulG (opd (constE (.int 2))) (varE 1))) nilA)))) (seqS (ifS (testV (keepE (varE 2))) (setIxS 3 (callE G__law_draw (consA (varE 0) (consA (opd (op2 addG (opd (op2 mulG (opd (constE (.int 2))) (varE 1))) (opd (constE (.int 1))))) nilA))) (opd (callE G__law_draw (consA (varE 0) (consA (opd (constE (.int 2))) nilA))))) .nx) (seqS (setS 4 (callB listG (consA (varE 3) nilA))) (seqS (setS 5 (lstE nilA)) g))) →
      m__law_weaving (env0 8 [⟨.b, .lst [.int a, .int b, .int c]⟩, ⟨.p, .int r⟩, ⟨.p, .bl st⟩]) = g (envW a1 b c1 r st m0 m1 m0 m1 [] none none) := by
    cases st with
    | false =>
      refine ⟨a, c, 2 * r, 2 * r, by omega, by omega, by omega, by omega, fun _ => ⟨rfl, rfl⟩, fun g e => ?_⟩
      rw [e, seqS_nx (e' := [some ⟨.b, .lst [.int a, .int b, .int c]⟩, some ⟨.p, .int r⟩, some ⟨.p, .bl false⟩, some ⟨.o, .lst [.int (2 * r), .int (2 * r)]⟩, none, none, none, none]) (by simp [a_bindR, a_bindS, a_opd, a_constE, a_varE, a_keepE, a_op1, a_op2, a_nilA, a_consA, a_callB, a_tupE, a_lstE, a_testV, a_andT, a_orT, a_notT, a_andV, a_orV, a_notV, a_ifE, a_seqS, a_ifS, a_setS, a_dropS, a_retS, a_retVarS, a_asgS, a_callE, a_callF, a_appK, a_forS, a_compE, a_seqI, a_rng1, a_rng2, a_methL, a_mutL, a_setIxS, a_noPt, a_somePt, a_sliceE, a_chainE, a_nameG, a_nilG, a_consG, a_tupG, a_dnewE, a_dputS, a_dgetE, a_callP, a_zipI, a_enumI, revG, itemsT, inG, maxG, zipD, enumD, defG, runDef, env0, En.sv, getL, Opd.get, pureO, pureL, callD, argL, argO, lentS, wbE, wb1, wbAt, endF, backD, pB, pI, nL, numG, cmpG, subG, addG, mulG, negG, isNG, ixG, itemsD, itemsL, lenG, listG, tupleG, sumG, allG, int1G, int2G, intG, isiG, tyD, appendK, popK, clearK, insertK, reverseK, extendK, countG, atI, ixN, eqG, intsOf, blsOf, wipeE, restE, tkeyD, keysD, keyD, kit_ii, kit_ib, kit_bi, kit_bb, kit_ll, kit_tt, kit_lt, kit_tl, kit_ti, kit_li, kit_ni, kit_si, kit_nt, kit_it, kit_st, kit_bt, a_raiseS, a_callZ, a_callPZ, a_dixE, a_dinE, a_parS, a_isxE, cm2])]
      rfl
    | true =>
      obtain ⟨v, a1, c1, v0, v1, e1⟩ := draw_ok a b c (2 * r + 1) (by omega) (by
        have := Nat.log2_lt (n := (2 * r + 1).natAbs) (k := 4) (by omega)
        omega)
      obtain ⟨i, a2, c2, i0, i1, e2⟩ := draw_ok a1 b c1 2 (by omega) (by decide)
      have : i = 0 ∨ i = 1 := by omega
      rcases this with rfl | rfl
      · refine ⟨a2, c2, v, 2 * r, by omega, by omega, by omega, by omega, fun z => (by cases z), fun g e => ?_⟩
        rw [e, seqS_nx (e' := [some ⟨.b, .lst [.int a, .int b, .int c]⟩, some ⟨.p, .int r⟩, some ⟨.p, .bl true⟩, some ⟨.o, .lst [.int (2 * r), .int (2 * r)]⟩, none, none, none, none]) (by simp [a_bindR, a_bindS, a_opd, a_constE, a_varE, a_keepE, a_op1, a_op2, a_nilA, a_consA, a_callB, a_tupE, a_lstE, a_testV, a_andT, a_orT, a_notT, a_andV, a_orV, a_notV, a_ifE, a_seqS, a_ifS, a_setS, a_dropS, a_retS, a_retVarS, a_asgS, a_callE, a_callF, a_appK, a_forS, a_compE, a_seqI, a_rng1, a_rng2, a_methL, a_mutL, a_setIxS, a_noPt, a_somePt, a_sliceE, a_chainE, a_nameG, a_nilG, a_consG, a_tupG, a_dnewE, a_dputS, a_dgetE, a_callP, a_zipI, a_enumI, revG, itemsT, inG, maxG, zipD, enumD, defG, runDef, env0, En.sv, getL, Opd.get, pureO, pureL, callD, argL, argO, lentS, wbE, wb1, wbAt, endF, backD, pB, pI, nL, numG, cmpG, subG, addG, mulG, negG, isNG, ixG, itemsD, itemsL, lenG, listG, tupleG, sumG, allG, int1G, int2G, intG, isiG, tyD, appendK, popK, clearK, insertK, reverseK, extendK, countG, atI, ixN, eqG, intsOf, blsOf, wipeE, restE, tkeyD, keysD, keyD, kit_ii, kit_ib, kit_bi, kit_bb, kit_ll, kit_tt, kit_lt, kit_tl, kit_ti, kit_li, kit_ni, kit_si, kit_nt, kit_it, kit_st, kit_bt, a_raiseS, a_callZ, a_callPZ, a_dixE, a_dinE, a_parS, a_isxE, cm2]),
          seqS_nx (e' := [some ⟨.b, .lst [.int a2, .int b, .int c2]⟩, some ⟨.p, .int r⟩, some ⟨.p, .bl true⟩, some ⟨.o, .lst [.int v, .int (2 * r)]⟩, none, none, none, none]) (by simp [a_bindR, a_bindS, a_opd, a_constE, a_varE, a_keepE, a_op1, a_op2, a_nilA, a_consA, a_callB, a_tupE, a_lstE, a_testV, a_andT, a_orT, a_notT, a_andV, a_orV, a_notV, a_ifE, a_seqS, a_ifS, a_setS, a_dropS, a_retS, a_retVarS, a_asgS, a_callE, a_callF, a_appK, a_forS, a_compE, a_seqI, a_rng1, a_rng2, a_methL, a_mutL, a_setIxS, a_noPt, a_somePt, a_sliceE, a_chainE, a_nameG, a_nilG, a_consG, a_tupG, a_dnewE, a_dputS, a_dgetE, a_callP, a_zipI, a_enumI, revG, itemsT, inG, maxG, zipD, enumD, defG, runDef, env0, En.sv, getL, Opd.get, pureO, pureL, callD, argL, argO, lentS, wbE, wb1, wbAt, endF, backD, pB, pI, nL, numG, cmpG, subG, addG, mulG, negG, isNG, ixG, itemsD, itemsL, lenG, listG, tupleG, sumG, allG, int1G, int2G, intG, isiG, tyD, appendK, popK, clearK, insertK, reverseK, extendK, countG, atI, ixN, eqG, intsOf, blsOf, wipeE, restE, tkeyD, keysD, keyD, kit_ii, kit_ib, kit_bi, kit_bb, kit_ll, kit_tt, kit_lt, kit_tl, kit_ti, kit_li, kit_ni, kit_si, kit_nt, kit_it, kit_st, kit_bt, a_raiseS, a_callZ, a_callPZ, a_dixE, a_dinE, a_parS, a_isxE, cm2, e1, e2])]
        rfl
      · refine ⟨a2, c2, 2 * r, v, by omega, by omega, by omega, by omega, fun z => (by cases z), fun g e => ?_⟩
        rw [e, seqS_nx (e' := [some ⟨.b, .lst [.int a, .int b, .int c]⟩, some ⟨.p, .int r⟩, some ⟨.p, .bl true⟩, some ⟨.o, .lst [.int (2 * r), .int (2 * r)]⟩, none, none, none, none]) (by simp [a_bindR, a_bindS, a_opd, a_constE, a_varE, a_keepE, a_op1, a_op2, a_nilA, a_consA, a_callB, a_tupE, a_lstE, a_testV, a_andT, a_orT, a_notT, a_andV, a_orV, a_notV, a_ifE, a_seqS, a_ifS, a_setS, a_dropS, a_retS, a_retVarS, a_asgS, a_callE, a_callF, a_appK, a_forS, a_compE, a_seqI, a_rng1, a_rng2, a_methL, a_mutL, a_setIxS, a_noPt, a_somePt, a_sliceE, a_chainE, a_nameG, a_nilG, a_consG, a_tupG, a_dnewE, a_dputS, a_dgetE, a_callP, a_zipI, a_enumI, revG, itemsT, inG, maxG, zipD, enumD, defG, runDef, env0, En.sv, getL, Opd.get, pureO, pureL, callD, argL, argO, lentS, wbE, wb1, wbAt, endF, backD, pB, pI, nL, numG, cmpG, subG, addG, mulG, negG, isNG, ixG, itemsD, itemsL, lenG, listG, tupleG, sumG, allG, int1G, int2G, intG, isiG, tyD, appendK, popK, clearK, insertK, reverseK, extendK, countG, atI, ixN, eqG, intsOf, blsOf, wipeE, restE, tkeyD, keysD, keyD, kit_ii, kit_ib, kit_bi, kit_bb, kit_ll, kit_tt, kit_lt, kit_tl, kit_ti, kit_li, kit_ni, kit_si, kit_nt, kit_it, kit_st, kit_bt, a_raiseS, a_callZ, a_callPZ, a_dixE, a_dinE, a_parS, a_isxE, cm2]),
          seqS_nx (e' := [some ⟨.b, .lst [.int a2, .int b, .int c2]⟩, some ⟨.p, .int r⟩, some ⟨.p, .bl true⟩, some ⟨.o, .lst [.int (2 * r), .int v]⟩, none, none, none, none]) (by simp [a_bindR, a_bindS, a_opd, a_constE, a_varE, a_keepE, a_op1, a_op2, a_nilA, a_consA, a_callB, a_tupE, a_lstE, a_testV, a_andT, a_orT, a_notT, a_andV, a_orV, a_notV, a_ifE, a_seqS, a_ifS, a_setS, a_dropS, a_retS, a_retVarS, a_asgS, a_callE, a_callF, a_appK, a_forS, a_compE, a_seqI, a_rng1, a_rng2, a_methL, a_mutL, a_setIxS, a_noPt, a_somePt, a_sliceE, a_chainE, a_nameG, a_nilG, a_consG, a_tupG, a_dnewE, a_dputS, a_dgetE, a_callP, a_zipI, a_enumI, revG, itemsT, inG, maxG, zipD, enumD, defG, runDef, env0, En.sv, getL, Opd.get, pureO, pureL, callD, argL, argO, lentS, wbE, wb1, wbAt, endF, backD, pB, pI, nL, numG, cmpG, subG, addG, mulG, negG, isNG, ixG, itemsD, itemsL, lenG, listG, tupleG, sumG, allG, int1G, int2G, intG, isiG, tyD, appendK, popK, clearK, insertK, reverseK, extendK, countG, atI, ixN, eqG, intsOf, blsOf, wipeE, restE, tkeyD, keysD, keyD, kit_ii, kit_ib, kit_bi, kit_bb, kit_ll, kit_tt, kit_lt, kit_tl, kit_ti, kit_li, kit_ni, kit_si, kit_nt, kit_it, kit_st, kit_bt, a_raiseS, a_callZ, a_callPZ, a_dixE, a_dinE, a_parS, a_isxE, cm2, e1, e2])]
        rfl
  obtain ⟨a1, c1, m0, m1, q0, q1, q2, q3, q4, hg⟩ := pre
  obtain ⟨a', c', hs, x6, x7, k0, k1, hh, h0, h1, hl, hw⟩ := wWhile_ok b r st m0 m1 a1 c1 m0 m1 q0 q1 (by omega) (by omega)
  refine ⟨a', c', hs, hh, by omega, by omega, hl, fun z => by have := q4 z; omega, ?_⟩
  show endF _ (m__law_weaving (env0 8 _)) = _
  rw [hg (seqS (whileS wCond wBody) (retVarS 5)) rfl, seqS_nx hw]
  rfl
theorem weaving_ok (a b c r : Int) (st : Bool) (r0 : 0 ≤ r) (r5 : r ≤ 5) : ∃ (a' c' : Int) (hs : List Int), Hands hs ∧ (hs.count 0 : Int) ≤ 2 * r ∧ (hs.count 1 : Int) ≤ 2 * r ∧ hs.length ≤ 20 ∧
    G__law_weaving [⟨.b, .lst [.int a, .int b, .int c]⟩, ⟨.p, .int r⟩, ⟨.p, .bl st⟩] = .ret ⟨.o, .lst (hs.map D.int)⟩ [.lst [.int a', .int b, .int c'], .int r, .bl st] := by
  obtain ⟨a', c', hs, h1, h2, h3, h4, _, h5⟩ := weaving_ok' a b c r st r0 r5
  exact ⟨a', c', hs, h1, h2, h3, h4, h5⟩
/-- a weaving that may be handed in -/
structure Wv (r : Int) (hs : List Int) : Prop where
  hh : Hands hs
  c0 : (hs.count 0 : Int) ≤ 2 * r
  c1 : (hs.count 1 : Int) ≤ 2 * r
  hl : hs.length ≤ 50
theorem wv_run {r : Int} {hs : List Int} (W : Wv r hs) (r0 : 0 ≤ r) (x y : Int) : ∃ s, kbRun (hs.map D.int) ⟨[.int x, .int y], [0, 0], List.replicate r.toNat [.non, .non]⟩ = some s ∧ KbOk r.toNat hs.length s := by
  obtain ⟨s, h1, h2, _⟩ := kb_run_ok (r := r.toNat) hs (kb_init r.toNat x y) rfl W.hh (by have := W.c0; omega) (by have := W.c1; omega)
  exact ⟨s, h1, by simpa using h2⟩
theorem cut_last (xs : List D) : cutD xs none (some (-1)) = xs.dropLast := by
  unfold cutD
  rw [HT.sIx_none, List.drop_zero, List.dropLast_eq_take]
  have : HT.sIx xs.length xs.length (some (-1)) = xs.length - 1 := by
    unfold HT.sIx
    cases xs with
    | nil => rfl
    | cons a r => simp; omega
  rw [this]; simp
end My

namespace My
open PySem L2 DL
def insD (f : Bool) (x : Int) : D := if f then .int x else .non
theorem insD_t (x : Int) : insD true x = .int x := rfl
theorem insD_f (x : Int) : insD false x = .non := rfl
theorem fit_loop (x0 x1 : Option SV) (x y : Int) (f g f' g' : Bool) : compLoop ⟨[.tup [insD f x, insD f' x], .tup [insD g y, insD g' y]], none⟩ [2, 3] (tupG 2 (consG (nameG 2) (consG (nameG 3) nilG))) (fun e => .ok true e) (opd (orV (op2 (isNG false) (varE 2) (opd (constE .non))) (orV (op2 (isNG false) (varE 3) (opd (constE .non))) (op2 (eqG false) (varE 2) (varE 3))))) [.tup [insD f x, insD f' x], .tup [insD g y, insD g' y]] [x0, x1, none, none] [] =
    .ok [.bl true, .bl true] [x0, x1, none, none] := by
  rw [compLoop_each (f := fun _ => .bl true) grd_none _ (by simp) fun d hd => ?_]
  · rfl
  · have : ∃ (z : Int) (u v : Bool), d = .tup [insD u z, insD v z] := by
      have : d = .tup [insD f x, insD f' x] ∨ d = .tup [insD g y, insD g' y] := by simpa using hd
      rcases this with rfl | rfl
      · exact ⟨_, _, _, rfl⟩
      · exact ⟨_, _, _, rfl⟩
    obtain ⟨z, u, v, rfl⟩ := this
    refine ⟨[x0, x1, some ⟨.p, insD u z⟩, some ⟨.p, insD v z⟩], .val (.bl true), [x0, x1, some ⟨.p, insD u z⟩, some ⟨.p, insD v z⟩], _, rfl, ?_, rfl, rfl⟩
    cases u <;> cases v <;> simp [a_bindR, a_bindS, a_opd, a_constE, a_varE, a_keepE, a_op1, a_op2, a_nilA, a_consA, a_callB, a_tupE, a_lstE, a_testV, a_andT, a_orT, a_notT, a_andV, a_orV, a_notV, a_ifE, a_seqS, a_ifS, a_setS, a_dropS, a_retS, a_retVarS, a_asgS, a_callE, a_callF, a_appK, a_forS, a_compE, a_seqI, a_rng1, a_rng2, a_methL, a_mutL, a_setIxS, a_noPt, a_somePt, a_sliceE, a_chainE, a_nameG, a_nilG, a_consG, a_tupG, a_dnewE, a_dputS, a_dgetE, a_callP, a_zipI, a_enumI, revG, itemsT, inG, maxG, zipD, enumD, defG, runDef, env0, En.sv, getL, Opd.get, pureO, pureL, callD, argL, argO, lentS, wbE, wb1, wbAt, endF, backD, pB, pI, nL, numG, cmpG, subG, addG, mulG, negG, isNG, ixG, itemsD, itemsL, lenG, listG, tupleG, sumG, allG, int1G, int2G, intG, isiG, tyD, appendK, popK, clearK, insertK, reverseK, extendK, countG, atI, ixN, eqG, intsOf, blsOf, wipeE, restE, tkeyD, keysD, keyD, kit_ii, kit_ib, kit_bi, kit_bb, kit_ll, kit_tt, kit_lt, kit_tl, kit_ti, kit_li, kit_ni, kit_si, kit_nt, kit_it, kit_st, kit_bt, a_raiseS, a_callZ, a_callPZ, a_dixE, a_dinE, a_parS, a_isxE, insD_t, insD_f, eqD_int]
theorem fit_ok (x y : Int) (f g f' g' : Bool) : G_fit [⟨.p, .tup [insD f x, insD g y]⟩, ⟨.p, .tup [insD f' x, insD g' y]⟩] = .ret ⟨.p, .bl true⟩ [.tup [insD f x, insD g y], .tup [insD f' x, insD g' y]] := by
  have c := fit_loop (some ⟨.p, .tup [insD f x, insD g y]⟩) (some ⟨.p, .tup [insD f' x, insD g' y]⟩) x y f g f' g'
  simp [a_bindR, a_bindS, a_opd, a_constE, a_varE, a_keepE, a_op1, a_op2, a_nilA, a_consA, a_callB, a_tupE, a_lstE, a_testV, a_andT, a_orT, a_notT, a_andV, a_orV, a_notV, a_ifE, a_seqS, a_ifS, a_setS, a_dropS, a_retS, a_retVarS, a_asgS, a_callE, a_callF, a_appK, a_forS, a_compE, a_seqI, a_rng1, a_rng2, a_methL, a_mutL, a_setIxS, a_noPt, a_somePt, a_sliceE, a_chainE, a_nameG, a_nilG, a_consG, a_tupG, a_dnewE, a_dputS, a_dgetE, a_callP, a_zipI, a_enumI, revG, itemsT, inG, maxG, zipD, enumD, defG, runDef, env0, En.sv, getL, Opd.get, pureO, pureL, callD, argL, argO, lentS, wbE, wb1, wbAt, endF, backD, pB, pI, nL, numG, cmpG, subG, addG, mulG, negG, isNG, ixG, itemsD, itemsL, lenG, listG, tupleG, sumG, allG, int1G, int2G, intG, isiG, tyD, appendK, popK, clearK, insertK, reverseK, extendK, countG, atI, ixN, eqG, intsOf, blsOf, wipeE, restE, tkeyD, keysD, keyD, kit_ii, kit_ib, kit_bi, kit_bb, kit_ll, kit_tt, kit_lt, kit_tl, kit_ti, kit_li, kit_ni, kit_si, kit_nt, kit_it, kit_st, kit_bt, a_raiseS, a_callZ, a_callPZ, a_dixE, a_dinE, a_parS, a_isxE, G_fit, m_fit, c]
def orD : D → D
  | .tup [.non, b] => b
  | .tup [a, _] => a
  | _ => .non
theorem both_loop (x0 x1 : Option SV) (x y : Int) (f g f' g' : Bool) : compLoop ⟨[.tup [insD f x, insD f' x], .tup [insD g y, insD g' y]], none⟩ [2, 3] (tupG 2 (consG (nameG 2) (consG (nameG 3) nilG))) (fun e => .ok true e) (opd (ifE (testV (op2 (isNG false) (varE 2) (opd (constE .non)))) (keepE (varE 3)) (keepE (varE 2)))) [.tup [insD f x, insD f' x], .tup [insD g y, insD g' y]] [x0, x1, none, none] [] =
    .ok [insD (f || f') x, insD (g || g') y] [x0, x1, none, none] := by
  rw [compLoop_each (f := orD) grd_none _ (by simp) fun d hd => ?_]
  · cases f <;> cases g <;> cases f' <;> cases g' <;> rfl
  · have : ∃ (z : Int) (u v : Bool), d = .tup [insD u z, insD v z] := by
      have : d = .tup [insD f x, insD f' x] ∨ d = .tup [insD g y, insD g' y] := by simpa using hd
      rcases this with rfl | rfl
      · exact ⟨_, _, _, rfl⟩
      · exact ⟨_, _, _, rfl⟩
    obtain ⟨z, u, v, rfl⟩ := this
    refine ⟨[x0, x1, some ⟨.p, insD u z⟩, some ⟨.p, insD v z⟩], .val (orD (.tup [insD u z, insD v z])), [x0, x1, some ⟨.p, insD u z⟩, some ⟨.p, insD v z⟩], _, rfl, ?_, rfl, rfl⟩
    cases u <;> cases v <;> simp [a_bindR, a_bindS, a_opd, a_constE, a_varE, a_keepE, a_op1, a_op2, a_nilA, a_consA, a_callB, a_tupE, a_lstE, a_testV, a_andT, a_orT, a_notT, a_andV, a_orV, a_notV, a_ifE, a_seqS, a_ifS, a_setS, a_dropS, a_retS, a_retVarS, a_asgS, a_callE, a_callF, a_appK, a_forS, a_compE, a_seqI, a_rng1, a_rng2, a_methL, a_mutL, a_setIxS, a_noPt, a_somePt, a_sliceE, a_chainE, a_nameG, a_nilG, a_consG, a_tupG, a_dnewE, a_dputS, a_dgetE, a_callP, a_zipI, a_enumI, revG, itemsT, inG, maxG, zipD, enumD, defG, runDef, env0, En.sv, getL, Opd.get, pureO, pureL, callD, argL, argO, lentS, wbE, wb1, wbAt, endF, backD, pB, pI, nL, numG, cmpG, subG, addG, mulG, negG, isNG, ixG, itemsD, itemsL, lenG, listG, tupleG, sumG, allG, int1G, int2G, intG, isiG, tyD, appendK, popK, clearK, insertK, reverseK, extendK, countG, atI, ixN, eqG, intsOf, blsOf, wipeE, restE, tkeyD, keysD, keyD, kit_ii, kit_ib, kit_bi, kit_bb, kit_ll, kit_tt, kit_lt, kit_tl, kit_ti, kit_li, kit_ni, kit_si, kit_nt, kit_it, kit_st, kit_bt, a_raiseS, a_callZ, a_callPZ, a_dixE, a_dinE, a_parS, a_isxE, insD_t, insD_f, orD]
theorem both_ok (x y : Int) (f g f' g' : Bool) : G_both_of [⟨.p, .tup [insD f x, insD g y]⟩, ⟨.p, .tup [insD f' x, insD g' y]⟩] = .ret ⟨.p, .tup [insD (f || f') x, insD (g || g') y]⟩ [.tup [insD f x, insD g y], .tup [insD f' x, insD g' y]] := by
  have c := both_loop (some ⟨.p, .tup [insD f x, insD g y]⟩) (some ⟨.p, .tup [insD f' x, insD g' y]⟩) x y f g f' g'
  simp [a_bindR, a_bindS, a_opd, a_constE, a_varE, a_keepE, a_op1, a_op2, a_nilA, a_consA, a_callB, a_tupE, a_lstE, a_testV, a_andT, a_orT, a_notT, a_andV, a_orV, a_notV, a_ifE, a_seqS, a_ifS, a_setS, a_dropS, a_retS, a_retVarS, a_asgS, a_callE, a_callF, a_appK, a_forS, a_compE, a_seqI, a_rng1, a_rng2, a_methL, a_mutL, a_setIxS, a_noPt, a_somePt, a_sliceE, a_chainE, a_nameG, a_nilG, a_consG, a_tupG, a_dnewE, a_dputS, a_dgetE, a_callP, a_zipI, a_enumI, revG, itemsT, inG, maxG, zipD, enumD, defG, runDef, env0, En.sv, getL, Opd.get, pureO, pureL, callD, argL, argO, lentS, wbE, wb1, wbAt, endF, backD, pB, pI, nL, numG, cmpG, subG, addG, mulG, negG, isNG, ixG, itemsD, itemsL, lenG, listG, tupleG, sumG, allG, int1G, int2G, intG, isiG, tyD, appendK, popK, clearK, insertK, reverseK, extendK, countG, atI, ixN, eqG, intsOf, blsOf, wipeE, restE, tkeyD, keysD, keyD, kit_ii, kit_ib, kit_bi, kit_bb, kit_ll, kit_tt, kit_lt, kit_tl, kit_ti, kit_li, kit_ni, kit_si, kit_nt, kit_it, kit_st, kit_bt, a_raiseS, a_callZ, a_callPZ, a_dixE, a_dinE, a_parS, a_isxE, G_both_of, m_both_of, c]
def atD (z : Int) (h : Nat) : D → D
  | .int k => if (h : Int) = k then .int z else .non
  | _ => .non
theorem base_loop (z : Int) (h : Nat) (hh : h ≤ 1) (x2 : Option SV) (h2 : ∃ d, x2 = some ⟨.p, d⟩) : compLoop ⟨[.int 0, .int 1], none⟩ [9] (nameG 9) (fun e => .ok true e) (opd (ifE (testV (op2 (eqG false) (varE 1) (varE 9))) (keepE (varE 0)) (constE .non))) [.int 0, .int 1] [some ⟨.p, .int z⟩, some ⟨.p, .int h⟩, x2, none, none, none, none, none, none, none] [] =
    .ok [atD z h (.int 0), atD z h (.int 1)] [some ⟨.p, .int z⟩, some ⟨.p, .int h⟩, x2, none, none, none, none, none, none, none] := by
  obtain ⟨d2, rfl⟩ := h2
  rw [compLoop_each (f := atD z h) grd_none _ (by simp) fun d hd => ?_]
  · rfl
  · have : ∃ k : Int, d = .int k := by
      have : d = .int 0 ∨ d = .int 1 := by simpa using hd
      rcases this with rfl | rfl <;> exact ⟨_, rfl⟩
    obtain ⟨k, rfl⟩ := this
    refine ⟨[some ⟨.p, .int z⟩, some ⟨.p, .int h⟩, some ⟨.p, d2⟩, none, none, none, none, none, none, some ⟨.p, .int k⟩], .val (atD z h (.int k)), [some ⟨.p, .int z⟩, some ⟨.p, .int h⟩, some ⟨.p, d2⟩, none, none, none, none, none, none, some ⟨.p, .int k⟩], _, rfl, ?_, rfl, rfl⟩
    by_cases e : (h : Int) = k
    · simp [a_bindR, a_bindS, a_opd, a_constE, a_varE, a_keepE, a_op1, a_op2, a_nilA, a_consA, a_callB, a_tupE, a_lstE, a_testV, a_andT, a_orT, a_notT, a_andV, a_orV, a_notV, a_ifE, a_seqS, a_ifS, a_setS, a_dropS, a_retS, a_retVarS, a_asgS, a_callE, a_callF, a_appK, a_forS, a_compE, a_seqI, a_rng1, a_rng2, a_methL, a_mutL, a_setIxS, a_noPt, a_somePt, a_sliceE, a_chainE, a_nameG, a_nilG, a_consG, a_tupG, a_dnewE, a_dputS, a_dgetE, a_callP, a_zipI, a_enumI, revG, itemsT, inG, maxG, zipD, enumD, defG, runDef, env0, En.sv, getL, Opd.get, pureO, pureL, callD, argL, argO, lentS, wbE, wb1, wbAt, endF, backD, pB, pI, nL, numG, cmpG, subG, addG, mulG, negG, isNG, ixG, itemsD, itemsL, lenG, listG, tupleG, sumG, allG, int1G, int2G, intG, isiG, tyD, appendK, popK, clearK, insertK, reverseK, extendK, countG, atI, ixN, eqG, intsOf, blsOf, wipeE, restE, tkeyD, keysD, keyD, kit_ii, kit_ib, kit_bi, kit_bb, kit_ll, kit_tt, kit_lt, kit_tl, kit_ti, kit_li, kit_ni, kit_si, kit_nt, kit_it, kit_st, kit_bt, a_raiseS, a_callZ, a_callPZ, a_dixE, a_dinE, a_parS, a_isxE, eqD_int, e, atD]
    · have e' : ((h : Int) == k) = false := by simpa using e
      simp [a_bindR, a_bindS, a_opd, a_constE, a_varE, a_keepE, a_op1, a_op2, a_nilA, a_consA, a_callB, a_tupE, a_lstE, a_testV, a_andT, a_orT, a_notT, a_andV, a_orV, a_notV, a_ifE, a_seqS, a_ifS, a_setS, a_dropS, a_retS, a_retVarS, a_asgS, a_callE, a_callF, a_appK, a_forS, a_compE, a_seqI, a_rng1, a_rng2, a_methL, a_mutL, a_setIxS, a_noPt, a_somePt, a_sliceE, a_chainE, a_nameG, a_nilG, a_consG, a_tupG, a_dnewE, a_dputS, a_dgetE, a_callP, a_zipI, a_enumI, revG, itemsT, inG, maxG, zipD, enumD, defG, runDef, env0, En.sv, getL, Opd.get, pureO, pureL, callD, argL, argO, lentS, wbE, wb1, wbAt, endF, backD, pB, pI, nL, numG, cmpG, subG, addG, mulG, negG, isNG, ixG, itemsD, itemsL, lenG, listG, tupleG, sumG, allG, int1G, int2G, intG, isiG, tyD, appendK, popK, clearK, insertK, reverseK, extendK, countG, atI, ixN, eqG, intsOf, blsOf, wipeE, restE, tkeyD, keysD, keyD, kit_ii, kit_ib, kit_bi, kit_bb, kit_ll, kit_tt, kit_lt, kit_tl, kit_ti, kit_li, kit_ni, kit_si, kit_nt, kit_it, kit_st, kit_bt, a_raiseS, a_callZ, a_callPZ, a_dixE, a_dinE, a_parS, a_isxE, eqD_int, e', e, atD]
theorem cm3 (x : Int) : CMul 3 x := .inl ⟨by decide, by decide⟩
theorem is_from_tup (ds : List D) : G_is_from [⟨.p, .tup ds⟩, ⟨.p, .int 0⟩, ⟨.p, .non⟩] = .ret ⟨.p, .bl false⟩ [.tup ds, .int 0, .non] := by
  simp [a_bindR, a_bindS, a_opd, a_constE, a_varE, a_keepE, a_op1, a_op2, a_nilA, a_consA, a_callB, a_tupE, a_lstE, a_testV, a_andT, a_orT, a_notT, a_andV, a_orV, a_notV, a_ifE, a_seqS, a_ifS, a_setS, a_dropS, a_retS, a_retVarS, a_asgS, a_callE, a_callF, a_appK, a_forS, a_compE, a_seqI, a_rng1, a_rng2, a_methL, a_mutL, a_setIxS, a_noPt, a_somePt, a_sliceE, a_chainE, a_nameG, a_nilG, a_consG, a_tupG, a_dnewE, a_dputS, a_dgetE, a_callP, a_zipI, a_enumI, revG, itemsT, inG, maxG, zipD, enumD, defG, runDef, env0, En.sv, getL, Opd.get, pureO, pureL, callD, argL, argO, lentS, wbE, wb1, wbAt, endF, backD, pB, pI, nL, numG, cmpG, subG, addG, mulG, negG, isNG, ixG, itemsD, itemsL, lenG, listG, tupleG, sumG, allG, int1G, int2G, intG, isiG, tyD, appendK, popK, clearK, insertK, reverseK, extendK, countG, atI, ixN, eqG, intsOf, blsOf, wipeE, restE, tkeyD, keysD, keyD, kit_ii, kit_ib, kit_bi, kit_bb, kit_ll, kit_tt, kit_lt, kit_tl, kit_ti, kit_li, kit_ni, kit_si, kit_nt, kit_it, kit_st, kit_bt, a_raiseS, a_callZ, a_callPZ, a_dixE, a_dinE, a_parS, a_isxE, G_is_from, m_is_from]
theorem spot_base (z : Int) (hz : 0 ≤ z) (h : Nat) (hh : h ≤ 1) (n : Nat) (most : Int) : G_spot_of (n + 1) [⟨.p, .int z⟩, ⟨.p, .int h⟩, ⟨.p, .int most⟩] = .ret ⟨.p, .tup [.int 0, .int h, .tup [atD z h (.int 0), atD z h (.int 1)]]⟩ [.int z, .int h, .int most] := by
  have c := base_loop z h hh (some ⟨.p, .int most⟩) ⟨_, rfl⟩
  simp [a_bindR, a_bindS, a_opd, a_constE, a_varE, a_keepE, a_op1, a_op2, a_nilA, a_consA, a_callB, a_tupE, a_lstE, a_testV, a_andT, a_orT, a_notT, a_andV, a_orV, a_notV, a_ifE, a_seqS, a_ifS, a_setS, a_dropS, a_retS, a_retVarS, a_asgS, a_callE, a_callF, a_appK, a_forS, a_compE, a_seqI, a_rng1, a_rng2, a_methL, a_mutL, a_setIxS, a_noPt, a_somePt, a_sliceE, a_chainE, a_nameG, a_nilG, a_consG, a_tupG, a_dnewE, a_dputS, a_dgetE, a_callP, a_zipI, a_enumI, revG, itemsT, inG, maxG, zipD, enumD, defG, runDef, env0, En.sv, getL, Opd.get, pureO, pureL, callD, argL, argO, lentS, wbE, wb1, wbAt, endF, backD, pB, pI, nL, numG, cmpG, subG, addG, mulG, negG, isNG, ixG, itemsD, itemsL, lenG, listG, tupleG, sumG, allG, int1G, int2G, intG, isiG, tyD, appendK, popK, clearK, insertK, reverseK, extendK, countG, atI, ixN, eqG, intsOf, blsOf, wipeE, restE, tkeyD, keysD, keyD, kit_ii, kit_ib, kit_bi, kit_bb, kit_ll, kit_tt, kit_lt, kit_tl, kit_ti, kit_li, kit_ni, kit_si, kit_nt, kit_it, kit_st, kit_bt, a_raiseS, a_callZ, a_callPZ, a_dixE, a_dinE, a_parS, a_isxE, G_spot_of, m_spot_of, is_from_non, hz, c]
theorem spot_lone (a : D) (h : Nat) (n : Nat) (most : Int) (hm : most ≠ 0) (r : Nat) (m : Int) (ins : D) (e : G_spot_of n [⟨.p, a⟩, ⟨.p, .int h⟩, ⟨.p, .int (most - 1)⟩] = .ret ⟨.p, .tup [.int r, .int m, ins]⟩ [a, .int h, .int (most - 1)]) :
    G_spot_of (n + 1) [⟨.p, .tup [a, .non]⟩, ⟨.p, .int h⟩, ⟨.p, .int most⟩] = .ret ⟨.p, .tup [.int ((r : Int) + 1), .int (3 * m), ins]⟩ [.tup [a, .non], .int h, .int most] := by
  have hm' : (most == 0) = false := by simpa using hm
  simp [a_bindR, a_bindS, a_opd, a_constE, a_varE, a_keepE, a_op1, a_op2, a_nilA, a_consA, a_callB, a_tupE, a_lstE, a_testV, a_andT, a_orT, a_notT, a_andV, a_orV, a_notV, a_ifE, a_seqS, a_ifS, a_setS, a_dropS, a_retS, a_retVarS, a_asgS, a_callE, a_callF, a_appK, a_forS, a_compE, a_seqI, a_rng1, a_rng2, a_methL, a_mutL, a_setIxS, a_noPt, a_somePt, a_sliceE, a_chainE, a_nameG, a_nilG, a_consG, a_tupG, a_dnewE, a_dputS, a_dgetE, a_callP, a_zipI, a_enumI, revG, itemsT, inG, maxG, zipD, enumD, defG, runDef, env0, En.sv, getL, Opd.get, pureO, pureL, callD, argL, argO, lentS, wbE, wb1, wbAt, endF, backD, pB, pI, nL, numG, cmpG, subG, addG, mulG, negG, isNG, ixG, itemsD, itemsL, lenG, listG, tupleG, sumG, allG, int1G, int2G, intG, isiG, tyD, appendK, popK, clearK, insertK, reverseK, extendK, countG, atI, ixN, eqG, intsOf, blsOf, wipeE, restE, tkeyD, keysD, keyD, kit_ii, kit_ib, kit_bi, kit_bb, kit_ll, kit_tt, kit_lt, kit_tl, kit_ti, kit_li, kit_ni, kit_si, kit_nt, kit_it, kit_st, kit_bt, a_raiseS, a_callZ, a_callPZ, a_dixE, a_dinE, a_parS, a_isxE, G_spot_of, m_spot_of, is_from_tup, hm', e, eqD_int, cm3]
theorem spot_see (a b : D) (hb : (∃ i, b = .int i) ∨ ∃ l, b = .tup l) (h : Nat) (hh : h ≤ 1) (n : Nat) (most : Int) (hm : most ≠ 0) (r : Nat) (m m' : Int) (x y : Int) (f g f' g' : Bool) (hn : m' - m = 1 ∨ m - m' = 1)
    (e : G_spot_of n [⟨.p, a⟩, ⟨.p, .int h⟩, ⟨.p, .int (most - 1)⟩] = .ret ⟨.p, .tup [.int r, .int m, .tup [insD f x, insD g y]]⟩ [a, .int h, .int (most - 1)])
    (e' : G_spot_of n [⟨.p, b⟩, ⟨.p, .int (1 - h)⟩, ⟨.p, .int (most - 1)⟩] = .ret ⟨.p, .tup [.int r, .int m', .tup [insD f' x, insD g' y]]⟩ [b, .int (1 - h), .int (most - 1)]) :
    G_spot_of (n + 1) [⟨.p, .tup [a, b]⟩, ⟨.p, .int h⟩, ⟨.p, .int most⟩] = .ret ⟨.p, .tup [.int ((r : Int) + 1), .int (3 * m + 2 * (m' - m)), .tup [insD (f || f') x, insD (g || g') y]]⟩ [.tup [a, b], .int h, .int most] := by
  have hm' : (most == 0) = false := by simpa using hm
  have fi := fit_ok x y f g f' g'
  have bo := both_ok x y f g f' g'
  generalize insD f x = u0 at *
  generalize insD g y = u1 at *
  generalize insD f' x = v0 at *
  generalize insD g' y = v1 at *
  generalize insD (f || f') x = w0 at *
  generalize insD (g || g') y = w1 at *
  rcases hn with hn | hn
  · have : m' = m + 1 := by omega
    subst this
    have z : m + 1 - m = 1 := by omega
    rw [z]
    rcases hb with ⟨i, rfl⟩ | ⟨l, rfl⟩ <;> simp [a_bindR, a_bindS, a_opd, a_constE, a_varE, a_keepE, a_op1, a_op2, a_nilA, a_consA, a_callB, a_tupE, a_lstE, a_testV, a_andT, a_orT, a_notT, a_andV, a_orV, a_notV, a_ifE, a_seqS, a_ifS, a_setS, a_dropS, a_retS, a_retVarS, a_asgS, a_callE, a_callF, a_appK, a_forS, a_compE, a_seqI, a_rng1, a_rng2, a_methL, a_mutL, a_setIxS, a_noPt, a_somePt, a_sliceE, a_chainE, a_nameG, a_nilG, a_consG, a_tupG, a_dnewE, a_dputS, a_dgetE, a_callP, a_zipI, a_enumI, revG, itemsT, inG, maxG, zipD, enumD, defG, runDef, env0, En.sv, getL, Opd.get, pureO, pureL, callD, argL, argO, lentS, wbE, wb1, wbAt, endF, backD, pB, pI, nL, numG, cmpG, subG, addG, mulG, negG, isNG, ixG, itemsD, itemsL, lenG, listG, tupleG, sumG, allG, int1G, int2G, intG, isiG, tyD, appendK, popK, clearK, insertK, reverseK, extendK, countG, atI, ixN, eqG, intsOf, blsOf, wipeE, restE, tkeyD, keysD, keyD, kit_ii, kit_ib, kit_bi, kit_bb, kit_ll, kit_tt, kit_lt, kit_tl, kit_ti, kit_li, kit_ni, kit_si, kit_nt, kit_it, kit_st, kit_bt, a_raiseS, a_callZ, a_callPZ, a_dixE, a_dinE, a_parS, a_isxE, G_spot_of, m_spot_of, is_from_tup, hm', e, e', eqD_int, cm3, cm2, fi, bo, z]
  · have : m = m' + 1 := by omega
    subst this
    have z : m' - (m' + 1) = -1 := by omega
    rw [z]
    rcases hb with ⟨i, rfl⟩ | ⟨l, rfl⟩ <;> simp [a_bindR, a_bindS, a_opd, a_constE, a_varE, a_keepE, a_op1, a_op2, a_nilA, a_consA, a_callB, a_tupE, a_lstE, a_testV, a_andT, a_orT, a_notT, a_andV, a_orV, a_notV, a_ifE, a_seqS, a_ifS, a_setS, a_dropS, a_retS, a_retVarS, a_asgS, a_callE, a_callF, a_appK, a_forS, a_compE, a_seqI, a_rng1, a_rng2, a_methL, a_mutL, a_setIxS, a_noPt, a_somePt, a_sliceE, a_chainE, a_nameG, a_nilG, a_consG, a_tupG, a_dnewE, a_dputS, a_dgetE, a_callP, a_zipI, a_enumI, revG, itemsT, inG, maxG, zipD, enumD, defG, runDef, env0, En.sv, getL, Opd.get, pureO, pureL, callD, argL, argO, lentS, wbE, wb1, wbAt, endF, backD, pB, pI, nL, numG, cmpG, subG, addG, mulG, negG, isNG, ixG, itemsD, itemsL, lenG, listG, tupleG, sumG, allG, int1G, int2G, intG, isiG, tyD, appendK, popK, clearK, insertK, reverseK, extendK, countG, atI, ixN, eqG, intsOf, blsOf, wipeE, restE, tkeyD, keysD, keyD, kit_ii, kit_ib, kit_bi, kit_bb, kit_ll, kit_tt, kit_lt, kit_tl, kit_ti, kit_li, kit_ni, kit_si, kit_nt, kit_it, kit_st, kit_bt, a_raiseS, a_callZ, a_callPZ, a_dixE, a_dinE, a_parS, a_isxE, G_spot_of, m_spot_of, is_from_tup, hm', e, e', eqD_int, cm3, cm2, fi, bo, z]
theorem spt_shape {x y : Int} {d : D} {h r : Nat} {m : Int} {f g : Bool} (S : Spt x y d h r m f g) : (∃ i, d = .int i) ∨ ∃ l, d = .tup l := by
  cases S with
  | base0 _ => exact .inl ⟨_, rfl⟩
  | base1 _ => exact .inl ⟨_, rfl⟩
  | lone _ => exact .inr ⟨_, rfl⟩
  | see _ _ _ _ => exact .inr ⟨_, rfl⟩
theorem spot_ok {x y : Int} {d : D} {h r : Nat} {m : Int} {f g : Bool} (S : Spt x y d h r m f g) : ∀ (n : Nat) (most : Int), r ≤ n → (r : Int) ≤ most →
    G_spot_of (n + 1) [⟨.p, d⟩, ⟨.p, .int h⟩, ⟨.p, .int most⟩] = .ret ⟨.p, .tup [.int r, .int m, .tup [insD f x, insD g y]]⟩ [d, .int h, .int most] := by
  induction S with
  | base0 hx => intro n most _ _; exact spot_base x hx 0 (by omega) n most
  | base1 hy => intro n most _ _; exact spot_base y hy 1 (by omega) n most
  | @lone a h r m f g _ ih =>
    intro n most hn hm
    match n, hn with
    | n + 1, hn =>
      have := spot_lone a h (n + 1) most (by omega) r m _ (ih n (most - 1) (by omega) (by omega))
      simpa using this
  | @see a b h r m m' f g f' g' hh S1 S2 hne ih1 ih2 =>
    intro n most hn hm
    match n, hn with
    | n + 1, hn =>
      have e2 := ih2 n (most - 1) (by omega) (by omega)
      rw [show ((1 - h : Nat) : Int) = 1 - (h : Int) by omega] at e2
      have := spot_see a b (spt_shape S2) h hh (n + 1) most (by omega) r m m' x y f g f' g' hne (ih1 n (most - 1) (by omega) (by omega)) e2
      simpa using this
theorem sure_hand_ok (h : Nat) (hh : h ≤ 1) : G_sure_hand [⟨.p, .int h⟩] = .ret ⟨.p, .non⟩ [.int h] := by
  have h0 : (0 : Int) ≤ h := by omega
  have h1 : (h : Int) ≤ 1 := by omega
  simp [a_bindR, a_bindS, a_opd, a_constE, a_varE, a_keepE, a_op1, a_op2, a_nilA, a_consA, a_callB, a_tupE, a_lstE, a_testV, a_andT, a_orT, a_notT, a_andV, a_orV, a_notV, a_ifE, a_seqS, a_ifS, a_setS, a_dropS, a_retS, a_retVarS, a_asgS, a_callE, a_callF, a_appK, a_forS, a_compE, a_seqI, a_rng1, a_rng2, a_methL, a_mutL, a_setIxS, a_noPt, a_somePt, a_sliceE, a_chainE, a_nameG, a_nilG, a_consG, a_tupG, a_dnewE, a_dputS, a_dgetE, a_callP, a_zipI, a_enumI, revG, itemsT, inG, maxG, zipD, enumD, defG, runDef, env0, En.sv, getL, Opd.get, pureO, pureL, callD, argL, argO, lentS, wbE, wb1, wbAt, endF, backD, pB, pI, nL, numG, cmpG, subG, addG, mulG, negG, isNG, ixG, itemsD, itemsL, lenG, listG, tupleG, sumG, allG, int1G, int2G, intG, isiG, tyD, appendK, popK, clearK, insertK, reverseK, extendK, countG, atI, ixN, eqG, intsOf, blsOf, wipeE, restE, tkeyD, keysD, keyD, kit_ii, kit_ib, kit_bi, kit_bb, kit_ll, kit_tt, kit_lt, kit_tl, kit_ti, kit_li, kit_ni, kit_si, kit_nt, kit_it, kit_st, kit_bt, a_raiseS, a_callZ, a_callPZ, a_dixE, a_dinE, a_parS, a_isxE, G_sure_hand, m_sure_hand, is_from_int, h0, h1]
theorem place_ok {x y : Int} {d : D} {h r : Nat} {m : Int} {f g : Bool} (S : Spt x y d h r m f g) (hr : r ≤ 5) : G_place [⟨.p, d⟩, ⟨.p, .int h⟩] = .ret ⟨.p, .int m⟩ [d, .int h] := by
  have e := spot_ok S 5 5 hr (by omega)
  have e' : G_spot_of 6 [⟨.p, d⟩, ⟨.p, .int h⟩, ⟨.p, .int 5⟩] = .ret ⟨.p, .tup [.int r, .int m, .tup [insD f x, insD g y]]⟩ [d, .int h, .int 5] := e
  have s := sure_hand_ok h S.hand
  simp [a_bindR, a_bindS, a_opd, a_constE, a_varE, a_keepE, a_op1, a_op2, a_nilA, a_consA, a_callB, a_tupE, a_lstE, a_testV, a_andT, a_orT, a_notT, a_andV, a_orV, a_notV, a_ifE, a_seqS, a_ifS, a_setS, a_dropS, a_retS, a_retVarS, a_asgS, a_callE, a_callF, a_appK, a_forS, a_compE, a_seqI, a_rng1, a_rng2, a_methL, a_mutL, a_setIxS, a_noPt, a_somePt, a_sliceE, a_chainE, a_nameG, a_nilG, a_consG, a_tupG, a_dnewE, a_dputS, a_dgetE, a_callP, a_zipI, a_enumI, revG, itemsT, inG, maxG, zipD, enumD, defG, runDef, env0, En.sv, getL, Opd.get, pureO, pureL, callD, argL, argO, lentS, wbE, wb1, wbAt, endF, backD, pB, pI, nL, numG, cmpG, subG, addG, mulG, negG, isNG, ixG, itemsD, itemsL, lenG, listG, tupleG, sumG, allG, int1G, int2G, intG, isiG, tyD, appendK, popK, clearK, insertK, reverseK, extendK, countG, atI, ixN, eqG, intsOf, blsOf, wipeE, restE, tkeyD, keysD, keyD, kit_ii, kit_ib, kit_bi, kit_bb, kit_ll, kit_tt, kit_lt, kit_tl, kit_ti, kit_li, kit_ni, kit_si, kit_nt, kit_it, kit_st, kit_bt, a_raiseS, a_callZ, a_callPZ, a_dixE, a_dinE, a_parS, a_isxE, G_place, m_place, s, e']
end My

namespace My
open PySem L2 DL
noncomputable def pBd : En → RS := (seqS (setS 6 (op2 (numG CDivW fun i j => i / j) (opd (op2 ixG (varE 4) (varE 5))) (opd (constE (.int 2))))) (seqS (ifS (testV (op2 (eqG false) (opd (op2 (numG (fun _ j => 0 < j) fun i j => i % j) (opd (op2 ixG (varE 4) (varE 5))) (opd (constE (.int 2))))) (opd (constE (.int 0))))) (dputS 2 (op2 ixG (varE 3) (varE 5)) (opd (tupE (consA (varE 6) (consA (varE 5) nilA))))) (ifS (testV (dinE (opd (tupE (consA (varE 6) (consA (opd (op2 subG (opd (constE (.int 1))) (varE 5))) nilA)))) (varE 2))) (setIxS 3 (op2 addG (opd (op2 mulG (opd (constE (.int 3))) (opd (op2 ixG (varE 3) (varE 5))))) (opd (op2 mulG (opd (constE (.int 2))) (opd (op2 subG (opd (dixE (varE 2) (opd (tupE (consA (varE 6) (consA (opd (op2 subG (opd (constE (.int 1))) (varE 5))) nilA)))))) (opd (op2 ixG (varE 3) (varE 5)))))))) (varE 5)) (setIxS 3 (op2 mulG (opd (constE (.int 3))) (opd (op2 ixG (varE 3) (varE 5)))) (varE 5)))) (setIxS 4 (op2 addG (opd (op2 ixG (varE 4) (varE 5))) (opd (constE (.int 1)))) (varE 5))))
noncomputable def pRet : En → RS := (retS (compE (rng1 (consA (opd (constE (.int 2))) nilA)) [5] (nameG 5) (fun e => .ok true e) (opd (op2 ixG (opd (lstE (consA (opd (constE .non)) (consA (opd (op2 ixG (varE 3) (varE 5))) nilA)))) (opd (callB intG (consA (opd (op2 (eqG false) (opd (op2 ixG (varE 4) (varE 5))) (opd (op2 mulG (opd (constE (.int 2))) (varE 1))))) nilA)))))))
theorem places_eq : m__law_places = (seqS (setS 2 dnewE) (seqS (setS 3 (lstE (consA (opd (constE (.int 0))) (consA (opd (constE (.int 1))) nilA)))) (seqS (setS 4 (lstE (consA (opd (constE (.int 0))) (consA (opd (constE (.int 0))) nilA)))) (seqS (forS (seqI (varE 0)) (nameG 5) pBd) pRet)))) := rfl
def envP (fl : Fl) (H : D) (r : Int) (kv : List (List Key × D)) (m0 m1 p0 p1 : Int) (x5 x6 : Option SV) : En :=
  [some ⟨fl, H⟩, some ⟨.p, .int r⟩, some ⟨.o, .dt kv⟩, some ⟨.o, .lst [.int m0, .int m1]⟩, some ⟨.o, .lst [.int p0, .int p1]⟩, x5, x6]
section
variable {fl : Fl} {H : D} {r : Int} {kv : List (List Key × D)} {m0 m1 p0 p1 : Int} {x6 : Option SV}
theorem put0_ok (ev : p0 % 2 = 0) (hl : kv.length < 1000) : pBd (envP fl H r kv m0 m1 p0 p1 (some ⟨.p, .int 0⟩) x6) = .nx (envP fl H r (putT kv [.inl (p0 / 2), .inl 0] (.int m0)) m0 m1 (p0 + 1) p1 (some ⟨.p, .int 0⟩) (some ⟨.p, .int (p0 / 2)⟩)) := by
  have hl2 : kv.length < 100000 := by omega
  generalize hq : p0 / 2 = q
  cases fl <;> simp [a_bindR, a_bindS, a_opd, a_constE, a_varE, a_keepE, a_op1, a_op2, a_nilA, a_consA, a_callB, a_tupE, a_lstE, a_testV, a_andT, a_orT, a_notT, a_andV, a_orV, a_notV, a_ifE, a_seqS, a_ifS, a_setS, a_dropS, a_retS, a_retVarS, a_asgS, a_callE, a_callF, a_appK, a_forS, a_compE, a_seqI, a_rng1, a_rng2, a_methL, a_mutL, a_setIxS, a_noPt, a_somePt, a_sliceE, a_chainE, a_nameG, a_nilG, a_consG, a_tupG, a_dnewE, a_dputS, a_dgetE, a_callP, a_zipI, a_enumI, revG, itemsT, inG, maxG, zipD, enumD, defG, runDef, env0, En.sv, getL, Opd.get, pureO, pureL, callD, argL, argO, lentS, wbE, wb1, wbAt, endF, backD, pB, pI, nL, numG, cmpG, subG, addG, mulG, negG, isNG, ixG, itemsD, itemsL, lenG, listG, tupleG, sumG, allG, int1G, int2G, intG, isiG, tyD, appendK, popK, clearK, insertK, reverseK, extendK, countG, atI, ixN, eqG, intsOf, blsOf, wipeE, restE, tkeyD, keysD, keyD, kit_ii, kit_ib, kit_bi, kit_bb, kit_ll, kit_tt, kit_lt, kit_tl, kit_ti, kit_li, kit_ni, kit_si, kit_nt, kit_it, kit_st, kit_bt, a_raiseS, a_callZ, a_callPZ, a_dixE, a_dinE, a_parS, a_isxE, pBd, envP, cd2, eqD_int, ev, hl2, hq]
theorem put1_ok (ev : p1 % 2 = 0) (hl : kv.length < 1000) : pBd (envP fl H r kv m0 m1 p0 p1 (some ⟨.p, .int 1⟩) x6) = .nx (envP fl H r (putT kv [.inl (p1 / 2), .inl 1] (.int m1)) m0 m1 p0 (p1 + 1) (some ⟨.p, .int 1⟩) (some ⟨.p, .int (p1 / 2)⟩)) := by
  have hl2 : kv.length < 100000 := by omega
  generalize hq : p1 / 2 = q
  cases fl <;> simp [a_bindR, a_bindS, a_opd, a_constE, a_varE, a_keepE, a_op1, a_op2, a_nilA, a_consA, a_callB, a_tupE, a_lstE, a_testV, a_andT, a_orT, a_notT, a_andV, a_orV, a_notV, a_ifE, a_seqS, a_ifS, a_setS, a_dropS, a_retS, a_retVarS, a_asgS, a_callE, a_callF, a_appK, a_forS, a_compE, a_seqI, a_rng1, a_rng2, a_methL, a_mutL, a_setIxS, a_noPt, a_somePt, a_sliceE, a_chainE, a_nameG, a_nilG, a_consG, a_tupG, a_dnewE, a_dputS, a_dgetE, a_callP, a_zipI, a_enumI, revG, itemsT, inG, maxG, zipD, enumD, defG, runDef, env0, En.sv, getL, Opd.get, pureO, pureL, callD, argL, argO, lentS, wbE, wb1, wbAt, endF, backD, pB, pI, nL, numG, cmpG, subG, addG, mulG, negG, isNG, ixG, itemsD, itemsL, lenG, listG, tupleG, sumG, allG, int1G, int2G, intG, isiG, tyD, appendK, popK, clearK, insertK, reverseK, extendK, countG, atI, ixN, eqG, intsOf, blsOf, wipeE, restE, tkeyD, keysD, keyD, kit_ii, kit_ib, kit_bi, kit_bb, kit_ll, kit_tt, kit_lt, kit_tl, kit_ti, kit_li, kit_ni, kit_si, kit_nt, kit_it, kit_st, kit_bt, a_raiseS, a_callZ, a_callPZ, a_dixE, a_dinE, a_parS, a_isxE, pBd, envP, cd2, eqD_int, ev, hl2, hq]
theorem see0_ok (od : p0 % 2 = 1) {c : Int} (hg : getT kv [.inl (p0 / 2), .inl 1] = some (.int c)) : pBd (envP fl H r kv m0 m1 p0 p1 (some ⟨.p, .int 0⟩) x6) = .nx (envP fl H r kv (3 * m0 + 2 * (c - m0)) m1 (p0 + 1) p1 (some ⟨.p, .int 0⟩) (some ⟨.p, .int (p0 / 2)⟩)) := by
  generalize hq : p0 / 2 = q at *
  cases fl <;> simp [a_bindR, a_bindS, a_opd, a_constE, a_varE, a_keepE, a_op1, a_op2, a_nilA, a_consA, a_callB, a_tupE, a_lstE, a_testV, a_andT, a_orT, a_notT, a_andV, a_orV, a_notV, a_ifE, a_seqS, a_ifS, a_setS, a_dropS, a_retS, a_retVarS, a_asgS, a_callE, a_callF, a_appK, a_forS, a_compE, a_seqI, a_rng1, a_rng2, a_methL, a_mutL, a_setIxS, a_noPt, a_somePt, a_sliceE, a_chainE, a_nameG, a_nilG, a_consG, a_tupG, a_dnewE, a_dputS, a_dgetE, a_callP, a_zipI, a_enumI, revG, itemsT, inG, maxG, zipD, enumD, defG, runDef, env0, En.sv, getL, Opd.get, pureO, pureL, callD, argL, argO, lentS, wbE, wb1, wbAt, endF, backD, pB, pI, nL, numG, cmpG, subG, addG, mulG, negG, isNG, ixG, itemsD, itemsL, lenG, listG, tupleG, sumG, allG, int1G, int2G, intG, isiG, tyD, appendK, popK, clearK, insertK, reverseK, extendK, countG, atI, ixN, eqG, intsOf, blsOf, wipeE, restE, tkeyD, keysD, keyD, kit_ii, kit_ib, kit_bi, kit_bb, kit_ll, kit_tt, kit_lt, kit_tl, kit_ti, kit_li, kit_ni, kit_si, kit_nt, kit_it, kit_st, kit_bt, a_raiseS, a_callZ, a_callPZ, a_dixE, a_dinE, a_parS, a_isxE, pBd, envP, cd2, cm2, cm3, eqD_int, od, hq, hg]
theorem see1_ok (od : p1 % 2 = 1) {c : Int} (hg : getT kv [.inl (p1 / 2), .inl 0] = some (.int c)) : pBd (envP fl H r kv m0 m1 p0 p1 (some ⟨.p, .int 1⟩) x6) = .nx (envP fl H r kv m0 (3 * m1 + 2 * (c - m1)) p0 (p1 + 1) (some ⟨.p, .int 1⟩) (some ⟨.p, .int (p1 / 2)⟩)) := by
  generalize hq : p1 / 2 = q at *
  cases fl <;> simp [a_bindR, a_bindS, a_opd, a_constE, a_varE, a_keepE, a_op1, a_op2, a_nilA, a_consA, a_callB, a_tupE, a_lstE, a_testV, a_andT, a_orT, a_notT, a_andV, a_orV, a_notV, a_ifE, a_seqS, a_ifS, a_setS, a_dropS, a_retS, a_retVarS, a_asgS, a_callE, a_callF, a_appK, a_forS, a_compE, a_seqI, a_rng1, a_rng2, a_methL, a_mutL, a_setIxS, a_noPt, a_somePt, a_sliceE, a_chainE, a_nameG, a_nilG, a_consG, a_tupG, a_dnewE, a_dputS, a_dgetE, a_callP, a_zipI, a_enumI, revG, itemsT, inG, maxG, zipD, enumD, defG, runDef, env0, En.sv, getL, Opd.get, pureO, pureL, callD, argL, argO, lentS, wbE, wb1, wbAt, endF, backD, pB, pI, nL, numG, cmpG, subG, addG, mulG, negG, isNG, ixG, itemsD, itemsL, lenG, listG, tupleG, sumG, allG, int1G, int2G, intG, isiG, tyD, appendK, popK, clearK, insertK, reverseK, extendK, countG, atI, ixN, eqG, intsOf, blsOf, wipeE, restE, tkeyD, keysD, keyD, kit_ii, kit_ib, kit_bi, kit_bb, kit_ll, kit_tt, kit_lt, kit_tl, kit_ti, kit_li, kit_ni, kit_si, kit_nt, kit_it, kit_st, kit_bt, a_raiseS, a_callZ, a_callPZ, a_dixE, a_dinE, a_parS, a_isxE, pBd, envP, cd2, cm2, cm3, eqD_int, od, hq, hg]
theorem lone0_ok (od : p0 % 2 = 1) (hg : getT kv [.inl (p0 / 2), .inl 1] = none) : pBd (envP fl H r kv m0 m1 p0 p1 (some ⟨.p, .int 0⟩) x6) = .nx (envP fl H r kv (3 * m0) m1 (p0 + 1) p1 (some ⟨.p, .int 0⟩) (some ⟨.p, .int (p0 / 2)⟩)) := by
  generalize hq : p0 / 2 = q at *
  cases fl <;> simp [a_bindR, a_bindS, a_opd, a_constE, a_varE, a_keepE, a_op1, a_op2, a_nilA, a_consA, a_callB, a_tupE, a_lstE, a_testV, a_andT, a_orT, a_notT, a_andV, a_orV, a_notV, a_ifE, a_seqS, a_ifS, a_setS, a_dropS, a_retS, a_retVarS, a_asgS, a_callE, a_callF, a_appK, a_forS, a_compE, a_seqI, a_rng1, a_rng2, a_methL, a_mutL, a_setIxS, a_noPt, a_somePt, a_sliceE, a_chainE, a_nameG, a_nilG, a_consG, a_tupG, a_dnewE, a_dputS, a_dgetE, a_callP, a_zipI, a_enumI, revG, itemsT, inG, maxG, zipD, enumD, defG, runDef, env0, En.sv, getL, Opd.get, pureO, pureL, callD, argL, argO, lentS, wbE, wb1, wbAt, endF, backD, pB, pI, nL, numG, cmpG, subG, addG, mulG, negG, isNG, ixG, itemsD, itemsL, lenG, listG, tupleG, sumG, allG, int1G, int2G, intG, isiG, tyD, appendK, popK, clearK, insertK, reverseK, extendK, countG, atI, ixN, eqG, intsOf, blsOf, wipeE, restE, tkeyD, keysD, keyD, kit_ii, kit_ib, kit_bi, kit_bb, kit_ll, kit_tt, kit_lt, kit_tl, kit_ti, kit_li, kit_ni, kit_si, kit_nt, kit_it, kit_st, kit_bt, a_raiseS, a_callZ, a_callPZ, a_dixE, a_dinE, a_parS, a_isxE, pBd, envP, cd2, cm2, cm3, eqD_int, od, hq, hg]
theorem lone1_ok (od : p1 % 2 = 1) (hg : getT kv [.inl (p1 / 2), .inl 0] = none) : pBd (envP fl H r kv m0 m1 p0 p1 (some ⟨.p, .int 1⟩) x6) = .nx (envP fl H r kv m0 (3 * m1) p0 (p1 + 1) (some ⟨.p, .int 1⟩) (some ⟨.p, .int (p1 / 2)⟩)) := by
  generalize hq : p1 / 2 = q at *
  cases fl <;> simp [a_bindR, a_bindS, a_opd, a_constE, a_varE, a_keepE, a_op1, a_op2, a_nilA, a_consA, a_callB, a_tupE, a_lstE, a_testV, a_andT, a_orT, a_notT, a_andV, a_orV, a_notV, a_ifE, a_seqS, a_ifS, a_setS, a_dropS, a_retS, a_retVarS, a_asgS, a_callE, a_callF, a_appK, a_forS, a_compE, a_seqI, a_rng1, a_rng2, a_methL, a_mutL, a_setIxS, a_noPt, a_somePt, a_sliceE, a_chainE, a_nameG, a_nilG, a_consG, a_tupG, a_dnewE, a_dputS, a_dgetE, a_callP, a_zipI, a_enumI, revG, itemsT, inG, maxG, zipD, enumD, defG, runDef, env0, En.sv, getL, Opd.get, pureO, pureL, callD, argL, argO, lentS, wbE, wb1, wbAt, endF, backD, pB, pI, nL, numG, cmpG, subG, addG, mulG, negG, isNG, ixG, itemsD, itemsL, lenG, listG, tupleG, sumG, allG, int1G, int2G, intG, isiG, tyD, appendK, popK, clearK, insertK, reverseK, extendK, countG, atI, ixN, eqG, intsOf, blsOf, wipeE, restE, tkeyD, keysD, keyD, kit_ii, kit_ib, kit_bi, kit_bb, kit_ll, kit_tt, kit_lt, kit_tl, kit_ti, kit_li, kit_ni, kit_si, kit_nt, kit_it, kit_st, kit_bt, a_raiseS, a_callZ, a_callPZ, a_dixE, a_dinE, a_parS, a_isxE, pBd, envP, cd2, cm2, cm3, eqD_int, od, hq, hg]
end
/-- what stands in the dict -/
structure PIn (d0 d1 : Nat) (A B : List Et) (kv : List (List Key × D)) : Prop where
  k0 : ∀ j : Nat, getT kv [.inl (j : Int), .inl 0] = if 2 * j < d0 then (A[j]?).map (fun e => D.int e.m) else none
  k1 : ∀ j : Nat, getT kv [.inl (j : Int), .inl 1] = if 2 * j < d1 then (B[j]?).map (fun e => D.int e.m) else none
  ln : kv.length ≤ d0 + d1
theorem PIn.put0 {d0 d1 : Nat} {A B : List Et} {kv : List (List Key × D)} (S : PIn d0 d1 A B kv) (ev : d0 % 2 = 0) {e : Et} (ea : A[d0 / 2]? = some e) : PIn (d0 + 1) d1 A B (putT kv [.inl ((d0 / 2 : Nat) : Int), .inl 0] (.int e.m)) := by
  have nw : getT kv [.inl ((d0 / 2 : Nat) : Int), .inl 0] = none := by rw [S.k0, if_neg (by omega)]
  refine ⟨fun j => ?_, fun j => ?_, by rw [putT_new_len _ _ _ nw]; have := S.ln; omega⟩
  · rw [getT_put_new _ _ _ _ nw]
    by_cases h : j = d0 / 2
    · subst h
      rw [if_pos rfl, if_pos (by omega), ea]; rfl
    · rw [if_neg (by simp; omega), S.k0]
      by_cases h2 : 2 * j < d0
      · rw [if_pos h2, if_pos (by omega)]
      · rw [if_neg h2, if_neg (by omega)]
  · rw [getT_put_new _ _ _ _ nw, if_neg (by simp), S.k1]
theorem PIn.put1 {d0 d1 : Nat} {A B : List Et} {kv : List (List Key × D)} (S : PIn d0 d1 A B kv) (ev : d1 % 2 = 0) {e : Et} (ea : B[d1 / 2]? = some e) : PIn d0 (d1 + 1) A B (putT kv [.inl ((d1 / 2 : Nat) : Int), .inl 1] (.int e.m)) := by
  have nw : getT kv [.inl ((d1 / 2 : Nat) : Int), .inl 1] = none := by rw [S.k1, if_neg (by omega)]
  refine ⟨fun j => ?_, fun j => ?_, by rw [putT_new_len _ _ _ nw]; have := S.ln; omega⟩
  · rw [getT_put_new _ _ _ _ nw, if_neg (by simp), S.k0]
  · rw [getT_put_new _ _ _ _ nw]
    by_cases h : j = d1 / 2
    · subst h
      rw [if_pos rfl, if_pos (by omega), ea]; rfl
    · rw [if_neg (by simp; omega), S.k1]
      by_cases h2 : 2 * j < d1
      · rw [if_pos h2, if_pos (by omega)]
      · rw [if_neg h2, if_neg (by omega)]
theorem PIn.look0 {d0 d1 : Nat} {A B : List Et} {kv : List (List Key × D)} (S : PIn d0 d1 A B kv) (od : d0 % 2 = 1) (la : A.length = d0 / 2 + 1) (e' : Et) : PIn (d0 + 1) d1 (A ++ [e']) B kv := by
  refine ⟨fun j => ?_, S.k1, by have := S.ln; omega⟩
  rw [S.k0]
  by_cases h2 : 2 * j < d0
  · rw [if_pos h2, if_pos (by omega), List.getElem?_append_left (by omega)]
  · rw [if_neg h2, if_neg (by omega)]
theorem PIn.look1 {d0 d1 : Nat} {A B : List Et} {kv : List (List Key × D)} (S : PIn d0 d1 A B kv) (od : d1 % 2 = 1) (lb : B.length = d1 / 2 + 1) (e' : Et) : PIn d0 (d1 + 1) A (B ++ [e']) kv := by
  refine ⟨S.k0, fun j => ?_, by have := S.ln; omega⟩
  rw [S.k1]
  by_cases h2 : 2 * j < d1
  · rw [if_pos h2, if_pos (by omega), List.getElem?_append_left (by omega)]
  · rw [if_neg h2, if_neg (by omega)]
/-- one step -/
theorem pl_step {x y : Int} {R d0 d1 : Nat} {A B : List Et} {s : KB} {kv : List (List Key × D)} {e g : Et} {fl : Fl} {H : D} {r : Int} {x6 : Option SV} (S : Hist x y R d0 d1 A B s) (P : PIn d0 d1 A B kv) (ea : A[d0 / 2]? = some e) (eb : B[d1 / 2]? = some g) (hd : d0 + d1 < 1000) :
    (d0 < 2 * R → ∃ s' A' kv' e' x6', kbStep s 0 = some s' ∧ Hist x y R (d0 + 1) d1 A' B s' ∧ PIn (d0 + 1) d1 A' B kv' ∧ A'[(d0 + 1) / 2]? = some e' ∧
      pBd (envP fl H r kv e.m g.m d0 d1 (some ⟨.p, .int 0⟩) x6) = .nx (envP fl H r kv' e'.m g.m ((d0 + 1 : Nat) : Int) d1 (some ⟨.p, .int 0⟩) x6')) ∧
    (d1 < 2 * R → ∃ s' B' kv' g' x6', kbStep s 1 = some s' ∧ Hist x y R d0 (d1 + 1) A B' s' ∧ PIn d0 (d1 + 1) A B' kv' ∧ B'[(d1 + 1) / 2]? = some g' ∧
      pBd (envP fl H r kv e.m g.m d0 d1 (some ⟨.p, .int 1⟩) x6) = .nx (envP fl H r kv' e.m g'.m d0 ((d1 + 1 : Nat) : Int) (some ⟨.p, .int 1⟩) x6')) := by
  have ln := P.ln
  refine ⟨fun h0 => ?_, fun h1 => ?_⟩
  · have q0 : ((d0 : Nat) : Int) / 2 = ((d0 / 2 : Nat) : Int) := by omega
    have q1 : ((d0 + 1 : Nat) : Int) = (d0 : Int) + 1 := by omega
    by_cases ev : d0 % 2 = 0
    · obtain ⟨s1, e1, S1⟩ := hist_put0 S h0 ev
      refine ⟨s1, A, _, e, some ⟨.p, .int ((d0 : Int) / 2)⟩, e1, S1, P.put0 ev ea, by rw [show (d0 + 1) / 2 = d0 / 2 by omega]; exact ea, ?_⟩
      rw [q1, put0_ok (by omega) (by omega), q0]
    · obtain ⟨s1, e1, e', k1, S1, ea', hm⟩ := hist_look0m S h0 (by omega)
      rw [ea] at ea'; cases ea'
      refine ⟨s1, A ++ [e'], kv, e', some ⟨.p, .int ((d0 : Int) / 2)⟩, k1, S1, P.look0 (by omega) S.la e', by rw [show (d0 + 1) / 2 = A.length by rw [S.la]; omega]; simp, ?_⟩
      rw [q1]
      rcases hm with ⟨hb, q, eq, em⟩ | ⟨hb, em⟩
      · rw [see0_ok (c := q.m) (by omega) (by rw [q0, P.k1, if_pos hb, eq]; rfl), em]
      · rw [lone0_ok (by omega) (by rw [q0, P.k1, if_neg hb]), em]
  · have q0 : ((d1 : Nat) : Int) / 2 = ((d1 / 2 : Nat) : Int) := by omega
    have q1 : ((d1 + 1 : Nat) : Int) = (d1 : Int) + 1 := by omega
    by_cases ev : d1 % 2 = 0
    · obtain ⟨s1, e1, S1⟩ := hist_put1 S h1 ev
      refine ⟨s1, B, _, g, some ⟨.p, .int ((d1 : Int) / 2)⟩, e1, S1, P.put1 ev eb, by rw [show (d1 + 1) / 2 = d1 / 2 by omega]; exact eb, ?_⟩
      rw [q1, put1_ok (by omega) (by omega), q0]
    · obtain ⟨s1, e1, e', k1, S1, eb', hm⟩ := hist_look1m S h1 (by omega)
      rw [eb] at eb'; cases eb'
      refine ⟨s1, B ++ [e'], kv, e', some ⟨.p, .int ((d1 : Int) / 2)⟩, k1, S1, P.look1 (by omega) S.lb e', by rw [show (d1 + 1) / 2 = B.length by rw [S.lb]; omega]; simp, ?_⟩
      rw [q1]
      rcases hm with ⟨hb, q, eq, em⟩ | ⟨hb, em⟩
      · rw [see1_ok (c := q.m) (by omega) (by rw [q0, P.k0, if_pos hb, eq]; rfl), em]
      · rw [lone1_ok (by omega) (by rw [q0, P.k0, if_neg hb]), em]
theorem pl_loop {x y : Int} {R : Nat} {fl : Fl} {H : D} {r : Int} (src : Src) (hG : ∀ kv m0 m1 p0 p1 x5 x6, Grd src (envP fl H r kv m0 m1 p0 p1 x5 x6)) : ∀ (hs : List Int) {s : KB} {d0 d1 : Nat} {A B : List Et} {kv : List (List Key × D)} {e g : Et} {x5 x6 : Option SV}, Hist x y R d0 d1 A B s → PIn d0 d1 A B kv → A[d0 / 2]? = some e → B[d1 / 2]? = some g →
    Hands hs → d0 + hs.count 0 ≤ 2 * R → d1 + hs.count 1 ≤ 2 * R → 4 * R < 1000 → Pl x5 →
    ∃ s' A' B' kv' e' g' x5' x6', Pl x5' ∧ kbRun (hs.map D.int) s = some s' ∧ Hist x y R (d0 + hs.count 0) (d1 + hs.count 1) A' B' s' ∧ A'[(d0 + hs.count 0) / 2]? = some e' ∧ B'[(d1 + hs.count 1) / 2]? = some g' ∧
      loopS src (nameG 5) pBd (hs.map D.int) (envP fl H r kv e.m g.m d0 d1 x5 x6) = .nx (envP fl H r kv' e'.m g'.m ((d0 + hs.count 0 : Nat) : Int) ((d1 + hs.count 1 : Nat) : Int) x5' x6')
  | [], s, d0, d1, A, B, kv, e, g, x5, x6, S, P, ea, eb, _, _, _, _, hp => ⟨s, A, B, kv, e, g, x5, x6, hp, rfl, S, ea, eb, by
    rw [List.map_nil]
    unfold loopS
    rw [if_pos (hG _ _ _ _ _ _ _)]; rfl⟩
  | h :: hs, s, d0, d1, A, B, kv, e, g, x5, x6, S, P, ea, eb, hh, h0, h1, hR, hp => by
    obtain ⟨g0, g1⟩ := hh h List.mem_cons_self
    have ht : Hands hs := fun x hx => hh x (List.mem_cons_of_mem _ hx)
    have h01 : h = 0 ∨ h = 1 := by omega
    rcases h01 with rfl | rfl
    · have c0 : List.count (0 : Int) (0 :: hs) = hs.count 0 + 1 := by simp
      have c1 : List.count (1 : Int) (0 :: hs) = hs.count 1 := by simp
      rw [c0] at h0; rw [c1] at h1
      obtain ⟨s1, A1, kv1, e1, x61, k1, S1, P1, ea1, b1⟩ := (pl_step (fl := fl) (H := H) (r := r) (x6 := x6) S P ea eb (by omega)).1 (by omega)
      obtain ⟨s', A', B', kv', e', g', x5', x6', hp', k2, S2, ea2, eb2, lp⟩ := pl_loop src hG hs (x5 := some ⟨.p, .int 0⟩) (x6 := x61) S1 P1 ea1 eb ht (by omega) (by omega) hR (.inr ⟨_, rfl⟩)
      rw [show d0 + 1 + hs.count 0 = d0 + (hs.count 0 + 1) by omega] at S2 ea2 lp
      refine ⟨s', A', B', kv', e', g', x5', x6', hp', by simp [kbRun, k1, k2], by rw [c0, c1]; exact S2, by rw [c0]; exact ea2, by rw [c1]; exact eb2, ?_⟩
      rw [c0, c1, List.map_cons]
      unfold loopS
      rw [if_pos (hG _ _ _ _ _ _ _), show nameG 5 (.int 0) (envP fl H r kv e.m g.m d0 d1 x5 x6) = some (envP fl H r kv e.m g.m d0 d1 (some ⟨.p, .int 0⟩) x6) from rfl]
      dsimp only
      rw [b1]
      exact lp
    · have c0 : List.count (0 : Int) (1 :: hs) = hs.count 0 := by simp
      have c1 : List.count (1 : Int) (1 :: hs) = hs.count 1 + 1 := by simp
      rw [c0] at h0; rw [c1] at h1
      obtain ⟨s1, B1, kv1, g1', x61, k1, S1, P1, eb1, b1⟩ := (pl_step (fl := fl) (H := H) (r := r) (x6 := x6) S P ea eb (by omega)).2 (by omega)
      obtain ⟨s', A', B', kv', e', g', x5', x6', hp', k2, S2, ea2, eb2, lp⟩ := pl_loop src hG hs (x5 := some ⟨.p, .int 1⟩) (x6 := x61) S1 P1 ea eb1 ht (by omega) (by omega) hR (.inr ⟨_, rfl⟩)
      rw [show d1 + 1 + hs.count 1 = d1 + (hs.count 1 + 1) by omega] at S2 eb2 lp
      refine ⟨s', A', B', kv', e', g', x5', x6', hp', by simp [kbRun, k1, k2], by rw [c0, c1]; exact S2, by rw [c0]; exact ea2, by rw [c1]; exact eb2, ?_⟩
      rw [c0, c1, List.map_cons]
      unfold loopS
      rw [if_pos (hG _ _ _ _ _ _ _), show nameG 5 (.int 1) (envP fl H r kv e.m g.m d0 d1 x5 x6) = some (envP fl H r kv e.m g.m d0 d1 (some ⟨.p, .int 1⟩) x6) from rfl]
      dsimp only
      rw [b1]
      exact lp
def plD (b : Prop) [Decidable b] (m : Int) : D := if b then .int m else .non
theorem pRet_ok (fl : Fl) (H : D) (r : Int) (kv : List (List Key × D)) (m0 m1 p0 p1 : Int) (x5 x6 : Option SV) (h5 : Pl x5) : pRet (envP fl H r kv m0 m1 p0 p1 x5 x6) = .ret ⟨.o, .lst [plD (p0 = 2 * r) m0, plD (p1 = 2 * r) m1]⟩ (envP fl H r kv m0 m1 p0 p1 x5 x6) := by
  have lp : compLoop ⟨[.int 0, .int 1], none⟩ [5] (nameG 5) (fun e => .ok true e) (opd (op2 ixG (opd (lstE (consA (opd (constE .non)) (consA (opd (op2 ixG (varE 3) (varE 5))) nilA)))) (opd (callB intG (consA (opd (op2 (eqG false) (opd (op2 ixG (varE 4) (varE 5))) (opd (op2 mulG (opd (constE (.int 2))) (varE 1))))) nilA))))) [.int 0, .int 1] (envP fl H r kv m0 m1 p0 p1 none x6) [] =
      .ok [plD (p0 = 2 * r) m0, plD (p1 = 2 * r) m1] (envP fl H r kv m0 m1 p0 p1 none x6) := by
    rw [compLoop_each (f := fun d => match d with | .int 0 => plD (p0 = 2 * r) m0 | _ => plD (p1 = 2 * r) m1) grd_none _ (by simp) fun d hd => ?_]
    · rfl
    · have : d = .int 0 ∨ d = .int 1 := by simpa using hd
      rcases this with rfl | rfl
      · refine ⟨envP fl H r kv m0 m1 p0 p1 (some ⟨.p, .int 0⟩) x6, .val (plD (p0 = 2 * r) m0), envP fl H r kv m0 m1 p0 p1 (some ⟨.p, .int 0⟩) x6, _, rfl, ?_, rfl, rfl⟩
        by_cases e : p0 = 2 * r
        · simp [a_bindR, a_bindS, a_opd, a_constE, a_varE, a_keepE, a_op1, a_op2, a_nilA, a_consA, a_callB, a_tupE, a_lstE, a_testV, a_andT, a_orT, a_notT, a_andV, a_orV, a_notV, a_ifE, a_seqS, a_ifS, a_setS, a_dropS, a_retS, a_retVarS, a_asgS, a_callE, a_callF, a_appK, a_forS, a_compE, a_seqI, a_rng1, a_rng2, a_methL, a_mutL, a_setIxS, a_noPt, a_somePt, a_sliceE, a_chainE, a_nameG, a_nilG, a_consG, a_tupG, a_dnewE, a_dputS, a_dgetE, a_callP, a_zipI, a_enumI, revG, itemsT, inG, maxG, zipD, enumD, defG, runDef, env0, En.sv, getL, Opd.get, pureO, pureL, callD, argL, argO, lentS, wbE, wb1, wbAt, endF, backD, pB, pI, nL, numG, cmpG, subG, addG, mulG, negG, isNG, ixG, itemsD, itemsL, lenG, listG, tupleG, sumG, allG, int1G, int2G, intG, isiG, tyD, appendK, popK, clearK, insertK, reverseK, extendK, countG, atI, ixN, eqG, intsOf, blsOf, wipeE, restE, tkeyD, keysD, keyD, kit_ii, kit_ib, kit_bi, kit_bb, kit_ll, kit_tt, kit_lt, kit_tl, kit_ti, kit_li, kit_ni, kit_si, kit_nt, kit_it, kit_st, kit_bt, a_raiseS, a_callZ, a_callPZ, a_dixE, a_dinE, a_parS, a_isxE, envP, eqD_int, cm2, e, plD]
        · have e' : (p0 == 2 * r) = false := by simpa using e
          simp [a_bindR, a_bindS, a_opd, a_constE, a_varE, a_keepE, a_op1, a_op2, a_nilA, a_consA, a_callB, a_tupE, a_lstE, a_testV, a_andT, a_orT, a_notT, a_andV, a_orV, a_notV, a_ifE, a_seqS, a_ifS, a_setS, a_dropS, a_retS, a_retVarS, a_asgS, a_callE, a_callF, a_appK, a_forS, a_compE, a_seqI, a_rng1, a_rng2, a_methL, a_mutL, a_setIxS, a_noPt, a_somePt, a_sliceE, a_chainE, a_nameG, a_nilG, a_consG, a_tupG, a_dnewE, a_dputS, a_dgetE, a_callP, a_zipI, a_enumI, revG, itemsT, inG, maxG, zipD, enumD, defG, runDef, env0, En.sv, getL, Opd.get, pureO, pureL, callD, argL, argO, lentS, wbE, wb1, wbAt, endF, backD, pB, pI, nL, numG, cmpG, subG, addG, mulG, negG, isNG, ixG, itemsD, itemsL, lenG, listG, tupleG, sumG, allG, int1G, int2G, intG, isiG, tyD, appendK, popK, clearK, insertK, reverseK, extendK, countG, atI, ixN, eqG, intsOf, blsOf, wipeE, restE, tkeyD, keysD, keyD, kit_ii, kit_ib, kit_bi, kit_bb, kit_ll, kit_tt, kit_lt, kit_tl, kit_ti, kit_li, kit_ni, kit_si, kit_nt, kit_it, kit_st, kit_bt, a_raiseS, a_callZ, a_callPZ, a_dixE, a_dinE, a_parS, a_isxE, envP, eqD_int, cm2, e, e', plD]
      · refine ⟨envP fl H r kv m0 m1 p0 p1 (some ⟨.p, .int 1⟩) x6, .val (plD (p1 = 2 * r) m1), envP fl H r kv m0 m1 p0 p1 (some ⟨.p, .int 1⟩) x6, _, rfl, ?_, rfl, rfl⟩
        by_cases e : p1 = 2 * r
        · simp [a_bindR, a_bindS, a_opd, a_constE, a_varE, a_keepE, a_op1, a_op2, a_nilA, a_consA, a_callB, a_tupE, a_lstE, a_testV, a_andT, a_orT, a_notT, a_andV, a_orV, a_notV, a_ifE, a_seqS, a_ifS, a_setS, a_dropS, a_retS, a_retVarS, a_asgS, a_callE, a_callF, a_appK, a_forS, a_compE, a_seqI, a_rng1, a_rng2, a_methL, a_mutL, a_setIxS, a_noPt, a_somePt, a_sliceE, a_chainE, a_nameG, a_nilG, a_consG, a_tupG, a_dnewE, a_dputS, a_dgetE, a_callP, a_zipI, a_enumI, revG, itemsT, inG, maxG, zipD, enumD, defG, runDef, env0, En.sv, getL, Opd.get, pureO, pureL, callD, argL, argO, lentS, wbE, wb1, wbAt, endF, backD, pB, pI, nL, numG, cmpG, subG, addG, mulG, negG, isNG, ixG, itemsD, itemsL, lenG, listG, tupleG, sumG, allG, int1G, int2G, intG, isiG, tyD, appendK, popK, clearK, insertK, reverseK, extendK, countG, atI, ixN, eqG, intsOf, blsOf, wipeE, restE, tkeyD, keysD, keyD, kit_ii, kit_ib, kit_bi, kit_bb, kit_ll, kit_tt, kit_lt, kit_tl, kit_ti, kit_li, kit_ni, kit_si, kit_nt, kit_it, kit_st, kit_bt, a_raiseS, a_callZ, a_callPZ, a_dixE, a_dinE, a_parS, a_isxE, envP, eqD_int, cm2, e, plD]
        · have e' : (p1 == 2 * r) = false := by simpa using e
          simp [a_bindR, a_bindS, a_opd, a_constE, a_varE, a_keepE, a_op1, a_op2, a_nilA, a_consA, a_callB, a_tupE, a_lstE, a_testV, a_andT, a_orT, a_notT, a_andV, a_orV, a_notV, a_ifE, a_seqS, a_ifS, a_setS, a_dropS, a_retS, a_retVarS, a_asgS, a_callE, a_callF, a_appK, a_forS, a_compE, a_seqI, a_rng1, a_rng2, a_methL, a_mutL, a_setIxS, a_noPt, a_somePt, a_sliceE, a_chainE, a_nameG, a_nilG, a_consG, a_tupG, a_dnewE, a_dputS, a_dgetE, a_callP, a_zipI, a_enumI, revG, itemsT, inG, maxG, zipD, enumD, defG, runDef, env0, En.sv, getL, Opd.get, pureO, pureL, callD, argL, argO, lentS, wbE, wb1, wbAt, endF, backD, pB, pI, nL, numG, cmpG, subG, addG, mulG, negG, isNG, ixG, itemsD, itemsL, lenG, listG, tupleG, sumG, allG, int1G, int2G, intG, isiG, tyD, appendK, popK, clearK, insertK, reverseK, extendK, countG, atI, ixN, eqG, intsOf, blsOf, wipeE, restE, tkeyD, keysD, keyD, kit_ii, kit_ib, kit_bi, kit_bb, kit_ll, kit_tt, kit_lt, kit_tl, kit_ti, kit_li, kit_ni, kit_si, kit_nt, kit_it, kit_st, kit_bt, a_raiseS, a_callZ, a_callPZ, a_dixE, a_dinE, a_parS, a_isxE, envP, eqD_int, cm2, e, e', plD]
  unfold pRet
  rw [a_retS, bindS_ok (a := ⟨.o, .lst [plD (p0 = 2 * r) m0, plD (p1 = 2 * r) m1]⟩) (e' := envP fl H r kv m0 m1 p0 p1 x5 x6) ?_]
  rw [a_compE, bindR_ok (f := rng1 (consA (opd (constE (.int 2))) nilA)) (a := ⟨rangeD 0 2, none⟩) (e' := envP fl H r kv m0 m1 p0 p1 x5 x6) (by simp [a_bindR, a_bindS, a_opd, a_constE, a_varE, a_keepE, a_op1, a_op2, a_nilA, a_consA, a_callB, a_tupE, a_lstE, a_testV, a_andT, a_orT, a_notT, a_andV, a_orV, a_notV, a_ifE, a_seqS, a_ifS, a_setS, a_dropS, a_retS, a_retVarS, a_asgS, a_callE, a_callF, a_appK, a_forS, a_compE, a_seqI, a_rng1, a_rng2, a_methL, a_mutL, a_setIxS, a_noPt, a_somePt, a_sliceE, a_chainE, a_nameG, a_nilG, a_consG, a_tupG, a_dnewE, a_dputS, a_dgetE, a_callP, a_zipI, a_enumI, revG, itemsT, inG, maxG, zipD, enumD, defG, runDef, env0, En.sv, getL, Opd.get, pureO, pureL, callD, argL, argO, lentS, wbE, wb1, wbAt, endF, backD, pB, pI, nL, numG, cmpG, subG, addG, mulG, negG, isNG, ixG, itemsD, itemsL, lenG, listG, tupleG, sumG, allG, int1G, int2G, intG, isiG, tyD, appendK, popK, clearK, insertK, reverseK, extendK, countG, atI, ixN, eqG, intsOf, blsOf, wipeE, restE, tkeyD, keysD, keyD, kit_ii, kit_ib, kit_bi, kit_bb, kit_ll, kit_tt, kit_lt, kit_tl, kit_ti, kit_li, kit_ni, kit_si, kit_nt, kit_it, kit_st, kit_bt, a_raiseS, a_callZ, a_callPZ, a_dixE, a_dinE, a_parS, a_isxE])]
  dsimp only
  rw [show wipeE (envP fl H r kv m0 m1 p0 p1 x5 x6) [5] = envP fl H r kv m0 m1 p0 p1 none x6 from rfl, show rangeD 0 2 = [D.int 0, D.int 1] from rfl, lp]
  dsimp only
  rcases h5 with rfl | ⟨d, rfl⟩ <;> rfl
/-- _law_places -/
theorem places_ok (fl : Fl) (hf : fl ≠ .o) {x y r : Int} (hx : 0 ≤ x) (hy : 0 ≤ y) (r0 : 0 ≤ r) (r5 : r ≤ 5) {hs : List Int} (hh : Hands hs) (c0 : hs.count 0 ≤ 2 * r.toNat) (c1 : hs.count 1 ≤ 2 * r.toNat) :
    ∃ s A B e g, kbRun (hs.map D.int) (ini r.toNat x y) = some s ∧ Hist x y r.toNat (hs.count 0) (hs.count 1) A B s ∧ A[hs.count 0 / 2]? = some e ∧ B[hs.count 1 / 2]? = some g ∧
      G__law_places [⟨fl, .lst (hs.map D.int)⟩, ⟨.p, .int r⟩] = .ret ⟨.o, .lst [plD (hs.count 0 = 2 * r.toNat) e.m, plD (hs.count 1 = 2 * r.toNat) g.m]⟩ [.lst (hs.map D.int), .int r] := by
  have P0 : PIn 0 0 [⟨.int x, 0, false⟩] [⟨.int y, 1, false⟩] [] := ⟨fun j => rfl, fun j => rfl, by simp⟩
  have run := fun (src : Src) (hG : ∀ kv m0 m1 p0 p1 x5 x6, Grd src (envP fl (.lst (hs.map D.int)) r kv m0 m1 p0 p1 x5 x6)) => pl_loop (x := x) (y := y) (R := r.toNat) (fl := fl) (H := .lst (hs.map D.int)) (r := r) src hG hs (x5 := none) (x6 := none) (hist_init hx hy r.toNat) P0 rfl rfl hh (by omega) (by omega) (by omega) (.inl rfl)
  obtain ⟨src, hsrc, hG, hds⟩ : ∃ src : Src, seqI (varE 0) (envP fl (.lst (hs.map D.int)) r [] 0 1 0 0 none none) = .ok src (envP fl (.lst (hs.map D.int)) r [] 0 1 0 0 none none) ∧ (∀ kv m0 m1 p0 p1 x5 x6, Grd src (envP fl (.lst (hs.map D.int)) r kv m0 m1 p0 p1 x5 x6)) ∧ src.ds = hs.map D.int := by
    cases fl with
    | o => exact absurd rfl hf
    | p => exact ⟨⟨hs.map D.int, none⟩, by simp [a_bindR, a_bindS, a_opd, a_constE, a_varE, a_keepE, a_op1, a_op2, a_nilA, a_consA, a_callB, a_tupE, a_lstE, a_testV, a_andT, a_orT, a_notT, a_andV, a_orV, a_notV, a_ifE, a_seqS, a_ifS, a_setS, a_dropS, a_retS, a_retVarS, a_asgS, a_callE, a_callF, a_appK, a_forS, a_compE, a_seqI, a_rng1, a_rng2, a_methL, a_mutL, a_setIxS, a_noPt, a_somePt, a_sliceE, a_chainE, a_nameG, a_nilG, a_consG, a_tupG, a_dnewE, a_dputS, a_dgetE, a_callP, a_zipI, a_enumI, revG, itemsT, inG, maxG, zipD, enumD, defG, runDef, env0, En.sv, getL, Opd.get, pureO, pureL, callD, argL, argO, lentS, wbE, wb1, wbAt, endF, backD, pB, pI, nL, numG, cmpG, subG, addG, mulG, negG, isNG, ixG, itemsD, itemsL, lenG, listG, tupleG, sumG, allG, int1G, int2G, intG, isiG, tyD, appendK, popK, clearK, insertK, reverseK, extendK, countG, atI, ixN, eqG, intsOf, blsOf, wipeE, restE, tkeyD, keysD, keyD, kit_ii, kit_ib, kit_bi, kit_bb, kit_ll, kit_tt, kit_lt, kit_tl, kit_ti, kit_li, kit_ni, kit_si, kit_nt, kit_it, kit_st, kit_bt, a_raiseS, a_callZ, a_callPZ, a_dixE, a_dinE, a_parS, a_isxE, envP], fun _ _ _ _ _ _ _ => trivial, rfl⟩
    | b => exact ⟨⟨hs.map D.int, some 0⟩, by simp [a_bindR, a_bindS, a_opd, a_constE, a_varE, a_keepE, a_op1, a_op2, a_nilA, a_consA, a_callB, a_tupE, a_lstE, a_testV, a_andT, a_orT, a_notT, a_andV, a_orV, a_notV, a_ifE, a_seqS, a_ifS, a_setS, a_dropS, a_retS, a_retVarS, a_asgS, a_callE, a_callF, a_appK, a_forS, a_compE, a_seqI, a_rng1, a_rng2, a_methL, a_mutL, a_setIxS, a_noPt, a_somePt, a_sliceE, a_chainE, a_nameG, a_nilG, a_consG, a_tupG, a_dnewE, a_dputS, a_dgetE, a_callP, a_zipI, a_enumI, revG, itemsT, inG, maxG, zipD, enumD, defG, runDef, env0, En.sv, getL, Opd.get, pureO, pureL, callD, argL, argO, lentS, wbE, wb1, wbAt, endF, backD, pB, pI, nL, numG, cmpG, subG, addG, mulG, negG, isNG, ixG, itemsD, itemsL, lenG, listG, tupleG, sumG, allG, int1G, int2G, intG, isiG, tyD, appendK, popK, clearK, insertK, reverseK, extendK, countG, atI, ixN, eqG, intsOf, blsOf, wipeE, restE, tkeyD, keysD, keyD, kit_ii, kit_ib, kit_bi, kit_bb, kit_ll, kit_tt, kit_lt, kit_tl, kit_ti, kit_li, kit_ni, kit_si, kit_nt, kit_it, kit_st, kit_bt, a_raiseS, a_callZ, a_callPZ, a_dixE, a_dinE, a_parS, a_isxE, envP], fun _ _ _ _ _ _ _ => rfl, rfl⟩
  obtain ⟨s', A', B', kv', e', g', x5', x6', hp, k1, S1, ea, eb, lp⟩ := run src hG
  rw [Nat.zero_add] at S1 ea lp
  rw [Nat.zero_add] at S1 eb lp
  refine ⟨s', A', B', e', g', k1, S1, ea, eb, ?_⟩
  show endF _ (m__law_places (env0 7 _)) = _
  rw [places_eq, seqS_nx (e' := [some ⟨fl, .lst (hs.map D.int)⟩, some ⟨.p, .int r⟩, some ⟨.o, .dt []⟩, none, none, none, none]) (by cases fl <;> rfl),
    seqS_nx (e' := [some ⟨fl, .lst (hs.map D.int)⟩, some ⟨.p, .int r⟩, some ⟨.o, .dt []⟩, some ⟨.o, .lst [.int 0, .int 1]⟩, none, none, none]) (by cases fl <;> simp [a_bindR, a_bindS, a_opd, a_constE, a_varE, a_keepE, a_op1, a_op2, a_nilA, a_consA, a_callB, a_tupE, a_lstE, a_testV, a_andT, a_orT, a_notT, a_andV, a_orV, a_notV, a_ifE, a_seqS, a_ifS, a_setS, a_dropS, a_retS, a_retVarS, a_asgS, a_callE, a_callF, a_appK, a_forS, a_compE, a_seqI, a_rng1, a_rng2, a_methL, a_mutL, a_setIxS, a_noPt, a_somePt, a_sliceE, a_chainE, a_nameG, a_nilG, a_consG, a_tupG, a_dnewE, a_dputS, a_dgetE, a_callP, a_zipI, a_enumI, revG, itemsT, inG, maxG, zipD, enumD, defG, runDef, env0, En.sv, getL, Opd.get, pureO, pureL, callD, argL, argO, lentS, wbE, wb1, wbAt, endF, backD, pB, pI, nL, numG, cmpG, subG, addG, mulG, negG, isNG, ixG, itemsD, itemsL, lenG, listG, tupleG, sumG, allG, int1G, int2G, intG, isiG, tyD, appendK, popK, clearK, insertK, reverseK, extendK, countG, atI, ixN, eqG, intsOf, blsOf, wipeE, restE, tkeyD, keysD, keyD, kit_ii, kit_ib, kit_bi, kit_bb, kit_ll, kit_tt, kit_lt, kit_tl, kit_ti, kit_li, kit_ni, kit_si, kit_nt, kit_it, kit_st, kit_bt, a_raiseS, a_callZ, a_callPZ, a_dixE, a_dinE, a_parS, a_isxE]),
    seqS_nx (e' := envP fl (.lst (hs.map D.int)) r [] 0 1 0 0 none none) (by cases fl <;> simp [a_bindR, a_bindS, a_opd, a_constE, a_varE, a_keepE, a_op1, a_op2, a_nilA, a_consA, a_callB, a_tupE, a_lstE, a_testV, a_andT, a_orT, a_notT, a_andV, a_orV, a_notV, a_ifE, a_seqS, a_ifS, a_setS, a_dropS, a_retS, a_retVarS, a_asgS, a_callE, a_callF, a_appK, a_forS, a_compE, a_seqI, a_rng1, a_rng2, a_methL, a_mutL, a_setIxS, a_noPt, a_somePt, a_sliceE, a_chainE, a_nameG, a_nilG, a_consG, a_tupG, a_dnewE, a_dputS, a_dgetE, a_callP, a_zipI, a_enumI, revG, itemsT, inG, maxG, zipD, enumD, defG, runDef, env0, En.sv, getL, Opd.get, pureO, pureL, callD, argL, argO, lentS, wbE, wb1, wbAt, endF, backD, pB, pI, nL, numG, cmpG, subG, addG, mulG, negG, isNG, ixG, itemsD, itemsL, lenG, listG, tupleG, sumG, allG, int1G, int2G, intG, isiG, tyD, appendK, popK, clearK, insertK, reverseK, extendK, countG, atI, ixN, eqG, intsOf, blsOf, wipeE, restE, tkeyD, keysD, keyD, kit_ii, kit_ib, kit_bi, kit_bb, kit_ll, kit_tt, kit_lt, kit_tl, kit_ti, kit_li, kit_ni, kit_si, kit_nt, kit_it, kit_st, kit_bt, a_raiseS, a_callZ, a_callPZ, a_dixE, a_dinE, a_parS, a_isxE, envP]),
    seqS_nx (e' := envP fl (.lst (hs.map D.int)) r kv' e'.m g'.m (hs.count 0 : Nat) (hs.count 1 : Nat) x5' x6') (by rw [a_forS, bindS_ok hsrc, hds]; exact lp), pRet_ok _ _ _ _ _ _ _ _ _ _ hp]
  have q0 : plD (((hs.count 0 : Nat) : Int) = 2 * r) e'.m = plD (hs.count 0 = 2 * r.toNat) e'.m := by
    unfold plD
    by_cases h : hs.count 0 = 2 * r.toNat
    · rw [if_pos h, if_pos (by omega)]
    · rw [if_neg h, if_neg (by omega)]
  have q1 : plD (((hs.count 1 : Nat) : Int) = 2 * r) g'.m = plD (hs.count 1 = 2 * r.toNat) g'.m := by
    unfold plD
    by_cases h : hs.count 1 = 2 * r.toNat
    · rw [if_pos h, if_pos (by omega)]
    · rw [if_neg h, if_neg (by omega)]
  rw [q0, q1]
  cases fl with
  | o => exact absurd rfl hf
  | p => rfl
  | b => rfl
end My

namespace My
open PySem L2 DL
/-- what a refusal is -/
abbrev nok : Xc := ⟨.ref 5, []⟩
theorem spot_deep0 (a b : D) (h : Int) (n : Nat) : G_spot_of (n + 1) [⟨.p, .tup [a, b]⟩, ⟨.p, .int h⟩, ⟨.p, .int 0⟩] = .exc nok [.tup [a, b], .int h, .int 0] := by
  simp [a_bindR, a_bindS, a_opd, a_constE, a_varE, a_keepE, a_op1, a_op2, a_nilA, a_consA, a_callB, a_tupE, a_lstE, a_testV, a_andT, a_orT, a_notT, a_andV, a_orV, a_notV, a_ifE, a_seqS, a_ifS, a_setS, a_dropS, a_retS, a_retVarS, a_asgS, a_callE, a_callF, a_appK, a_forS, a_compE, a_seqI, a_rng1, a_rng2, a_methL, a_mutL, a_setIxS, a_noPt, a_somePt, a_sliceE, a_chainE, a_nameG, a_nilG, a_consG, a_tupG, a_dnewE, a_dputS, a_dgetE, a_callP, a_zipI, a_enumI, revG, itemsT, inG, maxG, zipD, enumD, defG, runDef, env0, En.sv, getL, Opd.get, pureO, pureL, callD, argL, argO, lentS, wbE, wb1, wbAt, endF, backD, pB, pI, nL, numG, cmpG, subG, addG, mulG, negG, isNG, ixG, itemsD, itemsL, lenG, listG, tupleG, sumG, allG, int1G, int2G, intG, isiG, tyD, appendK, popK, clearK, insertK, reverseK, extendK, countG, atI, ixN, eqG, intsOf, blsOf, wipeE, restE, tkeyD, keysD, keyD, kit_ii, kit_ib, kit_bi, kit_bb, kit_ll, kit_tt, kit_lt, kit_tl, kit_ti, kit_li, kit_ni, kit_si, kit_nt, kit_it, kit_st, kit_bt, a_raiseS, a_callZ, a_callPZ, a_dixE, a_dinE, a_parS, a_isxE, G_spot_of, m_spot_of, is_from_tup, eqD_int]
theorem spot_deep1 (a b : D) (h : Int) (n : Nat) (most : Int) (hm : most ≠ 0) (e : G_spot_of n [⟨.p, a⟩, ⟨.p, .int h⟩, ⟨.p, .int (most - 1)⟩] = .exc nok [a, .int h, .int (most - 1)]) :
    G_spot_of (n + 1) [⟨.p, .tup [a, b]⟩, ⟨.p, .int h⟩, ⟨.p, .int most⟩] = .exc nok [.tup [a, b], .int h, .int most] := by
  have hm' : (most == 0) = false := by simpa using hm
  simp [a_bindR, a_bindS, a_opd, a_constE, a_varE, a_keepE, a_op1, a_op2, a_nilA, a_consA, a_callB, a_tupE, a_lstE, a_testV, a_andT, a_orT, a_notT, a_andV, a_orV, a_notV, a_ifE, a_seqS, a_ifS, a_setS, a_dropS, a_retS, a_retVarS, a_asgS, a_callE, a_callF, a_appK, a_forS, a_compE, a_seqI, a_rng1, a_rng2, a_methL, a_mutL, a_setIxS, a_noPt, a_somePt, a_sliceE, a_chainE, a_nameG, a_nilG, a_consG, a_tupG, a_dnewE, a_dputS, a_dgetE, a_callP, a_zipI, a_enumI, revG, itemsT, inG, maxG, zipD, enumD, defG, runDef, env0, En.sv, getL, Opd.get, pureO, pureL, callD, argL, argO, lentS, wbE, wb1, wbAt, endF, backD, pB, pI, nL, numG, cmpG, subG, addG, mulG, negG, isNG, ixG, itemsD, itemsL, lenG, listG, tupleG, sumG, allG, int1G, int2G, intG, isiG, tyD, appendK, popK, clearK, insertK, reverseK, extendK, countG, atI, ixN, eqG, intsOf, blsOf, wipeE, restE, tkeyD, keysD, keyD, kit_ii, kit_ib, kit_bi, kit_bb, kit_ll, kit_tt, kit_lt, kit_tl, kit_ti, kit_li, kit_ni, kit_si, kit_nt, kit_it, kit_st, kit_bt, a_raiseS, a_callZ, a_callPZ, a_dixE, a_dinE, a_parS, a_isxE, G_spot_of, m_spot_of, is_from_tup, hm', e, eqD_int]
theorem spot_deep {x y : Int} {d : D} {h r : Nat} {m : Int} {f g : Bool} (S : Spt x y d h r m f g) : ∀ (n most : Nat), most < r → most ≤ n →
    G_spot_of (n + 1) [⟨.p, d⟩, ⟨.p, .int h⟩, ⟨.p, .int most⟩] = .exc nok [d, .int h, .int most] := by
  induction S with
  | base0 _ => intro n most h; omega
  | base1 _ => intro n most h; omega
  | @lone a h r m f g _ ih =>
    intro n most h1 h2
    match most, n, h1, h2 with
    | 0, n, _, _ => exact spot_deep0 a .non h n
    | k + 1, n + 1, h1, h2 =>
      have e := ih n k (by omega) (by omega)
      rw [show ((k : Nat) : Int) = ((k + 1 : Nat) : Int) - 1 by omega] at e
      exact spot_deep1 a .non h (n + 1) _ (by omega) e
  | @see a b h r m m' f g f' g' hh _ _ _ ih _ =>
    intro n most h1 h2
    match most, n, h1, h2 with
    | 0, n, _, _ => exact spot_deep0 a b h n
    | k + 1, n + 1, h1, h2 =>
      have e := ih n k (by omega) (by omega)
      rw [show ((k : Nat) : Int) = ((k + 1 : Nat) : Int) - 1 by omega] at e
      exact spot_deep1 a b h (n + 1) _ (by omega) e
theorem spot_far (a b : D) (hb : (∃ i, b = .int i) ∨ ∃ l, b = .tup l) (h : Int) (n : Nat) (most : Int) (hm : most ≠ 0) (r m m' : Int) (u v : D) (hn : ¬ (m' - m = 1 ∨ m - m' = 1))
    (e : G_spot_of n [⟨.p, a⟩, ⟨.p, .int h⟩, ⟨.p, .int (most - 1)⟩] = .ret ⟨.p, .tup [.int r, .int m, u]⟩ [a, .int h, .int (most - 1)])
    (e' : G_spot_of n [⟨.p, b⟩, ⟨.p, .int (1 - h)⟩, ⟨.p, .int (most - 1)⟩] = .ret ⟨.p, .tup [.int r, .int m', v]⟩ [b, .int (1 - h), .int (most - 1)]) :
    G_spot_of (n + 1) [⟨.p, .tup [a, b]⟩, ⟨.p, .int h⟩, ⟨.p, .int most⟩] = .exc nok [.tup [a, b], .int h, .int most] := by
  have hm' : (most == 0) = false := by simpa using hm
  have z : ((if m' - m < 0 then -(m' - m) else m' - m) == (1 : Int)) = false := by
    simp only [beq_eq_false_iff_ne]
    split <;> omega
  rcases hb with ⟨i, rfl⟩ | ⟨l, rfl⟩ <;> simp [a_bindR, a_bindS, a_opd, a_constE, a_varE, a_keepE, a_op1, a_op2, a_nilA, a_consA, a_callB, a_tupE, a_lstE, a_testV, a_andT, a_orT, a_notT, a_andV, a_orV, a_notV, a_ifE, a_seqS, a_ifS, a_setS, a_dropS, a_retS, a_retVarS, a_asgS, a_callE, a_callF, a_appK, a_forS, a_compE, a_seqI, a_rng1, a_rng2, a_methL, a_mutL, a_setIxS, a_noPt, a_somePt, a_sliceE, a_chainE, a_nameG, a_nilG, a_consG, a_tupG, a_dnewE, a_dputS, a_dgetE, a_callP, a_zipI, a_enumI, revG, itemsT, inG, maxG, zipD, enumD, defG, runDef, env0, En.sv, getL, Opd.get, pureO, pureL, callD, argL, argO, lentS, wbE, wb1, wbAt, endF, backD, pB, pI, nL, numG, cmpG, subG, addG, mulG, negG, isNG, ixG, itemsD, itemsL, lenG, listG, tupleG, sumG, allG, int1G, int2G, intG, isiG, tyD, appendK, popK, clearK, insertK, reverseK, extendK, countG, atI, ixN, eqG, intsOf, blsOf, wipeE, restE, tkeyD, keysD, keyD, kit_ii, kit_ib, kit_bi, kit_bb, kit_ll, kit_tt, kit_lt, kit_tl, kit_ti, kit_li, kit_ni, kit_si, kit_nt, kit_it, kit_st, kit_bt, a_raiseS, a_callZ, a_callPZ, a_dixE, a_dinE, a_parS, a_isxE, G_spot_of, m_spot_of, is_from_tup, hm', e, e', eqD_int, cm3, cm2, z]
theorem spot_unfit (a b : D) (hb : (∃ i, b = .int i) ∨ ∃ l, b = .tup l) (h : Int) (n : Nat) (most : Int) (hm : most ≠ 0) (r m m' : Int) (u v : D) (hn : m' - m = 1 ∨ m - m' = 1)
    (hf : G_fit [⟨.p, u⟩, ⟨.p, v⟩] = .ret ⟨.p, .bl false⟩ [u, v])
    (e : G_spot_of n [⟨.p, a⟩, ⟨.p, .int h⟩, ⟨.p, .int (most - 1)⟩] = .ret ⟨.p, .tup [.int r, .int m, u]⟩ [a, .int h, .int (most - 1)])
    (e' : G_spot_of n [⟨.p, b⟩, ⟨.p, .int (1 - h)⟩, ⟨.p, .int (most - 1)⟩] = .ret ⟨.p, .tup [.int r, .int m', v]⟩ [b, .int (1 - h), .int (most - 1)]) :
    G_spot_of (n + 1) [⟨.p, .tup [a, b]⟩, ⟨.p, .int h⟩, ⟨.p, .int most⟩] = .exc nok [.tup [a, b], .int h, .int most] := by
  have hm' : (most == 0) = false := by simpa using hm
  have z : ((if m' - m < 0 then -(m' - m) else m' - m) == (1 : Int)) = true := by
    simp only [beq_iff_eq]
    split <;> omega
  rcases hb with ⟨i, rfl⟩ | ⟨l, rfl⟩ <;> simp [a_bindR, a_bindS, a_opd, a_constE, a_varE, a_keepE, a_op1, a_op2, a_nilA, a_consA, a_callB, a_tupE, a_lstE, a_testV, a_andT, a_orT, a_notT, a_andV, a_orV, a_notV, a_ifE, a_seqS, a_ifS, a_setS, a_dropS, a_retS, a_retVarS, a_asgS, a_callE, a_callF, a_appK, a_forS, a_compE, a_seqI, a_rng1, a_rng2, a_methL, a_mutL, a_setIxS, a_noPt, a_somePt, a_sliceE, a_chainE, a_nameG, a_nilG, a_consG, a_tupG, a_dnewE, a_dputS, a_dgetE, a_callP, a_zipI, a_enumI, revG, itemsT, inG, maxG, zipD, enumD, defG, runDef, env0, En.sv, getL, Opd.get, pureO, pureL, callD, argL, argO, lentS, wbE, wb1, wbAt, endF, backD, pB, pI, nL, numG, cmpG, subG, addG, mulG, negG, isNG, ixG, itemsD, itemsL, lenG, listG, tupleG, sumG, allG, int1G, int2G, intG, isiG, tyD, appendK, popK, clearK, insertK, reverseK, extendK, countG, atI, ixN, eqG, intsOf, blsOf, wipeE, restE, tkeyD, keysD, keyD, kit_ii, kit_ib, kit_bi, kit_bb, kit_ll, kit_tt, kit_lt, kit_tl, kit_ti, kit_li, kit_ni, kit_si, kit_nt, kit_it, kit_st, kit_bt, a_raiseS, a_callZ, a_callPZ, a_dixE, a_dinE, a_parS, a_isxE, G_spot_of, m_spot_of, is_from_tup, hm', e, e', eqD_int, cm3, cm2, z, hf]
theorem fit_no (x y : Int) (hne : x ≠ y) : G_fit [⟨.p, .tup [.int x, .int y]⟩, ⟨.p, .tup [.int y, .int x]⟩] = .ret ⟨.p, .bl false⟩ [.tup [.int x, .int y], .tup [.int y, .int x]] := by
  have n1 : (x == y) = false := by simpa using hne
  have n2 : (y == x) = false := by simpa using fun z => hne z.symm
  have c : ∀ x0 x1 : Option SV, compLoop ⟨[.tup [.int x, .int y], .tup [.int y, .int x]], none⟩ [2, 3] (tupG 2 (consG (nameG 2) (consG (nameG 3) nilG))) (fun e => .ok true e) (opd (orV (op2 (isNG false) (varE 2) (opd (constE .non))) (orV (op2 (isNG false) (varE 3) (opd (constE .non))) (op2 (eqG false) (varE 2) (varE 3))))) [.tup [.int x, .int y], .tup [.int y, .int x]] [x0, x1, none, none] [] =
      .ok [.bl false, .bl false] [x0, x1, none, none] := by
    intro x0 x1
    rw [compLoop_each (f := fun _ => .bl false) grd_none _ (by simp) fun d hd => ?_]
    · rfl
    · have : ∃ p q : Int, (p == q) = false ∧ d = .tup [.int p, .int q] := by
        have : d = .tup [.int x, .int y] ∨ d = .tup [.int y, .int x] := by simpa using hd
        rcases this with rfl | rfl
        · exact ⟨_, _, n1, rfl⟩
        · exact ⟨_, _, n2, rfl⟩
      obtain ⟨p, q, hpq, rfl⟩ := this
      refine ⟨[x0, x1, some ⟨.p, .int p⟩, some ⟨.p, .int q⟩], .val (.bl false), [x0, x1, some ⟨.p, .int p⟩, some ⟨.p, .int q⟩], _, rfl, ?_, rfl, rfl⟩
      simp [a_bindR, a_bindS, a_opd, a_constE, a_varE, a_keepE, a_op1, a_op2, a_nilA, a_consA, a_callB, a_tupE, a_lstE, a_testV, a_andT, a_orT, a_notT, a_andV, a_orV, a_notV, a_ifE, a_seqS, a_ifS, a_setS, a_dropS, a_retS, a_retVarS, a_asgS, a_callE, a_callF, a_appK, a_forS, a_compE, a_seqI, a_rng1, a_rng2, a_methL, a_mutL, a_setIxS, a_noPt, a_somePt, a_sliceE, a_chainE, a_nameG, a_nilG, a_consG, a_tupG, a_dnewE, a_dputS, a_dgetE, a_callP, a_zipI, a_enumI, revG, itemsT, inG, maxG, zipD, enumD, defG, runDef, env0, En.sv, getL, Opd.get, pureO, pureL, callD, argL, argO, lentS, wbE, wb1, wbAt, endF, backD, pB, pI, nL, numG, cmpG, subG, addG, mulG, negG, isNG, ixG, itemsD, itemsL, lenG, listG, tupleG, sumG, allG, int1G, int2G, intG, isiG, tyD, appendK, popK, clearK, insertK, reverseK, extendK, countG, atI, ixN, eqG, intsOf, blsOf, wipeE, restE, tkeyD, keysD, keyD, kit_ii, kit_ib, kit_bi, kit_bb, kit_ll, kit_tt, kit_lt, kit_tl, kit_ti, kit_li, kit_ni, kit_si, kit_nt, kit_it, kit_st, kit_bt, a_raiseS, a_callZ, a_callPZ, a_dixE, a_dinE, a_parS, a_isxE, eqD_int, hpq]
  simp [a_bindR, a_bindS, a_opd, a_constE, a_varE, a_keepE, a_op1, a_op2, a_nilA, a_consA, a_callB, a_tupE, a_lstE, a_testV, a_andT, a_orT, a_notT, a_andV, a_orV, a_notV, a_ifE, a_seqS, a_ifS, a_setS, a_dropS, a_retS, a_retVarS, a_asgS, a_callE, a_callF, a_appK, a_forS, a_compE, a_seqI, a_rng1, a_rng2, a_methL, a_mutL, a_setIxS, a_noPt, a_somePt, a_sliceE, a_chainE, a_nameG, a_nilG, a_consG, a_tupG, a_dnewE, a_dputS, a_dgetE, a_callP, a_zipI, a_enumI, revG, itemsT, inG, maxG, zipD, enumD, defG, runDef, env0, En.sv, getL, Opd.get, pureO, pureL, callD, argL, argO, lentS, wbE, wb1, wbAt, endF, backD, pB, pI, nL, numG, cmpG, subG, addG, mulG, negG, isNG, ixG, itemsD, itemsL, lenG, listG, tupleG, sumG, allG, int1G, int2G, intG, isiG, tyD, appendK, popK, clearK, insertK, reverseK, extendK, countG, atI, ixN, eqG, intsOf, blsOf, wipeE, restE, tkeyD, keysD, keyD, kit_ii, kit_ib, kit_bi, kit_bb, kit_ll, kit_tt, kit_lt, kit_tl, kit_ti, kit_li, kit_ni, kit_si, kit_nt, kit_it, kit_st, kit_bt, a_raiseS, a_callZ, a_callPZ, a_dixE, a_dinE, a_parS, a_isxE, G_fit, m_fit, c]
theorem place_exc (d : D) (h : Nat) (hh : h ≤ 1) (e : G_spot_of 6 [⟨.p, d⟩, ⟨.p, .int h⟩, ⟨.p, .int 5⟩] = .exc nok [d, .int h, .int 5]) : G_place [⟨.p, d⟩, ⟨.p, .int h⟩] = .exc nok [d, .int h] := by
  have s := sure_hand_ok h hh
  simp [a_bindR, a_bindS, a_opd, a_constE, a_varE, a_keepE, a_op1, a_op2, a_nilA, a_consA, a_callB, a_tupE, a_lstE, a_testV, a_andT, a_orT, a_notT, a_andV, a_orV, a_notV, a_ifE, a_seqS, a_ifS, a_setS, a_dropS, a_retS, a_retVarS, a_asgS, a_callE, a_callF, a_appK, a_forS, a_compE, a_seqI, a_rng1, a_rng2, a_methL, a_mutL, a_setIxS, a_noPt, a_somePt, a_sliceE, a_chainE, a_nameG, a_nilG, a_consG, a_tupG, a_dnewE, a_dputS, a_dgetE, a_callP, a_zipI, a_enumI, revG, itemsT, inG, maxG, zipD, enumD, defG, runDef, env0, En.sv, getL, Opd.get, pureO, pureL, callD, argL, argO, lentS, wbE, wb1, wbAt, endF, backD, pB, pI, nL, numG, cmpG, subG, addG, mulG, negG, isNG, ixG, itemsD, itemsL, lenG, listG, tupleG, sumG, allG, int1G, int2G, intG, isiG, tyD, appendK, popK, clearK, insertK, reverseK, extendK, countG, atI, ixN, eqG, intsOf, blsOf, wipeE, restE, tkeyD, keysD, keyD, kit_ii, kit_ib, kit_bi, kit_bb, kit_ll, kit_tt, kit_lt, kit_tl, kit_ti, kit_li, kit_ni, kit_si, kit_nt, kit_it, kit_st, kit_bt, a_raiseS, a_callZ, a_callPZ, a_dixE, a_dinE, a_parS, a_isxE, G_place, m_place, s, e]
theorem told_ok (d : D) (h m : Int) (e : G_place [⟨.p, d⟩, ⟨.p, .int h⟩] = .ret ⟨.p, .int m⟩ [d, .int h]) : G__law_told [⟨.p, d⟩, ⟨.p, .int h⟩] = .ret ⟨.p, .int m⟩ [d, .int h] := by
  have st : G__law_told [⟨.p, d⟩, ⟨.p, .int h⟩] = endF [⟨.p, d⟩, ⟨.p, .int h⟩] (m__law_told [some ⟨.p, d⟩, some ⟨.p, .int h⟩, none]) := by
    unfold G__law_told defG runDef
    rw [if_pos (by rfl)]; rfl
  rw [st]
  unfold m__law_told
  rw [tryE_ok (sv := ⟨.p, .int m⟩) (e' := [some ⟨.p, d⟩, some ⟨.p, .int h⟩, none]) (by simp [a_bindR, a_bindS, a_opd, a_constE, a_varE, a_keepE, a_op1, a_op2, a_nilA, a_consA, a_callB, a_tupE, a_lstE, a_testV, a_andT, a_orT, a_notT, a_andV, a_orV, a_notV, a_ifE, a_seqS, a_ifS, a_setS, a_dropS, a_retS, a_retVarS, a_asgS, a_callE, a_callF, a_appK, a_forS, a_compE, a_seqI, a_rng1, a_rng2, a_methL, a_mutL, a_setIxS, a_noPt, a_somePt, a_sliceE, a_chainE, a_nameG, a_nilG, a_consG, a_tupG, a_dnewE, a_dputS, a_dgetE, a_callP, a_zipI, a_enumI, revG, itemsT, inG, maxG, zipD, enumD, defG, runDef, env0, En.sv, getL, Opd.get, pureO, pureL, callD, argL, argO, lentS, wbE, wb1, wbAt, endF, backD, pB, pI, nL, numG, cmpG, subG, addG, mulG, negG, isNG, ixG, itemsD, itemsL, lenG, listG, tupleG, sumG, allG, int1G, int2G, intG, isiG, tyD, appendK, popK, clearK, insertK, reverseK, extendK, countG, atI, ixN, eqG, intsOf, blsOf, wipeE, restE, tkeyD, keysD, keyD, kit_ii, kit_ib, kit_bi, kit_bb, kit_ll, kit_tt, kit_lt, kit_tl, kit_ti, kit_li, kit_ni, kit_si, kit_nt, kit_it, kit_st, kit_bt, a_raiseS, a_callZ, a_callPZ, a_dixE, a_dinE, a_parS, a_isxE, e])]
  rfl
theorem isub1 : isub (.ref 5) (.type "ValueError") = some true := rfl
theorem isub2 : isub (.ref 5) (.ref 1) = some false := rfl
theorem told_exc (d : D) (h : Int) (e : G_place [⟨.p, d⟩, ⟨.p, .int h⟩] = .exc nok [d, .int h]) : G__law_told [⟨.p, d⟩, ⟨.p, .int h⟩] = .ret ⟨.p, .str (Str.ofString "known")⟩ [d, .int h] := by
  have st : G__law_told [⟨.p, d⟩, ⟨.p, .int h⟩] = endF [⟨.p, d⟩, ⟨.p, .int h⟩] (m__law_told [some ⟨.p, d⟩, some ⟨.p, .int h⟩, none]) := by
    unfold G__law_told defG runDef
    rw [if_pos (by rfl)]; rfl
  rw [st]
  unfold m__law_told
  rw [tryE_exc (c := .ref 5) (e' := [some ⟨.p, d⟩, some ⟨.p, .int h⟩, none]) (r := .ret ⟨.p, .str (Str.ofString "known")⟩ [some ⟨.p, d⟩, some ⟨.p, .int h⟩, none]) (by simp [a_bindR, a_bindS, a_opd, a_constE, a_varE, a_keepE, a_op1, a_op2, a_nilA, a_consA, a_callB, a_tupE, a_lstE, a_testV, a_andT, a_orT, a_notT, a_andV, a_orV, a_notV, a_ifE, a_seqS, a_ifS, a_setS, a_dropS, a_retS, a_retVarS, a_asgS, a_callE, a_callF, a_appK, a_forS, a_compE, a_seqI, a_rng1, a_rng2, a_methL, a_mutL, a_setIxS, a_noPt, a_somePt, a_sliceE, a_chainE, a_nameG, a_nilG, a_consG, a_tupG, a_dnewE, a_dputS, a_dgetE, a_callP, a_zipI, a_enumI, revG, itemsT, inG, maxG, zipD, enumD, defG, runDef, env0, En.sv, getL, Opd.get, pureO, pureL, callD, argL, argO, lentS, wbE, wb1, wbAt, endF, backD, pB, pI, nL, numG, cmpG, subG, addG, mulG, negG, isNG, ixG, itemsD, itemsL, lenG, listG, tupleG, sumG, allG, int1G, int2G, intG, isiG, tyD, appendK, popK, clearK, insertK, reverseK, extendK, countG, atI, ixN, eqG, intsOf, blsOf, wipeE, restE, tkeyD, keysD, keyD, kit_ii, kit_ib, kit_bi, kit_bb, kit_ll, kit_tt, kit_lt, kit_tl, kit_ti, kit_li, kit_ni, kit_si, kit_nt, kit_it, kit_st, kit_bt, a_raiseS, a_callZ, a_callPZ, a_dixE, a_dinE, a_parS, a_isxE, e]) rfl (by simp) (fun a => by simp [a_bindR, a_bindS, a_opd, a_constE, a_varE, a_keepE, a_op1, a_op2, a_nilA, a_consA, a_callB, a_tupE, a_lstE, a_testV, a_andT, a_orT, a_notT, a_andV, a_orV, a_notV, a_ifE, a_seqS, a_ifS, a_setS, a_dropS, a_retS, a_retVarS, a_asgS, a_callE, a_callF, a_appK, a_forS, a_compE, a_seqI, a_rng1, a_rng2, a_methL, a_mutL, a_setIxS, a_noPt, a_somePt, a_sliceE, a_chainE, a_nameG, a_nilG, a_consG, a_tupG, a_dnewE, a_dputS, a_dgetE, a_callP, a_zipI, a_enumI, revG, itemsT, inG, maxG, zipD, enumD, defG, runDef, env0, En.sv, getL, Opd.get, pureO, pureL, callD, argL, argO, lentS, wbE, wb1, wbAt, endF, backD, pB, pI, nL, numG, cmpG, subG, addG, mulG, negG, isNG, ixG, itemsD, itemsL, lenG, listG, tupleG, sumG, allG, int1G, int2G, intG, isiG, tyD, appendK, popK, clearK, insertK, reverseK, extendK, countG, atI, ixN, eqG, intsOf, blsOf, wipeE, restE, tkeyD, keysD, keyD, kit_ii, kit_ib, kit_bi, kit_bb, kit_ll, kit_tt, kit_lt, kit_tl, kit_ti, kit_li, kit_ni, kit_si, kit_nt, kit_it, kit_st, kit_bt, a_raiseS, a_callZ, a_callPZ, a_dixE, a_dinE, a_parS, a_isxE, wipeR, isub1, isub2])]
  rfl
end My

namespace My
open PySem L2 DL
/-- what a hand knows, and its place, or nothing of one that stopped -/
def KP (x y : Int) (R h : Nat) (k p : D) (b : Prop) : Prop := (b ∧ ∃ (M : Int) (f g : Bool), Spt x y k h R M f g ∧ p = .int M) ∨ (¬ b ∧ k = .non ∧ p = .non)
theorem kp_ok (fl : Fl) (hf : fl ≠ .o) {x y r : Int} (hx : 0 ≤ x) (hy : 0 ≤ y) (r0 : 0 ≤ r) (r5 : r ≤ 5) {hs : List Int} (hl : hs.length ≤ 1000) (hh : Hands hs) (c0 : (hs.count 0 : Int) ≤ 2 * r) (c1 : (hs.count 1 : Int) ≤ 2 * r) :
    ∃ k0 k1 p0 p1, G_known [⟨.p, .tup [.int x, .int y]⟩, ⟨fl, .lst (hs.map D.int)⟩, ⟨.p, .int r⟩] = .ret ⟨.o, .lst [k0, k1]⟩ [.tup [.int x, .int y], .lst (hs.map D.int), .int r] ∧
      G__law_places [⟨fl, .lst (hs.map D.int)⟩, ⟨.p, .int r⟩] = .ret ⟨.o, .lst [p0, p1]⟩ [.lst (hs.map D.int), .int r] ∧
      KP x y r.toNat 0 k0 p0 (hs.count 0 = 2 * r.toNat) ∧ KP x y r.toNat 1 k1 p1 (hs.count 1 = 2 * r.toNat) ∧ (∀ M0 M1, p0 = .int M0 → p1 = .int M1 → M1 - M0 = 1 ∨ M0 - M1 = 1) := by
  obtain ⟨s, A, B, e, g, k1, S, ea, eb, pl⟩ := places_ok fl hf hx hy r0 r5 hh (by omega) (by omega)
  have kn := known_ok fl hf x y r hx hy hs hl hh r0 r5 c0 c1 k1
  obtain ⟨e2, g2, ea2, eb2, ek⟩ := S.ks
  rw [ea] at ea2; cases ea2
  rw [eb] at eb2; cases eb2
  refine ⟨_, _, _, _, kn, pl, ?_, ?_, ?_⟩
  · by_cases h : hs.count 0 = 2 * r.toNat
    · refine .inl ⟨h, e.m, true, e.f, ?_, by unfold plD; rw [if_pos h]⟩
      have := S.ga _ _ ea
      rw [h, show 2 * r.toNat / 2 = r.toNat by omega] at this
      have ko : kbOut r.toNat s 0 = e.d := by unfold kbOut; rw [S.ds, ek, h]; simp
      rw [ko]; exact this
    · refine .inr ⟨h, out_lt S.ds (by omega) (by simpa using h), by unfold plD; rw [if_neg h]⟩
  · by_cases h : hs.count 1 = 2 * r.toNat
    · refine .inl ⟨h, g.m, g.f, true, ?_, by unfold plD; rw [if_pos h]⟩
      have := S.gb _ _ eb
      rw [h, show 2 * r.toNat / 2 = r.toNat by omega] at this
      have ko : kbOut r.toNat s 1 = g.d := by unfold kbOut; rw [S.ds, ek, h]; simp
      rw [ko]; exact this
    · refine .inr ⟨h, out_lt S.ds (by omega) (by simpa using h), by unfold plD; rw [if_neg h]⟩
  · intro M0 M1 h0 h1
    unfold plD at h0 h1
    split at h0
    · rename_i q0
      split at h1
      · rename_i q1
        cases h0; cases h1
        rw [q0] at ea; rw [q1] at eb
        exact S.nb _ _ _ ea eb
      · cases h1
    · cases h0
section
variable {x y : Int} {d d' : D} {h R : Nat} {m m' : Int} {f g f' g' : Bool}
theorem told_pair (S : Spt x y d h R m f g) (S' : Spt x y d' (1 - h) R m' f' g') (hR : R ≤ 5) : G__law_told [⟨.p, .tup [d, d']⟩, ⟨.p, .int h⟩] = .ret ⟨.p, if (m' - m = 1 ∨ m - m' = 1) ∧ R < 5 then .int (3 * m + 2 * (m' - m)) else .str (Str.ofString "known")⟩ [.tup [d, d'], .int h] := by
  have hh := S.hand
  by_cases h5 : R < 5
  · by_cases hn : m' - m = 1 ∨ m - m' = 1
    · rw [if_pos ⟨hn, h5⟩]
      exact told_ok _ _ _ (place_ok (Spt.see hh S S' hn) (by omega))
    · rw [if_neg (fun z => hn z.1)]
      refine told_exc _ _ (place_exc _ _ hh ?_)
      have e := spot_ok S 4 4 (by omega) (by omega)
      have e' := spot_ok S' 4 4 (by omega) (by omega)
      rw [show ((1 - h : Nat) : Int) = 1 - (h : Int) by omega] at e'
      exact spot_far d d' (spt_shape S') h 5 5 (by omega) R m m' _ _ hn e e'
  · rw [if_neg (fun z => h5 z.2)]
    refine told_exc _ _ (place_exc _ _ hh ?_)
    have e := spot_deep S 4 4 (by omega) (by omega)
    exact spot_deep1 d d' h 5 5 (by omega) e
theorem told_lone (S : Spt x y d h R m f g) (hR : R ≤ 5) : G__law_told [⟨.p, .tup [d, .non]⟩, ⟨.p, .int h⟩] = .ret ⟨.p, if R < 5 then .int (3 * m) else .str (Str.ofString "known")⟩ [.tup [d, .non], .int h] := by
  have hh := S.hand
  by_cases h5 : R < 5
  · rw [if_pos h5]
    exact told_ok _ _ _ (place_ok (Spt.lone S) (by omega))
  · rw [if_neg h5]
    refine told_exc _ _ (place_exc _ _ hh ?_)
    have e := spot_deep S 4 4 (by omega) (by omega)
    exact spot_deep1 d .non h 5 5 (by omega) e
theorem told_same (S : Spt x y d h R m f g) (hR : R ≤ 5) (h1 : 1 ≤ R) (hne : x ≠ y) : G__law_told [⟨.p, .tup [d, d]⟩, ⟨.p, .int h⟩] = .ret ⟨.p, .str (Str.ofString "known")⟩ [.tup [d, d], .int h] := by
  have hh := S.hand
  refine told_exc _ _ (place_exc _ _ hh ?_)
  by_cases h5 : R < 5
  · have M := S.mir
    have e := spot_ok S 4 4 (by omega) (by omega)
    have e' := spot_ok M 4 4 (by omega) (by omega)
    rw [show ((1 - h : Nat) : Int) = 1 - (h : Int) by omega] at e'
    by_cases hn : (3 ^ R - m) - m = 1 ∨ m - (3 ^ R - m) = 1
    · have F := S.flags
      have p3 : (3 : Int) ≤ 3 ^ R := by
        match R, h1 with
        | R + 1, _ => have : (0 : Int) < 3 ^ R := Int.pow_pos (by decide); rw [Int.pow_succ]; omega
      have fg : f = true ∧ g = true := by
        rcases (by omega : h = 0 ∨ h = 1) with rfl | rfl
        · refine ⟨(F.1 rfl).1, ?_⟩
          cases g with
          | true => rfl
          | false => have := (F.1 rfl).2 rfl; omega
        · refine ⟨?_, (F.2 rfl).1⟩
          cases f with
          | true => rfl
          | false => have := (F.2 rfl).2 rfl; omega
      obtain ⟨rfl, rfl⟩ := fg
      exact spot_unfit d d (spt_shape S) h 5 5 (by omega) R m _ _ _ hn (fit_no x y hne) e e'
    · exact spot_far d d (spt_shape S) h 5 5 (by omega) R m _ _ _ hn e e'
  · have e := spot_deep S 4 4 (by omega) (by omega)
    exact spot_deep1 d d h 5 5 (by omega) e
end
theorem eqD_known : eqD (.str (Str.ofString "known")) (.str (Str.ofString "known")) = some true :=
  eqD_self (p := .str (Str.ofString "known")) (by unfold toPy; rfl) (by decide +kernel) (by simp [PyData.depth])
end My

namespace My
open PySem L2 DL
theorem ite_iff {α : Type} {p q : Prop} [Decidable p] [Decidable q] {u v : α} (h : p ↔ q) : (if p then u else v) = if q then u else v := by
  by_cases c : p
  · rw [if_pos c, if_pos (h.mp c)]
  · rw [if_neg c, if_neg (fun z => c (h.mpr z))]
noncomputable def mKn (i : Nat) : En → R SV := (callE G_known (appK 2 1 (consA (varE 1) (consA (varE i) nilA)) (consA (varE 2) nilA)))
noncomputable def mPl (i : Nat) : En → R SV := (callE G__law_places (consA (varE i) (consA (varE 2) nilA)))
noncomputable def mWv : En → R SV := (callE G__law_weaving (consA (varE 0) (consA (varE 2) (consA (opd (constE (.bl false))) nilA))))
noncomputable def mI7 : En → RS := (ifS (andT (testV (op2 (eqG false) (opd (callB (int1G fun i => if i < 0 then -i else i) (consA (opd (op2 subG (varE 10) (varE 9))) nilA))) (opd (constE (.int 1))))) (testV (op2 (cmpG (fun i j => decide (i < j))) (varE 2) (opd (constE (.int 5)))))) (setS 6 (op2 addG (opd (op2 mulG (opd (constE (.int 3))) (varE 9))) (opd (op2 mulG (opd (constE (.int 2))) (opd (op2 subG (varE 10) (varE 9))))))) .nx)
noncomputable def mI8 : En → RS := (ifS (testV (op2 (eqG true) (opd (callE G__law_told (consA (opd (tupE (consA (varE 4) (consA (varE 5) nilA)))) (consA (varE 3) nilA)))) (varE 6))) (retS (constE (.bl false))) .nx)
noncomputable def mI9 : En → RS := (ifS (andT (testV (op2 (eqG true) (opd (op2 ixG (varE 1) (opd (constE (.int 0))))) (opd (op2 ixG (varE 1) (opd (constE (.int 1))))))) (testV (op2 (eqG true) (opd (callE G__law_told (consA (opd (tupE (consA (varE 4) (consA (varE 4) nilA)))) (consA (varE 3) nilA)))) (opd (constE (.str (Str.ofString "known"))))))) (retS (constE (.bl false))) .nx)
noncomputable def mRt : En → RS := (retS (op2 (eqG false) (opd (callE G__law_told (consA (opd (tupE (consA (varE 4) (consA (opd (constE .non)) nilA)))) (consA (varE 3) nilA)))) (opd (op2 ixG (opd (lstE (consA (opd (constE (.str (Str.ofString "known")))) (consA (opd (op2 mulG (opd (constE (.int 3))) (varE 9))) nilA)))) (opd (callB intG (consA (opd (op2 (cmpG (fun i j => decide (i < j))) (varE 2) (opd (constE (.int 5))))) nilA)))))))
theorem mixed_eq : m__law_mixed_right = (seqS (setS 3 (callE G__law_draw (consA (varE 0) (consA (opd (constE (.int 2))) nilA)))) (seqS (parS 7 8 (consA (opd mWv) (consA (opd mWv) nilA))) (seqS (setS 4 (op2 ixG (opd (mKn 7)) (varE 3))) (seqS (setS 5 (op2 ixG (opd (mKn 8)) (opd (op2 subG (opd (constE (.int 1))) (varE 3))))) (seqS (parS 9 10 (consA (opd (op2 ixG (opd (mPl 7)) (varE 3))) (consA (opd (op2 ixG (opd (mPl 8)) (opd (op2 subG (opd (constE (.int 1))) (varE 3))))) nilA))) (seqS (setS 6 (constE (.str (Str.ofString "known")))) (seqS mI7 (seqS mI8 (seqS mI9 mRt))))))))) := rfl
def envM (w : D) (x y r h : Int) (k k' due : D) (V V' : D) (m m' : Int) : En :=
  [some ⟨.b, w⟩, some ⟨.p, .tup [.int x, .int y]⟩, some ⟨.p, .int r⟩, some ⟨.p, .int h⟩, some ⟨.p, k⟩, some ⟨.p, k'⟩, some ⟨.p, due⟩, some ⟨.p, V⟩, some ⟨.p, V'⟩, some ⟨.p, .int m⟩, some ⟨.p, .int m'⟩]
section
variable {w k k' V V' : D} {x y r h m m' : Int}
theorem mI7_ok : mI7 (envM w x y r h k k' (.str (Str.ofString "known")) V V' m m') = .nx (envM w x y r h k k' (if (m' - m = 1 ∨ m - m' = 1) ∧ r < 5 then .int (3 * m + 2 * (m' - m)) else .str (Str.ofString "known")) V V' m m') := by
  by_cases hn : m' - m = 1 ∨ m - m' = 1
  · have z : ((if m' - m < 0 then -(m' - m) else m' - m) == (1 : Int)) = true := by
      simp only [beq_iff_eq]
      split <;> omega
    by_cases h5 : r < 5
    · rw [if_pos ⟨hn, h5⟩]
      simp [a_bindR, a_bindS, a_opd, a_constE, a_varE, a_keepE, a_op1, a_op2, a_nilA, a_consA, a_callB, a_tupE, a_lstE, a_testV, a_andT, a_orT, a_notT, a_andV, a_orV, a_notV, a_ifE, a_seqS, a_ifS, a_setS, a_dropS, a_retS, a_retVarS, a_asgS, a_callE, a_callF, a_appK, a_forS, a_compE, a_seqI, a_rng1, a_rng2, a_methL, a_mutL, a_setIxS, a_noPt, a_somePt, a_sliceE, a_chainE, a_nameG, a_nilG, a_consG, a_tupG, a_dnewE, a_dputS, a_dgetE, a_callP, a_zipI, a_enumI, revG, itemsT, inG, maxG, zipD, enumD, defG, runDef, env0, En.sv, getL, Opd.get, pureO, pureL, callD, argL, argO, lentS, wbE, wb1, wbAt, endF, backD, pB, pI, nL, numG, cmpG, subG, addG, mulG, negG, isNG, ixG, itemsD, itemsL, lenG, listG, tupleG, sumG, allG, int1G, int2G, intG, isiG, tyD, appendK, popK, clearK, insertK, reverseK, extendK, countG, atI, ixN, eqG, intsOf, blsOf, wipeE, restE, tkeyD, keysD, keyD, kit_ii, kit_ib, kit_bi, kit_bb, kit_ll, kit_tt, kit_lt, kit_tl, kit_ti, kit_li, kit_ni, kit_si, kit_nt, kit_it, kit_st, kit_bt, a_raiseS, a_callZ, a_callPZ, a_dixE, a_dinE, a_parS, a_isxE, mI7, envM, eqD_int, z, h5, cm2, cm3]
    · rw [if_neg (fun z => h5 z.2)]
      simp [a_bindR, a_bindS, a_opd, a_constE, a_varE, a_keepE, a_op1, a_op2, a_nilA, a_consA, a_callB, a_tupE, a_lstE, a_testV, a_andT, a_orT, a_notT, a_andV, a_orV, a_notV, a_ifE, a_seqS, a_ifS, a_setS, a_dropS, a_retS, a_retVarS, a_asgS, a_callE, a_callF, a_appK, a_forS, a_compE, a_seqI, a_rng1, a_rng2, a_methL, a_mutL, a_setIxS, a_noPt, a_somePt, a_sliceE, a_chainE, a_nameG, a_nilG, a_consG, a_tupG, a_dnewE, a_dputS, a_dgetE, a_callP, a_zipI, a_enumI, revG, itemsT, inG, maxG, zipD, enumD, defG, runDef, env0, En.sv, getL, Opd.get, pureO, pureL, callD, argL, argO, lentS, wbE, wb1, wbAt, endF, backD, pB, pI, nL, numG, cmpG, subG, addG, mulG, negG, isNG, ixG, itemsD, itemsL, lenG, listG, tupleG, sumG, allG, int1G, int2G, intG, isiG, tyD, appendK, popK, clearK, insertK, reverseK, extendK, countG, atI, ixN, eqG, intsOf, blsOf, wipeE, restE, tkeyD, keysD, keyD, kit_ii, kit_ib, kit_bi, kit_bb, kit_ll, kit_tt, kit_lt, kit_tl, kit_ti, kit_li, kit_ni, kit_si, kit_nt, kit_it, kit_st, kit_bt, a_raiseS, a_callZ, a_callPZ, a_dixE, a_dinE, a_parS, a_isxE, mI7, envM, eqD_int, z, h5, cm2, cm3]
  · have z : ((if m' - m < 0 then -(m' - m) else m' - m) == (1 : Int)) = false := by
      simp only [beq_eq_false_iff_ne]
      split <;> omega
    rw [if_neg (fun z => hn z.1)]
    simp [a_bindR, a_bindS, a_opd, a_constE, a_varE, a_keepE, a_op1, a_op2, a_nilA, a_consA, a_callB, a_tupE, a_lstE, a_testV, a_andT, a_orT, a_notT, a_andV, a_orV, a_notV, a_ifE, a_seqS, a_ifS, a_setS, a_dropS, a_retS, a_retVarS, a_asgS, a_callE, a_callF, a_appK, a_forS, a_compE, a_seqI, a_rng1, a_rng2, a_methL, a_mutL, a_setIxS, a_noPt, a_somePt, a_sliceE, a_chainE, a_nameG, a_nilG, a_consG, a_tupG, a_dnewE, a_dputS, a_dgetE, a_callP, a_zipI, a_enumI, revG, itemsT, inG, maxG, zipD, enumD, defG, runDef, env0, En.sv, getL, Opd.get, pureO, pureL, callD, argL, argO, lentS, wbE, wb1, wbAt, endF, backD, pB, pI, nL, numG, cmpG, subG, addG, mulG, negG, isNG, ixG, itemsD, itemsL, lenG, listG, tupleG, sumG, allG, int1G, int2G, intG, isiG, tyD, appendK, popK, clearK, insertK, reverseK, extendK, countG, atI, ixN, eqG, intsOf, blsOf, wipeE, restE, tkeyD, keysD, keyD, kit_ii, kit_ib, kit_bi, kit_bb, kit_ll, kit_tt, kit_lt, kit_tl, kit_ti, kit_li, kit_ni, kit_si, kit_nt, kit_it, kit_st, kit_bt, a_raiseS, a_callZ, a_callPZ, a_dixE, a_dinE, a_parS, a_isxE, mI7, envM, eqD_int, z, cm2, cm3]
theorem mI8_ok {due : D} (e : G__law_told [⟨.p, .tup [k, k']⟩, ⟨.p, .int h⟩] = .ret ⟨.p, due⟩ [.tup [k, k'], .int h]) (q : eqD due due = some true) : mI8 (envM w x y r h k k' due V V' m m') = .nx (envM w x y r h k k' due V V' m m') := by
  simp [a_bindR, a_bindS, a_opd, a_constE, a_varE, a_keepE, a_op1, a_op2, a_nilA, a_consA, a_callB, a_tupE, a_lstE, a_testV, a_andT, a_orT, a_notT, a_andV, a_orV, a_notV, a_ifE, a_seqS, a_ifS, a_setS, a_dropS, a_retS, a_retVarS, a_asgS, a_callE, a_callF, a_appK, a_forS, a_compE, a_seqI, a_rng1, a_rng2, a_methL, a_mutL, a_setIxS, a_noPt, a_somePt, a_sliceE, a_chainE, a_nameG, a_nilG, a_consG, a_tupG, a_dnewE, a_dputS, a_dgetE, a_callP, a_zipI, a_enumI, revG, itemsT, inG, maxG, zipD, enumD, defG, runDef, env0, En.sv, getL, Opd.get, pureO, pureL, callD, argL, argO, lentS, wbE, wb1, wbAt, endF, backD, pB, pI, nL, numG, cmpG, subG, addG, mulG, negG, isNG, ixG, itemsD, itemsL, lenG, listG, tupleG, sumG, allG, int1G, int2G, intG, isiG, tyD, appendK, popK, clearK, insertK, reverseK, extendK, countG, atI, ixN, eqG, intsOf, blsOf, wipeE, restE, tkeyD, keysD, keyD, kit_ii, kit_ib, kit_bi, kit_bb, kit_ll, kit_tt, kit_lt, kit_tl, kit_ti, kit_li, kit_ni, kit_si, kit_nt, kit_it, kit_st, kit_bt, a_raiseS, a_callZ, a_callPZ, a_dixE, a_dinE, a_parS, a_isxE, mI8, envM, e, q]
theorem mI9_ok {due : D} (e : x ≠ y → G__law_told [⟨.p, .tup [k, k]⟩, ⟨.p, .int h⟩] = .ret ⟨.p, .str (Str.ofString "known")⟩ [.tup [k, k], .int h]) : mI9 (envM w x y r h k k' due V V' m m') = .nx (envM w x y r h k k' due V V' m m') := by
  by_cases hne : x = y
  · subst hne
    simp [a_bindR, a_bindS, a_opd, a_constE, a_varE, a_keepE, a_op1, a_op2, a_nilA, a_consA, a_callB, a_tupE, a_lstE, a_testV, a_andT, a_orT, a_notT, a_andV, a_orV, a_notV, a_ifE, a_seqS, a_ifS, a_setS, a_dropS, a_retS, a_retVarS, a_asgS, a_callE, a_callF, a_appK, a_forS, a_compE, a_seqI, a_rng1, a_rng2, a_methL, a_mutL, a_setIxS, a_noPt, a_somePt, a_sliceE, a_chainE, a_nameG, a_nilG, a_consG, a_tupG, a_dnewE, a_dputS, a_dgetE, a_callP, a_zipI, a_enumI, revG, itemsT, inG, maxG, zipD, enumD, defG, runDef, env0, En.sv, getL, Opd.get, pureO, pureL, callD, argL, argO, lentS, wbE, wb1, wbAt, endF, backD, pB, pI, nL, numG, cmpG, subG, addG, mulG, negG, isNG, ixG, itemsD, itemsL, lenG, listG, tupleG, sumG, allG, int1G, int2G, intG, isiG, tyD, appendK, popK, clearK, insertK, reverseK, extendK, countG, atI, ixN, eqG, intsOf, blsOf, wipeE, restE, tkeyD, keysD, keyD, kit_ii, kit_ib, kit_bi, kit_bb, kit_ll, kit_tt, kit_lt, kit_tl, kit_ti, kit_li, kit_ni, kit_si, kit_nt, kit_it, kit_st, kit_bt, a_raiseS, a_callZ, a_callPZ, a_dixE, a_dinE, a_parS, a_isxE, mI9, envM, eqD_int]
  · have n1 : (x == y) = false := by simpa using hne
    simp [a_bindR, a_bindS, a_opd, a_constE, a_varE, a_keepE, a_op1, a_op2, a_nilA, a_consA, a_callB, a_tupE, a_lstE, a_testV, a_andT, a_orT, a_notT, a_andV, a_orV, a_notV, a_ifE, a_seqS, a_ifS, a_setS, a_dropS, a_retS, a_retVarS, a_asgS, a_callE, a_callF, a_appK, a_forS, a_compE, a_seqI, a_rng1, a_rng2, a_methL, a_mutL, a_setIxS, a_noPt, a_somePt, a_sliceE, a_chainE, a_nameG, a_nilG, a_consG, a_tupG, a_dnewE, a_dputS, a_dgetE, a_callP, a_zipI, a_enumI, revG, itemsT, inG, maxG, zipD, enumD, defG, runDef, env0, En.sv, getL, Opd.get, pureO, pureL, callD, argL, argO, lentS, wbE, wb1, wbAt, endF, backD, pB, pI, nL, numG, cmpG, subG, addG, mulG, negG, isNG, ixG, itemsD, itemsL, lenG, listG, tupleG, sumG, allG, int1G, int2G, intG, isiG, tyD, appendK, popK, clearK, insertK, reverseK, extendK, countG, atI, ixN, eqG, intsOf, blsOf, wipeE, restE, tkeyD, keysD, keyD, kit_ii, kit_ib, kit_bi, kit_bb, kit_ll, kit_tt, kit_lt, kit_tl, kit_ti, kit_li, kit_ni, kit_si, kit_nt, kit_it, kit_st, kit_bt, a_raiseS, a_callZ, a_callPZ, a_dixE, a_dinE, a_parS, a_isxE, mI9, envM, eqD_int, n1, e hne, eqD_known]
theorem mRt_ok {due : D} (e : G__law_told [⟨.p, .tup [k, .non]⟩, ⟨.p, .int h⟩] = .ret ⟨.p, if r < 5 then .int (3 * m) else .str (Str.ofString "known")⟩ [.tup [k, .non], .int h]) : mRt (envM w x y r h k k' due V V' m m') = .ret ⟨.p, .bl true⟩ (envM w x y r h k k' due V V' m m') := by
  by_cases h5 : r < 5
  · rw [if_pos h5] at e
    simp [a_bindR, a_bindS, a_opd, a_constE, a_varE, a_keepE, a_op1, a_op2, a_nilA, a_consA, a_callB, a_tupE, a_lstE, a_testV, a_andT, a_orT, a_notT, a_andV, a_orV, a_notV, a_ifE, a_seqS, a_ifS, a_setS, a_dropS, a_retS, a_retVarS, a_asgS, a_callE, a_callF, a_appK, a_forS, a_compE, a_seqI, a_rng1, a_rng2, a_methL, a_mutL, a_setIxS, a_noPt, a_somePt, a_sliceE, a_chainE, a_nameG, a_nilG, a_consG, a_tupG, a_dnewE, a_dputS, a_dgetE, a_callP, a_zipI, a_enumI, revG, itemsT, inG, maxG, zipD, enumD, defG, runDef, env0, En.sv, getL, Opd.get, pureO, pureL, callD, argL, argO, lentS, wbE, wb1, wbAt, endF, backD, pB, pI, nL, numG, cmpG, subG, addG, mulG, negG, isNG, ixG, itemsD, itemsL, lenG, listG, tupleG, sumG, allG, int1G, int2G, intG, isiG, tyD, appendK, popK, clearK, insertK, reverseK, extendK, countG, atI, ixN, eqG, intsOf, blsOf, wipeE, restE, tkeyD, keysD, keyD, kit_ii, kit_ib, kit_bi, kit_bb, kit_ll, kit_tt, kit_lt, kit_tl, kit_ti, kit_li, kit_ni, kit_si, kit_nt, kit_it, kit_st, kit_bt, a_raiseS, a_callZ, a_callPZ, a_dixE, a_dinE, a_parS, a_isxE, mRt, envM, e, h5, cm3, eqD_int]
  · rw [if_neg h5] at e
    simp [a_bindR, a_bindS, a_opd, a_constE, a_varE, a_keepE, a_op1, a_op2, a_nilA, a_consA, a_callB, a_tupE, a_lstE, a_testV, a_andT, a_orT, a_notT, a_andV, a_orV, a_notV, a_ifE, a_seqS, a_ifS, a_setS, a_dropS, a_retS, a_retVarS, a_asgS, a_callE, a_callF, a_appK, a_forS, a_compE, a_seqI, a_rng1, a_rng2, a_methL, a_mutL, a_setIxS, a_noPt, a_somePt, a_sliceE, a_chainE, a_nameG, a_nilG, a_consG, a_tupG, a_dnewE, a_dputS, a_dgetE, a_callP, a_zipI, a_enumI, revG, itemsT, inG, maxG, zipD, enumD, defG, runDef, env0, En.sv, getL, Opd.get, pureO, pureL, callD, argL, argO, lentS, wbE, wb1, wbAt, endF, backD, pB, pI, nL, numG, cmpG, subG, addG, mulG, negG, isNG, ixG, itemsD, itemsL, lenG, listG, tupleG, sumG, allG, int1G, int2G, intG, isiG, tyD, appendK, popK, clearK, insertK, reverseK, extendK, countG, atI, ixN, eqG, intsOf, blsOf, wipeE, restE, tkeyD, keysD, keyD, kit_ii, kit_ib, kit_bi, kit_bb, kit_ll, kit_tt, kit_lt, kit_tl, kit_ti, kit_li, kit_ni, kit_si, kit_nt, kit_it, kit_st, kit_bt, a_raiseS, a_callZ, a_callPZ, a_dixE, a_dinE, a_parS, a_isxE, mRt, envM, e, h5, cm3, eqD_known]
end
theorem mixed_ok (a b c x y r : Int) (hx : 0 ≤ x) (hy : 0 ≤ y) (r1 : 1 ≤ r) (r5 : r ≤ 5) : ∃ a' c' : Int, G__law_mixed_right [⟨.b, .lst [.int a, .int b, .int c]⟩, ⟨.p, .tup [.int x, .int y]⟩, ⟨.p, .int r⟩] = .ret ⟨.p, .bl true⟩ [.lst [.int a', .int b, .int c'], .tup [.int x, .int y], .int r] := by
  obtain ⟨h', a1, c1, h0, h1, e1⟩ := draw_ok a b c 2 (by omega) (by decide)
  obtain ⟨a2, c2, hs, hh, n0, n1, hl, hf, e2⟩ := weaving_ok' a1 b c1 r false (by omega) (by omega)
  obtain ⟨a3, c3, hs', hh', n0', n1', hl', hf', e3⟩ := weaving_ok' a2 b c2 r false (by omega) (by omega)
  obtain ⟨f0, f1⟩ := hf rfl
  obtain ⟨f0', f1'⟩ := hf' rfl
  obtain ⟨k0, k1, p0, p1, kn, pl, K0, K1, _⟩ := kp_ok .p (by decide) hx hy (by omega : 0 ≤ r) r5 (by omega) hh n0 n1
  obtain ⟨k0', k1', p0', p1', kn', pl', K0', K1', _⟩ := kp_ok .p (by decide) hx hy (by omega : 0 ≤ r) r5 (by omega) hh' n0' n1'
  obtain ⟨_, M0, _, _, S0, rfl⟩ := K0.resolve_right (fun z => z.1 (by omega))
  obtain ⟨_, M1, _, _, S1, rfl⟩ := K1.resolve_right (fun z => z.1 (by omega))
  obtain ⟨_, M0', _, _, S0', rfl⟩ := K0'.resolve_right (fun z => z.1 (by omega))
  obtain ⟨_, M1', _, _, S1', rfl⟩ := K1'.resolve_right (fun z => z.1 (by omega))
  generalize hs.map D.int = V at *
  generalize hs'.map D.int = V' at *
  have core : ∀ (h : Nat) (k k' : D) (m m' : Int) (f g f' g' : Bool), (h' = h) → Spt x y k h r.toNat m f g → Spt x y k' (1 - h) r.toNat m' f' g' → ixG (.lst [k0, k1]) (.int h) = some ⟨.p, k⟩ → ixG (.lst [k0', k1']) (.int (1 - (h : Int))) = some ⟨.p, k'⟩ →
      ixG (.lst [.int M0, .int M1]) (.int h) = some ⟨.p, .int m⟩ → ixG (.lst [.int M0', .int M1']) (.int (1 - (h : Int))) = some ⟨.p, .int m'⟩ →
      G__law_mixed_right [⟨.b, .lst [.int a, .int b, .int c]⟩, ⟨.p, .tup [.int x, .int y]⟩, ⟨.p, .int r⟩] = .ret ⟨.p, .bl true⟩ [.lst [.int a3, .int b, .int c3], .tup [.int x, .int y], .int r] := by
    intro h k k' m m' f g f' g' eh S S' i1 i2 i3 i4
    subst eh
    have t1 := told_pair S S' (by omega)
    have t2 := told_lone S (by omega)
    have q1 : (if (m' - m = 1 ∨ m - m' = 1) ∧ r.toNat < 5 then D.int (3 * m + 2 * (m' - m)) else D.str (Str.ofString "known")) = if (m' - m = 1 ∨ m - m' = 1) ∧ r < 5 then D.int (3 * m + 2 * (m' - m)) else D.str (Str.ofString "known") := ite_iff (by constructor <;> rintro ⟨p, q⟩ <;> exact ⟨p, by omega⟩)
    have q2 : (if r.toNat < 5 then D.int (3 * m) else D.str (Str.ofString "known")) = if r < 5 then D.int (3 * m) else D.str (Str.ofString "known") := ite_iff (by omega)
    rw [q1] at t1
    rw [q2] at t2
    show endF _ (m__law_mixed_right (env0 11 _)) = _
    rw [mixed_eq]
    have g1 : (setS 3 (callE G__law_draw (consA (varE 0) (consA (opd (constE (.int 2))) nilA)))) (env0 11 [⟨.b, .lst [.int a, .int b, .int c]⟩, ⟨.p, .tup [.int x, .int y]⟩, ⟨.p, .int r⟩]) = .nx [some ⟨.b, .lst [.int a1, .int b, .int c1]⟩, some ⟨.p, .tup [.int x, .int y]⟩, some ⟨.p, .int r⟩, some ⟨.p, .int h⟩, none, none, none, none, none, none, none] := by simp [a_bindR, a_bindS, a_opd, a_constE, a_varE, a_keepE, a_op1, a_op2, a_nilA, a_consA, a_callB, a_tupE, a_lstE, a_testV, a_andT, a_orT, a_notT, a_andV, a_orV, a_notV, a_ifE, a_seqS, a_ifS, a_setS, a_dropS, a_retS, a_retVarS, a_asgS, a_callE, a_callF, a_appK, a_forS, a_compE, a_seqI, a_rng1, a_rng2, a_methL, a_mutL, a_setIxS, a_noPt, a_somePt, a_sliceE, a_chainE, a_nameG, a_nilG, a_consG, a_tupG, a_dnewE, a_dputS, a_dgetE, a_callP, a_zipI, a_enumI, revG, itemsT, inG, maxG, zipD, enumD, defG, runDef, env0, En.sv, getL, Opd.get, pureO, pureL, callD, argL, argO, lentS, wbE, wb1, wbAt, endF, backD, pB, pI, nL, numG, cmpG, subG, addG, mulG, negG, isNG, ixG, itemsD, itemsL, lenG, listG, tupleG, sumG, allG, int1G, int2G, intG, isiG, tyD, appendK, popK, clearK, insertK, reverseK, extendK, countG, atI, ixN, eqG, intsOf, blsOf, wipeE, restE, tkeyD, keysD, keyD, kit_ii, kit_ib, kit_bi, kit_bb, kit_ll, kit_tt, kit_lt, kit_tl, kit_ti, kit_li, kit_ni, kit_si, kit_nt, kit_it, kit_st, kit_bt, a_raiseS, a_callZ, a_callPZ, a_dixE, a_dinE, a_parS, a_isxE, e1]
    have g2 : (parS 7 8 (consA (opd mWv) (consA (opd mWv) nilA))) [some ⟨.b, .lst [.int a1, .int b, .int c1]⟩, some ⟨.p, .tup [.int x, .int y]⟩, some ⟨.p, .int r⟩, some ⟨.p, .int h⟩, none, none, none, none, none, none, none] = .nx [some ⟨.b, .lst [.int a3, .int b, .int c3]⟩, some ⟨.p, .tup [.int x, .int y]⟩, some ⟨.p, .int r⟩, some ⟨.p, .int h⟩, none, none, none, some ⟨.p, .lst V⟩, some ⟨.p, .lst V'⟩, none, none] := by simp [a_bindR, a_bindS, a_opd, a_constE, a_varE, a_keepE, a_op1, a_op2, a_nilA, a_consA, a_callB, a_tupE, a_lstE, a_testV, a_andT, a_orT, a_notT, a_andV, a_orV, a_notV, a_ifE, a_seqS, a_ifS, a_setS, a_dropS, a_retS, a_retVarS, a_asgS, a_callE, a_callF, a_appK, a_forS, a_compE, a_seqI, a_rng1, a_rng2, a_methL, a_mutL, a_setIxS, a_noPt, a_somePt, a_sliceE, a_chainE, a_nameG, a_nilG, a_consG, a_tupG, a_dnewE, a_dputS, a_dgetE, a_callP, a_zipI, a_enumI, revG, itemsT, inG, maxG, zipD, enumD, defG, runDef, env0, En.sv, getL, Opd.get, pureO, pureL, callD, argL, argO, lentS, wbE, wb1, wbAt, endF, backD, pB, pI, nL, numG, cmpG, subG, addG, mulG, negG, isNG, ixG, itemsD, itemsL, lenG, listG, tupleG, sumG, allG, int1G, int2G, intG, isiG, tyD, appendK, popK, clearK, insertK, reverseK, extendK, countG, atI, ixN, eqG, intsOf, blsOf, wipeE, restE, tkeyD, keysD, keyD, kit_ii, kit_ib, kit_bi, kit_bb, kit_ll, kit_tt, kit_lt, kit_tl, kit_ti, kit_li, kit_ni, kit_si, kit_nt, kit_it, kit_st, kit_bt, a_raiseS, a_callZ, a_callPZ, a_dixE, a_dinE, a_parS, a_isxE, mWv, e2, e3]
    have g3 : (setS 4 (op2 ixG (opd (mKn 7)) (varE 3))) [some ⟨.b, .lst [.int a3, .int b, .int c3]⟩, some ⟨.p, .tup [.int x, .int y]⟩, some ⟨.p, .int r⟩, some ⟨.p, .int h⟩, none, none, none, some ⟨.p, .lst V⟩, some ⟨.p, .lst V'⟩, none, none] = .nx [some ⟨.b, .lst [.int a3, .int b, .int c3]⟩, some ⟨.p, .tup [.int x, .int y]⟩, some ⟨.p, .int r⟩, some ⟨.p, .int h⟩, some ⟨.p, k⟩, none, none, some ⟨.p, .lst V⟩, some ⟨.p, .lst V'⟩, none, none] := by simp [a_bindR, a_bindS, a_opd, a_constE, a_varE, a_keepE, a_op1, a_op2, a_nilA, a_consA, a_callB, a_tupE, a_lstE, a_testV, a_andT, a_orT, a_notT, a_andV, a_orV, a_notV, a_ifE, a_seqS, a_ifS, a_setS, a_dropS, a_retS, a_retVarS, a_asgS, a_callE, a_callF, a_appK, a_forS, a_compE, a_seqI, a_rng1, a_rng2, a_methL, a_mutL, a_setIxS, a_noPt, a_somePt, a_sliceE, a_chainE, a_nameG, a_nilG, a_consG, a_tupG, a_dnewE, a_dputS, a_dgetE, a_callP, a_zipI, a_enumI, revG, itemsT, inG, maxG, zipD, enumD, defG, runDef, env0, En.sv, getL, Opd.get, pureO, pureL, callD, argL, argO, lentS, wbE, wb1, wbAt, endF, backD, pB, pI, nL, numG, cmpG, subG, addG, mulG, negG, isNG, itemsD, itemsL, lenG, listG, tupleG, sumG, allG, int1G, int2G, intG, isiG, tyD, appendK, popK, clearK, insertK, reverseK, extendK, countG, eqG, intsOf, blsOf, wipeE, restE, tkeyD, keysD, keyD, kit_ii, kit_ib, kit_bi, kit_bb, kit_ll, kit_tt, kit_lt, kit_tl, kit_ti, kit_li, kit_ni, kit_si, kit_nt, kit_it, kit_st, kit_bt, a_raiseS, a_callZ, a_callPZ, a_dixE, a_dinE, a_parS, a_isxE, mKn, kn, i1]
    have g4 : (setS 5 (op2 ixG (opd (mKn 8)) (opd (op2 subG (opd (constE (.int 1))) (varE 3))))) [some ⟨.b, .lst [.int a3, .int b, .int c3]⟩, some ⟨.p, .tup [.int x, .int y]⟩, some ⟨.p, .int r⟩, some ⟨.p, .int h⟩, some ⟨.p, k⟩, none, none, some ⟨.p, .lst V⟩, some ⟨.p, .lst V'⟩, none, none] = .nx [some ⟨.b, .lst [.int a3, .int b, .int c3]⟩, some ⟨.p, .tup [.int x, .int y]⟩, some ⟨.p, .int r⟩, some ⟨.p, .int h⟩, some ⟨.p, k⟩, some ⟨.p, k'⟩, none, some ⟨.p, .lst V⟩, some ⟨.p, .lst V'⟩, none, none] := by simp [a_bindR, a_bindS, a_opd, a_constE, a_varE, a_keepE, a_op1, a_op2, a_nilA, a_consA, a_callB, a_tupE, a_lstE, a_testV, a_andT, a_orT, a_notT, a_andV, a_orV, a_notV, a_ifE, a_seqS, a_ifS, a_setS, a_dropS, a_retS, a_retVarS, a_asgS, a_callE, a_callF, a_appK, a_forS, a_compE, a_seqI, a_rng1, a_rng2, a_methL, a_mutL, a_setIxS, a_noPt, a_somePt, a_sliceE, a_chainE, a_nameG, a_nilG, a_consG, a_tupG, a_dnewE, a_dputS, a_dgetE, a_callP, a_zipI, a_enumI, revG, itemsT, inG, maxG, zipD, enumD, defG, runDef, env0, En.sv, getL, Opd.get, pureO, pureL, callD, argL, argO, lentS, wbE, wb1, wbAt, endF, backD, pB, pI, nL, numG, cmpG, subG, addG, mulG, negG, isNG, itemsD, itemsL, lenG, listG, tupleG, sumG, allG, int1G, int2G, intG, isiG, tyD, appendK, popK, clearK, insertK, reverseK, extendK, countG, eqG, intsOf, blsOf, wipeE, restE, tkeyD, keysD, keyD, kit_ii, kit_ib, kit_bi, kit_bb, kit_ll, kit_tt, kit_lt, kit_tl, kit_ti, kit_li, kit_ni, kit_si, kit_nt, kit_it, kit_st, kit_bt, a_raiseS, a_callZ, a_callPZ, a_dixE, a_dinE, a_parS, a_isxE, mKn, kn', i2]
    have g5 : (parS 9 10 (consA (opd (op2 ixG (opd (mPl 7)) (varE 3))) (consA (opd (op2 ixG (opd (mPl 8)) (opd (op2 subG (opd (constE (.int 1))) (varE 3))))) nilA))) [some ⟨.b, .lst [.int a3, .int b, .int c3]⟩, some ⟨.p, .tup [.int x, .int y]⟩, some ⟨.p, .int r⟩, some ⟨.p, .int h⟩, some ⟨.p, k⟩, some ⟨.p, k'⟩, none, some ⟨.p, .lst V⟩, some ⟨.p, .lst V'⟩, none, none] = .nx [some ⟨.b, .lst [.int a3, .int b, .int c3]⟩, some ⟨.p, .tup [.int x, .int y]⟩, some ⟨.p, .int r⟩, some ⟨.p, .int h⟩, some ⟨.p, k⟩, some ⟨.p, k'⟩, none, some ⟨.p, .lst V⟩, some ⟨.p, .lst V'⟩, some ⟨.p, .int m⟩, some ⟨.p, .int m'⟩] := by simp [a_bindR, a_bindS, a_opd, a_constE, a_varE, a_keepE, a_op1, a_op2, a_nilA, a_consA, a_callB, a_tupE, a_lstE, a_testV, a_andT, a_orT, a_notT, a_andV, a_orV, a_notV, a_ifE, a_seqS, a_ifS, a_setS, a_dropS, a_retS, a_retVarS, a_asgS, a_callE, a_callF, a_appK, a_forS, a_compE, a_seqI, a_rng1, a_rng2, a_methL, a_mutL, a_setIxS, a_noPt, a_somePt, a_sliceE, a_chainE, a_nameG, a_nilG, a_consG, a_tupG, a_dnewE, a_dputS, a_dgetE, a_callP, a_zipI, a_enumI, revG, itemsT, inG, maxG, zipD, enumD, defG, runDef, env0, En.sv, getL, Opd.get, pureO, pureL, callD, argL, argO, lentS, wbE, wb1, wbAt, endF, backD, pB, pI, nL, numG, cmpG, subG, addG, mulG, negG, isNG, itemsD, itemsL, lenG, listG, tupleG, sumG, allG, int1G, int2G, intG, isiG, tyD, appendK, popK, clearK, insertK, reverseK, extendK, countG, eqG, intsOf, blsOf, wipeE, restE, tkeyD, keysD, keyD, kit_ii, kit_ib, kit_bi, kit_bb, kit_ll, kit_tt, kit_lt, kit_tl, kit_ti, kit_li, kit_ni, kit_si, kit_nt, kit_it, kit_st, kit_bt, a_raiseS, a_callZ, a_callPZ, a_dixE, a_dinE, a_parS, a_isxE, mPl, pl, pl', i3, i4]
    have g6 : (setS 6 (constE (.str (Str.ofString "known")))) [some ⟨.b, .lst [.int a3, .int b, .int c3]⟩, some ⟨.p, .tup [.int x, .int y]⟩, some ⟨.p, .int r⟩, some ⟨.p, .int h⟩, some ⟨.p, k⟩, some ⟨.p, k'⟩, none, some ⟨.p, .lst V⟩, some ⟨.p, .lst V'⟩, some ⟨.p, .int m⟩, some ⟨.p, .int m'⟩] = .nx (envM (.lst [.int a3, .int b, .int c3]) x y r h k k' (.str (Str.ofString "known")) (.lst V) (.lst V') m m') := by simp [a_bindR, a_bindS, a_opd, a_constE, a_varE, a_keepE, a_op1, a_op2, a_nilA, a_consA, a_callB, a_tupE, a_lstE, a_testV, a_andT, a_orT, a_notT, a_andV, a_orV, a_notV, a_ifE, a_seqS, a_ifS, a_setS, a_dropS, a_retS, a_retVarS, a_asgS, a_callE, a_callF, a_appK, a_forS, a_compE, a_seqI, a_rng1, a_rng2, a_methL, a_mutL, a_setIxS, a_noPt, a_somePt, a_sliceE, a_chainE, a_nameG, a_nilG, a_consG, a_tupG, a_dnewE, a_dputS, a_dgetE, a_callP, a_zipI, a_enumI, revG, itemsT, inG, maxG, zipD, enumD, defG, runDef, env0, En.sv, getL, Opd.get, pureO, pureL, callD, argL, argO, lentS, wbE, wb1, wbAt, endF, backD, pB, pI, nL, numG, cmpG, subG, addG, mulG, negG, isNG, ixG, itemsD, itemsL, lenG, listG, tupleG, sumG, allG, int1G, int2G, intG, isiG, tyD, appendK, popK, clearK, insertK, reverseK, extendK, countG, atI, ixN, eqG, intsOf, blsOf, wipeE, restE, tkeyD, keysD, keyD, kit_ii, kit_ib, kit_bi, kit_bb, kit_ll, kit_tt, kit_lt, kit_tl, kit_ti, kit_li, kit_ni, kit_si, kit_nt, kit_it, kit_st, kit_bt, a_raiseS, a_callZ, a_callPZ, a_dixE, a_dinE, a_parS, a_isxE, envM]
    rw [seqS_nx g1, seqS_nx g2, seqS_nx g3, seqS_nx g4, seqS_nx g5, seqS_nx g6, seqS_nx mI7_ok, seqS_nx (mI8_ok t1 (by split; rw [eqD_int]; simp; exact eqD_known)), seqS_nx (mI9_ok (fun hne => told_same S (by omega) (by omega) hne)), mRt_ok t2]
    rfl
  refine ⟨a3, c3, ?_⟩
  rcases (by omega : h' = 0 ∨ h' = 1) with q | q
  · exact core 0 k0 k1' M0 M1' _ _ _ _ q S0 S1' (by simp [ixG, itemsD, atI, ixN]) (by simp [ixG, itemsD, atI, ixN]) (by simp [ixG, itemsD, atI, ixN]) (by simp [ixG, itemsD, atI, ixN])
  · exact core 1 k1 k0' M1 M0' _ _ _ _ q S1 S0' (by simp [ixG, itemsD, atI, ixN]) (by simp [ixG, itemsD, atI, ixN]) (by simp [ixG, itemsD, atI, ixN]) (by simp [ixG, itemsD, atI, ixN])
end My

namespace My
open PySem L2 DL
theorem power_ok (r : Int) (r1 : 1 ≤ r) (r5 : r ≤ 5) : G__law_power [⟨.p, .int r⟩] = .ret ⟨.p, .int (3 ^ r.toNat)⟩ [.int r] := by
  have g : ∀ ds e, Grd ⟨ds, none⟩ e := fun _ _ => trivial
  rcases (by omega : r = 1 ∨ r = 2 ∨ r = 3 ∨ r = 4 ∨ r = 5) with rfl | rfl | rfl | rfl | rfl <;> simp [a_bindR, a_bindS, a_opd, a_constE, a_varE, a_keepE, a_op1, a_op2, a_nilA, a_consA, a_callB, a_tupE, a_lstE, a_testV, a_andT, a_orT, a_notT, a_andV, a_orV, a_notV, a_ifE, a_seqS, a_ifS, a_setS, a_dropS, a_retS, a_retVarS, a_asgS, a_callE, a_callF, a_appK, a_forS, a_compE, a_seqI, a_rng1, a_rng2, a_methL, a_mutL, a_setIxS, a_noPt, a_somePt, a_sliceE, a_chainE, a_nameG, a_nilG, a_consG, a_tupG, a_dnewE, a_dputS, a_dgetE, a_callP, a_zipI, a_enumI, revG, itemsT, inG, maxG, zipD, enumD, defG, runDef, env0, En.sv, getL, Opd.get, pureO, pureL, callD, argL, argO, lentS, wbE, wb1, wbAt, endF, backD, pB, pI, nL, numG, cmpG, subG, addG, mulG, negG, isNG, ixG, itemsD, itemsL, lenG, listG, tupleG, sumG, allG, int1G, int2G, intG, isiG, tyD, appendK, popK, clearK, insertK, reverseK, extendK, countG, atI, ixN, eqG, intsOf, blsOf, wipeE, restE, tkeyD, keysD, keyD, kit_ii, kit_ib, kit_bi, kit_bb, kit_ll, kit_tt, kit_lt, kit_tl, kit_ti, kit_li, kit_ni, kit_si, kit_nt, kit_it, kit_st, kit_bt, a_raiseS, a_callZ, a_callPZ, a_dixE, a_dinE, a_parS, a_isxE, G__law_power, m__law_power, rangeD, List.range, List.range.loop, loopS, g, cm3]
noncomputable def rB : En → RS := (ifS (testV (op2 (isNG true) (opd (op2 ixG (varE 4) (varE 6))) (opd (constE .non)))) (seqS (setS 7 (callE G_place (consA (opd (op2 ixG (varE 4) (varE 6))) (consA (varE 6) nilA)))) (ifS (orT (testV (op2 (eqG true) (varE 7) (opd (op2 ixG (varE 5) (varE 6))))) (orT (testV (callB isiG (consA (varE 7) (consA (opd (constE (.opq (.ty "bool")))) nilA)))) (orT (testV (op2 (eqG true) (opd (op2 (numG (fun _ j => 0 < j) fun i j => i % j) (varE 7) (opd (constE (.int 2))))) (varE 6))) (notT (testV (chainE (fun i j => decide (i ≤ j)) (fun i j => decide (i ≤ j)) (opd (constE (.int 0))) (varE 7) (opd (callE G__law_power (consA (varE 1) nilA))))))))) (retS (constE (.bl false))) .nx)) .nx)
noncomputable def rN : En → RS := (ifS (andT (testV (op2 (inG true) (opd (constE .non)) (varE 5))) (testV (op2 (eqG true) (opd (callB (int1G fun i => if i < 0 then -i else i) (consA (opd (op2 subG (opd (op2 ixG (varE 5) (opd (constE (.int 0))))) (opd (op2 ixG (varE 5) (opd (constE (.int 1))))))) nilA))) (opd (constE (.int 1)))))) (retS (constE (.bl false))) .nx)
noncomputable def rM : En → RS := (ifS (notT (testV (callE G__law_mixed_right (consA (varE 0) (consA (varE 2) (consA (opd (op2 ixG (opd (lstE (consA (varE 1) (consA (opd (constE (.int 5))) nilA)))) (opd (callE G__law_draw (consA (varE 0) (consA (opd (constE (.int 2))) nilA)))))) nilA)))))) (retS (constE (.bl false))) .nx)
noncomputable def rT : En → RS := (retS (andV (op2 (eqG false) (opd (callE G_place (consA (opd (op2 ixG (varE 2) (opd (constE (.int 0))))) (consA (opd (constE (.int 0))) nilA)))) (opd (constE (.int 0)))) (op2 (eqG false) (opd (callE G_place (consA (opd (op2 ixG (varE 2) (opd (constE (.int 1))))) (consA (opd (constE (.int 1))) nilA)))) (opd (constE (.int 1))))))
noncomputable def rD1 : En → RS := (setS 1 (op2 addG (opd (constE (.int 1))) (opd (callE G__law_draw (consA (varE 0) (consA (opd (constE (.int 5))) nilA))))))
noncomputable def rD2 : En → RS := (setS 2 (tupE (consA (opd (callE G__law_draw (consA (varE 0) (consA (opd (constE (.int 3))) nilA)))) (consA (opd (callE G__law_draw (consA (varE 0) (consA (opd (callE G__law_one (consA (varE 0) (consA (opd (lstE (consA (opd (constE (.int 3))) (consA (opd (op2 (numG CPow fun i j => i ^ j.toNat) (opd (constE (.int 10))) (opd (constE (.int 20))))) nilA)))) nilA)))) nilA)))) nilA))))
noncomputable def rD3 : En → RS := (setS 3 (callE G__law_weaving (consA (varE 0) (consA (varE 1) (consA (opd (op2 (eqG false) (opd (callE G__law_draw (consA (varE 0) (consA (opd (constE (.int 2))) nilA)))) (opd (constE (.int 0))))) nilA)))))
theorem right_eq : m__law_right = (seqS rD1 (seqS rD2 (seqS rD3 (seqS (setS 4 (callE G_known (appK 2 1 (consA (varE 2) (consA (varE 3) nilA)) (consA (varE 1) nilA)))) (seqS (setS 5 (callE G__law_places (consA (varE 3) (consA (varE 1) nilA)))) (seqS (forS (rng1 (consA (opd (constE (.int 2))) nilA)) (nameG 6) rB) (seqS rN (seqS rM rT)))))))) := rfl
def envR (a b c r x y : Int) (V : List D) (k0 k1 p0 p1 : D) (x6 x7 : Option SV) : En :=
  [some ⟨.b, .lst [.int a, .int b, .int c]⟩, some ⟨.p, .int r⟩, some ⟨.p, .tup [.int x, .int y]⟩, some ⟨.o, .lst V⟩, some ⟨.o, .lst [k0, k1]⟩, some ⟨.o, .lst [p0, p1]⟩, x6, x7]
section
variable {a b c r x y : Int} {V : List D} {k0 k1 p0 p1 : D} {x7 : Option SV}
theorem rB_ok (r1 : 1 ≤ r) (r5 : r ≤ 5) (h7 : Pl x7) (h : Nat) (k p : D) {q : Prop} (K : KP x y r.toNat h k p q) (i1 : ixG (.lst [k0, k1]) (.int h) = some ⟨.p, k⟩) (i2 : ixG (.lst [p0, p1]) (.int h) = some ⟨.p, p⟩) :
    ∃ x7', Pl x7' ∧ rB (envR a b c r x y V k0 k1 p0 p1 (some ⟨.p, .int h⟩) x7) = .nx (envR a b c r x y V k0 k1 p0 p1 (some ⟨.p, .int h⟩) x7') := by
  rcases K with ⟨_, M, f, g, S, rfl⟩ | ⟨_, rfl, rfl⟩
  · refine ⟨some ⟨.p, .int M⟩, .inr ⟨_, rfl⟩, ?_⟩
    have pl := place_ok S (by omega)
    have pw := power_ok r r1 r5
    have pa := S.par
    obtain ⟨m0, m1⟩ := S.rng
    have sh := spt_shape S
    rcases sh with ⟨i, rfl⟩ | ⟨l, rfl⟩ <;> rcases h7 with rfl | ⟨d7, rfl⟩ <;> simp [a_bindR, a_bindS, a_opd, a_constE, a_varE, a_keepE, a_op1, a_op2, a_nilA, a_consA, a_callB, a_tupE, a_lstE, a_testV, a_andT, a_orT, a_notT, a_andV, a_orV, a_notV, a_ifE, a_seqS, a_ifS, a_setS, a_dropS, a_retS, a_retVarS, a_asgS, a_callE, a_callF, a_appK, a_forS, a_compE, a_seqI, a_rng1, a_rng2, a_methL, a_mutL, a_setIxS, a_noPt, a_somePt, a_sliceE, a_chainE, a_nameG, a_nilG, a_consG, a_tupG, a_dnewE, a_dputS, a_dgetE, a_callP, a_zipI, a_enumI, revG, itemsT, inG, maxG, zipD, enumD, defG, runDef, env0, En.sv, getL, Opd.get, pureO, pureL, callD, argL, argO, lentS, wbE, wb1, wbAt, endF, backD, pB, pI, nL, numG, cmpG, subG, addG, mulG, negG, isNG, itemsD, itemsL, lenG, listG, tupleG, sumG, allG, int1G, int2G, intG, isiG, tyD, appendK, popK, clearK, insertK, reverseK, extendK, countG, eqG, intsOf, blsOf, wipeE, restE, tkeyD, keysD, keyD, kit_ii, kit_ib, kit_bi, kit_bb, kit_ll, kit_tt, kit_lt, kit_tl, kit_ti, kit_li, kit_ni, kit_si, kit_nt, kit_it, kit_st, kit_bt, a_raiseS, a_callZ, a_callPZ, a_dixE, a_dinE, a_parS, a_isxE, rB, envR, i1, i2, pl, pw, pa, m0, m1, eqD_int]
  · refine ⟨x7, h7, ?_⟩
    rcases h7 with rfl | ⟨d7, rfl⟩ <;> simp [a_bindR, a_bindS, a_opd, a_constE, a_varE, a_keepE, a_op1, a_op2, a_nilA, a_consA, a_callB, a_tupE, a_lstE, a_testV, a_andT, a_orT, a_notT, a_andV, a_orV, a_notV, a_ifE, a_seqS, a_ifS, a_setS, a_dropS, a_retS, a_retVarS, a_asgS, a_callE, a_callF, a_appK, a_forS, a_compE, a_seqI, a_rng1, a_rng2, a_methL, a_mutL, a_setIxS, a_noPt, a_somePt, a_sliceE, a_chainE, a_nameG, a_nilG, a_consG, a_tupG, a_dnewE, a_dputS, a_dgetE, a_callP, a_zipI, a_enumI, revG, itemsT, inG, maxG, zipD, enumD, defG, runDef, env0, En.sv, getL, Opd.get, pureO, pureL, callD, argL, argO, lentS, wbE, wb1, wbAt, endF, backD, pB, pI, nL, numG, cmpG, subG, addG, mulG, negG, isNG, itemsD, itemsL, lenG, listG, tupleG, sumG, allG, int1G, int2G, intG, isiG, tyD, appendK, popK, clearK, insertK, reverseK, extendK, countG, eqG, intsOf, blsOf, wipeE, restE, tkeyD, keysD, keyD, kit_ii, kit_ib, kit_bi, kit_bb, kit_ll, kit_tt, kit_lt, kit_tl, kit_ti, kit_li, kit_ni, kit_si, kit_nt, kit_it, kit_st, kit_bt, a_raiseS, a_callZ, a_callPZ, a_dixE, a_dinE, a_parS, a_isxE, rB, envR, i1]
end
theorem nin_ii (m n : Int) : inG true .non (.lst [.int m, .int n]) = pB true := by rfl
theorem nin_n (p : D) (h : p = .non ∨ ∃ i, p = .int i) : inG true .non (.lst [.non, p]) = pB false := by
  rcases h with rfl | ⟨i, rfl⟩ <;> rfl
theorem nin_m (m : Int) : inG true .non (.lst [.int m, .non]) = pB false := by rfl
theorem right_ok (a b c : Int) : ∃ d, G__law_right [⟨.b, .lst [.int a, .int b, .int c]⟩] = .ret ⟨.p, .bl true⟩ [d] := by
  obtain ⟨r', a1, c1, r0, r5, e1⟩ := draw_ok a b c 5 (by omega) (by decide)
  obtain ⟨x, a2, c2, x0, _, e2⟩ := draw_ok a1 b c1 3 (by omega) (by decide)
  obtain ⟨n, z, a3, c3, hz, e3⟩ := one_ok a2 b c2 .p [.int 3, .int 100000000000000000000] (by simp) (by simp) (by decide)
  have hz' : ∃ m : Int, z = .int m ∧ 0 < m ∧ m.natAbs.log2 < 9000 := by
    have := List.mem_of_getElem? hz
    have : z = .int 3 ∨ z = .int 100000000000000000000 := by simpa using this
    rcases this with rfl | rfl
    · exact ⟨_, rfl, by decide, by decide +kernel⟩
    · exact ⟨_, rfl, by decide, by decide +kernel⟩
  obtain ⟨m, rfl, m0, ml⟩ := hz'
  obtain ⟨y, a4, c4, y0, _, e4⟩ := draw_ok a3 b c3 m m0 ml
  obtain ⟨t, a5, c5, t0, t1, e5⟩ := draw_ok a4 b c4 2 (by omega) (by decide)
  obtain ⟨r, er⟩ : ∃ r, r = 1 + r' := ⟨_, rfl⟩
  obtain ⟨a6, c6, hs, hh, h0, h1, hl, _, e6⟩ := weaving_ok' a5 b c5 r (t == 0) (by omega) (by omega)
  obtain ⟨k0, k1, p0, p1, kn, pl, K0, K1, nb⟩ := kp_ok .b (by decide) x0 y0 (by omega : 0 ≤ r) (by omega) (by omega) hh h0 h1
  obtain ⟨q, a7, c7, q0, q1, e7⟩ := draw_ok a6 b c6 2 (by omega) (by decide)
  obtain ⟨R, R1, R5, hR⟩ : ∃ R : Int, 1 ≤ R ∧ R ≤ 5 ∧ ixG (.lst [.int r, .int 5]) (.int q) = some ⟨.p, .int R⟩ := by
    rcases (by omega : q = 0 ∨ q = 1) with rfl | rfl
    · exact ⟨r, by omega, by omega, by simp [ixG, itemsD, atI, ixN]⟩
    · exact ⟨5, by omega, by omega, by simp [ixG, itemsD, atI, ixN]⟩
  obtain ⟨a8, c8, e8⟩ := mixed_ok a7 b c7 x y R x0 y0 R1 R5
  generalize hs.map D.int = V at *
  obtain ⟨u7, hu7, b0⟩ := rB_ok (a := a6) (b := b) (c := c6) (r := r) (x := x) (y := y) (V := V) (k0 := k0) (k1 := k1) (p0 := p0) (p1 := p1) (x7 := none) (by omega) (by omega) (.inl rfl) 0 k0 p0 K0 (by simp [ixG, itemsD, atI, ixN]) (by simp [ixG, itemsD, atI, ixN])
  obtain ⟨v7, hv7, b1⟩ := rB_ok (a := a6) (b := b) (c := c6) (r := r) (x := x) (y := y) (V := V) (k0 := k0) (k1 := k1) (p0 := p0) (p1 := p1) (x7 := u7) (by omega) (by omega) hu7 1 k1 p1 K1 (by simp [ixG, itemsD, atI, ixN]) (by simp [ixG, itemsD, atI, ixN])
  refine ⟨.lst [.int a8, .int b, .int c8], ?_⟩
  show endF _ (m__law_right (env0 8 _)) = _
  rw [right_eq]
  have s1 : rD1 (env0 8 [⟨.b, .lst [.int a, .int b, .int c]⟩]) = .nx [some ⟨.b, .lst [.int a1, .int b, .int c1]⟩, some ⟨.p, .int r⟩, none, none, none, none, none, none] := by simp [a_bindR, a_bindS, a_opd, a_constE, a_varE, a_keepE, a_op1, a_op2, a_nilA, a_consA, a_callB, a_tupE, a_lstE, a_testV, a_andT, a_orT, a_notT, a_andV, a_orV, a_notV, a_ifE, a_seqS, a_ifS, a_setS, a_dropS, a_retS, a_retVarS, a_asgS, a_callE, a_callF, a_appK, a_forS, a_compE, a_seqI, a_rng1, a_rng2, a_methL, a_mutL, a_setIxS, a_noPt, a_somePt, a_sliceE, a_chainE, a_nameG, a_nilG, a_consG, a_tupG, a_dnewE, a_dputS, a_dgetE, a_callP, a_zipI, a_enumI, revG, itemsT, inG, maxG, zipD, enumD, defG, runDef, env0, En.sv, getL, Opd.get, pureO, pureL, callD, argL, argO, lentS, wbE, wb1, wbAt, endF, backD, pB, pI, nL, numG, cmpG, subG, addG, mulG, negG, isNG, ixG, itemsD, itemsL, lenG, listG, tupleG, sumG, allG, int1G, int2G, intG, isiG, tyD, appendK, popK, clearK, insertK, reverseK, extendK, countG, atI, ixN, eqG, intsOf, blsOf, wipeE, restE, tkeyD, keysD, keyD, kit_ii, kit_ib, kit_bi, kit_bb, kit_ll, kit_tt, kit_lt, kit_tl, kit_ti, kit_li, kit_ni, kit_si, kit_nt, kit_it, kit_st, kit_bt, a_raiseS, a_callZ, a_callPZ, a_dixE, a_dinE, a_parS, a_isxE, rD1, e1, er]
  have s2 : rD2 [some ⟨.b, .lst [.int a1, .int b, .int c1]⟩, some ⟨.p, .int r⟩, none, none, none, none, none, none] = .nx [some ⟨.b, .lst [.int a4, .int b, .int c4]⟩, some ⟨.p, .int r⟩, some ⟨.p, .tup [.int x, .int y]⟩, none, none, none, none, none] := by simp [a_bindR, a_bindS, a_opd, a_constE, a_varE, a_keepE, a_op1, a_op2, a_nilA, a_consA, a_callB, a_tupE, a_lstE, a_testV, a_andT, a_orT, a_notT, a_andV, a_orV, a_notV, a_ifE, a_seqS, a_ifS, a_setS, a_dropS, a_retS, a_retVarS, a_asgS, a_callE, a_callF, a_appK, a_forS, a_compE, a_seqI, a_rng1, a_rng2, a_methL, a_mutL, a_setIxS, a_noPt, a_somePt, a_sliceE, a_chainE, a_nameG, a_nilG, a_consG, a_tupG, a_dnewE, a_dputS, a_dgetE, a_callP, a_zipI, a_enumI, revG, itemsT, inG, maxG, zipD, enumD, defG, runDef, env0, En.sv, getL, Opd.get, pureO, pureL, callD, argL, argO, lentS, wbE, wb1, wbAt, endF, backD, pB, pI, nL, numG, cmpG, subG, addG, mulG, negG, isNG, ixG, itemsD, itemsL, lenG, listG, tupleG, sumG, allG, int1G, int2G, intG, isiG, tyD, appendK, popK, clearK, insertK, reverseK, extendK, countG, atI, ixN, eqG, intsOf, blsOf, wipeE, restE, tkeyD, keysD, keyD, kit_ii, kit_ib, kit_bi, kit_bb, kit_ll, kit_tt, kit_lt, kit_tl, kit_ti, kit_li, kit_ni, kit_si, kit_nt, kit_it, kit_st, kit_bt, a_raiseS, a_callZ, a_callPZ, a_dixE, a_dinE, a_parS, a_isxE, rD2, e2, e3, e4, CPow]
  have s3 : rD3 [some ⟨.b, .lst [.int a4, .int b, .int c4]⟩, some ⟨.p, .int r⟩, some ⟨.p, .tup [.int x, .int y]⟩, none, none, none, none, none] = .nx [some ⟨.b, .lst [.int a6, .int b, .int c6]⟩, some ⟨.p, .int r⟩, some ⟨.p, .tup [.int x, .int y]⟩, some ⟨.o, .lst V⟩, none, none, none, none] := by simp [a_bindR, a_bindS, a_opd, a_constE, a_varE, a_keepE, a_op1, a_op2, a_nilA, a_consA, a_callB, a_tupE, a_lstE, a_testV, a_andT, a_orT, a_notT, a_andV, a_orV, a_notV, a_ifE, a_seqS, a_ifS, a_setS, a_dropS, a_retS, a_retVarS, a_asgS, a_callE, a_callF, a_appK, a_forS, a_compE, a_seqI, a_rng1, a_rng2, a_methL, a_mutL, a_setIxS, a_noPt, a_somePt, a_sliceE, a_chainE, a_nameG, a_nilG, a_consG, a_tupG, a_dnewE, a_dputS, a_dgetE, a_callP, a_zipI, a_enumI, revG, itemsT, inG, maxG, zipD, enumD, defG, runDef, env0, En.sv, getL, Opd.get, pureO, pureL, callD, argL, argO, lentS, wbE, wb1, wbAt, endF, backD, pB, pI, nL, numG, cmpG, subG, addG, mulG, negG, isNG, ixG, itemsD, itemsL, lenG, listG, tupleG, sumG, allG, int1G, int2G, intG, isiG, tyD, appendK, popK, clearK, insertK, reverseK, extendK, countG, atI, ixN, eqG, intsOf, blsOf, wipeE, restE, tkeyD, keysD, keyD, kit_ii, kit_ib, kit_bi, kit_bb, kit_ll, kit_tt, kit_lt, kit_tl, kit_ti, kit_li, kit_ni, kit_si, kit_nt, kit_it, kit_st, kit_bt, a_raiseS, a_callZ, a_callPZ, a_dixE, a_dinE, a_parS, a_isxE, rD3, e5, e6, eqD_int]
  have s4 : (setS 4 (callE G_known (appK 2 1 (consA (varE 2) (consA (varE 3) nilA)) (consA (varE 1) nilA)))) [some ⟨.b, .lst [.int a6, .int b, .int c6]⟩, some ⟨.p, .int r⟩, some ⟨.p, .tup [.int x, .int y]⟩, some ⟨.o, .lst V⟩, none, none, none, none] = .nx [some ⟨.b, .lst [.int a6, .int b, .int c6]⟩, some ⟨.p, .int r⟩, some ⟨.p, .tup [.int x, .int y]⟩, some ⟨.o, .lst V⟩, some ⟨.o, .lst [k0, k1]⟩, none, none, none] := by simp [a_bindR, a_bindS, a_opd, a_constE, a_varE, a_keepE, a_op1, a_op2, a_nilA, a_consA, a_callB, a_tupE, a_lstE, a_testV, a_andT, a_orT, a_notT, a_andV, a_orV, a_notV, a_ifE, a_seqS, a_ifS, a_setS, a_dropS, a_retS, a_retVarS, a_asgS, a_callE, a_callF, a_appK, a_forS, a_compE, a_seqI, a_rng1, a_rng2, a_methL, a_mutL, a_setIxS, a_noPt, a_somePt, a_sliceE, a_chainE, a_nameG, a_nilG, a_consG, a_tupG, a_dnewE, a_dputS, a_dgetE, a_callP, a_zipI, a_enumI, revG, itemsT, inG, maxG, zipD, enumD, defG, runDef, env0, En.sv, getL, Opd.get, pureO, pureL, callD, argL, argO, lentS, wbE, wb1, wbAt, endF, backD, pB, pI, nL, numG, cmpG, subG, addG, mulG, negG, isNG, ixG, itemsD, itemsL, lenG, listG, tupleG, sumG, allG, int1G, int2G, intG, isiG, tyD, appendK, popK, clearK, insertK, reverseK, extendK, countG, atI, ixN, eqG, intsOf, blsOf, wipeE, restE, tkeyD, keysD, keyD, kit_ii, kit_ib, kit_bi, kit_bb, kit_ll, kit_tt, kit_lt, kit_tl, kit_ti, kit_li, kit_ni, kit_si, kit_nt, kit_it, kit_st, kit_bt, a_raiseS, a_callZ, a_callPZ, a_dixE, a_dinE, a_parS, a_isxE, kn]
  have s5 : (setS 5 (callE G__law_places (consA (varE 3) (consA (varE 1) nilA)))) [some ⟨.b, .lst [.int a6, .int b, .int c6]⟩, some ⟨.p, .int r⟩, some ⟨.p, .tup [.int x, .int y]⟩, some ⟨.o, .lst V⟩, some ⟨.o, .lst [k0, k1]⟩, none, none, none] = .nx (envR a6 b c6 r x y V k0 k1 p0 p1 none none) := by simp [a_bindR, a_bindS, a_opd, a_constE, a_varE, a_keepE, a_op1, a_op2, a_nilA, a_consA, a_callB, a_tupE, a_lstE, a_testV, a_andT, a_orT, a_notT, a_andV, a_orV, a_notV, a_ifE, a_seqS, a_ifS, a_setS, a_dropS, a_retS, a_retVarS, a_asgS, a_callE, a_callF, a_appK, a_forS, a_compE, a_seqI, a_rng1, a_rng2, a_methL, a_mutL, a_setIxS, a_noPt, a_somePt, a_sliceE, a_chainE, a_nameG, a_nilG, a_consG, a_tupG, a_dnewE, a_dputS, a_dgetE, a_callP, a_zipI, a_enumI, revG, itemsT, inG, maxG, zipD, enumD, defG, runDef, env0, En.sv, getL, Opd.get, pureO, pureL, callD, argL, argO, lentS, wbE, wb1, wbAt, endF, backD, pB, pI, nL, numG, cmpG, subG, addG, mulG, negG, isNG, ixG, itemsD, itemsL, lenG, listG, tupleG, sumG, allG, int1G, int2G, intG, isiG, tyD, appendK, popK, clearK, insertK, reverseK, extendK, countG, atI, ixN, eqG, intsOf, blsOf, wipeE, restE, tkeyD, keysD, keyD, kit_ii, kit_ib, kit_bi, kit_bb, kit_ll, kit_tt, kit_lt, kit_tl, kit_ti, kit_li, kit_ni, kit_si, kit_nt, kit_it, kit_st, kit_bt, a_raiseS, a_callZ, a_callPZ, a_dixE, a_dinE, a_parS, a_isxE, envR, pl]
  have g : ∀ ds e, Grd ⟨ds, none⟩ e := fun _ _ => trivial
  have s6 : forS (rng1 (consA (opd (constE (.int 2))) nilA)) (nameG 6) rB (envR a6 b c6 r x y V k0 k1 p0 p1 none none) = .nx (envR a6 b c6 r x y V k0 k1 p0 p1 (some ⟨.p, .int 1⟩) v7) := by
    have src : rng1 (consA (opd (constE (.int 2))) nilA) (envR a6 b c6 r x y V k0 k1 p0 p1 none none) = .ok ⟨[.int 0, .int 1], none⟩ (envR a6 b c6 r x y V k0 k1 p0 p1 none none) := by
      simp [a_bindR, a_bindS, a_opd, a_constE, a_varE, a_keepE, a_op1, a_op2, a_nilA, a_consA, a_callB, a_tupE, a_lstE, a_testV, a_andT, a_orT, a_notT, a_andV, a_orV, a_notV, a_ifE, a_seqS, a_ifS, a_setS, a_dropS, a_retS, a_retVarS, a_asgS, a_callE, a_callF, a_appK, a_forS, a_compE, a_seqI, a_rng1, a_rng2, a_methL, a_mutL, a_setIxS, a_noPt, a_somePt, a_sliceE, a_chainE, a_nameG, a_nilG, a_consG, a_tupG, a_dnewE, a_dputS, a_dgetE, a_callP, a_zipI, a_enumI, revG, itemsT, inG, maxG, zipD, enumD, defG, runDef, env0, En.sv, getL, Opd.get, pureO, pureL, callD, argL, argO, lentS, wbE, wb1, wbAt, endF, backD, pB, pI, nL, numG, cmpG, subG, addG, mulG, negG, isNG, ixG, itemsD, itemsL, lenG, listG, tupleG, sumG, allG, int1G, int2G, intG, isiG, tyD, appendK, popK, clearK, insertK, reverseK, extendK, countG, atI, ixN, eqG, intsOf, blsOf, wipeE, restE, tkeyD, keysD, keyD, kit_ii, kit_ib, kit_bi, kit_bb, kit_ll, kit_tt, kit_lt, kit_tl, kit_ti, kit_li, kit_ni, kit_si, kit_nt, kit_it, kit_st, kit_bt, a_raiseS, a_callZ, a_callPZ, a_dixE, a_dinE, a_parS, a_isxE, envR, rangeD, List.range, List.range.loop]
    have n0 : nameG 6 (.int 0) (envR a6 b c6 r x y V k0 k1 p0 p1 none none) = some (envR a6 b c6 r x y V k0 k1 p0 p1 (some ⟨.p, .int (0 : Nat)⟩) none) := rfl
    have n1 : nameG 6 (.int 1) (envR a6 b c6 r x y V k0 k1 p0 p1 (some ⟨.p, .int (0 : Nat)⟩) u7) = some (envR a6 b c6 r x y V k0 k1 p0 p1 (some ⟨.p, .int (1 : Nat)⟩) u7) := rfl
    rw [a_forS, bindS_ok src]
    simp only [loopS, g, if_true, n0, b0, n1, b1]
    rfl
  have s7 : rN (envR a6 b c6 r x y V k0 k1 p0 p1 (some ⟨.p, .int 1⟩) v7) = .nx (envR a6 b c6 r x y V k0 k1 p0 p1 (some ⟨.p, .int 1⟩) v7) := by
    rcases K0 with ⟨_, M0, _, _, S0, rfl⟩ | ⟨_, _, rfl⟩
    · rcases K1 with ⟨_, M1, _, _, S1, rfl⟩ | ⟨_, _, rfl⟩
      · have hn := nb M0 M1 rfl rfl
        have zz : ((if M0 - M1 < 0 then -(M0 - M1) else M0 - M1) == (1 : Int)) = true := by
          simp only [beq_iff_eq]
          split <;> omega
        simp [a_bindR, a_bindS, a_opd, a_constE, a_varE, a_keepE, a_op1, a_op2, a_nilA, a_consA, a_callB, a_tupE, a_lstE, a_testV, a_andT, a_orT, a_notT, a_andV, a_orV, a_notV, a_ifE, a_seqS, a_ifS, a_setS, a_dropS, a_retS, a_retVarS, a_asgS, a_callE, a_callF, a_appK, a_forS, a_compE, a_seqI, a_rng1, a_rng2, a_methL, a_mutL, a_setIxS, a_noPt, a_somePt, a_sliceE, a_chainE, a_nameG, a_nilG, a_consG, a_tupG, a_dnewE, a_dputS, a_dgetE, a_callP, a_zipI, a_enumI, revG, itemsT, maxG, zipD, enumD, defG, runDef, env0, En.sv, getL, Opd.get, pureO, pureL, callD, argL, argO, lentS, wbE, wb1, wbAt, endF, backD, pB, pI, nL, numG, cmpG, subG, addG, mulG, negG, isNG, ixG, itemsD, itemsL, lenG, listG, tupleG, sumG, allG, int1G, int2G, intG, isiG, tyD, appendK, popK, clearK, insertK, reverseK, extendK, countG, atI, ixN, eqG, intsOf, blsOf, wipeE, restE, tkeyD, keysD, keyD, kit_ii, kit_ib, kit_bi, kit_bb, kit_ll, kit_tt, kit_lt, kit_tl, kit_ti, kit_li, kit_ni, kit_si, kit_nt, kit_it, kit_st, kit_bt, a_raiseS, a_callZ, a_callPZ, a_dixE, a_dinE, a_parS, a_isxE, rN, envR, nin_ii, eqD_int, zz]
      · simp [a_bindR, a_bindS, a_opd, a_constE, a_varE, a_keepE, a_op1, a_op2, a_nilA, a_consA, a_callB, a_tupE, a_lstE, a_testV, a_andT, a_orT, a_notT, a_andV, a_orV, a_notV, a_ifE, a_seqS, a_ifS, a_setS, a_dropS, a_retS, a_retVarS, a_asgS, a_callE, a_callF, a_appK, a_forS, a_compE, a_seqI, a_rng1, a_rng2, a_methL, a_mutL, a_setIxS, a_noPt, a_somePt, a_sliceE, a_chainE, a_nameG, a_nilG, a_consG, a_tupG, a_dnewE, a_dputS, a_dgetE, a_callP, a_zipI, a_enumI, revG, itemsT, maxG, zipD, enumD, defG, runDef, env0, En.sv, getL, Opd.get, pureO, pureL, callD, argL, argO, lentS, wbE, wb1, wbAt, endF, backD, pB, pI, nL, numG, cmpG, subG, addG, mulG, negG, isNG, ixG, itemsD, itemsL, lenG, listG, tupleG, sumG, allG, int1G, int2G, intG, isiG, tyD, appendK, popK, clearK, insertK, reverseK, extendK, countG, atI, ixN, eqG, intsOf, blsOf, wipeE, restE, tkeyD, keysD, keyD, kit_ii, kit_ib, kit_bi, kit_bb, kit_ll, kit_tt, kit_lt, kit_tl, kit_ti, kit_li, kit_ni, kit_si, kit_nt, kit_it, kit_st, kit_bt, a_raiseS, a_callZ, a_callPZ, a_dixE, a_dinE, a_parS, a_isxE, rN, envR, nin_m]
    · have hp : p1 = .non ∨ ∃ i, p1 = .int i := by
        rcases K1 with ⟨_, M1, _, _, S1, rfl⟩ | ⟨_, _, rfl⟩
        · exact .inr ⟨_, rfl⟩
        · exact .inl rfl
      simp [a_bindR, a_bindS, a_opd, a_constE, a_varE, a_keepE, a_op1, a_op2, a_nilA, a_consA, a_callB, a_tupE, a_lstE, a_testV, a_andT, a_orT, a_notT, a_andV, a_orV, a_notV, a_ifE, a_seqS, a_ifS, a_setS, a_dropS, a_retS, a_retVarS, a_asgS, a_callE, a_callF, a_appK, a_forS, a_compE, a_seqI, a_rng1, a_rng2, a_methL, a_mutL, a_setIxS, a_noPt, a_somePt, a_sliceE, a_chainE, a_nameG, a_nilG, a_consG, a_tupG, a_dnewE, a_dputS, a_dgetE, a_callP, a_zipI, a_enumI, revG, itemsT, maxG, zipD, enumD, defG, runDef, env0, En.sv, getL, Opd.get, pureO, pureL, callD, argL, argO, lentS, wbE, wb1, wbAt, endF, backD, pB, pI, nL, numG, cmpG, subG, addG, mulG, negG, isNG, ixG, itemsD, itemsL, lenG, listG, tupleG, sumG, allG, int1G, int2G, intG, isiG, tyD, appendK, popK, clearK, insertK, reverseK, extendK, countG, atI, ixN, eqG, intsOf, blsOf, wipeE, restE, tkeyD, keysD, keyD, kit_ii, kit_ib, kit_bi, kit_bb, kit_ll, kit_tt, kit_lt, kit_tl, kit_ti, kit_li, kit_ni, kit_si, kit_nt, kit_it, kit_st, kit_bt, a_raiseS, a_callZ, a_callPZ, a_dixE, a_dinE, a_parS, a_isxE, rN, envR, nin_n p1 hp]
  have s8 : rM (envR a6 b c6 r x y V k0 k1 p0 p1 (some ⟨.p, .int 1⟩) v7) = .nx (envR a8 b c8 r x y V k0 k1 p0 p1 (some ⟨.p, .int 1⟩) v7) := by
    rcases hv7 with rfl | ⟨d7, rfl⟩ <;> simp [a_bindR, a_bindS, a_opd, a_constE, a_varE, a_keepE, a_op1, a_op2, a_nilA, a_consA, a_callB, a_tupE, a_lstE, a_testV, a_andT, a_orT, a_notT, a_andV, a_orV, a_notV, a_ifE, a_seqS, a_ifS, a_setS, a_dropS, a_retS, a_retVarS, a_asgS, a_callE, a_callF, a_appK, a_forS, a_compE, a_seqI, a_rng1, a_rng2, a_methL, a_mutL, a_setIxS, a_noPt, a_somePt, a_sliceE, a_chainE, a_nameG, a_nilG, a_consG, a_tupG, a_dnewE, a_dputS, a_dgetE, a_callP, a_zipI, a_enumI, revG, itemsT, inG, maxG, zipD, enumD, defG, runDef, env0, En.sv, getL, Opd.get, pureO, pureL, callD, argL, argO, lentS, wbE, wb1, wbAt, endF, backD, pB, pI, nL, numG, cmpG, subG, addG, mulG, negG, isNG, itemsD, itemsL, lenG, listG, tupleG, sumG, allG, int1G, int2G, intG, isiG, tyD, appendK, popK, clearK, insertK, reverseK, extendK, countG, eqG, intsOf, blsOf, wipeE, restE, tkeyD, keysD, keyD, kit_ii, kit_ib, kit_bi, kit_bb, kit_ll, kit_tt, kit_lt, kit_tl, kit_ti, kit_li, kit_ni, kit_si, kit_nt, kit_it, kit_st, kit_bt, a_raiseS, a_callZ, a_callPZ, a_dixE, a_dinE, a_parS, a_isxE, rM, envR, e7, e8, hR]
  have pi0 := place_ok (Spt.base0 (x := x) (y := y) x0) (by omega)
  have pi1 := place_ok (Spt.base1 (x := x) (y := y) y0) (by omega)
  have s9 : rT (envR a8 b c8 r x y V k0 k1 p0 p1 (some ⟨.p, .int 1⟩) v7) = .ret ⟨.p, .bl true⟩ (envR a8 b c8 r x y V k0 k1 p0 p1 (some ⟨.p, .int 1⟩) v7) := by
    have pi0' : G_place [⟨.p, .int x⟩, ⟨.p, .int 0⟩] = .ret ⟨.p, .int 0⟩ [.int x, .int 0] := pi0
    have pi1' : G_place [⟨.p, .int y⟩, ⟨.p, .int 1⟩] = .ret ⟨.p, .int 1⟩ [.int y, .int 1] := pi1
    rcases hv7 with rfl | ⟨d7, rfl⟩ <;> simp [a_bindR, a_bindS, a_opd, a_constE, a_varE, a_keepE, a_op1, a_op2, a_nilA, a_consA, a_callB, a_tupE, a_lstE, a_testV, a_andT, a_orT, a_notT, a_andV, a_orV, a_notV, a_ifE, a_seqS, a_ifS, a_setS, a_dropS, a_retS, a_retVarS, a_asgS, a_callE, a_callF, a_appK, a_forS, a_compE, a_seqI, a_rng1, a_rng2, a_methL, a_mutL, a_setIxS, a_noPt, a_somePt, a_sliceE, a_chainE, a_nameG, a_nilG, a_consG, a_tupG, a_dnewE, a_dputS, a_dgetE, a_callP, a_zipI, a_enumI, revG, itemsT, inG, maxG, zipD, enumD, defG, runDef, env0, En.sv, getL, Opd.get, pureO, pureL, callD, argL, argO, lentS, wbE, wb1, wbAt, endF, backD, pB, pI, nL, numG, cmpG, subG, addG, mulG, negG, isNG, ixG, itemsD, itemsL, lenG, listG, tupleG, sumG, allG, int1G, int2G, intG, isiG, tyD, appendK, popK, clearK, insertK, reverseK, extendK, countG, atI, ixN, eqG, intsOf, blsOf, wipeE, restE, tkeyD, keysD, keyD, kit_ii, kit_ib, kit_bi, kit_bb, kit_ll, kit_tt, kit_lt, kit_tl, kit_ti, kit_li, kit_ni, kit_si, kit_nt, kit_it, kit_st, kit_bt, a_raiseS, a_callZ, a_callPZ, a_dixE, a_dinE, a_parS, a_isxE, rT, envR, pi0', pi1', eqD_int]
  rw [seqS_nx s1, seqS_nx s2, seqS_nx s3, seqS_nx s4, seqS_nx s5, seqS_nx s6, seqS_nx s7, seqS_nx s8, s9]
  rfl
end My

namespace My
open PySem L2 DL
theorem cell_ok (ns : List Int) : ∃ z : Int, G__law_cell_at [⟨.p, .frl (ns.map D.int)⟩, ⟨.p, .int 0⟩] = .ret ⟨.p, .int z⟩ [.frl (ns.map D.int), .int 0] := by
  cases ns with
  | nil => exact ⟨0, by simp [a_bindR, a_bindS, a_opd, a_constE, a_varE, a_keepE, a_op1, a_op2, a_nilA, a_consA, a_callB, a_tupE, a_lstE, a_testV, a_andT, a_orT, a_notT, a_andV, a_orV, a_notV, a_ifE, a_seqS, a_ifS, a_setS, a_dropS, a_retS, a_retVarS, a_asgS, a_callE, a_callF, a_appK, a_forS, a_compE, a_seqI, a_rng1, a_rng2, a_methL, a_mutL, a_setIxS, a_noPt, a_somePt, a_sliceE, a_chainE, a_nameG, a_nilG, a_consG, a_tupG, a_dnewE, a_dputS, a_dgetE, a_callP, a_zipI, a_enumI, revG, itemsT, inG, maxG, zipD, enumD, defG, runDef, env0, En.sv, getL, Opd.get, pureO, pureL, callD, argL, argO, lentS, wbE, wb1, wbAt, endF, backD, pB, pI, nL, numG, cmpG, subG, addG, mulG, negG, isNG, ixG, itemsD, itemsL, lenG, listG, tupleG, sumG, allG, int1G, int2G, intG, isiG, tyD, appendK, popK, clearK, insertK, reverseK, extendK, countG, atI, ixN, eqG, intsOf, blsOf, wipeE, restE, tkeyD, keysD, keyD, kit_ii, kit_ib, kit_bi, kit_bb, kit_ll, kit_tt, kit_lt, kit_tl, kit_ti, kit_li, kit_ni, kit_si, kit_nt, kit_it, kit_st, kit_bt, a_raiseS, a_callZ, a_callPZ, a_dixE, a_dinE, a_parS, a_isxE, G__law_cell_at, m__law_cell_at]⟩
  | cons z r => exact ⟨z, by simp [a_bindR, a_bindS, a_opd, a_constE, a_varE, a_keepE, a_op1, a_op2, a_nilA, a_consA, a_callB, a_tupE, a_lstE, a_testV, a_andT, a_orT, a_notT, a_andV, a_orV, a_notV, a_ifE, a_seqS, a_ifS, a_setS, a_dropS, a_retS, a_retVarS, a_asgS, a_callE, a_callF, a_appK, a_forS, a_compE, a_seqI, a_rng1, a_rng2, a_methL, a_mutL, a_setIxS, a_noPt, a_somePt, a_sliceE, a_chainE, a_nameG, a_nilG, a_consG, a_tupG, a_dnewE, a_dputS, a_dgetE, a_callP, a_zipI, a_enumI, revG, itemsT, inG, maxG, zipD, enumD, defG, runDef, env0, En.sv, getL, Opd.get, pureO, pureL, callD, argL, argO, lentS, wbE, wb1, wbAt, endF, backD, pB, pI, nL, numG, cmpG, subG, addG, mulG, negG, isNG, ixG, itemsD, itemsL, lenG, listG, tupleG, sumG, allG, int1G, int2G, intG, isiG, tyD, appendK, popK, clearK, insertK, reverseK, extendK, countG, atI, ixN, eqG, intsOf, blsOf, wipeE, restE, tkeyD, keysD, keyD, kit_ii, kit_ib, kit_bi, kit_bb, kit_ll, kit_tt, kit_lt, kit_tl, kit_ti, kit_li, kit_ni, kit_si, kit_nt, kit_it, kit_st, kit_bt, a_raiseS, a_callZ, a_callPZ, a_dixE, a_dinE, a_parS, a_isxE, G__law_cell_at, m__law_cell_at]⟩
noncomputable def lBody : En → RS := (ifS (notT (testV (callF G__law_right (callE G__law_well (consA (varE 1) nilA))))) (retS (constE (.bl false))) .nx)
theorem lBody_ok (x0 : Option SV) (h0 : ∃ d, x0 = some ⟨.p, d⟩) (z : Int) : lBody [x0, some ⟨.p, .int z⟩] = .nx [x0, some ⟨.p, .int z⟩] := by
  obtain ⟨d, rfl⟩ := h0
  obtain ⟨a, b, e1⟩ := well_ok z
  obtain ⟨d, e2⟩ := right_ok a b 0
  simp [a_bindR, a_bindS, a_opd, a_constE, a_varE, a_keepE, a_op1, a_op2, a_nilA, a_consA, a_callB, a_tupE, a_lstE, a_testV, a_andT, a_orT, a_notT, a_andV, a_orV, a_notV, a_ifE, a_seqS, a_ifS, a_setS, a_dropS, a_retS, a_retVarS, a_asgS, a_callE, a_callF, a_appK, a_forS, a_compE, a_seqI, a_rng1, a_rng2, a_methL, a_mutL, a_setIxS, a_noPt, a_somePt, a_sliceE, a_chainE, a_nameG, a_nilG, a_consG, a_tupG, a_dnewE, a_dputS, a_dgetE, a_callP, a_zipI, a_enumI, revG, itemsT, inG, maxG, zipD, enumD, defG, runDef, env0, En.sv, getL, Opd.get, pureO, pureL, callD, argL, argO, lentS, wbE, wb1, wbAt, endF, backD, pB, pI, nL, numG, cmpG, subG, addG, mulG, negG, isNG, ixG, itemsD, itemsL, lenG, listG, tupleG, sumG, allG, int1G, int2G, intG, isiG, tyD, appendK, popK, clearK, insertK, reverseK, extendK, countG, atI, ixN, eqG, intsOf, blsOf, wipeE, restE, tkeyD, keysD, keyD, kit_ii, kit_ib, kit_bi, kit_bb, kit_ll, kit_tt, kit_lt, kit_tl, kit_ti, kit_li, kit_ni, kit_si, kit_nt, kit_it, kit_st, kit_bt, a_raiseS, a_callZ, a_callPZ, a_dixE, a_dinE, a_parS, a_isxE, lBody, e1, e2]
theorem cutD_ints (ns : List Int) (lo hi : Option Int) : ∃ ms : List Int, cutD (ns.map D.int) lo hi = ms.map D.int ∧ ms.length ≤ ns.length := by
  unfold cutD
  rw [List.length_map, ← List.map_drop, ← List.map_take]
  refine ⟨_, rfl, ?_⟩
  rw [List.length_take, List.length_drop]; omega
theorem law_ok (ns : List Int) (hl : ns.length ≤ 63) : G_law [⟨.p, .frl (ns.map D.int)⟩] = .ret ⟨.p, .bl true⟩ [.frl (ns.map D.int)] := by
  obtain ⟨z, e1⟩ := cell_ok ns
  obtain ⟨ms, e2, l2⟩ := cutD_ints ns (some 1) (some 10)
  have hz : ms.length + 1 ≤ 100000 := by omega
  show (if [(⟨.p, .frl (ns.map D.int)⟩ : SV)].length = 1 then runDef 2 m_law [⟨.p, .frl (ns.map D.int)⟩] else .stuck) = _
  rw [if_pos (show [(⟨.p, .frl (ns.map D.int)⟩ : SV)].length = 1 from rfl)]
  unfold runDef m_law
  have src : seqI (opd (op2 addG (opd (lstE (consA (opd (callE G__law_cell_at (consA (varE 0) (consA (opd (constE (.int 0))) nilA)))) nilA))) (opd (sliceE (varE 0) (somePt (opd (constE (.int 1)))) (somePt (opd (constE (.int 10)))))))) (env0 2 [⟨.p, .frl (ns.map D.int)⟩]) = .ok ⟨(z :: ms).map D.int, none⟩ (env0 2 [⟨.p, .frl (ns.map D.int)⟩]) := by
    have hz' : 1 + ms.length ≤ 100000 := by omega
    simp [a_bindR, a_bindS, a_opd, a_constE, a_varE, a_keepE, a_op1, a_op2, a_nilA, a_consA, a_callB, a_tupE, a_lstE, a_testV, a_andT, a_orT, a_notT, a_andV, a_orV, a_notV, a_ifE, a_seqS, a_ifS, a_setS, a_dropS, a_retS, a_retVarS, a_asgS, a_callE, a_callF, a_appK, a_forS, a_compE, a_seqI, a_rng1, a_rng2, a_methL, a_mutL, a_setIxS, a_noPt, a_somePt, a_sliceE, a_chainE, a_nameG, a_nilG, a_consG, a_tupG, a_dnewE, a_dputS, a_dgetE, a_callP, a_zipI, a_enumI, revG, itemsT, inG, maxG, zipD, enumD, defG, runDef, env0, En.sv, getL, Opd.get, pureO, pureL, callD, argL, argO, lentS, wbE, wb1, wbAt, endF, backD, pB, pI, nL, numG, cmpG, subG, addG, mulG, negG, isNG, ixG, itemsD, itemsL, lenG, listG, tupleG, sumG, allG, int1G, int2G, intG, isiG, tyD, appendK, popK, clearK, insertK, reverseK, extendK, countG, atI, ixN, eqG, intsOf, blsOf, wipeE, restE, tkeyD, keysD, keyD, kit_ii, kit_ib, kit_bi, kit_bb, kit_ll, kit_tt, kit_lt, kit_tl, kit_ti, kit_li, kit_ni, kit_si, kit_nt, kit_it, kit_st, kit_bt, a_raiseS, a_callZ, a_callPZ, a_dixE, a_dinE, a_parS, a_isxE, e1, e2, hz']
  have lp : ∃ x1, loopS ⟨(z :: ms).map D.int, none⟩ (nameG 1) lBody ((z :: ms).map D.int) (env0 2 [⟨.p, .frl (ns.map D.int)⟩]) = .nx [some ⟨.p, .frl (ns.map D.int)⟩, x1] := by
    obtain ⟨e2, g1, x1, g2, _⟩ := loopS_inv (s := ⟨(z :: ms).map D.int, none⟩) (asg := nameG 1) (body := lBody) (e' := fun _ => True) (fun ds e => ∃ x1, e = [some ⟨.p, .frl (ns.map D.int)⟩, x1] ∧ ∀ d ∈ ds, ∃ q : Int, d = .int q) ((z :: ms).map D.int) (env0 2 [⟨.p, .frl (ns.map D.int)⟩]) ⟨none, rfl, fun d hd => by
      obtain ⟨q, _, rfl⟩ := List.mem_map.mp hd
      exact ⟨q, rfl⟩⟩ (fun _ _ _ => trivial) (by
        rintro d ds e ⟨x1, rfl, hq⟩
        obtain ⟨q, rfl⟩ := hq d List.mem_cons_self
        exact ⟨_, _, rfl, lBody_ok _ ⟨_, rfl⟩ q, _, rfl, fun d hd => hq d (List.mem_cons_of_mem _ hd)⟩)
    exact ⟨x1, by rw [g1, g2]⟩
  obtain ⟨x1, lp⟩ := lp
  rw [seqS_nx (e' := [some ⟨.p, .frl (ns.map D.int)⟩, x1]) (by rw [a_forS, bindS_ok src]; exact lp)]
  rfl
theorem law_end {K : PySem.W.Frag} {H : Hp} {a : Addr} {ns : List Int} (hl : ns.length ≤ 63) (hO : Only H) (hS : SqL K H a (ns.map V.int)) : spD0 K G_law [.ref a] H (fun v _ => v = .bl true) E0 := by
  refine ⟨[⟨.p, .frl (ns.map D.int)⟩], [], [], ⟨rfl, fun i sv e => ?_, fun i j si sj b ei ej ni nj e1 e2 => ?_, fun i sv e b => rfl, fun _ e => e, fun b z => by simp at z, fun b z => by simp at z, fun b z => by simp at z⟩, ?_⟩
  · match i, e with
    | 0, e =>
      cases e
      refine ⟨.ref a, rfl, .inl ⟨rfl, .frl ?_ (RpL.ints ns)⟩⟩
      rcases hS with h | h
      · exact .inl ⟨by simp, h⟩
      · exact .inr h
    | i + 1, e => simp [En.sv] at e
  · match i, ei with
    | 0, ei => cases ei; exact absurd rfl ni
    | i + 1, ei => simp [En.sv] at ei
  · rw [law_ok ns hl]
    intro v H' W' r s rv
    exact rV_bl rv rfl
end My

namespace My
open PySem L2 DL
def T_of {K : PySem.W.Frag} {h : Heap} {mg : Str → Option Value} (X : K.In h) (G : h.Ns mainGlobals mg)
    {f_is_from : Addr} {od_is_from an_is_from : Option Addr} {sl_is_from : Array (Option Value)} {oc_is_from kV_is_from dc_is_from pm_is_from cd_is_from ct_is_from : Value}
    {f_sure_rounds : Addr} {od_sure_rounds an_sure_rounds : Option Addr} {sl_sure_rounds : Array (Option Value)} {oc_sure_rounds kV_sure_rounds dc_sure_rounds pm_sure_rounds cd_sure_rounds ct_sure_rounds : Value}
    {f_is_weaving : Addr} {od_is_weaving an_is_weaving : Option Addr} {sl_is_weaving : Array (Option Value)} {oc_is_weaving kV_is_weaving dc_is_weaving pm_is_weaving cd_is_weaving ct_is_weaving : Value}
    {f_sure_weaving : Addr} {od_sure_weaving an_sure_weaving : Option Addr} {sl_sure_weaving : Array (Option Value)} {oc_sure_weaving kV_sure_weaving dc_sure_weaving pm_sure_weaving cd_sure_weaving ct_sure_weaving : Value}
    {f_known_behind : Addr} {od_known_behind an_known_behind : Option Addr} {sl_known_behind : Array (Option Value)} {oc_known_behind kV_known_behind dc_known_behind pm_known_behind cd_known_behind ct_known_behind : Value}
    {f_known : Addr} {od_known an_known : Option Addr} {sl_known : Array (Option Value)} {oc_known kV_known dc_known pm_known cd_known ct_known : Value}
    {f_sure_hand : Addr} {od_sure_hand an_sure_hand : Option Addr} {sl_sure_hand : Array (Option Value)} {oc_sure_hand kV_sure_hand dc_sure_hand pm_sure_hand cd_sure_hand ct_sure_hand : Value}
    {f_spot_of : Addr} {od_spot_of an_spot_of : Option Addr} {sl_spot_of : Array (Option Value)} {oc_spot_of kV_spot_of dc_spot_of pm_spot_of cd_spot_of ct_spot_of : Value}
    {f_fit : Addr} {od_fit an_fit : Option Addr} {sl_fit : Array (Option Value)} {oc_fit kV_fit dc_fit pm_fit cd_fit ct_fit : Value}
    {f_both_of : Addr} {od_both_of an_both_of : Option Addr} {sl_both_of : Array (Option Value)} {oc_both_of kV_both_of dc_both_of pm_both_of cd_both_of ct_both_of : Value}
    {f_place : Addr} {od_place an_place : Option Addr} {sl_place : Array (Option Value)} {oc_place kV_place dc_place pm_place cd_place ct_place : Value}
    {f__law_cell_at : Addr} {od__law_cell_at an__law_cell_at : Option Addr} {sl__law_cell_at : Array (Option Value)} {oc__law_cell_at kV__law_cell_at dc__law_cell_at pm__law_cell_at cd__law_cell_at ct__law_cell_at : Value}
    {f__law_well : Addr} {od__law_well an__law_well : Option Addr} {sl__law_well : Array (Option Value)} {oc__law_well kV__law_well dc__law_well pm__law_well cd__law_well ct__law_well : Value}
    {f__law_draw : Addr} {od__law_draw an__law_draw : Option Addr} {sl__law_draw : Array (Option Value)} {oc__law_draw kV__law_draw dc__law_draw pm__law_draw cd__law_draw ct__law_draw : Value}
    {f__law_one : Addr} {od__law_one an__law_one : Option Addr} {sl__law_one : Array (Option Value)} {oc__law_one kV__law_one dc__law_one pm__law_one cd__law_one ct__law_one : Value}
    {f__law_power : Addr} {od__law_power an__law_power : Option Addr} {sl__law_power : Array (Option Value)} {oc__law_power kV__law_power dc__law_power pm__law_power cd__law_power ct__law_power : Value}
    {f__law_weaving : Addr} {od__law_weaving an__law_weaving : Option Addr} {sl__law_weaving : Array (Option Value)} {oc__law_weaving kV__law_weaving dc__law_weaving pm__law_weaving cd__law_weaving ct__law_weaving : Value}
    {f__law_places : Addr} {od__law_places an__law_places : Option Addr} {sl__law_places : Array (Option Value)} {oc__law_places kV__law_places dc__law_places pm__law_places cd__law_places ct__law_places : Value}
    {f__law_told : Addr} {od__law_told an__law_told : Option Addr} {sl__law_told : Array (Option Value)} {oc__law_told kV__law_told dc__law_told pm__law_told cd__law_told ct__law_told : Value}
    {f__law_mixed_right : Addr} {od__law_mixed_right an__law_mixed_right : Option Addr} {sl__law_mixed_right : Array (Option Value)} {oc__law_mixed_right kV__law_mixed_right dc__law_mixed_right pm__law_mixed_right cd__law_mixed_right ct__law_mixed_right : Value}
    {f__law_right : Addr} {od__law_right an__law_right : Option Addr} {sl__law_right : Array (Option Value)} {oc__law_right kV__law_right dc__law_right pm__law_right cd__law_right ct__law_right : Value}
    {f_law : Addr} {od_law an_law : Option Addr} {sl_law : Array (Option Value)} {oc_law kV_law dc_law pm_law cd_law ct_law : Value}
    {p_HANDS : Addr} {od_HANDS : Option Addr} {sl_HANDS : Array (Option Value)} {n_HANDS : Nat} {t_HANDS_0 t_HANDS_1 : Tok}
    {t_MOST_ROUNDS : Tok}
    {p_NoHand : Addr}
    {p_NoKnown : Addr}
    (A_is_from : PySem.W.nsIn K mainGlobals "is_from" = some (some (.ref f_is_from))) (L_is_from : K.lookup f_is_from = some ⟨oc_is_from, od_is_from, .func (PySem.W.fnOf "is_from" "is_from" (defArgs s_is_from) (defBody s_is_from) (defScope s_is_from) .none kV_is_from dc_is_from pm_is_from an_is_from cd_is_from ct_is_from), sl_is_from⟩) (C_is_from : PySem.W.codeIn K cd_is_from "is_from" = true) (D_is_from : PySem.W.keepIn K (.ref f_is_from) = true)
    (A_sure_rounds : PySem.W.nsIn K mainGlobals "sure_rounds" = some (some (.ref f_sure_rounds))) (L_sure_rounds : K.lookup f_sure_rounds = some ⟨oc_sure_rounds, od_sure_rounds, .func (PySem.W.fnOf "sure_rounds" "sure_rounds" (defArgs s_sure_rounds) (defBody s_sure_rounds) (defScope s_sure_rounds) .none kV_sure_rounds dc_sure_rounds pm_sure_rounds an_sure_rounds cd_sure_rounds ct_sure_rounds), sl_sure_rounds⟩) (C_sure_rounds : PySem.W.codeIn K cd_sure_rounds "sure_rounds" = true) (D_sure_rounds : PySem.W.keepIn K (.ref f_sure_rounds) = true)
    (A_is_weaving : PySem.W.nsIn K mainGlobals "is_weaving" = some (some (.ref f_is_weaving))) (L_is_weaving : K.lookup f_is_weaving = some ⟨oc_is_weaving, od_is_weaving, .func (PySem.W.fnOf "is_weaving" "is_weaving" (defArgs s_is_weaving) (defBody s_is_weaving) (defScope s_is_weaving) .none kV_is_weaving dc_is_weaving pm_is_weaving an_is_weaving cd_is_weaving ct_is_weaving), sl_is_weaving⟩) (C_is_weaving : PySem.W.codeIn K cd_is_weaving "is_weaving" = true) (D_is_weaving : PySem.W.keepIn K (.ref f_is_weaving) = true)
    (A_sure_weaving : PySem.W.nsIn K mainGlobals "sure_weaving" = some (some (.ref f_sure_weaving))) (L_sure_weaving : K.lookup f_sure_weaving = some ⟨oc_sure_weaving, od_sure_weaving, .func (PySem.W.fnOf "sure_weaving" "sure_weaving" (defArgs s_sure_weaving) (defBody s_sure_weaving) (defScope s_sure_weaving) .none kV_sure_weaving dc_sure_weaving pm_sure_weaving an_sure_weaving cd_sure_weaving ct_sure_weaving), sl_sure_weaving⟩) (C_sure_weaving : PySem.W.codeIn K cd_sure_weaving "sure_weaving" = true) (D_sure_weaving : PySem.W.keepIn K (.ref f_sure_weaving) = true)
    (A_known_behind : PySem.W.nsIn K mainGlobals "known_behind" = some (some (.ref f_known_behind))) (L_known_behind : K.lookup f_known_behind = some ⟨oc_known_behind, od_known_behind, .func (PySem.W.fnOf "known_behind" "known_behind" (defArgs s_known_behind) (defBody s_known_behind) (defScope s_known_behind) .none kV_known_behind dc_known_behind pm_known_behind an_known_behind cd_known_behind ct_known_behind), sl_known_behind⟩) (C_known_behind : PySem.W.codeIn K cd_known_behind "known_behind" = true) (D_known_behind : PySem.W.keepIn K (.ref f_known_behind) = true)
    (A_known : PySem.W.nsIn K mainGlobals "known" = some (some (.ref f_known))) (L_known : K.lookup f_known = some ⟨oc_known, od_known, .func (PySem.W.fnOf "known" "known" (defArgs s_known) (defBody s_known) (defScope s_known) .none kV_known dc_known pm_known an_known cd_known ct_known), sl_known⟩) (C_known : PySem.W.codeIn K cd_known "known" = true) (D_known : PySem.W.keepIn K (.ref f_known) = true)
    (A_sure_hand : PySem.W.nsIn K mainGlobals "sure_hand" = some (some (.ref f_sure_hand))) (L_sure_hand : K.lookup f_sure_hand = some ⟨oc_sure_hand, od_sure_hand, .func (PySem.W.fnOf "sure_hand" "sure_hand" (defArgs s_sure_hand) (defBody s_sure_hand) (defScope s_sure_hand) .none kV_sure_hand dc_sure_hand pm_sure_hand an_sure_hand cd_sure_hand ct_sure_hand), sl_sure_hand⟩) (C_sure_hand : PySem.W.codeIn K cd_sure_hand "sure_hand" = true) (D_sure_hand : PySem.W.keepIn K (.ref f_sure_hand) = true)
    (A_spot_of : PySem.W.nsIn K mainGlobals "spot_of" = some (some (.ref f_spot_of))) (L_spot_of : K.lookup f_spot_of = some ⟨oc_spot_of, od_spot_of, .func (PySem.W.fnOf "spot_of" "spot_of" (defArgs s_spot_of) (defBody s_spot_of) (defScope s_spot_of) .none kV_spot_of dc_spot_of pm_spot_of an_spot_of cd_spot_of ct_spot_of), sl_spot_of⟩) (C_spot_of : PySem.W.codeIn K cd_spot_of "spot_of" = true) (D_spot_of : PySem.W.keepIn K (.ref f_spot_of) = true)
    (A_fit : PySem.W.nsIn K mainGlobals "fit" = some (some (.ref f_fit))) (L_fit : K.lookup f_fit = some ⟨oc_fit, od_fit, .func (PySem.W.fnOf "fit" "fit" (defArgs s_fit) (defBody s_fit) (defScope s_fit) .none kV_fit dc_fit pm_fit an_fit cd_fit ct_fit), sl_fit⟩) (C_fit : PySem.W.codeIn K cd_fit "fit" = true) (D_fit : PySem.W.keepIn K (.ref f_fit) = true)
    (A_both_of : PySem.W.nsIn K mainGlobals "both_of" = some (some (.ref f_both_of))) (L_both_of : K.lookup f_both_of = some ⟨oc_both_of, od_both_of, .func (PySem.W.fnOf "both_of" "both_of" (defArgs s_both_of) (defBody s_both_of) (defScope s_both_of) .none kV_both_of dc_both_of pm_both_of an_both_of cd_both_of ct_both_of), sl_both_of⟩) (C_both_of : PySem.W.codeIn K cd_both_of "both_of" = true) (D_both_of : PySem.W.keepIn K (.ref f_both_of) = true)
    (A_place : PySem.W.nsIn K mainGlobals "place" = some (some (.ref f_place))) (L_place : K.lookup f_place = some ⟨oc_place, od_place, .func (PySem.W.fnOf "place" "place" (defArgs s_place) (defBody s_place) (defScope s_place) .none kV_place dc_place pm_place an_place cd_place ct_place), sl_place⟩) (C_place : PySem.W.codeIn K cd_place "place" = true) (D_place : PySem.W.keepIn K (.ref f_place) = true)
    (A__law_cell_at : PySem.W.nsIn K mainGlobals "_law_cell_at" = some (some (.ref f__law_cell_at))) (L__law_cell_at : K.lookup f__law_cell_at = some ⟨oc__law_cell_at, od__law_cell_at, .func (PySem.W.fnOf "_law_cell_at" "_law_cell_at" (defArgs s__law_cell_at) (defBody s__law_cell_at) (defScope s__law_cell_at) .none kV__law_cell_at dc__law_cell_at pm__law_cell_at an__law_cell_at cd__law_cell_at ct__law_cell_at), sl__law_cell_at⟩) (C__law_cell_at : PySem.W.codeIn K cd__law_cell_at "_law_cell_at" = true) (D__law_cell_at : PySem.W.keepIn K (.ref f__law_cell_at) = true)
    (A__law_well : PySem.W.nsIn K mainGlobals "_law_well" = some (some (.ref f__law_well))) (L__law_well : K.lookup f__law_well = some ⟨oc__law_well, od__law_well, .func (PySem.W.fnOf "_law_well" "_law_well" (defArgs s__law_well) (defBody s__law_well) (defScope s__law_well) .none kV__law_well dc__law_well pm__law_well an__law_well cd__law_well ct__law_well), sl__law_well⟩) (C__law_well : PySem.W.codeIn K cd__law_well "_law_well" = true) (D__law_well : PySem.W.keepIn K (.ref f__law_well) = true)
    (A__law_draw : PySem.W.nsIn K mainGlobals "_law_draw" = some (some (.ref f__law_draw))) (L__law_draw : K.lookup f__law_draw = some ⟨oc__law_draw, od__law_draw, .func (PySem.W.fnOf "_law_draw" "_law_draw" (defArgs s__law_draw) (defBody s__law_draw) (defScope s__law_draw) .none kV__law_draw dc__law_draw pm__law_draw an__law_draw cd__law_draw ct__law_draw), sl__law_draw⟩) (C__law_draw : PySem.W.codeIn K cd__law_draw "_law_draw" = true) (D__law_draw : PySem.W.keepIn K (.ref f__law_draw) = true)
    (A__law_one : PySem.W.nsIn K mainGlobals "_law_one" = some (some (.ref f__law_one))) (L__law_one : K.lookup f__law_one = some ⟨oc__law_one, od__law_one, .func (PySem.W.fnOf "_law_one" "_law_one" (defArgs s__law_one) (defBody s__law_one) (defScope s__law_one) .none kV__law_one dc__law_one pm__law_one an__law_one cd__law_one ct__law_one), sl__law_one⟩) (C__law_one : PySem.W.codeIn K cd__law_one "_law_one" = true) (D__law_one : PySem.W.keepIn K (.ref f__law_one) = true)
    (A__law_power : PySem.W.nsIn K mainGlobals "_law_power" = some (some (.ref f__law_power))) (L__law_power : K.lookup f__law_power = some ⟨oc__law_power, od__law_power, .func (PySem.W.fnOf "_law_power" "_law_power" (defArgs s__law_power) (defBody s__law_power) (defScope s__law_power) .none kV__law_power dc__law_power pm__law_power an__law_power cd__law_power ct__law_power), sl__law_power⟩) (C__law_power : PySem.W.codeIn K cd__law_power "_law_power" = true) (D__law_power : PySem.W.keepIn K (.ref f__law_power) = true)
    (A__law_weaving : PySem.W.nsIn K mainGlobals "_law_weaving" = some (some (.ref f__law_weaving))) (L__law_weaving : K.lookup f__law_weaving = some ⟨oc__law_weaving, od__law_weaving, .func (PySem.W.fnOf "_law_weaving" "_law_weaving" (defArgs s__law_weaving) (defBody s__law_weaving) (defScope s__law_weaving) .none kV__law_weaving dc__law_weaving pm__law_weaving an__law_weaving cd__law_weaving ct__law_weaving), sl__law_weaving⟩) (C__law_weaving : PySem.W.codeIn K cd__law_weaving "_law_weaving" = true) (D__law_weaving : PySem.W.keepIn K (.ref f__law_weaving) = true)
    (A__law_places : PySem.W.nsIn K mainGlobals "_law_places" = some (some (.ref f__law_places))) (L__law_places : K.lookup f__law_places = some ⟨oc__law_places, od__law_places, .func (PySem.W.fnOf "_law_places" "_law_places" (defArgs s__law_places) (defBody s__law_places) (defScope s__law_places) .none kV__law_places dc__law_places pm__law_places an__law_places cd__law_places ct__law_places), sl__law_places⟩) (C__law_places : PySem.W.codeIn K cd__law_places "_law_places" = true) (D__law_places : PySem.W.keepIn K (.ref f__law_places) = true)
    (A__law_told : PySem.W.nsIn K mainGlobals "_law_told" = some (some (.ref f__law_told))) (L__law_told : K.lookup f__law_told = some ⟨oc__law_told, od__law_told, .func (PySem.W.fnOf "_law_told" "_law_told" (defArgs s__law_told) (defBody s__law_told) (defScope s__law_told) .none kV__law_told dc__law_told pm__law_told an__law_told cd__law_told ct__law_told), sl__law_told⟩) (C__law_told : PySem.W.codeIn K cd__law_told "_law_told" = true) (D__law_told : PySem.W.keepIn K (.ref f__law_told) = true)
    (A__law_mixed_right : PySem.W.nsIn K mainGlobals "_law_mixed_right" = some (some (.ref f__law_mixed_right))) (L__law_mixed_right : K.lookup f__law_mixed_right = some ⟨oc__law_mixed_right, od__law_mixed_right, .func (PySem.W.fnOf "_law_mixed_right" "_law_mixed_right" (defArgs s__law_mixed_right) (defBody s__law_mixed_right) (defScope s__law_mixed_right) .none kV__law_mixed_right dc__law_mixed_right pm__law_mixed_right an__law_mixed_right cd__law_mixed_right ct__law_mixed_right), sl__law_mixed_right⟩) (C__law_mixed_right : PySem.W.codeIn K cd__law_mixed_right "_law_mixed_right" = true) (D__law_mixed_right : PySem.W.keepIn K (.ref f__law_mixed_right) = true)
    (A__law_right : PySem.W.nsIn K mainGlobals "_law_right" = some (some (.ref f__law_right))) (L__law_right : K.lookup f__law_right = some ⟨oc__law_right, od__law_right, .func (PySem.W.fnOf "_law_right" "_law_right" (defArgs s__law_right) (defBody s__law_right) (defScope s__law_right) .none kV__law_right dc__law_right pm__law_right an__law_right cd__law_right ct__law_right), sl__law_right⟩) (C__law_right : PySem.W.codeIn K cd__law_right "_law_right" = true) (D__law_right : PySem.W.keepIn K (.ref f__law_right) = true)
    (A_law : PySem.W.nsIn K mainGlobals "law" = some (some (.ref f_law))) (L_law : K.lookup f_law = some ⟨oc_law, od_law, .func (PySem.W.fnOf "law" "law" (defArgs s_law) (defBody s_law) (defScope s_law) .none kV_law dc_law pm_law an_law cd_law ct_law), sl_law⟩) (C_law : PySem.W.codeIn K cd_law "law" = true) (D_law : PySem.W.keepIn K (.ref f_law) = true)
    (Z_ValueError : PySem.W.nsIn K mainGlobals "ValueError" = some none)
    (Z_abs : PySem.W.nsIn K mainGlobals "abs" = some none)
    (Z_all : PySem.W.nsIn K mainGlobals "all" = some none)
    (Z_bool : PySem.W.nsIn K mainGlobals "bool" = some none)
    (Z_int : PySem.W.nsIn K mainGlobals "int" = some none)
    (Z_isinstance : PySem.W.nsIn K mainGlobals "isinstance" = some none)
    (Z_len : PySem.W.nsIn K mainGlobals "len" = some none)
    (Z_list : PySem.W.nsIn K mainGlobals "list" = some none)
    (Z_min : PySem.W.nsIn K mainGlobals "min" = some none)
    (Z_range : PySem.W.nsIn K mainGlobals "range" = some none)
    (Z_sum : PySem.W.nsIn K mainGlobals "sum" = some none)
    (Z_tuple : PySem.W.nsIn K mainGlobals "tuple" = some none)
    (Z_zip : PySem.W.nsIn K mainGlobals "zip" = some none)
    (Z_HANDS : PySem.W.nsIn K mainGlobals "HANDS" = some (some (.ref p_HANDS))) (Y_HANDS : K.lookup p_HANDS = some ⟨.type "tuple", od_HANDS, .seq #[Value.int 0 t_HANDS_0, Value.int 1 t_HANDS_1] n_HANDS, sl_HANDS⟩)
    (Z_MOST_ROUNDS : PySem.W.nsIn K mainGlobals "MOST_ROUNDS" = some (some (Value.int 5 t_MOST_ROUNDS)))
    (A_NoHand : PySem.W.nsIn K mainGlobals "NoHand" = some (some (.ref p_NoHand)))
    (X_NoHand : PySem.W.excIn K p_NoHand [.type "ValueError", .type "Exception", .type "BaseException", .type "object"] "ValueError.__new__" = true)
    (K_NoHand : PySem.W.keepIn K (.ref p_NoHand) = true)
    (S_NoHand : PySem.W.subIn K (.ref p_NoHand) (.type "BaseException") = some true)
    (T_NoHand : PySem.W.typeIn K (.ref p_NoHand) = some (.type "type"))
    (A_NoKnown : PySem.W.nsIn K mainGlobals "NoKnown" = some (some (.ref p_NoKnown)))
    (X_NoKnown : PySem.W.excIn K p_NoKnown [.type "ValueError", .type "Exception", .type "BaseException", .type "object"] "ValueError.__new__" = true)
    (K_NoKnown : PySem.W.keepIn K (.ref p_NoKnown) = true)
    (S_NoKnown : PySem.W.subIn K (.ref p_NoKnown) (.type "BaseException") = some true)
    (T_NoKnown : PySem.W.typeIn K (.ref p_NoKnown) = some (.type "type"))
    (Ea_NoKnown : PySem.W.findIn K (.ref p_NoKnown) "__getattribute__" = some (some (.builtin "BaseException.__getattribute__")))
    (Eb_NoKnown : PySem.W.findIn K (.ref p_NoKnown) "__getattr__" = some none)
    (Ec_NoKnown : PySem.W.hasDictIn K p_NoKnown = true)
    (Ed_NoKnown : PySem.W.findIn K (.ref p_NoKnown) "__class__" = some (some (.builtin "object.__class__")))
    (Ee_NoKnown : PySem.W.specialIn K (.builtin "object.__class__") "__get__" = some (some (.builtin "getset_descriptor.__get__")))
    (Ef_NoKnown : PySem.W.takesIn K (.builtin "object.__class__") = some true)
    (Eg_NoKnown : PySem.W.mroIn K p_NoKnown (.type "object") = some true)
    (I_NoHand : PySem.W.isClsIn K p_NoHand = true)
    (I_NoKnown : PySem.W.isClsIn K p_NoKnown = true)
    (U_NoKnown_NoHand : PySem.W.subIn K (.ref p_NoKnown) (.ref p_NoHand) = some false)
    (U_NoKnown_NoKnown : PySem.W.subIn K (.ref p_NoKnown) (.ref p_NoKnown) = some true)
    (U_NoKnown_ValueError : PySem.W.subIn K (.ref p_NoKnown) (.type "ValueError") = some true)
    (V_NoKnown_NoHand : p_NoKnown ≠ p_NoHand) : Txt K mg where
  a_is_from := f_is_from
  fd_is_from := PySem.W.fnOf "is_from" "is_from" (defArgs s_is_from) (defBody s_is_from) (defScope s_is_from) .none kV_is_from dc_is_from pm_is_from an_is_from cd_is_from ct_is_from
  F_is_from := fun_mk L_is_from C_is_from D_is_from
  g_is_from := PySem.W.mg_of X G A_is_from
  b_is_from := (fun_mk (st := s_is_from) L_is_from C_is_from D_is_from).binds fun _ _ _ _ _ _ us hl => match us, hl with | [_, _, _], _ => rfl
  a_sure_rounds := f_sure_rounds
  fd_sure_rounds := PySem.W.fnOf "sure_rounds" "sure_rounds" (defArgs s_sure_rounds) (defBody s_sure_rounds) (defScope s_sure_rounds) .none kV_sure_rounds dc_sure_rounds pm_sure_rounds an_sure_rounds cd_sure_rounds ct_sure_rounds
  F_sure_rounds := fun_mk L_sure_rounds C_sure_rounds D_sure_rounds
  g_sure_rounds := PySem.W.mg_of X G A_sure_rounds
  b_sure_rounds := (fun_mk (st := s_sure_rounds) L_sure_rounds C_sure_rounds D_sure_rounds).binds fun _ _ _ _ _ _ us hl => match us, hl with | [_, _], _ => rfl
  a_is_weaving := f_is_weaving
  fd_is_weaving := PySem.W.fnOf "is_weaving" "is_weaving" (defArgs s_is_weaving) (defBody s_is_weaving) (defScope s_is_weaving) .none kV_is_weaving dc_is_weaving pm_is_weaving an_is_weaving cd_is_weaving ct_is_weaving
  F_is_weaving := fun_mk L_is_weaving C_is_weaving D_is_weaving
  g_is_weaving := PySem.W.mg_of X G A_is_weaving
  b_is_weaving := (fun_mk (st := s_is_weaving) L_is_weaving C_is_weaving D_is_weaving).binds fun _ _ _ _ _ _ us hl => match us, hl with | [_, _], _ => rfl
  a_sure_weaving := f_sure_weaving
  fd_sure_weaving := PySem.W.fnOf "sure_weaving" "sure_weaving" (defArgs s_sure_weaving) (defBody s_sure_weaving) (defScope s_sure_weaving) .none kV_sure_weaving dc_sure_weaving pm_sure_weaving an_sure_weaving cd_sure_weaving ct_sure_weaving
  F_sure_weaving := fun_mk L_sure_weaving C_sure_weaving D_sure_weaving
  g_sure_weaving := PySem.W.mg_of X G A_sure_weaving
  b_sure_weaving := (fun_mk (st := s_sure_weaving) L_sure_weaving C_sure_weaving D_sure_weaving).binds fun _ _ _ _ _ _ us hl => match us, hl with | [_, _], _ => rfl
  a_known_behind := f_known_behind
  fd_known_behind := PySem.W.fnOf "known_behind" "known_behind" (defArgs s_known_behind) (defBody s_known_behind) (defScope s_known_behind) .none kV_known_behind dc_known_behind pm_known_behind an_known_behind cd_known_behind ct_known_behind
  F_known_behind := fun_mk L_known_behind C_known_behind D_known_behind
  g_known_behind := PySem.W.mg_of X G A_known_behind
  b_known_behind := (fun_mk (st := s_known_behind) L_known_behind C_known_behind D_known_behind).binds fun _ _ _ _ _ _ us hl => match us, hl with | [_, _, _], _ => rfl
  a_known := f_known
  fd_known := PySem.W.fnOf "known" "known" (defArgs s_known) (defBody s_known) (defScope s_known) .none kV_known dc_known pm_known an_known cd_known ct_known
  F_known := fun_mk L_known C_known D_known
  g_known := PySem.W.mg_of X G A_known
  a_sure_hand := f_sure_hand
  fd_sure_hand := PySem.W.fnOf "sure_hand" "sure_hand" (defArgs s_sure_hand) (defBody s_sure_hand) (defScope s_sure_hand) .none kV_sure_hand dc_sure_hand pm_sure_hand an_sure_hand cd_sure_hand ct_sure_hand
  F_sure_hand := fun_mk L_sure_hand C_sure_hand D_sure_hand
  g_sure_hand := PySem.W.mg_of X G A_sure_hand
  b_sure_hand := (fun_mk (st := s_sure_hand) L_sure_hand C_sure_hand D_sure_hand).binds fun _ _ _ _ _ _ us hl => match us, hl with | [_], _ => rfl
  a_spot_of := f_spot_of
  fd_spot_of := PySem.W.fnOf "spot_of" "spot_of" (defArgs s_spot_of) (defBody s_spot_of) (defScope s_spot_of) .none kV_spot_of dc_spot_of pm_spot_of an_spot_of cd_spot_of ct_spot_of
  F_spot_of := fun_mk L_spot_of C_spot_of D_spot_of
  g_spot_of := PySem.W.mg_of X G A_spot_of
  b_spot_of := (fun_mk (st := s_spot_of) L_spot_of C_spot_of D_spot_of).binds fun _ _ _ _ _ _ us hl => match us, hl with | [_, _, _], _ => rfl
  a_fit := f_fit
  fd_fit := PySem.W.fnOf "fit" "fit" (defArgs s_fit) (defBody s_fit) (defScope s_fit) .none kV_fit dc_fit pm_fit an_fit cd_fit ct_fit
  F_fit := fun_mk L_fit C_fit D_fit
  g_fit := PySem.W.mg_of X G A_fit
  b_fit := (fun_mk (st := s_fit) L_fit C_fit D_fit).binds fun _ _ _ _ _ _ us hl => match us, hl with | [_, _], _ => rfl
  a_both_of := f_both_of
  fd_both_of := PySem.W.fnOf "both_of" "both_of" (defArgs s_both_of) (defBody s_both_of) (defScope s_both_of) .none kV_both_of dc_both_of pm_both_of an_both_of cd_both_of ct_both_of
  F_both_of := fun_mk L_both_of C_both_of D_both_of
  g_both_of := PySem.W.mg_of X G A_both_of
  b_both_of := (fun_mk (st := s_both_of) L_both_of C_both_of D_both_of).binds fun _ _ _ _ _ _ us hl => match us, hl with | [_, _], _ => rfl
  a_place := f_place
  fd_place := PySem.W.fnOf "place" "place" (defArgs s_place) (defBody s_place) (defScope s_place) .none kV_place dc_place pm_place an_place cd_place ct_place
  F_place := fun_mk L_place C_place D_place
  g_place := PySem.W.mg_of X G A_place
  b_place := (fun_mk (st := s_place) L_place C_place D_place).binds fun _ _ _ _ _ _ us hl => match us, hl with | [_, _], _ => rfl
  a__law_cell_at := f__law_cell_at
  fd__law_cell_at := PySem.W.fnOf "_law_cell_at" "_law_cell_at" (defArgs s__law_cell_at) (defBody s__law_cell_at) (defScope s__law_cell_at) .none kV__law_cell_at dc__law_cell_at pm__law_cell_at an__law_cell_at cd__law_cell_at ct__law_cell_at
  F__law_cell_at := fun_mk L__law_cell_at C__law_cell_at D__law_cell_at
  g__law_cell_at := PySem.W.mg_of X G A__law_cell_at
  b__law_cell_at := (fun_mk (st := s__law_cell_at) L__law_cell_at C__law_cell_at D__law_cell_at).binds fun _ _ _ _ _ _ us hl => match us, hl with | [_, _], _ => rfl
  a__law_well := f__law_well
  fd__law_well := PySem.W.fnOf "_law_well" "_law_well" (defArgs s__law_well) (defBody s__law_well) (defScope s__law_well) .none kV__law_well dc__law_well pm__law_well an__law_well cd__law_well ct__law_well
  F__law_well := fun_mk L__law_well C__law_well D__law_well
  g__law_well := PySem.W.mg_of X G A__law_well
  b__law_well := (fun_mk (st := s__law_well) L__law_well C__law_well D__law_well).binds fun _ _ _ _ _ _ us hl => match us, hl with | [_], _ => rfl
  a__law_draw := f__law_draw
  fd__law_draw := PySem.W.fnOf "_law_draw" "_law_draw" (defArgs s__law_draw) (defBody s__law_draw) (defScope s__law_draw) .none kV__law_draw dc__law_draw pm__law_draw an__law_draw cd__law_draw ct__law_draw
  F__law_draw := fun_mk L__law_draw C__law_draw D__law_draw
  g__law_draw := PySem.W.mg_of X G A__law_draw
  b__law_draw := (fun_mk (st := s__law_draw) L__law_draw C__law_draw D__law_draw).binds fun _ _ _ _ _ _ us hl => match us, hl with | [_, _], _ => rfl
  a__law_one := f__law_one
  fd__law_one := PySem.W.fnOf "_law_one" "_law_one" (defArgs s__law_one) (defBody s__law_one) (defScope s__law_one) .none kV__law_one dc__law_one pm__law_one an__law_one cd__law_one ct__law_one
  F__law_one := fun_mk L__law_one C__law_one D__law_one
  g__law_one := PySem.W.mg_of X G A__law_one
  b__law_one := (fun_mk (st := s__law_one) L__law_one C__law_one D__law_one).binds fun _ _ _ _ _ _ us hl => match us, hl with | [_, _], _ => rfl
  a__law_power := f__law_power
  fd__law_power := PySem.W.fnOf "_law_power" "_law_power" (defArgs s__law_power) (defBody s__law_power) (defScope s__law_power) .none kV__law_power dc__law_power pm__law_power an__law_power cd__law_power ct__law_power
  F__law_power := fun_mk L__law_power C__law_power D__law_power
  g__law_power := PySem.W.mg_of X G A__law_power
  b__law_power := (fun_mk (st := s__law_power) L__law_power C__law_power D__law_power).binds fun _ _ _ _ _ _ us hl => match us, hl with | [_], _ => rfl
  a__law_weaving := f__law_weaving
  fd__law_weaving := PySem.W.fnOf "_law_weaving" "_law_weaving" (defArgs s__law_weaving) (defBody s__law_weaving) (defScope s__law_weaving) .none kV__law_weaving dc__law_weaving pm__law_weaving an__law_weaving cd__law_weaving ct__law_weaving
  F__law_weaving := fun_mk L__law_weaving C__law_weaving D__law_weaving
  g__law_weaving := PySem.W.mg_of X G A__law_weaving
  b__law_weaving := (fun_mk (st := s__law_weaving) L__law_weaving C__law_weaving D__law_weaving).binds fun _ _ _ _ _ _ us hl => match us, hl with | [_, _, _], _ => rfl
  a__law_places := f__law_places
  fd__law_places := PySem.W.fnOf "_law_places" "_law_places" (defArgs s__law_places) (defBody s__law_places) (defScope s__law_places) .none kV__law_places dc__law_places pm__law_places an__law_places cd__law_places ct__law_places
  F__law_places := fun_mk L__law_places C__law_places D__law_places
  g__law_places := PySem.W.mg_of X G A__law_places
  b__law_places := (fun_mk (st := s__law_places) L__law_places C__law_places D__law_places).binds fun _ _ _ _ _ _ us hl => match us, hl with | [_, _], _ => rfl
  a__law_told := f__law_told
  fd__law_told := PySem.W.fnOf "_law_told" "_law_told" (defArgs s__law_told) (defBody s__law_told) (defScope s__law_told) .none kV__law_told dc__law_told pm__law_told an__law_told cd__law_told ct__law_told
  F__law_told := fun_mk L__law_told C__law_told D__law_told
  g__law_told := PySem.W.mg_of X G A__law_told
  b__law_told := (fun_mk (st := s__law_told) L__law_told C__law_told D__law_told).binds fun _ _ _ _ _ _ us hl => match us, hl with | [_, _], _ => rfl
  a__law_mixed_right := f__law_mixed_right
  fd__law_mixed_right := PySem.W.fnOf "_law_mixed_right" "_law_mixed_right" (defArgs s__law_mixed_right) (defBody s__law_mixed_right) (defScope s__law_mixed_right) .none kV__law_mixed_right dc__law_mixed_right pm__law_mixed_right an__law_mixed_right cd__law_mixed_right ct__law_mixed_right
  F__law_mixed_right := fun_mk L__law_mixed_right C__law_mixed_right D__law_mixed_right
  g__law_mixed_right := PySem.W.mg_of X G A__law_mixed_right
  b__law_mixed_right := (fun_mk (st := s__law_mixed_right) L__law_mixed_right C__law_mixed_right D__law_mixed_right).binds fun _ _ _ _ _ _ us hl => match us, hl with | [_, _, _], _ => rfl
  a__law_right := f__law_right
  fd__law_right := PySem.W.fnOf "_law_right" "_law_right" (defArgs s__law_right) (defBody s__law_right) (defScope s__law_right) .none kV__law_right dc__law_right pm__law_right an__law_right cd__law_right ct__law_right
  F__law_right := fun_mk L__law_right C__law_right D__law_right
  g__law_right := PySem.W.mg_of X G A__law_right
  b__law_right := (fun_mk (st := s__law_right) L__law_right C__law_right D__law_right).binds fun _ _ _ _ _ _ us hl => match us, hl with | [_], _ => rfl
  a_law := f_law
  fd_law := PySem.W.fnOf "law" "law" (defArgs s_law) (defBody s_law) (defScope s_law) .none kV_law dc_law pm_law an_law cd_law ct_law
  F_law := fun_mk L_law C_law D_law
  g_law := PySem.W.mg_of X G A_law
  b_law := (fun_mk (st := s_law) L_law C_law D_law).binds fun _ _ _ _ _ _ us hl => match us, hl with | [_], _ => rfl
  k_known := kbinds_app (by decide) fun us ws h1 h2 => match us, ws, h1, h2 with | [_, _], [_], _, _ => rfl
  m_ValueError := PySem.W.mg_none_of X G Z_ValueError
  m_abs := PySem.W.mg_none_of X G Z_abs
  m_all := PySem.W.mg_none_of X G Z_all
  m_bool := PySem.W.mg_none_of X G Z_bool
  m_int := PySem.W.mg_none_of X G Z_int
  m_isinstance := PySem.W.mg_none_of X G Z_isinstance
  m_len := PySem.W.mg_none_of X G Z_len
  m_list := PySem.W.mg_none_of X G Z_list
  m_min := PySem.W.mg_none_of X G Z_min
  m_range := PySem.W.mg_none_of X G Z_range
  m_sum := PySem.W.mg_none_of X G Z_sum
  m_tuple := PySem.W.mg_none_of X G Z_tuple
  m_zip := PySem.W.mg_none_of X G Z_zip
  a_HANDS := p_HANDS
  g_HANDS := PySem.W.mg_of X G Z_HANDS
  c_HANDS := fun _ _ => .frt (xs := [.int 0, .int 1]) ⟨_, _, _, Y_HANDS, rfl, rfl, (show 2 ≤ sizeLine by decide), .cons ⟨_, rfl⟩ (.cons ⟨_, rfl⟩ (.nil))⟩ (.cons (.int _) (.cons (.int _) (.nil)))
  t_HANDS := ⟨_, _, _, Y_HANDS, rfl, rfl, (show 2 ≤ sizeLine by decide), .cons ⟨_, rfl⟩ (.cons ⟨_, rfl⟩ (.nil))⟩
  g_MOST_ROUNDS := ⟨_, PySem.W.mg_of X G Z_MOST_ROUNDS⟩
  c_NoHand := p_NoHand
  g_NoHand := PySem.W.mg_of X G A_NoHand
  x_NoHand := X_NoHand
  k_NoHand := K_NoHand
  s_NoHand := S_NoHand
  t_NoHand := T_NoHand
  c_NoKnown := p_NoKnown
  g_NoKnown := PySem.W.mg_of X G A_NoKnown
  x_NoKnown := X_NoKnown
  k_NoKnown := K_NoKnown
  s_NoKnown := S_NoKnown
  t_NoKnown := T_NoKnown
  e_NoKnown := ⟨Ea_NoKnown, Eb_NoKnown, S_NoKnown, Ec_NoKnown, Ed_NoKnown, Ee_NoKnown, Ef_NoKnown, Eg_NoKnown⟩
  xm_NoKnown_NoKnown := exm_ref S_NoKnown I_NoKnown T_NoKnown U_NoKnown_NoKnown
  kt_NoKnown_NoHand := kit_ref I_NoHand T_NoHand U_NoKnown_NoHand (fun e => absurd e V_NoKnown_NoHand)
  kt_NoKnown_ValueError := kit_type (by decide) U_NoKnown_ValueError
theorem all_mk {l : PySem.W.OpenLaw} {w : World} {K : PySem.W.Frag} {h : Heap} {mg : Str → Option Value} {fa : Addr} (X : K.In h) (G : h.Ns mainGlobals mg) (hfa : mg "law" = some (.ref fa))
    {f_is_from : Addr} {od_is_from an_is_from : Option Addr} {sl_is_from : Array (Option Value)} {oc_is_from kV_is_from dc_is_from pm_is_from cd_is_from ct_is_from : Value}
    {f_sure_rounds : Addr} {od_sure_rounds an_sure_rounds : Option Addr} {sl_sure_rounds : Array (Option Value)} {oc_sure_rounds kV_sure_rounds dc_sure_rounds pm_sure_rounds cd_sure_rounds ct_sure_rounds : Value}
    {f_is_weaving : Addr} {od_is_weaving an_is_weaving : Option Addr} {sl_is_weaving : Array (Option Value)} {oc_is_weaving kV_is_weaving dc_is_weaving pm_is_weaving cd_is_weaving ct_is_weaving : Value}
    {f_sure_weaving : Addr} {od_sure_weaving an_sure_weaving : Option Addr} {sl_sure_weaving : Array (Option Value)} {oc_sure_weaving kV_sure_weaving dc_sure_weaving pm_sure_weaving cd_sure_weaving ct_sure_weaving : Value}
    {f_known_behind : Addr} {od_known_behind an_known_behind : Option Addr} {sl_known_behind : Array (Option Value)} {oc_known_behind kV_known_behind dc_known_behind pm_known_behind cd_known_behind ct_known_behind : Value}
    {f_known : Addr} {od_known an_known : Option Addr} {sl_known : Array (Option Value)} {oc_known kV_known dc_known pm_known cd_known ct_known : Value}
    {f_sure_hand : Addr} {od_sure_hand an_sure_hand : Option Addr} {sl_sure_hand : Array (Option Value)} {oc_sure_hand kV_sure_hand dc_sure_hand pm_sure_hand cd_sure_hand ct_sure_hand : Value}
    {f_spot_of : Addr} {od_spot_of an_spot_of : Option Addr} {sl_spot_of : Array (Option Value)} {oc_spot_of kV_spot_of dc_spot_of pm_spot_of cd_spot_of ct_spot_of : Value}
    {f_fit : Addr} {od_fit an_fit : Option Addr} {sl_fit : Array (Option Value)} {oc_fit kV_fit dc_fit pm_fit cd_fit ct_fit : Value}
    {f_both_of : Addr} {od_both_of an_both_of : Option Addr} {sl_both_of : Array (Option Value)} {oc_both_of kV_both_of dc_both_of pm_both_of cd_both_of ct_both_of : Value}
    {f_place : Addr} {od_place an_place : Option Addr} {sl_place : Array (Option Value)} {oc_place kV_place dc_place pm_place cd_place ct_place : Value}
    {f__law_cell_at : Addr} {od__law_cell_at an__law_cell_at : Option Addr} {sl__law_cell_at : Array (Option Value)} {oc__law_cell_at kV__law_cell_at dc__law_cell_at pm__law_cell_at cd__law_cell_at ct__law_cell_at : Value}
    {f__law_well : Addr} {od__law_well an__law_well : Option Addr} {sl__law_well : Array (Option Value)} {oc__law_well kV__law_well dc__law_well pm__law_well cd__law_well ct__law_well : Value}
    {f__law_draw : Addr} {od__law_draw an__law_draw : Option Addr} {sl__law_draw : Array (Option Value)} {oc__law_draw kV__law_draw dc__law_draw pm__law_draw cd__law_draw ct__law_draw : Value}
    {f__law_one : Addr} {od__law_one an__law_one : Option Addr} {sl__law_one : Array (Option Value)} {oc__law_one kV__law_one dc__law_one pm__law_one cd__law_one ct__law_one : Value}
    {f__law_power : Addr} {od__law_power an__law_power : Option Addr} {sl__law_power : Array (Option Value)} {oc__law_power kV__law_power dc__law_power pm__law_power cd__law_power ct__law_power : Value}
    {f__law_weaving : Addr} {od__law_weaving an__law_weaving : Option Addr} {sl__law_weaving : Array (Option Value)} {oc__law_weaving kV__law_weaving dc__law_weaving pm__law_weaving cd__law_weaving ct__law_weaving : Value}
    {f__law_places : Addr} {od__law_places an__law_places : Option Addr} {sl__law_places : Array (Option Value)} {oc__law_places kV__law_places dc__law_places pm__law_places cd__law_places ct__law_places : Value}
    {f__law_told : Addr} {od__law_told an__law_told : Option Addr} {sl__law_told : Array (Option Value)} {oc__law_told kV__law_told dc__law_told pm__law_told cd__law_told ct__law_told : Value}
    {f__law_mixed_right : Addr} {od__law_mixed_right an__law_mixed_right : Option Addr} {sl__law_mixed_right : Array (Option Value)} {oc__law_mixed_right kV__law_mixed_right dc__law_mixed_right pm__law_mixed_right cd__law_mixed_right ct__law_mixed_right : Value}
    {f__law_right : Addr} {od__law_right an__law_right : Option Addr} {sl__law_right : Array (Option Value)} {oc__law_right kV__law_right dc__law_right pm__law_right cd__law_right ct__law_right : Value}
    {f_law : Addr} {od_law an_law : Option Addr} {sl_law : Array (Option Value)} {oc_law kV_law dc_law pm_law cd_law ct_law : Value}
    {p_HANDS : Addr} {od_HANDS : Option Addr} {sl_HANDS : Array (Option Value)} {n_HANDS : Nat} {t_HANDS_0 t_HANDS_1 : Tok}
    {t_MOST_ROUNDS : Tok}
    {p_NoHand : Addr}
    {p_NoKnown : Addr}
    (A_is_from : PySem.W.nsIn K mainGlobals "is_from" = some (some (.ref f_is_from))) (L_is_from : K.lookup f_is_from = some ⟨oc_is_from, od_is_from, .func (PySem.W.fnOf "is_from" "is_from" (defArgs s_is_from) (defBody s_is_from) (defScope s_is_from) .none kV_is_from dc_is_from pm_is_from an_is_from cd_is_from ct_is_from), sl_is_from⟩) (C_is_from : PySem.W.codeIn K cd_is_from "is_from" = true) (D_is_from : PySem.W.keepIn K (.ref f_is_from) = true)
    (A_sure_rounds : PySem.W.nsIn K mainGlobals "sure_rounds" = some (some (.ref f_sure_rounds))) (L_sure_rounds : K.lookup f_sure_rounds = some ⟨oc_sure_rounds, od_sure_rounds, .func (PySem.W.fnOf "sure_rounds" "sure_rounds" (defArgs s_sure_rounds) (defBody s_sure_rounds) (defScope s_sure_rounds) .none kV_sure_rounds dc_sure_rounds pm_sure_rounds an_sure_rounds cd_sure_rounds ct_sure_rounds), sl_sure_rounds⟩) (C_sure_rounds : PySem.W.codeIn K cd_sure_rounds "sure_rounds" = true) (D_sure_rounds : PySem.W.keepIn K (.ref f_sure_rounds) = true)
    (A_is_weaving : PySem.W.nsIn K mainGlobals "is_weaving" = some (some (.ref f_is_weaving))) (L_is_weaving : K.lookup f_is_weaving = some ⟨oc_is_weaving, od_is_weaving, .func (PySem.W.fnOf "is_weaving" "is_weaving" (defArgs s_is_weaving) (defBody s_is_weaving) (defScope s_is_weaving) .none kV_is_weaving dc_is_weaving pm_is_weaving an_is_weaving cd_is_weaving ct_is_weaving), sl_is_weaving⟩) (C_is_weaving : PySem.W.codeIn K cd_is_weaving "is_weaving" = true) (D_is_weaving : PySem.W.keepIn K (.ref f_is_weaving) = true)
    (A_sure_weaving : PySem.W.nsIn K mainGlobals "sure_weaving" = some (some (.ref f_sure_weaving))) (L_sure_weaving : K.lookup f_sure_weaving = some ⟨oc_sure_weaving, od_sure_weaving, .func (PySem.W.fnOf "sure_weaving" "sure_weaving" (defArgs s_sure_weaving) (defBody s_sure_weaving) (defScope s_sure_weaving) .none kV_sure_weaving dc_sure_weaving pm_sure_weaving an_sure_weaving cd_sure_weaving ct_sure_weaving), sl_sure_weaving⟩) (C_sure_weaving : PySem.W.codeIn K cd_sure_weaving "sure_weaving" = true) (D_sure_weaving : PySem.W.keepIn K (.ref f_sure_weaving) = true)
    (A_known_behind : PySem.W.nsIn K mainGlobals "known_behind" = some (some (.ref f_known_behind))) (L_known_behind : K.lookup f_known_behind = some ⟨oc_known_behind, od_known_behind, .func (PySem.W.fnOf "known_behind" "known_behind" (defArgs s_known_behind) (defBody s_known_behind) (defScope s_known_behind) .none kV_known_behind dc_known_behind pm_known_behind an_known_behind cd_known_behind ct_known_behind), sl_known_behind⟩) (C_known_behind : PySem.W.codeIn K cd_known_behind "known_behind" = true) (D_known_behind : PySem.W.keepIn K (.ref f_known_behind) = true)
    (A_known : PySem.W.nsIn K mainGlobals "known" = some (some (.ref f_known))) (L_known : K.lookup f_known = some ⟨oc_known, od_known, .func (PySem.W.fnOf "known" "known" (defArgs s_known) (defBody s_known) (defScope s_known) .none kV_known dc_known pm_known an_known cd_known ct_known), sl_known⟩) (C_known : PySem.W.codeIn K cd_known "known" = true) (D_known : PySem.W.keepIn K (.ref f_known) = true)
    (A_sure_hand : PySem.W.nsIn K mainGlobals "sure_hand" = some (some (.ref f_sure_hand))) (L_sure_hand : K.lookup f_sure_hand = some ⟨oc_sure_hand, od_sure_hand, .func (PySem.W.fnOf "sure_hand" "sure_hand" (defArgs s_sure_hand) (defBody s_sure_hand) (defScope s_sure_hand) .none kV_sure_hand dc_sure_hand pm_sure_hand an_sure_hand cd_sure_hand ct_sure_hand), sl_sure_hand⟩) (C_sure_hand : PySem.W.codeIn K cd_sure_hand "sure_hand" = true) (D_sure_hand : PySem.W.keepIn K (.ref f_sure_hand) = true)
    (A_spot_of : PySem.W.nsIn K mainGlobals "spot_of" = some (some (.ref f_spot_of))) (L_spot_of : K.lookup f_spot_of = some ⟨oc_spot_of, od_spot_of, .func (PySem.W.fnOf "spot_of" "spot_of" (defArgs s_spot_of) (defBody s_spot_of) (defScope s_spot_of) .none kV_spot_of dc_spot_of pm_spot_of an_spot_of cd_spot_of ct_spot_of), sl_spot_of⟩) (C_spot_of : PySem.W.codeIn K cd_spot_of "spot_of" = true) (D_spot_of : PySem.W.keepIn K (.ref f_spot_of) = true)
    (A_fit : PySem.W.nsIn K mainGlobals "fit" = some (some (.ref f_fit))) (L_fit : K.lookup f_fit = some ⟨oc_fit, od_fit, .func (PySem.W.fnOf "fit" "fit" (defArgs s_fit) (defBody s_fit) (defScope s_fit) .none kV_fit dc_fit pm_fit an_fit cd_fit ct_fit), sl_fit⟩) (C_fit : PySem.W.codeIn K cd_fit "fit" = true) (D_fit : PySem.W.keepIn K (.ref f_fit) = true)
    (A_both_of : PySem.W.nsIn K mainGlobals "both_of" = some (some (.ref f_both_of))) (L_both_of : K.lookup f_both_of = some ⟨oc_both_of, od_both_of, .func (PySem.W.fnOf "both_of" "both_of" (defArgs s_both_of) (defBody s_both_of) (defScope s_both_of) .none kV_both_of dc_both_of pm_both_of an_both_of cd_both_of ct_both_of), sl_both_of⟩) (C_both_of : PySem.W.codeIn K cd_both_of "both_of" = true) (D_both_of : PySem.W.keepIn K (.ref f_both_of) = true)
    (A_place : PySem.W.nsIn K mainGlobals "place" = some (some (.ref f_place))) (L_place : K.lookup f_place = some ⟨oc_place, od_place, .func (PySem.W.fnOf "place" "place" (defArgs s_place) (defBody s_place) (defScope s_place) .none kV_place dc_place pm_place an_place cd_place ct_place), sl_place⟩) (C_place : PySem.W.codeIn K cd_place "place" = true) (D_place : PySem.W.keepIn K (.ref f_place) = true)
    (A__law_cell_at : PySem.W.nsIn K mainGlobals "_law_cell_at" = some (some (.ref f__law_cell_at))) (L__law_cell_at : K.lookup f__law_cell_at = some ⟨oc__law_cell_at, od__law_cell_at, .func (PySem.W.fnOf "_law_cell_at" "_law_cell_at" (defArgs s__law_cell_at) (defBody s__law_cell_at) (defScope s__law_cell_at) .none kV__law_cell_at dc__law_cell_at pm__law_cell_at an__law_cell_at cd__law_cell_at ct__law_cell_at), sl__law_cell_at⟩) (C__law_cell_at : PySem.W.codeIn K cd__law_cell_at "_law_cell_at" = true) (D__law_cell_at : PySem.W.keepIn K (.ref f__law_cell_at) = true)
    (A__law_well : PySem.W.nsIn K mainGlobals "_law_well" = some (some (.ref f__law_well))) (L__law_well : K.lookup f__law_well = some ⟨oc__law_well, od__law_well, .func (PySem.W.fnOf "_law_well" "_law_well" (defArgs s__law_well) (defBody s__law_well) (defScope s__law_well) .none kV__law_well dc__law_well pm__law_well an__law_well cd__law_well ct__law_well), sl__law_well⟩) (C__law_well : PySem.W.codeIn K cd__law_well "_law_well" = true) (D__law_well : PySem.W.keepIn K (.ref f__law_well) = true)
    (A__law_draw : PySem.W.nsIn K mainGlobals "_law_draw" = some (some (.ref f__law_draw))) (L__law_draw : K.lookup f__law_draw = some ⟨oc__law_draw, od__law_draw, .func (PySem.W.fnOf "_law_draw" "_law_draw" (defArgs s__law_draw) (defBody s__law_draw) (defScope s__law_draw) .none kV__law_draw dc__law_draw pm__law_draw an__law_draw cd__law_draw ct__law_draw), sl__law_draw⟩) (C__law_draw : PySem.W.codeIn K cd__law_draw "_law_draw" = true) (D__law_draw : PySem.W.keepIn K (.ref f__law_draw) = true)
    (A__law_one : PySem.W.nsIn K mainGlobals "_law_one" = some (some (.ref f__law_one))) (L__law_one : K.lookup f__law_one = some ⟨oc__law_one, od__law_one, .func (PySem.W.fnOf "_law_one" "_law_one" (defArgs s__law_one) (defBody s__law_one) (defScope s__law_one) .none kV__law_one dc__law_one pm__law_one an__law_one cd__law_one ct__law_one), sl__law_one⟩) (C__law_one : PySem.W.codeIn K cd__law_one "_law_one" = true) (D__law_one : PySem.W.keepIn K (.ref f__law_one) = true)
    (A__law_power : PySem.W.nsIn K mainGlobals "_law_power" = some (some (.ref f__law_power))) (L__law_power : K.lookup f__law_power = some ⟨oc__law_power, od__law_power, .func (PySem.W.fnOf "_law_power" "_law_power" (defArgs s__law_power) (defBody s__law_power) (defScope s__law_power) .none kV__law_power dc__law_power pm__law_power an__law_power cd__law_power ct__law_power), sl__law_power⟩) (C__law_power : PySem.W.codeIn K cd__law_power "_law_power" = true) (D__law_power : PySem.W.keepIn K (.ref f__law_power) = true)
    (A__law_weaving : PySem.W.nsIn K mainGlobals "_law_weaving" = some (some (.ref f__law_weaving))) (L__law_weaving : K.lookup f__law_weaving = some ⟨oc__law_weaving, od__law_weaving, .func (PySem.W.fnOf "_law_weaving" "_law_weaving" (defArgs s__law_weaving) (defBody s__law_weaving) (defScope s__law_weaving) .none kV__law_weaving dc__law_weaving pm__law_weaving an__law_weaving cd__law_weaving ct__law_weaving), sl__law_weaving⟩) (C__law_weaving : PySem.W.codeIn K cd__law_weaving "_law_weaving" = true) (D__law_weaving : PySem.W.keepIn K (.ref f__law_weaving) = true)
    (A__law_places : PySem.W.nsIn K mainGlobals "_law_places" = some (some (.ref f__law_places))) (L__law_places : K.lookup f__law_places = some ⟨oc__law_places, od__law_places, .func (PySem.W.fnOf "_law_places" "_law_places" (defArgs s__law_places) (defBody s__law_places) (defScope s__law_places) .none kV__law_places dc__law_places pm__law_places an__law_places cd__law_places ct__law_places), sl__law_places⟩) (C__law_places : PySem.W.codeIn K cd__law_places "_law_places" = true) (D__law_places : PySem.W.keepIn K (.ref f__law_places) = true)
    (A__law_told : PySem.W.nsIn K mainGlobals "_law_told" = some (some (.ref f__law_told))) (L__law_told : K.lookup f__law_told = some ⟨oc__law_told, od__law_told, .func (PySem.W.fnOf "_law_told" "_law_told" (defArgs s__law_told) (defBody s__law_told) (defScope s__law_told) .none kV__law_told dc__law_told pm__law_told an__law_told cd__law_told ct__law_told), sl__law_told⟩) (C__law_told : PySem.W.codeIn K cd__law_told "_law_told" = true) (D__law_told : PySem.W.keepIn K (.ref f__law_told) = true)
    (A__law_mixed_right : PySem.W.nsIn K mainGlobals "_law_mixed_right" = some (some (.ref f__law_mixed_right))) (L__law_mixed_right : K.lookup f__law_mixed_right = some ⟨oc__law_mixed_right, od__law_mixed_right, .func (PySem.W.fnOf "_law_mixed_right" "_law_mixed_right" (defArgs s__law_mixed_right) (defBody s__law_mixed_right) (defScope s__law_mixed_right) .none kV__law_mixed_right dc__law_mixed_right pm__law_mixed_right an__law_mixed_right cd__law_mixed_right ct__law_mixed_right), sl__law_mixed_right⟩) (C__law_mixed_right : PySem.W.codeIn K cd__law_mixed_right "_law_mixed_right" = true) (D__law_mixed_right : PySem.W.keepIn K (.ref f__law_mixed_right) = true)
    (A__law_right : PySem.W.nsIn K mainGlobals "_law_right" = some (some (.ref f__law_right))) (L__law_right : K.lookup f__law_right = some ⟨oc__law_right, od__law_right, .func (PySem.W.fnOf "_law_right" "_law_right" (defArgs s__law_right) (defBody s__law_right) (defScope s__law_right) .none kV__law_right dc__law_right pm__law_right an__law_right cd__law_right ct__law_right), sl__law_right⟩) (C__law_right : PySem.W.codeIn K cd__law_right "_law_right" = true) (D__law_right : PySem.W.keepIn K (.ref f__law_right) = true)
    (A_law : PySem.W.nsIn K mainGlobals "law" = some (some (.ref f_law))) (L_law : K.lookup f_law = some ⟨oc_law, od_law, .func (PySem.W.fnOf "law" "law" (defArgs s_law) (defBody s_law) (defScope s_law) .none kV_law dc_law pm_law an_law cd_law ct_law), sl_law⟩) (C_law : PySem.W.codeIn K cd_law "law" = true) (D_law : PySem.W.keepIn K (.ref f_law) = true)
    (Z_ValueError : PySem.W.nsIn K mainGlobals "ValueError" = some none)
    (Z_abs : PySem.W.nsIn K mainGlobals "abs" = some none)
    (Z_all : PySem.W.nsIn K mainGlobals "all" = some none)
    (Z_bool : PySem.W.nsIn K mainGlobals "bool" = some none)
    (Z_int : PySem.W.nsIn K mainGlobals "int" = some none)
    (Z_isinstance : PySem.W.nsIn K mainGlobals "isinstance" = some none)
    (Z_len : PySem.W.nsIn K mainGlobals "len" = some none)
    (Z_list : PySem.W.nsIn K mainGlobals "list" = some none)
    (Z_min : PySem.W.nsIn K mainGlobals "min" = some none)
    (Z_range : PySem.W.nsIn K mainGlobals "range" = some none)
    (Z_sum : PySem.W.nsIn K mainGlobals "sum" = some none)
    (Z_tuple : PySem.W.nsIn K mainGlobals "tuple" = some none)
    (Z_zip : PySem.W.nsIn K mainGlobals "zip" = some none)
    (Z_HANDS : PySem.W.nsIn K mainGlobals "HANDS" = some (some (.ref p_HANDS))) (Y_HANDS : K.lookup p_HANDS = some ⟨.type "tuple", od_HANDS, .seq #[Value.int 0 t_HANDS_0, Value.int 1 t_HANDS_1] n_HANDS, sl_HANDS⟩)
    (Z_MOST_ROUNDS : PySem.W.nsIn K mainGlobals "MOST_ROUNDS" = some (some (Value.int 5 t_MOST_ROUNDS)))
    (A_NoHand : PySem.W.nsIn K mainGlobals "NoHand" = some (some (.ref p_NoHand)))
    (X_NoHand : PySem.W.excIn K p_NoHand [.type "ValueError", .type "Exception", .type "BaseException", .type "object"] "ValueError.__new__" = true)
    (K_NoHand : PySem.W.keepIn K (.ref p_NoHand) = true)
    (S_NoHand : PySem.W.subIn K (.ref p_NoHand) (.type "BaseException") = some true)
    (T_NoHand : PySem.W.typeIn K (.ref p_NoHand) = some (.type "type"))
    (A_NoKnown : PySem.W.nsIn K mainGlobals "NoKnown" = some (some (.ref p_NoKnown)))
    (X_NoKnown : PySem.W.excIn K p_NoKnown [.type "ValueError", .type "Exception", .type "BaseException", .type "object"] "ValueError.__new__" = true)
    (K_NoKnown : PySem.W.keepIn K (.ref p_NoKnown) = true)
    (S_NoKnown : PySem.W.subIn K (.ref p_NoKnown) (.type "BaseException") = some true)
    (T_NoKnown : PySem.W.typeIn K (.ref p_NoKnown) = some (.type "type"))
    (Ea_NoKnown : PySem.W.findIn K (.ref p_NoKnown) "__getattribute__" = some (some (.builtin "BaseException.__getattribute__")))
    (Eb_NoKnown : PySem.W.findIn K (.ref p_NoKnown) "__getattr__" = some none)
    (Ec_NoKnown : PySem.W.hasDictIn K p_NoKnown = true)
    (Ed_NoKnown : PySem.W.findIn K (.ref p_NoKnown) "__class__" = some (some (.builtin "object.__class__")))
    (Ee_NoKnown : PySem.W.specialIn K (.builtin "object.__class__") "__get__" = some (some (.builtin "getset_descriptor.__get__")))
    (Ef_NoKnown : PySem.W.takesIn K (.builtin "object.__class__") = some true)
    (Eg_NoKnown : PySem.W.mroIn K p_NoKnown (.type "object") = some true)
    (I_NoHand : PySem.W.isClsIn K p_NoHand = true)
    (I_NoKnown : PySem.W.isClsIn K p_NoKnown = true)
    (U_NoKnown_NoHand : PySem.W.subIn K (.ref p_NoKnown) (.ref p_NoHand) = some false)
    (U_NoKnown_NoKnown : PySem.W.subIn K (.ref p_NoKnown) (.ref p_NoKnown) = some true)
    (U_NoKnown_ValueError : PySem.W.subIn K (.ref p_NoKnown) (.type "ValueError") = some true)
    (V_NoKnown_NoHand : p_NoKnown ≠ p_NoHand) :
    ∃ fd : FuncData, (∀ (s : Shared) (v : Value), BindsTo s fd ⟨[v], []⟩ [("_law_script", v)]) ∧ ∀ base : Heap, K.In base → base.Ns mainGlobals mg → FnOk l.prog w K mg base CX0 13 fa fd ["_law_script"] (spD0 K G_law) := by
  have e := hfa.symm.trans (PySem.W.mg_of X G A_law)
  cases e
  exact ⟨_, fun s v => .of_eq rfl, fun base _ _ => ok_law (T_of X G A_is_from L_is_from C_is_from D_is_from A_sure_rounds L_sure_rounds C_sure_rounds D_sure_rounds A_is_weaving L_is_weaving C_is_weaving D_is_weaving A_sure_weaving L_sure_weaving C_sure_weaving D_sure_weaving A_known_behind L_known_behind C_known_behind D_known_behind A_known L_known C_known D_known A_sure_hand L_sure_hand C_sure_hand D_sure_hand A_spot_of L_spot_of C_spot_of D_spot_of A_fit L_fit C_fit D_fit A_both_of L_both_of C_both_of D_both_of A_place L_place C_place D_place A__law_cell_at L__law_cell_at C__law_cell_at D__law_cell_at A__law_well L__law_well C__law_well D__law_well A__law_draw L__law_draw C__law_draw D__law_draw A__law_one L__law_one C__law_one D__law_one A__law_power L__law_power C__law_power D__law_power A__law_weaving L__law_weaving C__law_weaving D__law_weaving A__law_places L__law_places C__law_places D__law_places A__law_told L__law_told C__law_told D__law_told A__law_mixed_right L__law_mixed_right C__law_mixed_right D__law_mixed_right A__law_right L__law_right C__law_right D__law_right A_law L_law C_law D_law Z_ValueError Z_abs Z_all Z_bool Z_int Z_isinstance Z_len Z_list Z_min Z_range Z_sum Z_tuple Z_zip Z_HANDS Y_HANDS Z_MOST_ROUNDS A_NoHand X_NoHand K_NoHand S_NoHand T_NoHand A_NoKnown X_NoKnown K_NoKnown S_NoKnown T_NoKnown Ea_NoKnown Eb_NoKnown Ec_NoKnown Ed_NoKnown Ee_NoKnown Ef_NoKnown Eg_NoKnown I_NoHand I_NoKnown U_NoKnown_NoHand U_NoKnown_NoKnown U_NoKnown_ValueError V_NoKnown_NoHand)⟩
end My
open PySem PySem.W PyProof.Rows
set_option maxHeartbeats 0 in
theorem PySem.Challenge.cw_twoalone_k14_places_told_holds : PySem.Challenge.rw_twoalone_k14_places_told.Holds := by
  w_on; o_law; k_head; (case hw => w_witness2)
  k_fill
  refine L2.walk_of (l := PySem.Challenge.rw_twoalone_k14_places_told) (n := 63) (k := 13) (x := "_law_script") (CX := fun _ => L2.CX0) (sp := fun w => DL.spD0 _ My.G_law) rfl (by decide) rfl ⟨rfl, by decide, by decide⟩ (fun w h Y => PySem.W.kIn_of Y) ?F (fun _ H a ns hl hO hS => My.law_end hl hO hS) (fun _ _ _ _ _ h => h)
  case F =>
    intro w mg fa h KX G hmg
    refine' My.all_mk KX G hmg ?xA_is_from ?xL_is_from ?xC_is_from ?xD_is_from ?xA_sure_rounds ?xL_sure_rounds ?xC_sure_rounds ?xD_sure_rounds ?xA_is_weaving ?xL_is_weaving ?xC_is_weaving ?xD_is_weaving ?xA_sure_weaving ?xL_sure_weaving ?xC_sure_weaving ?xD_sure_weaving ?xA_known_behind ?xL_known_behind ?xC_known_behind ?xD_known_behind ?xA_known ?xL_known ?xC_known ?xD_known ?xA_sure_hand ?xL_sure_hand ?xC_sure_hand ?xD_sure_hand ?xA_spot_of ?xL_spot_of ?xC_spot_of ?xD_spot_of ?xA_fit ?xL_fit ?xC_fit ?xD_fit ?xA_both_of ?xL_both_of ?xC_both_of ?xD_both_of ?xA_place ?xL_place ?xC_place ?xD_place ?xA__law_cell_at ?xL__law_cell_at ?xC__law_cell_at ?xD__law_cell_at ?xA__law_well ?xL__law_well ?xC__law_well ?xD__law_well ?xA__law_draw ?xL__law_draw ?xC__law_draw ?xD__law_draw ?xA__law_one ?xL__law_one ?xC__law_one ?xD__law_one ?xA__law_power ?xL__law_power ?xC__law_power ?xD__law_power ?xA__law_weaving ?xL__law_weaving ?xC__law_weaving ?xD__law_weaving ?xA__law_places ?xL__law_places ?xC__law_places ?xD__law_places ?xA__law_told ?xL__law_told ?xC__law_told ?xD__law_told ?xA__law_mixed_right ?xL__law_mixed_right ?xC__law_mixed_right ?xD__law_mixed_right ?xA__law_right ?xL__law_right ?xC__law_right ?xD__law_right ?xA_law ?xL_law ?xC_law ?xD_law ?xZ_ValueError ?xZ_abs ?xZ_all ?xZ_bool ?xZ_int ?xZ_isinstance ?xZ_len ?xZ_list ?xZ_min ?xZ_range ?xZ_sum ?xZ_tuple ?xZ_zip ?xZ_HANDS ?xY_HANDS ?xZ_MOST_ROUNDS ?xA_NoHand ?xX_NoHand ?xK_NoHand ?xS_NoHand ?xT_NoHand ?xA_NoKnown ?xX_NoKnown ?xK_NoKnown ?xS_NoKnown ?xT_NoKnown ?xEa_NoKnown ?xEb_NoKnown ?xEc_NoKnown ?xEd_NoKnown ?xEe_NoKnown ?xEf_NoKnown ?xEg_NoKnown ?xI_NoHand ?xI_NoKnown ?xU_NoKnown_NoHand ?xU_NoKnown_NoKnown ?xU_NoKnown_ValueError ?xV_NoKnown_NoHand
    (case xA_is_from => k_is); (case xL_is_from => k_is); (case xC_is_from => k_is); (case xD_is_from => k_is); (case xA_sure_rounds => k_is); (case xL_sure_rounds => k_is); (case xC_sure_rounds => k_is); (case xD_sure_rounds => k_is); (case xA_is_weaving => k_is); (case xL_is_weaving => k_is); (case xC_is_weaving => k_is); (case xD_is_weaving => k_is); (case xA_sure_weaving => k_is); (case xL_sure_weaving => k_is); (case xC_sure_weaving => k_is); (case xD_sure_weaving => k_is); (case xA_known_behind => k_is); (case xL_known_behind => k_is); (case xC_known_behind => k_is); (case xD_known_behind => k_is); (case xA_known => k_is); (case xL_known => k_is); (case xC_known => k_is); (case xD_known => k_is); (case xA_sure_hand => k_is); (case xL_sure_hand => k_is); (case xC_sure_hand => k_is); (case xD_sure_hand => k_is); (case xA_spot_of => k_is); (case xL_spot_of => k_is); (case xC_spot_of => k_is); (case xD_spot_of => k_is); (case xA_fit => k_is); (case xL_fit => k_is); (case xC_fit => k_is); (case xD_fit => k_is); (case xA_both_of => k_is); (case xL_both_of => k_is); (case xC_both_of => k_is); (case xD_both_of => k_is); (case xA_place => k_is); (case xL_place => k_is); (case xC_place => k_is); (case xD_place => k_is); (case xA__law_cell_at => k_is); (case xL__law_cell_at => k_is); (case xC__law_cell_at => k_is); (case xD__law_cell_at => k_is); (case xA__law_well => k_is); (case xL__law_well => k_is); (case xC__law_well => k_is); (case xD__law_well => k_is); (case xA__law_draw => k_is); (case xL__law_draw => k_is); (case xC__law_draw => k_is); (case xD__law_draw => k_is); (case xA__law_one => k_is); (case xL__law_one => k_is); (case xC__law_one => k_is); (case xD__law_one => k_is); (case xA__law_power => k_is); (case xL__law_power => k_is); (case xC__law_power => k_is); (case xD__law_power => k_is); (case xA__law_weaving => k_is); (case xL__law_weaving => k_is); (case xC__law_weaving => k_is); (case xD__law_weaving => k_is); (case xA__law_places => k_is); (case xL__law_places => k_is); (case xC__law_places => k_is); (case xD__law_places => k_is); (case xA__law_told => k_is); (case xL__law_told => k_is); (case xC__law_told => k_is); (case xD__law_told => k_is); (case xA__law_mixed_right => k_is); (case xL__law_mixed_right => k_is); (case xC__law_mixed_right => k_is); (case xD__law_mixed_right => k_is); (case xA__law_right => k_is); (case xL__law_right => k_is); (case xC__law_right => k_is); (case xD__law_right => k_is); (case xA_law => k_is); (case xL_law => k_is); (case xC_law => k_is); (case xD_law => k_is); (case xZ_ValueError => k_is); (case xZ_abs => k_is); (case xZ_all => k_is); (case xZ_bool => k_is); (case xZ_int => k_is); (case xZ_isinstance => k_is); (case xZ_len => k_is); (case xZ_list => k_is); (case xZ_min => k_is); (case xZ_range => k_is); (case xZ_sum => k_is); (case xZ_tuple => k_is); (case xZ_zip => k_is); (case xZ_HANDS => k_is); (case xY_HANDS => k_is); (case xZ_MOST_ROUNDS => k_is); (case xA_NoHand => k_is); (case xX_NoHand => k_exc); (case xK_NoHand => k_is); (case xS_NoHand => k_is); (case xT_NoHand => k_is); (case xA_NoKnown => k_is); (case xX_NoKnown => k_exc); (case xK_NoKnown => k_is); (case xS_NoKnown => k_is); (case xT_NoKnown => k_is); (case xEa_NoKnown => k_is); (case xEb_NoKnown => k_is); (case xEc_NoKnown => k_is); (case xEd_NoKnown => k_is); (case xEe_NoKnown => k_is); (case xEf_NoKnown => k_is); (case xEg_NoKnown => k_is); (case xI_NoHand => k_is); (case xI_NoKnown => k_is); (case xU_NoKnown_NoHand => first | rfl | k_is); (case xU_NoKnown_NoKnown => first | rfl | k_is); (case xU_NoKnown_ValueError => first | rfl | k_is); (case xV_NoKnown_NoHand => decide)

