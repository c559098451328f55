import PyProof.Rows.All
import HandS.ForMost
import HandS.ForExc
import HandS.Wide
import HandS.IsInst
import HandS.Walk
import HandS.TupAny
import HandS.TupMul
import HandS.Deep
import HandS.Conv
import HandS.Style
import HandS.Flow
import HandS.Zip
import HandS.Defaults
import HandS.CallSlots
import HandS.MakeKwOnly
import HandS.Head0
import HandS.Head1
import HandS.Head2
import HandS.HeadEnd
import HandS.HeadHook1
import HandS.HeadHook2
import PySem.Challenge.RW_twinbegun_k02_names_and_integers
set_option Elab.async false
set_option linter.all false
set_option maxRecDepth 100000
set_option maxHeartbeats 4000000
/-! Dn: what a def is worth, as a plain function over plain data (D) and a small store (G); each rule of the hand layer turned into such a function. -/
namespace Dn
open PySem L2

/-- kinds -/
inductive Knd where
  | none | bool | int | str | tuple | list | dict
  deriving DecidableEq
def Knd.name : Knd → String
  | .none => "NoneType" | .bool => "bool" | .int => "int" | .str => "str" | .tuple => "tuple" | .list => "list" | .dict => "dict"
/-- plain data -/
inductive D where
  | non | bl (b : Bool) | int (i : Int) | str (x : Str) | ty (k : Knd) | cls (c : Str)
  | tup (xs : List D) | lst (xs : List D) | fz (xs : List D) | ftup (xs : List D)
  | ref (n : Nat)
  | dk (ks : List Key) (ds : List D) | dt (ks : List (List Key)) (ds : List D)
  | ins (c : Str) (ns : List Str) (ds : List D)
  deriving Inhabited

/-- what may change: things by handle -/
inductive GO where
  | lst (xs : List D) | dk (ks : List Key) (ds : List D) | dt (ks : List (List Key)) (ds : List D)
  | ins (c : Str) (ns : List Str) (ds : List D)
abbrev G := List GO
/-- an exception: its class, its own attributes -/
structure Xn where
  c : Str
  ns : List Str
  ds : List D

inductive Res (α : Type) where
  | ok (a : α) (g : G) | err (x : Xn) (g : G) | bad

def Res.bind {α β : Type} (r : Res α) (k : α → G → Res β) : Res β := match r with
  | .ok a g => k a g
  | .err x g => .err x g
  | .bad => .bad
@[simp] theorem bind_ok {α β : Type} (a : α) (g : G) (k : α → G → Res β) : (Res.ok a g).bind k = k a g := rfl
@[simp] theorem bind_err {α β : Type} (x : Xn) (g : G) (k : α → G → Res β) : (Res.err x g).bind k = .err x g := rfl
@[simp] theorem bind_bad {α β : Type} (k : α → G → Res β) : (Res.bad).bind k = .bad := rfl

/-- the written part and the classes by name; the world: the handles' addresses, the part of the heap that stays -/
structure Gm where
  K : PySem.W.Frag
  cl : Str → Option Addr
structure Wd where
  ads : List Addr
  S : Hp
def Wd.Le (w w' : Wd) : Prop := (∃ t, w'.ads = w.ads ++ t) ∧ Same w.S w'.S
theorem Wd.Le.refl (w : Wd) : w.Le w := ⟨⟨[], (List.append_nil _).symm⟩, Same.refl _⟩
theorem Wd.Le.trans {a b c : Wd} (x : a.Le b) (y : b.Le c) : a.Le c := by
  obtain ⟨⟨t, e⟩, s⟩ := x
  obtain ⟨⟨u, f⟩, s'⟩ := y
  exact ⟨⟨t ++ u, by rw [f, e, List.append_assoc]⟩, s.trans s'⟩

mutual
def Rep (Γ : Gm) (w : Wd) : D → V → Prop
  | .non, v => v = .non
  | .bl b, v => v = .bl b
  | .int i, v => v = .int i
  | .str x, v => v = .str x
  | .ty k, v => v = .ty k.name
  | .cls c, v => ∃ C, Γ.cl c = some C ∧ v = .ref C
  | .tup ds, v => ∃ a vs, v = .ref a ∧ w.S a = some (.tup vs) ∧ Reps Γ w ds vs
  | .ftup ds, v => ∃ a vs, v = .ref a ∧ SqT Γ.K w.S a vs ∧ Reps Γ w ds vs
  | .lst ds, v => ∃ a vs, v = .ref a ∧ w.S a = some (.lst vs) ∧ Reps Γ w ds vs
  | .fz ds, v => ∃ a vs, v = .ref a ∧ SqL Γ.K w.S a vs ∧ Reps Γ w ds vs
  | .ref n, v => ∃ a, v = .ref a ∧ w.ads[n]? = some a
  | .dk ks ds, v => ∃ a us, v = .ref a ∧ w.S a = some (.dK us) ∧ us.map (·.1) = ks ∧ Reps Γ w ds (us.map (·.2))
  | .dt ks ds, v => ∃ a us, v = .ref a ∧ w.S a = some (.dT us) ∧ us.map (·.1) = ks ∧ Reps Γ w ds (us.map (·.2))
  | .ins c ns ds, v => ∃ a C dx us, v = .ref a ∧ Γ.cl c = some C ∧ w.S a = some (.ins C dx us) ∧ us.map (·.1) = ns ∧ Reps Γ w ds (us.map (·.2))
def Reps (Γ : Gm) (w : Wd) : List D → List V → Prop
  | [], vs => vs = []
  | d :: ds, vs => ∃ v r, vs = v :: r ∧ Rep Γ w d v ∧ Reps Γ w ds r
end

theorem sqT_mono {K : PySem.W.Frag} {H H' : Hp} {a : Addr} {xs : List V} (e : Same H H') (h : SqT K H a xs) : SqT K H' a xs := by
  rcases h with (h | ⟨o, h⟩) | h
  · exact .inl (.inl (e _ _ h))
  · exact .inl (.inr ⟨o, e _ _ h⟩)
  · exact .inr h

section
variable {Γ : Gm} {w w' : Wd}
mutual
theorem Rep.mono (l : w.Le w') : ∀ {d : D} {v : V}, Rep Γ w d v → Rep Γ w' d v
  | .non, _, h => h
  | .bl _, _, h => h
  | .int _, _, h => h
  | .str _, _, h => h
  | .ty _, _, h => h
  | .cls _, _, h => h
  | .tup ds, _, h => by
    obtain ⟨a, vs, e, s, r⟩ := h
    exact ⟨a, vs, e, l.2 _ _ s, Reps.mono l r⟩
  | .ftup ds, _, h => by
    obtain ⟨a, vs, e, s, r⟩ := h
    exact ⟨a, vs, e, sqT_mono l.2 s, Reps.mono l r⟩
  | .lst ds, _, h => by
    obtain ⟨a, vs, e, s, r⟩ := h
    exact ⟨a, vs, e, l.2 _ _ s, Reps.mono l r⟩
  | .fz ds, _, h => by
    obtain ⟨a, vs, e, s, r⟩ := h
    exact ⟨a, vs, e, l.2.seq s, Reps.mono l r⟩
  | .ref n, _, h => by
    obtain ⟨a, e, s⟩ := h
    obtain ⟨t, et⟩ := l.1
    exact ⟨a, e, by rw [et]; exact List.getElem?_append_left (List.getElem?_eq_some_iff.mp s).1 ▸ s⟩
  | .dk ks ds, _, h => by
    obtain ⟨a, us, e, s, k, r⟩ := h
    exact ⟨a, us, e, l.2 _ _ s, k, Reps.mono l r⟩
  | .dt ks ds, _, h => by
    obtain ⟨a, us, e, s, k, r⟩ := h
    exact ⟨a, us, e, l.2 _ _ s, k, Reps.mono l r⟩
  | .ins c ns ds, _, h => by
    obtain ⟨a, C, dx, us, e, q, s, k, r⟩ := h
    exact ⟨a, C, dx, us, e, q, l.2 _ _ s, k, Reps.mono l r⟩
theorem Reps.mono (l : w.Le w') : ∀ {ds : List D} {vs : List V}, Reps Γ w ds vs → Reps Γ w' ds vs
  | [], _, h => h
  | d :: ds, _, h => by
    obtain ⟨v, r, e, h1, h2⟩ := h
    exact ⟨v, r, e, Rep.mono l h1, Reps.mono l h2⟩
end
end
end Dn
namespace Dn
open PySem L2
section
variable {Γ : Gm} {w w' : Wd}
theorem Reps.nil_iff {vs : List V} : Reps Γ w [] vs ↔ vs = [] := Iff.rfl
theorem Reps.length : ∀ {ds : List D} {vs : List V}, Reps Γ w ds vs → vs.length = ds.length
  | [], _, h => by rw [show _ = [] from h]; rfl
  | d :: ds, _, h => by
    obtain ⟨v, r, e, h1, h2⟩ := h
    rw [e, List.length_cons, List.length_cons, Reps.length h2]
theorem Reps.get : ∀ {ds : List D} {vs : List V} {i : Nat} {d : D}, Reps Γ w ds vs → ds[i]? = some d → ∃ v, vs[i]? = some v ∧ Rep Γ w d v
  | [], _, i, d, h, e => by simp at e
  | x :: ds, _, 0, d, h, e => by
    obtain ⟨v, r, e1, h1, h2⟩ := h
    have : x = d := Option.some.inj e
    subst this
    exact ⟨v, by rw [e1]; rfl, h1⟩
  | x :: ds, _, i + 1, d, h, e => by
    obtain ⟨v, r, e1, h1, h2⟩ := h
    obtain ⟨u, hu, ru⟩ := Reps.get (i := i) h2 e
    exact ⟨u, by rw [e1]; exact hu, ru⟩
theorem Reps.getV : ∀ {ds : List D} {vs : List V} {i : Nat} {v : V}, Reps Γ w ds vs → vs[i]? = some v → ∃ d, ds[i]? = some d ∧ Rep Γ w d v := fun {ds vs i v} h e => by
  have hl := h.length
  have hi : i < ds.length := by rw [← hl]; exact (List.getElem?_eq_some_iff.mp e).1
  obtain ⟨u, hu, ru⟩ := h.get (List.getElem?_eq_getElem hi)
  rw [hu] at e
  cases e
  exact ⟨_, List.getElem?_eq_getElem hi, ru⟩
theorem Reps.app : ∀ {ds es : List D} {vs us : List V}, Reps Γ w ds vs → Reps Γ w es us → Reps Γ w (ds ++ es) (vs ++ us)
  | [], _, _, _, h, k => by rw [show _ = [] from h]; exact k
  | d :: ds, _, _, _, h, k => by
    obtain ⟨v, r, e, h1, h2⟩ := h
    exact ⟨v, r ++ _, by rw [e]; rfl, h1, Reps.app h2 k⟩
theorem Reps.one {d : D} {v : V} (h : Rep Γ w d v) : Reps Γ w [d] [v] := ⟨v, [], rfl, h, rfl⟩
theorem Reps.cons {d : D} {v : V} {ds : List D} {vs : List V} (h : Rep Γ w d v) (k : Reps Γ w ds vs) : Reps Γ w (d :: ds) (v :: vs) := ⟨v, vs, rfl, h, k⟩
theorem Reps.drop : ∀ {ds : List D} {vs : List V} (n : Nat), Reps Γ w ds vs → Reps Γ w (ds.drop n) (vs.drop n)
  | _, _, 0, h => h
  | [], _, n + 1, h => by rw [show _ = [] from h]; rfl
  | d :: ds, _, n + 1, h => by
    obtain ⟨v, r, e, h1, h2⟩ := h
    rw [e]
    exact Reps.drop n h2
theorem Reps.take : ∀ {ds : List D} {vs : List V} (n : Nat), Reps Γ w ds vs → Reps Γ w (ds.take n) (vs.take n)
  | _, _, 0, h => rfl
  | [], _, n + 1, h => by rw [show _ = [] from h]; rfl
  | d :: ds, _, n + 1, h => by
    obtain ⟨v, r, e, h1, h2⟩ := h
    rw [e]
    exact ⟨v, r.take n, rfl, h1, Reps.take n h2⟩
theorem Reps.set : ∀ {ds : List D} {vs : List V} (n : Nat) {d : D} {v : V}, Reps Γ w ds vs → Rep Γ w d v → Reps Γ w (ds.set n d) (vs.set n v)
  | [], _, n, _, _, h, _ => by rw [show _ = [] from h]; rfl
  | x :: ds, _, 0, _, _, h, k => by
    obtain ⟨v, r, e, h1, h2⟩ := h
    rw [e]
    exact ⟨_, r, rfl, k, h2⟩
  | x :: ds, _, n + 1, _, _, h, k => by
    obtain ⟨v, r, e, h1, h2⟩ := h
    rw [e]
    exact ⟨v, _, rfl, h1, Reps.set n h2 k⟩
theorem Reps.ints : ∀ {ns : List Int} {vs : List V}, Reps Γ w (ns.map D.int) vs → vs = ns.map V.int
  | [], _, h => h
  | n :: ns, _, h => by
    obtain ⟨v, r, e, h1, h2⟩ := h
    rw [e, show v = _ from h1, Reps.ints h2]
    rfl
theorem Reps.of_ints : ∀ (ns : List Int), Reps Γ w (ns.map D.int) (ns.map V.int)
  | [] => rfl
  | n :: ns => ⟨_, _, rfl, rfl, Reps.of_ints ns⟩
theorem Reps.bls : ∀ {ns : List Bool} {vs : List V}, Reps Γ w (ns.map D.bl) vs → vs = ns.map V.bl
  | [], _, h => h
  | n :: ns, _, h => by
    obtain ⟨v, r, e, h1, h2⟩ := h
    rw [e, show v = _ from h1, Reps.bls h2]
    rfl
theorem Reps.strs : ∀ {ns : List Str} {vs : List V}, Reps Γ w (ns.map D.str) vs → vs = ns.map V.str
  | [], _, h => h
  | n :: ns, _, h => by
    obtain ⟨v, r, e, h1, h2⟩ := h
    rw [e, show v = _ from h1, Reps.strs h2]
    rfl
theorem Reps.of_strs : ∀ (ns : List Str), Reps Γ w (ns.map D.str) (ns.map V.str)
  | [] => rfl
  | n :: ns => ⟨_, _, rfl, rfl, Reps.of_strs ns⟩
end

/-! ### the store -/
def RepO (Γ : Gm) (w : Wd) : GO → Option HO → Prop
  | .lst ds, o => ∃ vs, o = some (.lst vs) ∧ Reps Γ w ds vs
  | .dk ks ds, o => ∃ us, o = some (.dK us) ∧ us.map (·.1) = ks ∧ Reps Γ w ds (us.map (·.2))
  | .dt ks ds, o => ∃ us, o = some (.dT us) ∧ us.map (·.1) = ks ∧ Reps Γ w ds (us.map (·.2))
  | .ins c ns ds, o => ∃ C dx us, Γ.cl c = some C ∧ o = some (.ins C dx us) ∧ us.map (·.1) = ns ∧ Reps Γ w ds (us.map (·.2))
theorem RepO.mono {Γ : Gm} {w w' : Wd} (l : w.Le w') : ∀ {o : GO} {h : Option HO}, RepO Γ w o h → RepO Γ w' o h
  | .lst ds, _, ⟨vs, e, r⟩ => ⟨vs, e, r.mono l⟩
  | .dk ks ds, _, ⟨us, e, k, r⟩ => ⟨us, e, k, r.mono l⟩
  | .dt ks ds, _, ⟨us, e, k, r⟩ => ⟨us, e, k, r.mono l⟩
  | .ins c ns ds, _, ⟨C, dx, us, q, e, k, r⟩ => ⟨C, dx, us, q, e, k, r.mono l⟩
theorem RepO.some {Γ : Gm} {w : Wd} : ∀ {o : GO} {h : Option HO}, RepO Γ w o h → ∃ u, h = some u
  | .lst ds, _, ⟨vs, e, r⟩ => ⟨_, e⟩
  | .dk ks ds, _, ⟨us, e, k, r⟩ => ⟨_, e⟩
  | .dt ks ds, _, ⟨us, e, k, r⟩ => ⟨_, e⟩
  | .ins c ns ds, _, ⟨C, dx, us, q, e, k, r⟩ => ⟨_, e⟩

structure Ok (Γ : Gm) (w : Wd) (H : Hp) (g : G) : Prop where
  sub : Same w.S H
  nd : w.ads.Nodup
  off : ∀ a ∈ w.ads, w.S a = none
  len : w.ads.length = g.length
  rep : ∀ (n : Nat) (a : Addr) (o : GO), w.ads[n]? = some a → g[n]? = some o → RepO Γ w o (H a)

section
variable {Γ : Gm} {w : Wd} {H : Hp} {g : G}
theorem Ok.here (k : Ok Γ w H g) {a : Addr} (h : a ∈ w.ads) : ∃ u, H a = some u := by
  obtain ⟨n, hn, e⟩ := List.mem_iff_getElem.mp h
  have h2 : n < g.length := by rw [← k.len]; exact hn
  exact (k.rep n a _ (by rw [List.getElem?_eq_getElem hn, e]) (List.getElem?_eq_getElem h2)).some
theorem Ok.new (k : Ok Γ w H g) {p : Addr} (h : H p = none) : p ∉ w.ads ∧ w.S p = none := by
  constructor
  · intro m
    obtain ⟨u, e⟩ := k.here m
    rw [h] at e
    cases e
  · exact k.sub.free h
theorem same_upd' {H : Hp} {p : Addr} {o : HO} (h : H p = none) : Same H (upd H p o) := fun b x e => by
  rw [upd_ne (ne_of_none e h)]
  exact e
/-- a new thing that stays -/
theorem Ok.alloc (k : Ok Γ w H g) {p : Addr} (h : H p = none) (o : HO) : w.Le ⟨w.ads, upd w.S p o⟩ ∧ Ok Γ ⟨w.ads, upd w.S p o⟩ (upd H p o) g := by
  obtain ⟨n1, n2⟩ := k.new h
  have le : w.Le ⟨w.ads, upd w.S p o⟩ := ⟨⟨[], (List.append_nil _).symm⟩, same_upd' n2⟩
  refine ⟨le, ⟨fun b u e => ?_, k.nd, fun a ha => ?_, k.len, fun n a u ea eo => ?_⟩⟩
  · by_cases hb : b = p
    · subst hb
      have e' : upd w.S b o b = some u := e
      rw [upd_same] at e' ⊢
      exact e'
    · have e' : upd w.S p o b = some u := e
      rw [upd_ne hb] at e' ⊢
      exact k.sub b u e'
  · show upd w.S p o a = none
    rw [upd_ne (fun z => n1 (by rw [← z]; exact ha))]
    exact k.off a ha
  · have ha : a ∈ w.ads := List.mem_of_getElem? ea
    rw [upd_ne (fun z => n1 (by rw [← z]; exact ha))]
    exact (k.rep n a u ea eo).mono le
/-- the heap has grown by things that nobody asks for -/
theorem Ok.grow (k : Ok Γ w H g) {H' : Hp} (e : Same H H') : Ok Γ w H' g :=
  ⟨k.sub.trans e, k.nd, k.off, k.len, fun n a u ea eo => by
    have r := k.rep n a u ea eo
    obtain ⟨o, ho⟩ := r.some
    rw [e _ _ ho, ← ho]
    exact r⟩
/-- a new thing by handle -/
theorem Ok.push (k : Ok Γ w H g) {p : Addr} (h : H p = none) {o : HO} {u : GO} (r : ∀ w', w.Le w' → RepO Γ w' u (some o)) :
    w.Le ⟨w.ads ++ [p], w.S⟩ ∧ Ok Γ ⟨w.ads ++ [p], w.S⟩ (upd H p o) (g ++ [u]) := by
  obtain ⟨n1, n2⟩ := k.new h
  have le : w.Le ⟨w.ads ++ [p], w.S⟩ := ⟨⟨[p], rfl⟩, Same.refl _⟩
  refine ⟨le, ⟨fun b x e => ?_, ?_, fun a ha => ?_, ?_, fun n a x ea eo => ?_⟩⟩
  · have e' : w.S b = some x := e
    rw [upd_ne (ne_of_none e' n2)]
    exact k.sub b x e'
  · refine List.nodup_append.mpr ⟨k.nd, List.nodup_cons.mpr ⟨List.not_mem_nil, List.nodup_nil⟩, fun a ha b hb z => ?_⟩
    have : b = p := by simpa using hb
    subst this
    subst z
    exact n1 ha
  · rcases List.mem_append.mp ha with ha | ha
    · exact k.off a ha
    · have : a = p := by simpa using ha
      subst this
      exact n2
  · show (w.ads ++ [p]).length = (g ++ [u]).length
    rw [List.length_append, List.length_append, k.len]
    rfl
  · have ea : (w.ads ++ [p])[n]? = some a := ea
    by_cases hn : n < w.ads.length
    · rw [List.getElem?_append_left hn] at ea
      rw [List.getElem?_append_left (by rw [← k.len]; exact hn)] at eo
      have ha : a ∈ w.ads := List.mem_of_getElem? ea
      rw [upd_ne (fun z => n1 (by rw [← z]; exact ha))]
      exact (k.rep n a x ea eo).mono le
    · have hl : n < (w.ads ++ [p]).length := (List.getElem?_eq_some_iff.mp ea).1
      rw [List.length_append] at hl
      have e1 : n = w.ads.length := by
        have : ([p] : List Addr).length = 1 := rfl
        omega
      subst e1
      rw [List.getElem?_append_right (Nat.le_refl _), Nat.sub_self] at ea
      rw [List.getElem?_append_right (by rw [k.len]; exact Nat.le_refl _), show w.ads.length - g.length = 0 by rw [k.len]; omega] at eo
      have ea' : p = a := Option.some.inj ea
      have eo' : u = x := Option.some.inj eo
      subst ea'
      subst eo'
      rw [upd_same]
      exact r _ le
/-- a thing by handle is changed -/
theorem Ok.put (k : Ok Γ w H g) {n : Nat} {a : Addr} (ha : w.ads[n]? = some a) {o : HO} {u : GO} (r : RepO Γ w u (some o)) : Ok Γ w (upd H a o) (g.set n u) := by
  have hn : n < w.ads.length := (List.getElem?_eq_some_iff.mp ha).1
  have hm : a ∈ w.ads := List.mem_of_getElem? ha
  refine ⟨fun b x e => ?_, k.nd, k.off, by rw [List.length_set]; exact k.len, fun m b x eb ex => ?_⟩
  · rw [upd_ne (ne_of_none e (k.off a hm))]
    exact k.sub b x e
  · by_cases hmn : m = n
    · subst hmn
      rw [ha] at eb
      cases eb
      rw [List.getElem?_set_self (by rw [← k.len]; exact hn)] at ex
      cases ex
      rw [upd_same]
      exact r
    · rw [List.getElem?_set_ne (Ne.symm hmn)] at ex
      have hb : b ≠ a := fun z => by
        subst z
        obtain ⟨h1, e1⟩ := List.getElem?_eq_some_iff.mp eb
        obtain ⟨h2, e2⟩ := List.getElem?_eq_some_iff.mp ha
        exact hmn ((List.getElem_inj k.nd).mp (e1.trans e2.symm))
      rw [upd_ne hb]
      exact k.rep m b x eb ex
end

/-! ### slots -/
abbrev Env := List (Option D)
def RepS (Γ : Gm) (w : Wd) (ρ : Env) (σ : L2.St) : Prop := ρ.length = σ.length ∧ ∀ (i : Nat) (d : D), ρ[i]? = some (some d) → ∃ v, σ[i]? = some (some v) ∧ Rep Γ w d v
section
variable {Γ : Gm} {w w' : Wd} {ρ : Env} {σ : L2.St}
theorem RepS.mono (l : w.Le w') (h : RepS Γ w ρ σ) : RepS Γ w' ρ σ := ⟨h.1, fun i d e => by
  obtain ⟨v, e1, r⟩ := h.2 i d e
  exact ⟨v, e1, r.mono l⟩⟩
theorem RepS.set (h : RepS Γ w ρ σ) (i : Nat) {d : D} {v : V} (r : Rep Γ w d v) : RepS Γ w (ρ.set i (some d)) (σ.set i (some v)) := by
  refine ⟨by rw [List.length_set, List.length_set]; exact h.1, fun j e ej => ?_⟩
  by_cases hj : i = j
  · subst hj
    by_cases hl : i < ρ.length
    · rw [List.getElem?_set_self hl] at ej
      cases ej
      exact ⟨v, List.getElem?_set_self (by rw [← h.1]; exact hl), r⟩
    · rw [List.getElem?_eq_none (by rw [List.length_set]; omega)] at ej
      cases ej
  · rw [List.getElem?_set_ne hj] at ej
    obtain ⟨u, e1, q⟩ := h.2 j e ej
    exact ⟨u, by rw [List.getElem?_set_ne hj]; exact e1, q⟩
end

/-! ### readings -/
def RepX (Γ : Gm) (w : Wd) (x : Xn) (c : Value) (dd : Option Addr) : Prop := ∃ C d us, Γ.cl x.c = some C ∧ c = .ref C ∧ dd = some d ∧ w.S d = some (.xd us) ∧ us.map (·.1) = x.ns ∧ Reps Γ w x.ds (us.map (·.2))
/-- what the heap has beside the world: kept, and still beside it -/
structure Priv (w : Wd) (H : Hp) (p : Addr) (o : HO) : Prop where
  at_ : H p = some o
  ads : p ∉ w.ads
  st : w.S p = none
def Off (w : Wd) (H : Hp) (w' : Wd) (H' : Hp) : Prop := ∀ p o, Priv w H p o → Priv w' H' p o
theorem Off.refl (w : Wd) (H : Hp) : Off w H w H := fun _ _ h => h
theorem Off.trans {w w1 w2 : Wd} {H H1 H2 : Hp} (a : Off w H w1 H1) (b : Off w1 H1 w2 H2) : Off w H w2 H2 := fun p o h => b p o (a p o h)
theorem Off.alloc {w : Wd} {H : Hp} {p : Addr} {o : HO} (h : H p = none) : Off w H ⟨w.ads, upd w.S p o⟩ (upd H p o) := fun q u x => by
  have hq : q ≠ p := ne_of_none x.at_ h
  exact ⟨by rw [upd_ne hq]; exact x.at_, x.ads, by show upd w.S p o q = none; rw [upd_ne hq]; exact x.st⟩
theorem Off.push {w : Wd} {H : Hp} {p : Addr} {o : HO} (h : H p = none) : Off w H ⟨w.ads ++ [p], w.S⟩ (upd H p o) := fun q u x => by
  have hq : q ≠ p := ne_of_none x.at_ h
  refine ⟨by rw [upd_ne hq]; exact x.at_, fun m => ?_, x.st⟩
  rcases List.mem_append.mp m with m | m
  · exact x.ads m
  · exact hq (by simpa using m)
theorem Off.put {w : Wd} {H : Hp} {n : Nat} {a : Addr} {o : HO} (ha : w.ads[n]? = some a) : Off w H w (upd H a o) := fun q u x => by
  have hq : q ≠ a := fun z => x.ads (by rw [z]; exact List.mem_of_getElem? ha)
  exact ⟨by rw [upd_ne hq]; exact x.at_, x.ads, x.st⟩
/-- what is wanted of a result: of its value and the heap behind it; of what it raises. R: how a datum shows -/
def Fin (Γ : Gm) (W : WX) {α β : Type} (R : Wd → α → β → Prop) (w : Wd) (H : Hp) (σ : L2.St) : Res α → (β → Hp → Prop) → Prop
  | .ok d g, Q => ∀ w' H' v, w.Le w' → Off w H w' H' → Ok Γ w' H' g → R w' d v → Q v H'
  | .err x g, _ => ∀ w' H' c dd, w.Le w' → Off w H w' H' → Ok Γ w' H' g → RepX Γ w' x c dd → W c dd σ H'
  | .bad, _ => False
/-- a reading by a function -/
def tG (Γ : Gm) (W : WX) {α β : Type} (R : Wd → α → β → Prop) (f : Env → G → Res α) : L2.St → Hp → (β → Hp → Prop) → Prop := fun σ H Q => ∃ w ρ g, Ok Γ w H g ∧ RepS Γ w ρ σ ∧ Fin Γ W R w H σ (f ρ g) Q
abbrev DE := Env → G → Res D
abbrev DT := Env → G → Res Bool
abbrev DA := Env → G → Res (List D)
abbrev DO := Env → G → Res (Option Int)
def REq {α : Type} : Wd → α → α → Prop := fun _ a b => b = a
abbrev tD (Γ : Gm) (W : WX) (f : DE) : TE := tG Γ W (Rep Γ) f
abbrev tT (Γ : Gm) (W : WX) (f : DT) : TT := tG Γ W REq f
abbrev tA (Γ : Gm) (W : WX) (f : DA) : TA := tG Γ W (Reps Γ) f
abbrev tO (Γ : Gm) (W : WX) (f : DO) : TO := tG Γ W REq f
section
variable {Γ : Gm} {W : WX} {α β γ δ : Type} {R : Wd → α → β → Prop} {R' : Wd → γ → δ → Prop} {w w' : Wd} {σ : L2.St} {H H' : Hp} {g : G} {ρ : Env} {Q Q' : β → Hp → Prop} {P : δ → Hp → Prop} {r : Res α}
theorem Fin.imp (h : Fin Γ W R w H σ r Q) (q : ∀ v H, Q v H → Q' v H) : Fin Γ W R w H σ r Q' := by
  cases r with
  | ok d g => exact fun w' H' v l f k p => q _ _ (h w' H' v l f k p)
  | err x g => exact h
  | bad => exact h
theorem Fin.mono (l : w.Le w') (f : Off w H w' H') (h : Fin Γ W R w H σ r Q) : Fin Γ W R w' H' σ r Q := by
  cases r with
  | ok d g => exact fun w2 H2 v l2 f2 k p => h w2 H2 v (l.trans l2) (f.trans f2) k p
  | err x g => exact fun w2 H2 c dd l2 f2 k p => h w2 H2 c dd (l.trans l2) (f.trans f2) k p
  | bad => exact h
/-- one part, then what is done with it -/
theorem Fin.seqO {k : α → G → Res γ} (h : Fin Γ W R' w H σ (r.bind k) P) : Fin Γ W R w H σ r fun v H1 => ∃ w1 d g1, w.Le w1 ∧ Off w H w1 H1 ∧ Ok Γ w1 H1 g1 ∧ R w1 d v ∧ Fin Γ W R' w1 H1 σ (k d g1) P := by
  cases r with
  | ok d g =>
    intro w1 H1 v l f o p
    exact ⟨w1, d, g, l, f, o, p, Fin.mono l f h⟩
  | err x g => exact h
  | bad => exact h
theorem Fin.seq {k : α → G → Res γ} (h : Fin Γ W R' w H σ (r.bind k) P) : Fin Γ W R w H σ r fun v H1 => ∃ w1 d g1, w.Le w1 ∧ Ok Γ w1 H1 g1 ∧ R w1 d v ∧ Fin Γ W R' w1 H1 σ (k d g1) P :=
  (Fin.seqO (R := R) h).imp fun v H1 ⟨w1, d, g1, l, _, o, p, z⟩ => ⟨w1, d, g1, l, o, p, z⟩
theorem Fin.val {d : α} {v : β} (h : Fin Γ W R w H σ (.ok d g) Q) (k : Ok Γ w H g) (p : R w d v) : Q v H := h w H v (Wd.Le.refl w) (Off.refl w H) k p
/-- .. a new object has been laid -/
theorem Fin.newV {d : α} {v : β} {p : Addr} {o : HO} (h : Fin Γ W R w H σ (.ok d g) Q) (k : Ok Γ w H g) (hp : H p = none) (q : ∀ w', w.Le w' → w'.S p = some o → R w' d v) : Q v (upd H p o) :=
  h _ _ v (k.alloc hp o).1 (Off.alloc hp) (k.alloc hp o).2 (q _ (k.alloc hp o).1 upd_same)
/-- the parts of a reading, one after another -/
theorem tG_seq {f : Env → G → Res α} {k : α → Env → G → Res γ} (h : tG Γ W R' (fun ρ g => (f ρ g).bind fun x g1 => k x ρ g1) σ H P) : tG Γ W R f σ H fun v H1 => ∃ w ρ x g, Ok Γ w H1 g ∧ RepS Γ w ρ σ ∧ R w x v ∧ Fin Γ W R' w H1 σ (k x ρ g) P := by
  obtain ⟨w, ρ, g, o, s, q⟩ := h
  exact ⟨w, ρ, g, o, s, q.seq.imp fun v H1 ⟨w1, d, g1, l, o1, p, z⟩ => ⟨w1, ρ, d, g1, o1, s.mono l, p, z⟩⟩
theorem tG.imp {f : Env → G → Res α} (h : tG Γ W R f σ H Q) (q : ∀ v H, Q v H → Q' v H) : tG Γ W R f σ H Q' := by
  obtain ⟨w, ρ, g, o, s, z⟩ := h
  exact ⟨w, ρ, g, o, s, z.imp q⟩
end
theorem PE.weak {X : Cx} {e : Expr} {t t' : TE} (h : PE X e t) (i : ∀ σ H Q, t' σ H Q → t σ H Q) : PE X e t' := ⟨fun pins s σ H Q I q => h.run pins s σ H Q I (i σ H Q q)⟩
theorem PT.weak {X : Cx} {e : Expr} {t t' : TT} (h : PT X e t) (i : ∀ σ H Q, t' σ H Q → t σ H Q) : PT X e t' := ⟨fun pins s σ H Q I q => h.run pins s σ H Q I (i σ H Q q)⟩
theorem PW.weak {X : Cx} {e : Expr} {t t' : TT} (h : PW X e t) (i : ∀ σ H Q, t' σ H Q → t σ H Q) : PW X e t' := ⟨fun wh pins s σ H Q I q => h.run wh pins s σ H Q I (i σ H Q q)⟩
theorem PA.weak {X : Cx} {e : List Expr} {t t' : TA} (h : PA X e t) (i : ∀ σ H Q, t' σ H Q → t σ H Q) : PA X e t' := ⟨fun pos pins s σ H Q I q => h.run pos pins s σ H Q I (i σ H Q q)⟩
theorem PO.weak {X : Cx} {e : Option Expr} {t t' : TO} (h : PO X e t) (i : ∀ σ H Q, t' σ H Q → t σ H Q) : PO X e t' := ⟨fun pins s σ H Q I q => h.run pins s σ H Q I (i σ H Q q)⟩
theorem PS.weak {X : Cx} {e : Stmt} {t t' : TS} (h : PS X e t) (i : ∀ D σ H, t' D σ H → t D σ H) : PS X e t' := ⟨fun pins s σ H D I q => h.run pins s σ H D I (i D σ H q)⟩
theorem PSs.weak {X : Cx} {e : List Stmt} {t t' : TS} (h : PSs X e t) (i : ∀ D σ H, t' D σ H → t D σ H) : PSs X e t' := ⟨fun pins s σ H D I q => h.run pins s σ H D I (i D σ H q)⟩
theorem PI.weak {X : Cx} {tg e : Expr} {t t' : TI} (h : PI X tg e t) (i : ∀ σ H Q, t' σ H Q → t σ H Q) : PI X tg e t' := ⟨fun pins s σ H Q I q => h.run pins s σ H Q I (i σ H Q q)⟩
theorem PG.weak {X : Cx} {tg : Expr} {t t' : TG} (h : PG X tg t) (i : ∀ v σ H Q, t' v σ H Q → t v σ H Q) : PG X tg t' := ⟨fun pins s σ H v u Q I r q => h.run pins s σ H v u Q I r (i v σ H Q q)⟩
theorem PE.or {X : Cx} {e : Expr} {t t' : TE} (h : PE X e t) (h' : PE X e t') : PE X e (fun σ H Q => t σ H Q ∨ t' σ H Q) := ⟨fun pins s σ H Q I q => q.elim (fun z => h.run pins s σ H Q I z) (fun z => h'.run pins s σ H Q I z)⟩
theorem PI.or {X : Cx} {tg e : Expr} {t t' : TI} (h : PI X tg e t) (h' : PI X tg e t') : PI X tg e (fun σ H Q => t σ H Q ∨ t' σ H Q) := ⟨fun pins s σ H Q I q => q.elim (fun z => h.run pins s σ H Q I z) (fun z => h'.run pins s σ H Q I z)⟩

/-! ### expressions -/
section
variable {X : Cx} {cl : Str → Option Addr} {W : WX} {a b c e : Expr} {es : List Expr} {fa fb fc f : DE} {ft fu : DT} {fs : DA} {pos : Pos} {σ : L2.St} {H : Hp} {Q : VK} {Γ : Gm}
abbrev PD (X : Cx) (cl : Str → Option Addr) (W : WX) (e : Expr) (f : DE) : Prop := PE X e (tD ⟨X.K, cl⟩ W f)
abbrev PDT (X : Cx) (cl : Str → Option Addr) (W : WX) (e : Expr) (f : DT) : Prop := PT X e (tT ⟨X.K, cl⟩ W f)
abbrev PDA (X : Cx) (cl : Str → Option Addr) (W : WX) (es : List Expr) (f : DA) : Prop := PA X es (tA ⟨X.K, cl⟩ W f)
def dVar (i : Nat) : DE := fun ρ g => match ρ[i]? with
  | some (some d) => .ok d g
  | _ => .bad
theorem pd_var (i : Nat) {x : Str} (h : PE X (.Name x pos) (tVar i)) : PD X cl W (.Name x pos) (dVar i) := PE.weak h fun σ H Q ⟨w, ρ, g, o, s, q⟩ => by
  unfold dVar at q
  split at q
  · rename_i d e
    obtain ⟨v, e1, r⟩ := s.2 i d e
    exact ⟨v, e1, q.val o r⟩
  · exact q.elim
def dC (d : D) : DE := fun _ g => .ok d g
theorem pd_c {d : D} {v : V} (h : PE X e (tC v)) (r : ∀ w, Rep ⟨X.K, cl⟩ w d v) : PD X cl W e (dC d) := PE.weak h fun σ H Q ⟨w, ρ, g, o, s, q⟩ => q.val o (r w)
theorem pd_int {i j} : PD X cl W (.Constant (.int i) j pos) (dC (.int i)) := pd_c pe_int fun _ => rfl
theorem pd_bl {i j} : PD X cl W (.Constant (.bool i) j pos) (dC (.bl i)) := pd_c pe_bl fun _ => rfl
theorem pd_non {j} : PD X cl W (.Constant .none j pos) (dC .non) := pd_c pe_non fun _ => rfl
theorem pd_str {i j} : PD X cl W (.Constant (.str i) j pos) (dC (.str i)) := pd_c pe_str fun _ => rfl

/-- what is asked of an operation on values, by an operation on data -/
abbrev F1 := D → G → Res D
abbrev F2 := D → D → G → Res D
abbrev FA := List D → G → Res D
def OpD (Γ : Gm) (W : WX) (r : R2) (k : F2) : Prop := ∀ (w : Wd) (σ : L2.St) (H : Hp) (g : G) (x y : D) (u v : V) (Q : VK), Ok Γ w H g → Rep Γ w x u → Rep Γ w y v → Fin Γ W (Rep Γ) w H σ (k x y g) Q → r u v H Q
def UnD (Γ : Gm) (W : WX) (r : V → Hp → VK → Prop) (k : F1) : Prop := ∀ (w : Wd) (σ : L2.St) (H : Hp) (g : G) (x : D) (u : V) (Q : VK), Ok Γ w H g → Rep Γ w x u → Fin Γ W (Rep Γ) w H σ (k x g) Q → r u H Q
def CaD (Γ : Gm) (W : WX) (r : List V → Hp → VK → Prop) (k : FA) : Prop := ∀ (w : Wd) (σ : L2.St) (H : Hp) (g : G) (xs : List D) (us : List V) (Q : VK), Ok Γ w H g → Reps Γ w xs us → Fin Γ W (Rep Γ) w H σ (k xs g) Q → r us H Q
def d1 (k : F1) (fa : DE) : DE := fun ρ g => (fa ρ g).bind k
def d2 (k : F2) (fa fb : DE) : DE := fun ρ g => (fa ρ g).bind fun x g1 => (fb ρ g1).bind fun y g2 => k x y g2
def dA (k : FA) (fs : DA) : DE := fun ρ g => (fs ρ g).bind k
theorem tD_op {r : R2} {k : F2} (h : OpD Γ W r k) (q : tD Γ W (d2 k fa fb) σ H Q) : tOp r (tD Γ W fa) (tD Γ W fb) σ H Q :=
  (tG_seq (R := Rep Γ) (f := fa) (k := fun x ρ g1 => (fb ρ g1).bind fun y g2 => k x y g2) q).imp fun v H1 ⟨w, ρ, x, g, o, s, p, z⟩ =>
    ⟨w, ρ, g, o, s, (z.seq (R := Rep Γ)).imp fun u H2 ⟨w2, y, g2, l, o2, p2, z2⟩ => h w2 σ H2 g2 x y v u Q o2 (p.mono l) p2 z2⟩
theorem tD_un {r : V → Hp → VK → Prop} {k : F1} (h : UnD Γ W r k) (q : tD Γ W (d1 k fa) σ H Q) : tUn r (tD Γ W fa) σ H Q :=
  (tG_seq (R := Rep Γ) (f := fa) (k := fun x _ g1 => k x g1) q).imp fun v H1 ⟨w, ρ, x, g, o, s, p, z⟩ => h w σ H1 g x v Q o p z
theorem tD_ca {r : List V → Hp → VK → Prop} {k : FA} (h : CaD Γ W r k) (q : tD Γ W (dA k fs) σ H Q) : tCB r (tA Γ W fs) σ H Q :=
  (tG_seq (R := Reps Γ) (f := fs) (k := fun x _ g1 => k x g1) q).imp fun v H1 ⟨w, ρ, x, g, o, s, p, z⟩ => h w σ H1 g x v Q o p z
theorem pd_op {op : Operator} {r : R2} {k : F2} (ho : OpR X (binaryOp op) r) (hk : OpD ⟨X.K, cl⟩ W r k) (ha : PD X cl W a fa) (hb : PD X cl W b fb) : PD X cl W (.BinOp a op b pos) (d2 k fa fb) :=
  PE.weak (pe_op ho ha hb) fun σ H Q q => tD_op hk q
theorem pd_un {op : UnaryOp} {r : V → Hp → VK → Prop} {k : F1} (ho : UnR X (unaryOp op) r) (hk : UnD ⟨X.K, cl⟩ W r k) (ha : PD X cl W a fa) : PD X cl W (.UnaryOp op a pos) (d1 k fa) :=
  PE.weak (pe_un ho ha) fun σ H Q q => tD_un hk q
theorem pd_cmp {op : CmpOp} {r : R2} {k : F2} (ho : OpR X (compareOp op) r) (hk : OpD ⟨X.K, cl⟩ W r k) (ha : PD X cl W a fa) (hb : PD X cl W b fb) (hm : behindInMarks op b = false) : PD X cl W (.Compare a [op] [b] pos) (d2 k fa fb) :=
  PE.weak (pe_cmpR ho ha hb hm) fun σ H Q q => tD_op hk q
/-- a datum that is a bool -/
def boolD (d : D) (g : G) : Res Bool := match d with
  | .bl b => .ok b g
  | _ => .bad
def dB (f : DE) : DT := fun ρ g => (f ρ g).bind boolD
theorem boolD_fin {w : Wd} {d : D} {v : V} {g : G} {Q : Bool → Hp → Prop} (o : Ok Γ w H g) (p : Rep Γ w d v) (z : Fin Γ W REq w H σ (boolD d g) Q) : ∃ k, v = .bl k ∧ Q k H := by
  cases d with
  | bl b => exact ⟨b, p, z.val o rfl⟩
  | _ => exact z.elim
theorem pdt_cmp {op : CmpOp} {r : R2} {k : F2} (ho : OpR X (compareOp op) r) (hk : OpD ⟨X.K, cl⟩ W r k) (ha : PD X cl W a fa) (hb : PD X cl W b fb) (hm : behindInMarks op b = false) : PDT X cl W (.Compare a [op] [b] pos) (dB (d2 k fa fb)) :=
  PT.weak (pt_cmpR ho ha hb hm) fun σ H Q q => by
    have h1 := tG_seq (R := Rep ⟨X.K, cl⟩) (f := d2 k fa fb) (k := fun x _ g1 => boolD x g1) q
    exact tD_op hk (h1.imp fun v H1 ⟨w, ρ, x, g, o, s, p, z⟩ => boolD_fin o p z)
/-! ### arguments -/
def dNil : DA := fun _ g => .ok [] g
def dCons (fa : DE) (fs : DA) : DA := fun ρ g => (fa ρ g).bind fun x g1 => (fs ρ g1).bind fun xs g2 => .ok (x :: xs) g2
theorem pda_nil : PDA X cl W [] dNil := PA.weak pa_nil fun σ H Q ⟨w, ρ, g, o, s, q⟩ => q.val o rfl
theorem pda_cons (ha : PD X cl W e fa) (hr : PDA X cl W es fs) (hs : starEach (e :: es) X.env = (false, eval e X.env) :: starEach es X.env := by rfl) : PDA X cl W (e :: es) (dCons fa fs) :=
  PA.weak (pa_cons ha hr hs) fun σ H Q q =>
    (tG_seq (R := Rep ⟨X.K, cl⟩) (f := fa) (k := fun x ρ g1 => (fs ρ g1).bind fun xs g2 => .ok (x :: xs) g2) q).imp fun v H1 ⟨w, ρ, x, g, o, s, p, z⟩ =>
      ⟨w, ρ, g, o, s, (z.seq (R := Reps ⟨X.K, cl⟩)).imp fun us H2 ⟨w2, y, g2, l, o2, p2, z2⟩ => z2.val o2 (Reps.cons (p.mono l) p2)⟩
end
end Dn
namespace Dn
open PySem L2
/-! ### operations on data -/
def goL (g : G) (n : Nat) : Option (List D) := match g[n]? with
  | some (.lst xs) => some xs
  | _ => none
theorem goL_some {g : G} {n : Nat} {xs : List D} (h : goL g n = some xs) : g[n]? = some (.lst xs) := by
  unfold goL at h
  split at h
  · rename_i e
    cases h
    exact e
  · cases h
/-- the items of a list that may be joined -/
def lstOf (g : G) : D → Option (List D)
  | .lst xs => some xs
  | .ref n => goL g n
  | _ => none
def seqL (g : G) : D → Option (List D)
  | .fz xs => some xs
  | d => lstOf g d
def seqT : D → Option (List D)
  | .tup xs => some xs
  | .ftup xs => some xs
  | _ => none
section
variable {Γ : Gm} {W : WX} {w : Wd} {H : Hp} {g : G} {d : D} {v : V} {xs : List D}
theorem lstOf_rep (o : Ok Γ w H g) (p : Rep Γ w d v) (e : lstOf g d = some xs) : ∃ a vs, v = .ref a ∧ H a = some (.lst vs) ∧ Reps Γ w xs vs := by
  cases d with
  | lst ys =>
    obtain ⟨a, vs, e1, h, r⟩ := p
    cases e
    exact ⟨a, vs, e1, o.sub _ _ h, r⟩
  | ref n =>
    obtain ⟨a, e1, h⟩ := p
    obtain ⟨vs, e2, r⟩ := o.rep n a _ h (goL_some e)
    exact ⟨a, vs, e1, e2, r⟩
  | _ => cases e
theorem seqL_rep (o : Ok Γ w H g) (p : Rep Γ w d v) (e : seqL g d = some xs) : ∃ a vs, v = .ref a ∧ SqL Γ.K H a vs ∧ Reps Γ w xs vs := by
  by_cases hf : ∃ ys, d = .fz ys
  · obtain ⟨ys, rfl⟩ := hf
    obtain ⟨a, vs, e1, h, r⟩ := p
    cases e
    exact ⟨a, vs, e1, o.sub.seq h, r⟩
  · have e' : lstOf g d = some xs := by
      cases d with
      | fz ys => exact absurd ⟨ys, rfl⟩ hf
      | _ => exact e
    obtain ⟨a, vs, e1, h, r⟩ := lstOf_rep o p e'
    exact ⟨a, vs, e1, SqL.of h, r⟩
theorem seqT_rep (o : Ok Γ w H g) (p : Rep Γ w d v) (e : seqT d = some xs) : ∃ a vs, v = .ref a ∧ SqT Γ.K H a vs ∧ Reps Γ w xs vs := by
  cases d with
  | tup ys =>
    obtain ⟨a, vs, e1, h, r⟩ := p
    cases e
    exact ⟨a, vs, e1, SqT.of (o.sub _ _ h), r⟩
  | ftup ys =>
    obtain ⟨a, vs, e1, h, r⟩ := p
    cases e
    exact ⟨a, vs, e1, sqT_mono o.sub h, r⟩
  | _ => cases e
end
def big (n : Nat) : Bool := decide (n ≤ sizeLine)
theorem big_of {n : Nat} (h : n ≤ 1000000) : big n = true := decide_eq_true (Nat.le_trans h (by decide))

/-- + -/
def addD : F2 := fun x y g => match x, y with
  | .int i, .int j => .ok (.int (i + j)) g
  | .str i, .str j => if i.length + j.length ≤ sizeLine then .ok (.str (i ++ j)) g else .bad
  | .tup i, .tup j => if i.length + j.length ≤ sizeLine then .ok (.tup (i ++ j)) g else .bad
  | x, y => match lstOf g x, lstOf g y with
    | some i, some j => if i.length + j.length ≤ sizeLine then .ok (.lst (i ++ j)) g else .bad
    | _, _ => .bad
def rAddAll (K : PySem.W.Frag) : R2 := fun x y H Q => (rI0 (fun i j => .int (i + j)) x y H Q) ∨ ((∃ i j, x = .str i ∧ y = .str j ∧ i.length + j.length ≤ sizeLine ∧ Q (.str (i ++ j)) H) ∨ (rCatA K x y H Q ∨ rCat x y H Q))
theorem op_addAll {X : Cx} : OpR X (binaryOp .Add) (rAddAll X.K) := op_add.or (op_add_str.or (op_catA.or op_cat))
section
variable {Γ : Gm} {W : WX}
theorem add_lists {w : Wd} {σ : L2.St} {H : Hp} {g : G} {x y : D} {u v : V} {Q : VK} (o : Ok Γ w H g) (px : Rep Γ w x u) (py : Rep Γ w y v)
    (z : Fin Γ W (Rep Γ) w H σ (match lstOf g x, lstOf g y with
    | some i, some j => if i.length + j.length ≤ sizeLine then .ok (.lst (i ++ j)) g else .bad
    | _, _ => .bad) Q) : rCat u v H Q := by
  split at z
  · rename_i i j e1 e2
    obtain ⟨a, vs, rfl, h1, r1⟩ := lstOf_rep o px e1
    obtain ⟨b, us, rfl, h2, r2⟩ := lstOf_rep o py e2
    split at z
    · rename_i hs
      refine ⟨a, b, vs, us, rfl, rfl, h1, h2, by rw [r1.length, r2.length]; exact hs, fun p hp => ?_⟩
      exact z.newV o hp fun w' l hS => ⟨p, vs ++ us, rfl, hS, (r1.mono l).app (r2.mono l)⟩
    · exact z.elim
  · exact z.elim
theorem od_add : OpD Γ W (rAddAll Γ.K) addD := by
  intro w σ H g x y u v Q o px py z
  unfold addD at z
  split at z
  · exact .inl ⟨_, _, px, py, z.val o rfl⟩
  · split at z
    · rename_i hs
      exact .inr (.inl ⟨_, _, px, py, hs, z.val o rfl⟩)
    · exact z.elim
  · split at z
    · rename_i i j hs
      obtain ⟨a, vs, rfl, h1, r1⟩ := px
      obtain ⟨b, us, rfl, h2, r2⟩ := py
      refine .inr (.inr (.inl ⟨a, b, vs, us, rfl, rfl, SqT.of (o.sub _ _ h1), SqT.of (o.sub _ _ h2), by rw [r1.length, r2.length]; exact hs, fun e => ?_, fun _ e => ?_, fun _ _ p hp => ?_⟩))
      · subst e
        have : i = [] := List.eq_nil_of_length_eq_zero (by rw [← r1.length]; rfl)
        subst this
        exact z.val o ⟨b, us, rfl, h2, r2⟩
      · subst e
        have : j = [] := List.eq_nil_of_length_eq_zero (by rw [← r2.length]; rfl)
        subst this
        rw [List.append_nil] at z
        exact z.val o ⟨a, vs, rfl, h1, r1⟩
      · exact z.newV o hp fun w' l hS => ⟨p, vs ++ us, rfl, hS, (r1.mono l).app (r2.mono l)⟩
    · exact z.elim
  · exact .inr (.inr (.inr (add_lists o px py z)))
/-- ints -/
def intD (C : Int → Int → Prop) [∀ i j, Decidable (C i j)] (f : Int → Int → Int) : F2 := fun x y g => match x, y with
  | .int i, .int j => if C i j then .ok (.int (f i j)) g else .bad
  | _, _ => .bad
theorem od_int {C : Int → Int → Prop} [∀ i j, Decidable (C i j)] {f : Int → Int → Int} : OpD Γ W (rI C fun i j => .int (f i j)) (intD C f) := by
  intro w σ H g x y u v Q o px py z
  unfold intD at z
  split at z
  · split at z
    · rename_i hc
      exact ⟨_, _, px, py, hc, z.val o rfl⟩
    · exact z.elim
  · exact z.elim
def intD0 (f : Int → Int → Int) : F2 := fun x y g => match x, y with
  | .int i, .int j => .ok (.int (f i j)) g
  | _, _ => .bad
theorem od_int0 {f : Int → Int → Int} : OpD Γ W (rI0 fun i j => .int (f i j)) (intD0 f) := by
  intro w σ H g x y u v Q o px py z
  unfold intD0 at z
  split at z
  · exact ⟨_, _, px, py, z.val o rfl⟩
  · exact z.elim
def cmpD (f : Int → Int → Bool) : F2 := fun x y g => match x, y with
  | .int i, .int j => .ok (.bl (f i j)) g
  | _, _ => .bad
theorem od_cmp {f : Int → Int → Bool} : OpD Γ W (rI0 fun i j => .bl (f i j)) (cmpD f) := by
  intro w σ H g x y u v Q o px py z
  unfold cmpD at z
  split at z
  · exact ⟨_, _, px, py, z.val o rfl⟩
  · exact z.elim
end
abbrev subD : F2 := intD0 fun i j => i - j
abbrev ltD : F2 := cmpD fun i j => decide (i < j)
abbrev leD : F2 := cmpD fun i j => decide (i ≤ j)
abbrev gtD : F2 := cmpD fun i j => decide (j < i)
abbrev geD : F2 := cmpD fun i j => decide (j ≤ i)
instance : ∀ i j, Decidable (CDivW i j) := fun i j => inferInstanceAs (Decidable (_ ∧ _))
instance : ∀ i j, Decidable (CMulW i j) := fun i j => inferInstanceAs (Decidable (_ < _))
instance : ∀ i j, Decidable (CPow i j) := fun i j => inferInstanceAs (Decidable (_ ∧ _ ∧ _))
abbrev fdivD : F2 := intD CDivW fun i j => i / j
abbrev modD : F2 := intD (fun _ j => 0 < j) fun i j => i % j
abbrev modND : F2 := intD (fun _ j => j ≠ 0) fun i j => i.fmod j
abbrev powD : F2 := intD CPow fun i j => i ^ j.toNat
/-- one factor short, or both together below a million bits -/
def CMulA (i j : Int) : Prop := CMul i j ∨ CMulW i j
instance : ∀ i j, Decidable (CMul i j) := fun i j => inferInstanceAs (Decidable (_ ∨ _))
instance : ∀ i j, Decidable (CMulA i j) := fun i j => inferInstanceAs (Decidable (_ ∨ _))
theorem op_mulA {X : Cx} : OpR X (binaryOp .Mult) (rI CMulA fun i j => .int (i * j)) := opI fun _ _ _ _ _ _ _ hc q => PyProof.Rows.mul_int q (hc.elim (fun h => h.ok) (fun h => h.ok))
/-- * : ints; a list, a tuple times an int -/
def mulD : F2 := fun x y g => match x, y with
  | .int i, .int j => if CMulA i j then .ok (.int (i * j)) g else .bad
  | .tup i, .int k => if i ≠ [] ∧ 2 ≤ k ∧ k ≤ 1000 ∧ i.length ≤ 1000 then .ok (.tup (List.replicate k.toNat i).flatten) g else .bad
  | x, .int k => match lstOf g x with
    | some i => if -(2 ^ 63) ≤ k ∧ k < 2 ^ 63 ∧ i.length * k.toNat ≤ sizeLine then .ok (.lst (List.replicate k.toNat i).flatten) g else .bad
    | _ => .bad
  | _, _ => .bad
def rMulAll (K : PySem.W.Frag) : R2 := fun x y H Q => (rI CMulA (fun i j => .int (i * j)) x y H Q) ∨ (rRepT K x y H Q ∨ rRep x y H Q)
theorem op_mulAll {X : Cx} : OpR X (binaryOp .Mult) (rMulAll X.K) := op_mulA.or (op_repT.or op_rep)
theorem Reps.rep {Γ : Gm} {w : Wd} {xs : List D} {vs : List V} (h : Reps Γ w xs vs) : ∀ k : Nat, Reps Γ w (List.replicate k xs).flatten (List.replicate k vs).flatten
  | 0 => rfl
  | k + 1 => by
    rw [List.replicate_succ, List.replicate_succ, List.flatten_cons, List.flatten_cons]
    exact h.app (h.rep k)
theorem od_mul {Γ : Gm} {W : WX} : OpD Γ W (rMulAll Γ.K) mulD := by
  intro w σ H g x y u v Q o px py z
  unfold mulD at z
  split at z
  · split at z
    · rename_i hc
      exact .inl ⟨_, _, px, py, hc, z.val o rfl⟩
    · exact z.elim
  · split at z
    · rename_i i k hc
      obtain ⟨a, vs, rfl, h1, r1⟩ := px
      have hn : vs ≠ [] := fun e => hc.1 (List.eq_nil_of_length_eq_zero (by rw [← r1.length, e]; rfl))
      refine .inr (.inl ⟨a, k, vs, rfl, py, SqT.of (o.sub _ _ h1), hn, hc.2.1, hc.2.2.1, by rw [r1.length]; exact hc.2.2.2, fun p hp => ?_⟩)
      exact z.newV o hp fun w' l hS => ⟨p, _, rfl, hS, (r1.mono l).rep _⟩
    · exact z.elim
  · split at z
    · rename_i i e1
      split at z
      · rename_i hc
        obtain ⟨a, vs, rfl, h1, r1⟩ := lstOf_rep o px e1
        refine .inr (.inr ⟨a, _, vs, rfl, py, h1, hc.1, hc.2.1, by rw [r1.length]; exact hc.2.2, fun p hp => ?_⟩)
        exact z.newV o hp fun w' l hS => ⟨p, _, rfl, hS, (r1.mono l).rep _⟩
      · exact z.elim
    · exact z.elim
  · exact z.elim
/-- -x -/
def negD : F1 := fun x g => match x with
  | .int i => .ok (.int (-i)) g
  | _ => .bad
theorem ud_neg {Γ : Gm} {W : WX} : UnD Γ W (rU fun i => .int (-i)) negD := by
  intro w σ H g x u Q o px z
  unfold negD at z
  split at z
  · exact ⟨_, px, z.val o rfl⟩
  · exact z.elim

/-! ### == -/
mutual
def toPy : D → Option PyData
  | .non => some .none
  | .bl b => some (.bool b)
  | .int i => some (.int i)
  | .str x => some (.str x)
  | .tup xs => (toPys xs).map .tuple
  | .ftup xs => (toPys xs).map .tuple
  | .lst xs => (toPys xs).map .list
  | .fz xs => (toPys xs).map .list
  | _ => none
def toPys : List D → Option (List PyData)
  | [] => some []
  | d :: ds => (toPy d).bind fun p => (toPys ds).map fun ps => p :: ps
end
def toPyG (g : G) : D → Option PyData
  | .ref n => (goL g n).bind fun xs => (toPys xs).map .list
  | d => toPy d
section
variable {Γ : Gm} {W : WX} {w : Wd} {H : Hp} {g : G}
mutual
theorem toPy_dp (e : Same w.S H) : ∀ {d : D} {v : V} {p : PyData}, Rep Γ w d v → toPy d = some p → Dp Γ.K H v p
  | .non, v, p, h, q => by cases q; rw [show v = _ from h]; exact .non
  | .bl b, v, p, h, q => by cases q; rw [show v = _ from h]; exact .bl b
  | .int i, v, p, h, q => by cases q; rw [show v = _ from h]; exact .int i
  | .str x, v, p, h, q => by cases q; rw [show v = _ from h]; exact .str x
  | .tup xs, v, p, h, q => by
    obtain ⟨a, vs, rfl, hs, r⟩ := h
    unfold toPy at q
    obtain ⟨ps, hp, rfl⟩ := Option.map_eq_some_iff.mp q
    exact .tup (SqT.of (e _ _ hs)) (toPys_dp e r hp)
  | .ftup xs, v, p, h, q => by
    obtain ⟨a, vs, rfl, hs, r⟩ := h
    unfold toPy at q
    obtain ⟨ps, hp, rfl⟩ := Option.map_eq_some_iff.mp q
    exact .tup (sqT_mono e hs) (toPys_dp e r hp)
  | .lst xs, v, p, h, q => by
    obtain ⟨a, vs, rfl, hs, r⟩ := h
    unfold toPy at q
    obtain ⟨ps, hp, rfl⟩ := Option.map_eq_some_iff.mp q
    exact .lst (SqL.of (e _ _ hs)) (toPys_dp e r hp)
  | .fz xs, v, p, h, q => by
    obtain ⟨a, vs, rfl, hs, r⟩ := h
    unfold toPy at q
    obtain ⟨ps, hp, rfl⟩ := Option.map_eq_some_iff.mp q
    exact .lst (e.seq hs) (toPys_dp e r hp)
  | .ty _, _, _, _, q => by cases q
  | .cls _, _, _, _, q => by cases q
  | .ref _, _, _, _, q => by cases q
  | .dk _ _, _, _, _, q => by cases q
  | .dt _ _, _, _, _, q => by cases q
  | .ins _ _ _, _, _, _, q => by cases q
theorem toPys_dp (e : Same w.S H) : ∀ {ds : List D} {vs : List V} {ps : List PyData}, Reps Γ w ds vs → toPys ds = some ps → DpAll Γ.K H vs ps
  | [], vs, ps, h, q => by cases q; rw [show vs = _ from h]; exact .nil
  | d :: ds, vs, ps, h, q => by
    obtain ⟨v, r, rfl, h1, h2⟩ := h
    unfold toPys at q
    obtain ⟨p, hp, q⟩ := Option.bind_eq_some_iff.mp q
    obtain ⟨ps', hps, rfl⟩ := Option.map_eq_some_iff.mp q
    exact .cons (toPy_dp e h1 hp) (toPys_dp e h2 hps)
end
theorem toPyG_dp (o : Ok Γ w H g) {d : D} {v : V} {p : PyData} (h : Rep Γ w d v) (q : toPyG g d = some p) : Dp Γ.K H v p := by
  by_cases hf : ∃ n, d = .ref n
  · obtain ⟨n, rfl⟩ := hf
    obtain ⟨xs, hx, q⟩ := Option.bind_eq_some_iff.mp (show (goL g n).bind (fun xs => (toPys xs).map .list) = some p from q)
    obtain ⟨ps, hp, rfl⟩ := Option.map_eq_some_iff.mp q
    obtain ⟨a, rfl, ha⟩ := h
    obtain ⟨vs, e2, r⟩ := o.rep _ a _ ha (goL_some hx)
    exact .lst (SqL.of e2) (toPys_dp o.sub r hp)
  · have e' : toPy d = some p := by
      cases d with
      | ref n => exact absurd ⟨n, rfl⟩ hf
      | _ => exact q
    exact toPy_dp o.sub h e'
end
def eqD : F2 := fun x y g => match toPyG g x, toPyG g y with
  | some p, some q => if SeqAt.shaped p = true ∧ SeqAt.shaped q = true then .ok (.bl (PyData.eqv p q)) g else .bad
  | _, _ => .bad
def neD : F2 := fun x y g => match toPyG g x, toPyG g y with
  | some p, some q => if SeqAt.shaped p = true ∧ SeqAt.shaped q = true then .ok (.bl (!PyData.eqv p q)) g else .bad
  | _, _ => .bad
theorem od_eq {Γ : Gm} {W : WX} : OpD Γ W (rEqD Γ.K) eqD := by
  intro w σ H g x y u v Q o px py z
  unfold eqD at z
  split at z
  · rename_i p q e1 e2
    split at z
    · rename_i hs
      exact ⟨p, q, toPyG_dp o px e1, toPyG_dp o py e2, hs.1, hs.2, z.val o rfl⟩
    · exact z.elim
  · exact z.elim
theorem od_ne {Γ : Gm} {W : WX} : OpD Γ W (rNeD Γ.K) neD := by
  intro w σ H g x y u v Q o px py z
  unfold neD at z
  split at z
  · rename_i p q e1 e2
    split at z
    · rename_i hs
      exact ⟨p, q, toPyG_dp o px e1, toPyG_dp o py e2, hs.1, hs.2, z.val o rfl⟩
    · exact z.elim
  · exact z.elim
end Dn
namespace Dn
open PySem L2
/-! ### is None; is of bools -/
def isND : F2 := fun x y g => match x, y with
  | .bl a, .bl b => .ok (.bl (decide (a = b))) g
  | .non, .non => .ok (.bl true) g
  | _, .non => .ok (.bl false) g
  | _, _ => .bad
def notND : F2 := fun x y g => match x, y with
  | .bl a, .bl b => .ok (.bl (!decide (a = b))) g
  | .non, .non => .ok (.bl false) g
  | _, .non => .ok (.bl true) g
  | _, _ => .bad
section
variable {Γ : Gm} {W : WX} {w : Wd} {H : Hp} {g : G}
theorem rep_non {x : D} {v : V} (h : Rep Γ w x v) (hx : ∀ z : x = .non, False) : v ≠ .non := by
  cases x with
  | non => exact (hx rfl).elim
  | bl b => rw [show v = _ from h]; exact fun z => nomatch z
  | int b => rw [show v = _ from h]; exact fun z => nomatch z
  | str b => rw [show v = _ from h]; exact fun z => nomatch z
  | ty b => rw [show v = _ from h]; exact fun z => nomatch z
  | cls b => obtain ⟨C, _, e⟩ := h; rw [e]; exact fun z => nomatch z
  | tup b => obtain ⟨C, _, e, _⟩ := h; rw [e]; exact fun z => nomatch z
  | lst b => obtain ⟨C, _, e, _⟩ := h; rw [e]; exact fun z => nomatch z
  | fz b => obtain ⟨C, _, e, _⟩ := h; rw [e]; exact fun z => nomatch z
  | ftup b => obtain ⟨C, _, e, _⟩ := h; rw [e]; exact fun z => nomatch z
  | ref b => obtain ⟨C, e, _⟩ := h; rw [e]; exact fun z => nomatch z
  | dk b c => obtain ⟨C, _, e, _⟩ := h; rw [e]; exact fun z => nomatch z
  | dt b c => obtain ⟨C, _, e, _⟩ := h; rw [e]; exact fun z => nomatch z
  | ins b c d => obtain ⟨C, _, _, _, e, _⟩ := h; rw [e]; exact fun z => nomatch z
def rIsAll : R2 := fun x y H Q => (rIsB x y H Q) ∨ (y = .non ∧ Q (.bl (decide (x = .non))) H)
def rNotAll : R2 := fun x y H Q => (rNotB x y H Q) ∨ (y = .non ∧ Q (.bl (!decide (x = .non))) H)
theorem op_isAll {X : Cx} : OpR X (compareOp .Is) rIsAll := op_isBl.or op_isN
theorem op_notAll {X : Cx} : OpR X (compareOp .IsNot) rNotAll := op_notBl.or op_notN
theorem od_is : OpD Γ W rIsAll isND := by
  intro w σ H g x y u v Q o px py z
  unfold isND at z
  split at z
  · exact .inl ⟨_, _, px, py, z.val o rfl⟩
  · refine .inr ⟨py, ?_⟩
    rw [decide_eq_true (show u = .non from px)]
    exact z.val o rfl
  · rename_i h
    refine .inr ⟨py, ?_⟩
    rw [decide_eq_false (rep_non px h)]
    exact z.val o rfl
  · exact z.elim
theorem od_isnot : OpD Γ W rNotAll notND := by
  intro w σ H g x y u v Q o px py z
  unfold notND at z
  split at z
  · exact .inl ⟨_, _, px, py, z.val o rfl⟩
  · refine .inr ⟨py, ?_⟩
    rw [decide_eq_true (show u = .non from px)]
    exact z.val o rfl
  · rename_i h
    refine .inr ⟨py, ?_⟩
    rw [decide_eq_false (rep_non px h)]
    exact z.val o rfl
  · exact z.elim

/-! ### x in xs -/
/-- flat data -/
def flatD : D → Option V
  | .non => some .non
  | .bl b => some (.bl b)
  | .int i => some (.int i)
  | .str x => some (.str x)
  | _ => none
theorem flatD_rep {d : D} {v u : V} (h : Rep Γ w d v) (e : flatD d = some u) : v = u ∧ flatV u = true := by
  cases d with
  | non => cases e; exact ⟨h, rfl⟩
  | bl b => cases e; exact ⟨h, rfl⟩
  | int b => cases e; exact ⟨h, rfl⟩
  | str b => cases e; exact ⟨h, rfl⟩
  | _ => cases e
def flats : List D → Option (List V)
  | [] => some []
  | d :: ds => (flatD d).bind fun v => (flats ds).map fun vs => v :: vs
theorem flats_rep : ∀ {ds : List D} {vs us : List V}, Reps Γ w ds vs → flats ds = some us → vs = us ∧ us.all flatV = true
  | [], vs, us, h, e => by cases e; exact ⟨h, rfl⟩
  | d :: ds, vs, us, h, e => by
    obtain ⟨v, r, rfl, h1, h2⟩ := h
    unfold flats at e
    obtain ⟨p, hp, e⟩ := Option.bind_eq_some_iff.mp e
    obtain ⟨ps, hps, rfl⟩ := Option.map_eq_some_iff.mp e
    obtain ⟨e1, f1⟩ := flatD_rep h1 hp
    obtain ⟨e2, f2⟩ := flats_rep h2 hps
    exact ⟨by rw [e1, e2], by rw [List.all_cons, f1, f2]; rfl⟩
end
def seqOf (g : G) (d : D) : Option (List D) := match seqL g d with
  | some xs => some xs
  | none => seqT d
section
variable {Γ : Gm} {W : WX} {w : Wd} {H : Hp} {g : G} {d : D} {v : V} {xs : List D}
theorem seqOf_rep (o : Ok Γ w H g) (p : Rep Γ w d v) (e : seqOf g d = some xs) : ∃ a vs, v = .ref a ∧ (SqL Γ.K H a vs ∨ SqT Γ.K H a vs) ∧ Reps Γ w xs vs := by
  unfold seqOf at e
  split at e
  · rename_i ys e1
    cases e
    obtain ⟨a, vs, e2, h, r⟩ := seqL_rep o p e1
    exact ⟨a, vs, e2, .inl h, r⟩
  · obtain ⟨a, vs, e2, h, r⟩ := seqT_rep o p e
    exact ⟨a, vs, e2, .inr h, r⟩
end
/-- the key of a dict -/
def keyOf : D → Option Key
  | .int i => some (.inl i)
  | .str x => some (.inr x)
  | _ => none
def keysOf : List D → Option (List Key)
  | [] => some []
  | d :: ds => (keyOf d).bind fun k => (keysOf ds).map fun ks => k :: ks
def lookK {κ : Type} [DecidableEq κ] : List κ → List D → κ → Option D
  | k :: ks, d :: ds, x => if k = x then some d else lookK ks ds x
  | _, _, _ => none
/-- a dict by its keys: what stands at y -/
def dictGet (g : G) (x y : D) : Option (Option D) :=
  let at1 : List Key → List D → Option (Option D) := fun ks ds => (keyOf y).map fun k => lookK ks ds k
  let at2 : List (List Key) → List D → Option (Option D) := fun ks ds => match y with
    | .tup ys => (keysOf ys).map fun k => lookK ks ds k
    | _ => none
  match x with
  | .dk ks ds => at1 ks ds
  | .dt ks ds => at2 ks ds
  | .ref n => match g[n]? with
    | some (.dk ks ds) => at1 ks ds
    | some (.dt ks ds) => at2 ks ds
    | _ => none
  | _ => none
section
variable {Γ : Gm} {W : WX} {w : Wd} {H : Hp} {g : G}
theorem keyOf_rep {d : D} {v : V} {k : Key} (h : Rep Γ w d v) (e : keyOf d = some k) : v = kV k := by
  cases d with
  | int b => cases e; exact h
  | str b => cases e; exact h
  | _ => cases e
theorem keysOf_rep : ∀ {ds : List D} {vs : List V} {ks : List Key}, Reps Γ w ds vs → keysOf ds = some ks → vs = ks.map kV
  | [], vs, ks, h, e => by cases e; exact h
  | d :: ds, vs, ks, h, e => by
    obtain ⟨v, r, rfl, h1, h2⟩ := h
    unfold keysOf at e
    obtain ⟨p, hp, e⟩ := Option.bind_eq_some_iff.mp e
    obtain ⟨ps, hps, rfl⟩ := Option.map_eq_some_iff.mp e
    rw [keyOf_rep h1 hp, keysOf_rep h2 hps]
    rfl
def RepO1 (Γ : Gm) (w : Wd) : Option D → Option V → Prop
  | some d, some v => Rep Γ w d v
  | none, none => True
  | _, _ => False
theorem lookK_rep {κ : Type} [DecidableEq κ] {x : κ} : ∀ {us : List (κ × V)} {ks : List κ} {ds : List D}, us.map (·.1) = ks → Reps Γ w ds (us.map (·.2)) → RepO1 Γ w (lookK ks ds x) (valV us x)
  | [], ks, ds, e, r => by
    subst e
    have : ds = [] := List.eq_nil_of_length_eq_zero (by rw [← r.length]; rfl)
    subst this
    exact trivial
  | (k, v) :: us, ks, ds, e, r => by
    subst e
    cases ds with
    | nil => exact absurd (show _ = [] from r) (by simp)
    | cons d ds =>
      obtain ⟨v', r', e', h1, h2⟩ := r
      have e1 : v = v' := by
        have := (List.cons.inj e').1
        exact this
      have e2 : us.map (·.2) = r' := (List.cons.inj e').2
      subst e1
      subst e2
      show RepO1 Γ w (if k = x then some d else lookK (us.map (·.1)) ds x) _
      by_cases hk : k = x
      · rw [if_pos hk, valV_pos (p := (k, v)) hk]
        exact h1
      · rw [if_neg hk, valV_neg (p := (k, v)) hk]
        exact lookK_rep rfl h2
theorem dictGet_rep (o : Ok Γ w H g) {x y : D} {u v : V} {r : Option D} (px : Rep Γ w x u) (py : Rep Γ w y v) (e : dictGet g x y = some r) : ∃ a z, u = .ref a ∧ DGet H a v z ∧ RepO1 Γ w r z := by
  have one : ∀ {a : Addr} {us : List (Key × V)} {ks : List Key} {ds : List D}, H a = some (.dK us) → us.map (·.1) = ks → Reps Γ w ds (us.map (·.2)) → ((keyOf y).map fun k => lookK ks ds k) = some r → ∃ z, DGet H a v z ∧ RepO1 Γ w r z := by
    intro a us ks ds h1 h2 h3 h4
    obtain ⟨k, hk, rfl⟩ := Option.map_eq_some_iff.mp h4
    exact ⟨_, by rw [keyOf_rep py hk]; exact DGet.k h1, lookK_rep h2 h3⟩
  have two : ∀ {a : Addr} {us : List (List Key × V)} {ks : List (List Key)} {ds : List D}, H a = some (.dT us) → us.map (·.1) = ks → Reps Γ w ds (us.map (·.2)) → (match y with
    | .tup ys => (keysOf ys).map fun k => lookK ks ds k
    | _ => none) = some r → ∃ z, DGet H a v z ∧ RepO1 Γ w r z := by
    intro a us ks ds h1 h2 h3 h4
    split at h4
    · obtain ⟨k, hk, rfl⟩ := Option.map_eq_some_iff.mp h4
      obtain ⟨b, vs, rfl, hb, rb⟩ := py
      have eb := keysOf_rep rb hk
      exact ⟨_, DGet.t h1 (by rw [o.sub _ _ hb, eb]), lookK_rep h2 h3⟩
    · cases h4
  unfold dictGet at e
  cases x with
  | dk ks ds =>
    obtain ⟨a, us, rfl, h1, h2, h3⟩ := px
    obtain ⟨z, q⟩ := one (o.sub _ _ h1) h2 h3 e
    exact ⟨a, z, rfl, q⟩
  | dt ks ds =>
    obtain ⟨a, us, rfl, h1, h2, h3⟩ := px
    obtain ⟨z, q⟩ := two (o.sub _ _ h1) h2 h3 e
    exact ⟨a, z, rfl, q⟩
  | ref n =>
    obtain ⟨a, rfl, ha⟩ := px
    simp only at e
    split at e
    · rename_i ks ds hn
      obtain ⟨us, h1, h2, h3⟩ := o.rep n a _ ha hn
      obtain ⟨z, q⟩ := one h1 h2 h3 e
      exact ⟨a, z, rfl, q⟩
    · rename_i ks ds hn
      obtain ⟨us, h1, h2, h3⟩ := o.rep n a _ ha hn
      obtain ⟨z, q⟩ := two h1 h2 h3 e
      exact ⟨a, z, rfl, q⟩
    · cases e
  | _ => cases e
end
/-- x in y: a text in a text; in a list or a tuple, flat things; a key in a dict -/
def inB (x y : D) (g : G) : Option Bool := match x, y with
  | .str i, .str j => some (!(Builtin.Str.occurrences j i 0 j.length 1).isEmpty)
  | x, y => match seqOf g y with
    | some ys => (match flatD x, flats ys with
      | some u, some us => some (inV u us)
      | _, _ => (match seqL g y, toPy x with
        | some zs, some p => (match toPys zs with
          | some ps => if SeqAt.shaped p = true ∧ SeqAt.shaped (.list ps) = true then some (ps.any fun z => PyData.eqv z p) else none
          | none => none)
        | _, _ => none))
    | none => (dictGet g y x).map fun r => r.isSome
def inD : F2 := fun x y g => match inB x y g with
  | some b => .ok (.bl b) g
  | none => .bad
def notInD : F2 := fun x y g => match inB x y g with
  | some b => .ok (.bl (!b)) g
  | none => .bad
end Dn
namespace Dn
open PySem L2
theorem Room.u65 {k : Nat} {A : Around} (r : Room k A) : A.units + 65 < cLine := by have := r.un; omega
theorem Room.u1 {k : Nat} {A : Around} (r : Room k A) : A.units + 1 < cLine := by have := r.un; omega
/-! ### in -/
def rDIn : R2 := fun x y H Q => ∃ a o, y = .ref a ∧ DGet H a x o ∧ Q (.bl o.isSome) H
def rDNotIn : R2 := fun x y H Q => ∃ a o, y = .ref a ∧ DGet H a x o ∧ Q (.bl (!o.isSome)) H
theorem op_din {X : Cx} (hu : X.A.units + 1 < cLine) : OpR X (compareOp .In) rDIn := by
  intro pins s σ H x y v u Q I rx ry h
  obtain ⟨a, o, rfl, g, q⟩ := h
  obtain rfl : u = Value.ref a := ry
  exact d_in hu I g rx fun s3 I3 => ⟨.bl o.isSome, H, I3, rfl, q⟩
theorem op_dnotin {X : Cx} (hu : X.A.units + 1 < cLine) : OpR X (compareOp .NotIn) rDNotIn := by
  intro pins s σ H x y v u Q I rx ry h
  obtain ⟨a, o, rfl, g, q⟩ := h
  obtain rfl : u = Value.ref a := ry
  exact d_notIn hu I g rx fun s3 I3 => ⟨.bl (!o.isSome), H, I3, rfl, q⟩
def rInStr (neg : Bool) : R2 := fun x y H Q => ∃ i j, x = .str i ∧ y = .str j ∧ Q (.bl (if neg then !(!(Builtin.Str.occurrences j i 0 j.length 1).isEmpty) else !(Builtin.Str.occurrences j i 0 j.length 1).isEmpty)) H
def rInAll (K : PySem.W.Frag) : R2 := fun x y H Q => rInStr false x y H Q ∨ (rIn K false x y H Q ∨ (rInD K x y H Q ∨ rDIn x y H Q))
def rNotInAll (K : PySem.W.Frag) : R2 := fun x y H Q => rInStr true x y H Q ∨ (rIn K true x y H Q ∨ (rNotInD K x y H Q ∨ rDNotIn x y H Q))
theorem op_inAll {X : Cx} {k : Nat} (hr : Room k X.A) : OpR X (compareOp .In) (rInAll X.K) := OpR.or (r := rInStr false) op_in_str (op_in_seq.or ((op_inD (Room.u65 hr)).or (op_din (Room.u1 hr))))
theorem op_notInAll {X : Cx} {k : Nat} (hr : Room k X.A) : OpR X (compareOp .NotIn) (rNotInAll X.K) := OpR.or (r := rInStr true) op_notin_str (op_notIn_seq.or ((op_notInD (Room.u65 hr)).or (op_dnotin (Room.u1 hr))))
section
variable {Γ : Gm} {W : WX} {w : Wd} {H : Hp} {g : G}
theorem inB_rep (o : Ok Γ w H g) {x y : D} {u v : V} {b : Bool} (px : Rep Γ w x u) (py : Rep Γ w y v) (e : inB x y g = some b) :
    (∃ i j, u = .str i ∧ v = .str j ∧ b = !(Builtin.Str.occurrences j i 0 j.length 1).isEmpty) ∨ (∃ p xs, v = .ref p ∧ (SqL Γ.K H p xs ∨ SqT Γ.K H p xs) ∧ flatV u = true ∧ xs.all flatV = true ∧ b = inV u xs) ∨
    (∃ d ds, Dp Γ.K H u d ∧ Dp Γ.K H v (.list ds) ∧ SeqAt.shaped d = true ∧ SeqAt.shaped (.list ds) = true ∧ b = ds.any fun z => PyData.eqv z d) ∨ ∃ a o, v = .ref a ∧ DGet H a u o ∧ b = o.isSome := by
  unfold inB at e
  split at e
  · cases e
    exact .inl ⟨_, _, px, py, rfl⟩
  · split at e
    · rename_i ys es
      obtain ⟨a, vs, rfl, hs, r⟩ := seqOf_rep o py es
      split at e
      · rename_i u' us e1 e2
        cases e
        obtain ⟨rfl, f1⟩ := flatD_rep px e1
        obtain ⟨rfl, f2⟩ := flats_rep r e2
        exact .inr (.inl ⟨a, _, rfl, hs, f1, f2, rfl⟩)
      · split at e
        · rename_i zs p e1 e2
          split at e
          · rename_i ps e3
            split at e
            · rename_i hsh
              cases e
              obtain ⟨a', vs', h1, h2, h3⟩ := seqL_rep o py e1
              cases h1
              exact .inr (.inr (.inl ⟨p, ps, toPy_dp o.sub px e2, .lst h2 (toPys_dp o.sub h3 e3), hsh.1, hsh.2, rfl⟩))
            · cases e
          · cases e
        · cases e
    · obtain ⟨r, hr, rfl⟩ := Option.map_eq_some_iff.mp e
      obtain ⟨a, z, rfl, hd, rz⟩ := dictGet_rep o py px hr
      refine .inr (.inr (.inr ⟨a, z, rfl, hd, ?_⟩))
      cases r <;> cases z <;> first | rfl | exact rz.elim
theorem od_in : OpD Γ W (rInAll Γ.K) inD := by
  intro w σ H g x y u v Q o px py z
  unfold inD at z
  split at z
  · rename_i b e
    have q := z.val o rfl
    rcases inB_rep o px py e with ⟨i, j, h1, h2, rfl⟩ | ⟨p, xs, h1, h2, h3, h4, rfl⟩ | ⟨d, ds, h1, h2, h3, h4, rfl⟩ | ⟨a, zo, h1, h2, rfl⟩
    · exact .inl ⟨i, j, h1, h2, q⟩
    · exact .inr (.inl ⟨p, xs, h1, h2, h3, h4, q⟩)
    · exact .inr (.inr (.inl ⟨d, ds, h1, h2, h3, h4, q⟩))
    · exact .inr (.inr (.inr ⟨a, zo, h1, h2, q⟩))
  · exact z.elim
theorem od_notin : OpD Γ W (rNotInAll Γ.K) notInD := by
  intro w σ H g x y u v Q o px py z
  unfold notInD at z
  split at z
  · rename_i b e
    have q := z.val o rfl
    rcases inB_rep o px py e with ⟨i, j, h1, h2, rfl⟩ | ⟨p, xs, h1, h2, h3, h4, rfl⟩ | ⟨d, ds, h1, h2, h3, h4, rfl⟩ | ⟨a, zo, h1, h2, rfl⟩
    · exact .inl ⟨i, j, h1, h2, q⟩
    · exact .inr (.inl ⟨p, xs, h1, h2, h3, h4, q⟩)
    · exact .inr (.inr (.inl ⟨d, ds, h1, h2, h3, h4, q⟩))
    · exact .inr (.inr (.inr ⟨a, zo, h1, h2, q⟩))
  · exact z.elim
end

/-! ### x[i] -/
theorem Reps.atI {Γ : Gm} {w : Wd} {xs : List D} {vs : List V} {i : Int} {d : D} (r : Reps Γ w xs vs) (e : L2.atI xs i = some d) : ∃ v, L2.atI vs i = some v ∧ Rep Γ w d v := by
  unfold L2.atI at e ⊢
  obtain ⟨j, hj, e⟩ := Option.bind_eq_some_iff.mp e
  obtain ⟨v, hv, p⟩ := r.get e
  exact ⟨v, by rw [r.length, hj]; exact hv, p⟩
def rDGet : R2 := fun x y H Q => ∃ a v, x = .ref a ∧ DGet H a y (some v) ∧ Q v H
def rIxAll (K : PySem.W.Frag) : R2 := fun x y H Q => rIx K x y H Q ∨ rDGet x y H Q
section
variable {X : Cx} {cl : Str → Option Addr} {W : WX} {a b c e : Expr} {es : List Expr} {fa fb fc f : DE} {ft fu : DT} {fs : DA} {pos : Pos} {k : Nat}
/-- seqs and texts -/
def idx1 (x y : D) (g : G) : Option D := match x, y with
  | .str z, .int i => (match atI z.cps.toList i with
    | some c => if z.length ≤ sizeLine then some (.str ⟨#[c]⟩) else none
    | none => none)
  | x, .int i => match seqOf g x with
    | some xs => atI xs i
    | none => none
  | _, _ => none
theorem idx1_rep {Γ : Gm} {w : Wd} {H : Hp} {g : G} (o : Ok Γ w H g) {x y d : D} {u v : V} (px : Rep Γ w x u) (py : Rep Γ w y v) (e : idx1 x y g = some d) {Q : VK} (q : ∀ z, Rep Γ w d z → Q z H) : rIx Γ.K u v H Q := by
  unfold idx1 at e
  split at e
  · split at e
    · rename_i c hc
      split at e
      · rename_i hl
        cases e
        exact .inr (.inr ⟨_, _, c, px, py, hl, hc, q _ rfl⟩)
      · cases e
    · cases e
  · split at e
    · rename_i xs es
      obtain ⟨a, vs, rfl, hs, r⟩ := seqOf_rep o px es
      obtain ⟨z, hz, p⟩ := r.atI e
      rcases hs with hs | hs
      · exact .inl ⟨a, vs, _, z, rfl, py, hs, hz, q z p⟩
      · exact .inr (.inl ⟨a, vs, _, z, rfl, py, hs, hz, q z p⟩)
    · cases e
  · cases e
end
def idxR : F2 := fun x y g => match idx1 x y g with
  | some d => .ok d g
  | none => match dictGet g x y with
    | some (some d) => .ok d g
    | _ => .bad
theorem tG_const {Γ : Gm} {W : WX} {α β : Type} {R : Wd → α → β → Prop} {f : Env → G → Res α} {σ : L2.St} {H : Hp} {Q : β → Hp → Prop} {w : Wd} {ρ : Env} {g : G} (o : Ok Γ w H g) (s : RepS Γ w ρ σ) (z : Fin Γ W R w H σ (f ρ g) Q) : tG Γ W R f σ H Q := ⟨w, ρ, g, o, s, z⟩
section
variable {X : Cx} {cl : Str → Option Addr} {W : WX} {a b c e : Expr} {es : List Expr} {fa fb fc f : DE} {ft fu : DT} {fs : DA} {pos : Pos} {k : Nat}
/-- the one branch or the other, by what the values are: ahead of the parts it is not known, so the machine's own rule is asked for both -/
theorem ixR_or : IxR X (fun x y H Q => rIx X.K x y H Q) := ix_seq
theorem ix_dict (hr : Room k X.A) : IxR X rDGet := by
  intro value slice pins s σ H x y v u Q I rx ry q hs
  obtain ⟨a, z, rfl, hg, q⟩ := q
  obtain rfl : v = Value.ref a := rx
  exact PyProof.Rows.tail_any (dict_typeIs I hg) PySem.F.slot_dict_getitem.lookup (d_getItem (Room.u1 hr) I hg ry fun w' s3 I3 rw' => ⟨z, H, I3, rw', q⟩) hs
theorem od_ix {Γ : Gm} : OpD Γ W (rIxAll Γ.K) idxR := by
  intro w σ H g x y u v Q o px py z
  unfold idxR at z
  split at z
  · rename_i d e
    exact .inl (idx1_rep o px py e fun z' p => z.val o p)
  · split at z
    · rename_i d e
      obtain ⟨a, r, rfl, hd, rz⟩ := dictGet_rep o px py e
      cases r with
      | none => exact rz.elim
      | some r => exact .inr ⟨a, r, rfl, hd, z.val o rz⟩
    · exact z.elim
theorem pd_ix (hr : Room k X.A) (ha : PD X cl W a fa) (hb : PD X cl W b fb) (hs : PlainIx b) : PD X cl W (.Subscript a b pos) (d2 idxR fa fb) :=
  PE.weak (pe_ix (IxR.or ix_seq (ix_dict hr)) ha hb hs) fun σ H Q q => tD_op od_ix q
end
end Dn
namespace Dn
open PySem L2
/-! ### slices -/
def cutD {α : Type} (xs : List α) (lo hi : Option Int) : List α := (xs.drop (HT.sIx xs.length 0 lo)).take (HT.sIx xs.length xs.length hi - HT.sIx xs.length 0 lo)
theorem Reps.cut {Γ : Gm} {w : Wd} {xs : List D} {vs : List V} (r : Reps Γ w xs vs) (lo hi : Option Int) : Reps Γ w (cutD xs lo hi) (cutV vs lo hi) := by
  unfold cutD cutV
  rw [r.length]
  exact (r.drop _).take _
def sliceD (x : D) (lo hi : Option Int) (g : G) : Res D := match x with
  | .str z => if z.length ≤ sizeLine then .ok (.str (cutS z lo hi)) g else .bad
  | x => match seqL g x with
    | some xs => .ok (.lst (cutD xs lo hi)) g
    | none => match x with
      | .tup xs => .ok (.tup (cutD xs lo hi)) g
      | _ => .bad
def rSlAll (K : PySem.W.Frag) : V → Option Int → Option Int → Hp → VK → Prop := fun x lo hi H Q => rSlS x lo hi H Q ∨ (rSlL K x lo hi H Q ∨ rSlA K x lo hi H Q)
theorem sl_all {X : Cx} : SlR X (rSlAll X.K) := sl_str.or (sl_list.or sl_tupA)

section
variable {X : Cx} {cl : Str → Option Addr} {W : WX} {a b c e : Expr} {es rest : List Expr} {fa fb fc f : DE} {ft fu : DT} {fs : DA} {fl fh : DO} {lo hi : Option Expr} {pos p2 : Pos} {k : Nat} {Γ : Gm}
abbrev PDO (X : Cx) (cl : Str → Option Addr) (W : WX) (e : Option Expr) (f : DO) : Prop := PO X e (tO ⟨X.K, cl⟩ W f)
def dONone : DO := fun _ g => .ok none g
def dOSome (f : DE) : DO := fun ρ g => (f ρ g).bind fun d g1 => match d with
  | .int i => .ok (some i) g1
  | _ => .bad
theorem pdo_none : PDO X cl W none dONone := PO.weak po_none fun σ H Q ⟨w, ρ, g, o, s, q⟩ => q.val o rfl
theorem pdo_some (h : PD X cl W e f) : PDO X cl W (some e) (dOSome f) := PO.weak (po_some h) fun σ H Q q =>
  (tG_seq (R := Rep ⟨X.K, cl⟩) (f := f) (k := fun d _ g1 => match d with
    | .int i => .ok (some i) g1
    | _ => .bad) q).imp fun v H1 ⟨w, ρ, x, g, o, s, p, z⟩ => by
    cases x with
    | int i => exact ⟨i, p, z.val o rfl⟩
    | _ => exact z.elim
theorem sl_fin {w : Wd} {σ : L2.St} {H : Hp} {g : G} {x : D} {u : V} {l h : Option Int} {Q : VK} (o : Ok Γ w H g) (p : Rep Γ w x u) (z : Fin Γ W (Rep Γ) w H σ (sliceD x l h g) Q) : rSlAll Γ.K u l h H Q := by
  unfold sliceD at z
  split at z
  · split at z
    · rename_i hz
      exact .inl ⟨_, p, hz, z.val o rfl⟩
    · exact z.elim
  · split at z
    · rename_i xs e
      obtain ⟨a, vs, rfl, h1, r⟩ := seqL_rep o p e
      exact .inr (.inl ⟨a, vs, rfl, h1, fun q hq => z.newV o hq fun w' l' hS => ⟨q, _, rfl, hS, (r.mono l').cut _ _⟩⟩)
    · split at z
      · obtain ⟨a, vs, rfl, h1, r⟩ := p
        refine .inr (.inr ⟨a, vs, rfl, SqT.of (o.sub _ _ h1), fun hw => ?_, fun _ q hq => z.newV o hq fun w' l' hS => ⟨q, _, rfl, hS, (r.mono l').cut _ _⟩⟩)
        refine z.val o ⟨a, vs, rfl, h1, ?_⟩
        have q := r.cut l h
        have e1 : cutV vs l h = vs := by
          unfold cutV
          rw [hw.1, hw.2]
          simp
        rw [e1] at q
        exact q
      · exact z.elim
def dSl (fa : DE) (fl fh : DO) : DE := fun ρ g => (fa ρ g).bind fun x g1 => (fl ρ g1).bind fun l g2 => (fh ρ g2).bind fun h g3 => sliceD x l h g3
theorem pd_slice (ha : PD X cl W a fa) (hl : PDO X cl W lo fl) (hh : PDO X cl W hi fh) : PD X cl W (.Subscript a (.Slice lo hi none p2) pos) (dSl fa fl fh) :=
  PE.weak (pe_slice sl_all ha hl hh) fun σ H Q q =>
    (tG_seq (R := Rep ⟨X.K, cl⟩) (f := fa) (k := fun x ρ g1 => (fl ρ g1).bind fun l g2 => (fh ρ g2).bind fun h g3 => sliceD x l h g3) q).imp fun v H1 ⟨w, ρ, x, g, o, s, p, z⟩ =>
      ⟨w, ρ, g, o, s, (z.seq (R := REq)).imp fun l H2 ⟨w2, l', g2, le2, o2, e2, z2⟩ => by
        obtain rfl : l = l' := e2
        exact ⟨w2, ρ, g2, o2, s.mono le2, (z2.seq (R := REq)).imp fun h H3 ⟨w3, h', g3, le3, o3, e3, z3⟩ => by
          obtain rfl : h = h' := e3
          exact sl_fin o3 ((p.mono le2).mono le3) z3⟩⟩
/-! ### displays -/
def dTup (fs : DA) : DE := fun ρ g => (fs ρ g).bind fun xs g1 => if xs.length ≤ sizeLine then .ok (.tup xs) g1 else .bad
def dLst (fs : DA) : DE := fun ρ g => (fs ρ g).bind fun xs g1 => if xs.length ≤ sizeLine then .ok (.lst xs) g1 else .bad
theorem pd_tup {x1} (h : PDA X cl W es fs) : PD X cl W (.Tuple es x1 pos) (dTup fs) := PE.weak (pe_tup h) fun σ H Q q =>
  (tG_seq (R := Reps ⟨X.K, cl⟩) (f := fs) (k := fun xs _ g1 => if xs.length ≤ sizeLine then .ok (D.tup xs) g1 else .bad) q).imp fun v H1 ⟨w, ρ, x, g, o, s, p, z⟩ => by
    split at z
    · rename_i hl
      exact ⟨by rw [p.length]; exact hl, fun a ha => z.newV o ha fun w' l hS => ⟨a, _, rfl, hS, p.mono l⟩⟩
    · exact z.elim
theorem pd_lst (h : PDA X cl W es fs) : PD X cl W (.List es pos) (dLst fs) := PE.weak (pe_lst h) fun σ H Q q =>
  (tG_seq (R := Reps ⟨X.K, cl⟩) (f := fs) (k := fun xs _ g1 => if xs.length ≤ sizeLine then .ok (D.lst xs) g1 else .bad) q).imp fun v H1 ⟨w, ρ, x, g, o, s, p, z⟩ => by
    split at z
    · rename_i hl
      exact ⟨by rw [p.length]; exact hl, fun a ha => z.newV o ha fun w' l hS => ⟨a, _, rfl, hS, p.mono l⟩⟩
    · exact z.elim
/-! ### truth, and, or, not, if -/
def truD (g : G) (d : D) : Option Bool := match d with
  | .non => some false
  | .bl b => some b
  | .int i => some (i != 0)
  | .str y => if y.length ≤ sizeLine then some ((y.length : Int) != 0) else none
  | d => (seqOf g d).map fun xs => !xs.isEmpty
theorem reps_empty {w : Wd} {xs : List D} {vs : List V} (r : Reps Γ w xs vs) : vs.isEmpty = xs.isEmpty := by
  have := r.length
  cases xs <;> cases vs <;> first | rfl | (exfalso; simp at this)
theorem truD_rep {w : Wd} {H : Hp} {g : G} {d : D} {v : V} {b : Bool} (o : Ok Γ w H g) (p : Rep Γ w d v) (e : truD g d = some b) : TruV Γ.K v H b := by
  unfold truD at e
  split at e
  · cases e; rw [show v = _ from p]; exact rfl
  · cases e; rw [show v = _ from p]; exact rfl
  · cases e; rw [show v = _ from p]; exact rfl
  · split at e
    · rename_i h
      cases e; rw [show v = _ from p]; exact ⟨h, rfl⟩
    · cases e
  · obtain ⟨xs, hx, rfl⟩ := Option.map_eq_some_iff.mp e
    obtain ⟨a, vs, rfl, h, r⟩ := seqOf_rep o p hx
    rcases h with h | h
    · exact .inl ⟨vs, h, by rw [reps_empty r]⟩
    · exact .inr (.inl ⟨vs, h, by rw [reps_empty r]⟩)
def truR (d : D) (g : G) : Res Bool := match truD g d with
  | some b => .ok b g
  | none => .bad
def dTru (f : DE) : DT := fun ρ g => (f ρ g).bind truR
theorem pdt_val (h : PD X cl W e f) (he : ∀ whole, isTrue e X.env whole = (do let v ← whole; standAt e.pos; holding [v] (truthy v)) := by intro _; rfl) : PDT X cl W e (dTru f) :=
  PT.weak (pt_truth h he) fun σ H Q q => (tG_seq (R := Rep ⟨X.K, cl⟩) (f := f) (k := fun d _ g1 => truR d g1) q).imp fun v H1 ⟨w, ρ, x, g, o, s, p, z⟩ => by
    unfold truR at z
    split at z
    · rename_i b eb
      exact ⟨b, truD_rep o p eb, z.val o rfl⟩
    · exact z.elim
def dNot (f : DT) : DT := fun ρ g => (f ρ g).bind fun b g1 => .ok (!b) g1
theorem pdt_not (h : PDT X cl W e ft) : PDT X cl W (.UnaryOp .Not e pos) (dNot ft) :=
  PT.weak (pt_not h) fun σ H Q q => (tG_seq (R := REq) (f := ft) (k := fun b _ g1 => .ok (!b) g1) q).imp fun v H1 ⟨w, ρ, x, g, o, s, p, z⟩ => by
    obtain rfl : v = x := p
    exact z.val o rfl
abbrev PDW (X : Cx) (cl : Str → Option Addr) (W : WX) (e : Expr) (f : DT) : Prop := PW X e (tT ⟨X.K, cl⟩ W f)
def dAnd (f h : DT) : DT := fun ρ g => (f ρ g).bind fun b g1 => if b then h ρ g1 else .ok false g1
def dOr (f h : DT) : DT := fun ρ g => (f ρ g).bind fun b g1 => if b then .ok true g1 else h ρ g1
theorem pdw_and1 (h : PDT X cl W a ft) : PDW X cl W (.BoolOp .And [a] pos) ft := pw_and1 h
theorem pdw_or1 (h : PDT X cl W a ft) : PDW X cl W (.BoolOp .Or [a] pos) ft := pw_or1 h
theorem pdw_and (h : PDT X cl W a ft) (h' : PDW X cl W (.BoolOp .And (b :: rest) pos) fu) : PDW X cl W (.BoolOp .And (a :: b :: rest) pos) (dAnd ft fu) :=
  PW.weak (pw_and h h') fun σ H Q q => (tG_seq (R := REq) (f := ft) (k := fun b ρ g1 => if b then fu ρ g1 else .ok false g1) q).imp fun v H1 ⟨w, ρ, x, g, o, s, p, z⟩ => by
    obtain rfl : v = x := p
    cases v with
    | true => exact iteT ⟨w, ρ, g, o, s, z⟩
    | false => exact iteF (z.val o rfl)
theorem pdw_or (h : PDT X cl W a ft) (h' : PDW X cl W (.BoolOp .Or (b :: rest) pos) fu) : PDW X cl W (.BoolOp .Or (a :: b :: rest) pos) (dOr ft fu) :=
  PW.weak (pw_or h h') fun σ H Q q => (tG_seq (R := REq) (f := ft) (k := fun b ρ g1 => if b then .ok true g1 else fu ρ g1) q).imp fun v H1 ⟨w, ρ, x, g, o, s, p, z⟩ => by
    obtain rfl : v = x := p
    cases v with
    | true => exact iteT (z.val o rfl)
    | false => exact iteF ⟨w, ρ, g, o, s, z⟩
theorem pdw_t (h : PDW X cl W e ft) : PDT X cl W e ft := h.pt
/-- as values (bools) -/
def dAndV (f h : DE) : DE := fun ρ g => (f ρ g).bind fun d g1 => match d with
  | .bl true => h ρ g1
  | .bl false => .ok (.bl false) g1
  | _ => .bad
def dOrV (f h : DE) : DE := fun ρ g => (f ρ g).bind fun d g1 => match d with
  | .bl true => .ok (.bl true) g1
  | .bl false => h ρ g1
  | _ => .bad
def dNotV (f : DE) : DE := fun ρ g => (f ρ g).bind fun d g1 => match d with
  | .bl b => .ok (.bl (!b)) g1
  | _ => .bad
theorem pd_one {op} (h : PD X cl W a f) : PD X cl W (.BoolOp op [a] pos) f := pe_one h
theorem pd_and (h : PD X cl W a fa) (h' : PD X cl W (.BoolOp .And (b :: rest) pos) fb) : PD X cl W (.BoolOp .And (a :: b :: rest) pos) (dAndV fa fb) :=
  PE.weak (pe_and h h') fun σ H Q q => (tG_seq (R := Rep ⟨X.K, cl⟩) (f := fa) (k := fun d ρ g1 => match d with
    | .bl true => fb ρ g1
    | .bl false => .ok (.bl false) g1
    | _ => .bad) q).imp fun v H1 ⟨w, ρ, x, g, o, s, p, z⟩ => by
    split at z
    · exact ⟨true, p, iteT ⟨w, ρ, g, o, s, z⟩⟩
    · exact ⟨false, p, iteF (z.val o rfl)⟩
    · exact z.elim
theorem pd_or (h : PD X cl W a fa) (h' : PD X cl W (.BoolOp .Or (b :: rest) pos) fb) : PD X cl W (.BoolOp .Or (a :: b :: rest) pos) (dOrV fa fb) :=
  PE.weak (pe_or h h') fun σ H Q q => (tG_seq (R := Rep ⟨X.K, cl⟩) (f := fa) (k := fun d ρ g1 => match d with
    | .bl true => .ok (.bl true) g1
    | .bl false => fb ρ g1
    | _ => .bad) q).imp fun v H1 ⟨w, ρ, x, g, o, s, p, z⟩ => by
    split at z
    · exact ⟨true, p, iteT (z.val o rfl)⟩
    · exact ⟨false, p, iteF ⟨w, ρ, g, o, s, z⟩⟩
    · exact z.elim
theorem pd_not (h : PD X cl W a fa) : PD X cl W (.UnaryOp .Not a pos) (dNotV fa) :=
  PE.weak (pe_not h) fun σ H Q q => (tG_seq (R := Rep ⟨X.K, cl⟩) (f := fa) (k := fun d ρ g1 => match d with
    | .bl b => .ok (D.bl (!b)) g1
    | _ => .bad) q).imp fun v H1 ⟨w, ρ, x, g, o, s, p, z⟩ => by
    split at z
    · exact ⟨_, p, z.val o rfl⟩
    · exact z.elim
def dIf (f : DT) (fa fb : DE) : DE := fun ρ g => (f ρ g).bind fun b g1 => if b then fa ρ g1 else fb ρ g1
theorem pd_if (h : PDT X cl W c ft) (ha : PD X cl W a fa) (hb : PD X cl W b fb) : PD X cl W (.IfExp c a b pos) (dIf ft fa fb) :=
  PE.weak (pe_ifExp h ha hb) fun σ H Q q => (tG_seq (R := REq) (f := ft) (k := fun b ρ g1 => if b then fa ρ g1 else fb ρ g1) q).imp fun v H1 ⟨w, ρ, x, g, o, s, p, z⟩ => by
    obtain rfl : v = x := p
    cases v with
    | true => exact iteT ⟨w, ρ, g, o, s, z⟩
    | false => exact iteF ⟨w, ρ, g, o, s, z⟩
/-- a < b < c -/
def dChain (k k' : F2) (fa fb fc : DE) : DE := fun ρ g => (fa ρ g).bind fun x g1 => (fb ρ g1).bind fun y g2 => (k x y g2).bind fun z g3 => match z with
  | .bl true => (fc ρ g3).bind fun u g4 => k' y u g4
  | .bl false => .ok (.bl false) g3
  | _ => .bad
theorem chain_imp {r r' : R2} {k1 k2 : F2} (h1 : OpD Γ W r k1) (h2 : OpD Γ W r' k2) {σ : L2.St} {H : Hp} {Q : VK} (q : tD Γ W (dChain k1 k2 fa fb fc) σ H Q) : tChain r r' (tD Γ W fa) (tD Γ W fb) (tD Γ W fc) σ H Q :=
  (tG_seq (R := Rep Γ) (f := fa) (k := fun x ρ g1 => (fb ρ g1).bind fun y g2 => (k1 x y g2).bind fun z g3 => match z with
    | .bl true => (fc ρ g3).bind fun u g4 => k2 y u g4
    | .bl false => .ok (.bl false) g3
    | _ => .bad) q).imp fun v H1 ⟨w, ρ, x, g, o, s, p, z⟩ =>
    ⟨w, ρ, g, o, s, (z.seq (R := Rep Γ)).imp fun u H2 ⟨w2, y, g2, l2, o2, p2, z2⟩ => h1 w2 σ H2 g2 x y v u _ o2 (p.mono l2) p2 ((z2.seq (R := Rep Γ)).imp fun t H3 ⟨w3, d, g3, l3, o3, p3, z3⟩ => by
      split at z3
      · exact ⟨true, p3, iteT ⟨w3, ρ, g3, o3, (s.mono l2).mono l3, (z3.seq (R := Rep Γ)).imp fun t' H4 ⟨w4, d4, g4, l4, o4, p4, z4⟩ => h2 w4 σ H4 g4 y d4 u t' _ o4 ((p2.mono l3).mono l4) p4 z4⟩⟩
      · exact ⟨false, p3, iteF (z3.val o3 rfl)⟩
      · exact z3.elim)⟩
theorem pd_chain {op op' : CmpOp} {r r' : R2} {k1 k2 : F2} (ho : OpR X (compareOp op) r) (ho' : OpR X (compareOp op') r') (h1 : OpD ⟨X.K, cl⟩ W r k1) (h2 : OpD ⟨X.K, cl⟩ W r' k2) (ha : PD X cl W a fa) (hb : PD X cl W b fb) (hc : PD X cl W c fc)
    (hm : lastMarks [op, op'] [b, c] = false := by with_unfolding_all rfl) : PD X cl W (.Compare a [op, op'] [b, c] pos) (dChain k1 k2 fa fb fc) := PE.weak (pe_chain ho ho' ha hb hc hm) fun σ H Q q => chain_imp h1 h2 q
theorem pdt_chain {op op' : CmpOp} {r r' : R2} {k1 k2 : F2} (ho : OpR X (compareOp op) r) (ho' : OpR X (compareOp op') r') (h1 : OpD ⟨X.K, cl⟩ W r k1) (h2 : OpD ⟨X.K, cl⟩ W r' k2) (ha : PD X cl W a fa) (hb : PD X cl W b fb) (hc : PD X cl W c fc)
    (hm : lastMarks [op, op'] [b, c] = false := by with_unfolding_all rfl) : PDT X cl W (.Compare a [op, op'] [b, c] pos) (dB (dChain k1 k2 fa fb fc)) := PT.weak (pt_chain ho ho' ha hb hc hm) fun σ H Q q => by
    have h3 := tG_seq (R := Rep ⟨X.K, cl⟩) (f := dChain k1 k2 fa fb fc) (k := fun x _ g1 => boolD x g1) q
    exact chain_imp h1 h2 (h3.imp fun v H1 ⟨w, ρ, x, g, o, s, p, z⟩ => boolD_fin o p z)
end
end Dn
namespace Dn
open PySem L2
/-! ### built-ins by name -/
section
variable {X : Cx} {cl : Str → Option Addr} {W : WX} {a b c e : Expr} {es rest : List Expr} {fa fb fc f : DE} {ft fu : DT} {fs : DA} {pos p2 p : Pos} {k : Nat} {Γ : Gm} {x : Str} {id : String} {T : String}
theorem pd_callB {r : List V → Hp → VK → Prop} {k : FA} (hc : CallR X (.builtin id) r) (hk : CaD ⟨X.K, cl⟩ W r k) (hg : Gl X x) (hm : X.mg x = none) (hv : bootBuiltins x = some (.builtin id)) (ha : PDA X cl W (e :: es) fs) (hn : x ≠ "__name__" := by decide) (hdb : (x == ("__debug__" : Str)) = false := by decide)
    (he : starEach (e :: es) X.env = (false, eval e X.env) :: starEach es X.env := by rfl) (hpl : (backTo pos (starEach es X.env)).any (·.1) = false := by rfl) :
    PD X cl W (.Call (.Name x p) (e :: es) [] pos) (dA k fs) := PE.weak (pe_callB hc hg hm hv ha hn hdb he hpl) fun σ H Q q => tD_ca hk q
theorem pd_callTy {r : List V → Hp → VK → Prop} {k : FA} (hc : CallR X (.type T) r) (hk : CaD ⟨X.K, cl⟩ W r k) (hg : Gl X x) (hm : X.mg x = none) (hv : bootBuiltins x = some (.type T)) (ha : PDA X cl W (e :: es) fs) (hn : x ≠ "__name__" := by decide) (hdb : (x == ("__debug__" : Str)) = false := by decide)
    (he : starEach (e :: es) X.env = (false, eval e X.env) :: starEach es X.env := by rfl) (hpl : (backTo pos (starEach es X.env)).any (·.1) = false := by rfl) :
    PD X cl W (.Call (.Name x p) (e :: es) [] pos) (dA k fs) := PE.weak (pe_callTy hc hg hm hv ha hn hdb he hpl) fun σ H Q q => tD_ca hk q
/-- a built-in type as a value -/
theorem pd_ty {kd : Knd} (hg : Gl X x) (hm : X.mg x = none) (hv : bootBuiltins x = some (.type kd.name)) (hn : x ≠ "__name__" := by decide) (hdb : (x == ("__debug__" : Str)) = false := by decide) : PD X cl W (.Name x pos) (dC (.ty kd)) :=
  pd_c (v := .ty kd.name) (pe_bltn hg hm hv rfl hn hdb) fun _ => rfl
/-- len -/
def lenA : FA := fun xs g => match xs with
  | [.str y] => if y.length ≤ sizeLine then .ok (.int y.length) g else .bad
  | [d] => (match seqOf g d with
    | some ys => .ok (.int ys.length) g
    | none => (match d with
      | .dk ks ds => .ok (.int ks.length) g
      | .ref n => (match g[n]? with
        | some (.dk ks ds) => .ok (.int ks.length) g
        | _ => .bad)
      | _ => .bad))
  | _ => .bad
def rLenAll (K : PySem.W.Frag) : List V → Hp → VK → Prop := fun xs H Q => (∃ x n, xs = [x] ∧ LenV K x H n ∧ Q (.int n) H) ∨ ∃ a kvs, xs = [V.ref a] ∧ H a = some (.dK kvs) ∧ Q (.int kvs.length) H
theorem call_lenAll : CallR X (.builtin "len") (rLenAll X.K) := call_len.or call_lenD
theorem Reps.inv1 {w : Wd} {d : D} {us : List V} (h : Reps Γ w [d] us) : ∃ u, us = [u] ∧ Rep Γ w d u := by
  obtain ⟨v, r, rfl, h1, h2⟩ := h
  rw [show r = [] from h2]
  exact ⟨v, rfl, h1⟩
theorem Reps.inv2 {w : Wd} {d d' : D} {us : List V} (h : Reps Γ w [d, d'] us) : ∃ u u', us = [u, u'] ∧ Rep Γ w d u ∧ Rep Γ w d' u' := by
  obtain ⟨v, r, rfl, h1, h2⟩ := h
  obtain ⟨u, rfl, h3⟩ := Reps.inv1 h2
  exact ⟨v, u, rfl, h1, h3⟩
theorem ca_len : CaD Γ W (rLenAll Γ.K) lenA := by
  intro w σ H g xs us Q o hp z
  unfold lenA at z
  split at z
  · obtain ⟨u, rfl, p⟩ := hp.inv1
    split at z
    · rename_i h
      exact .inl ⟨_, _, rfl, (by rw [show u = _ from p]; exact ⟨h, rfl⟩), z.val o rfl⟩
    · exact z.elim
  · obtain ⟨u, rfl, p⟩ := hp.inv1
    split at z
    · rename_i ys hy
      obtain ⟨a, vs, rfl, h, r⟩ := seqOf_rep o p hy
      rw [← r.length] at z
      rcases h with h | h
      · exact .inl ⟨_, _, rfl, .inl ⟨vs, h, rfl⟩, z.val o rfl⟩
      · exact .inl ⟨_, _, rfl, .inr ⟨vs, h, rfl⟩, z.val o rfl⟩
    · split at z
      · obtain ⟨a, vs, rfl, h1, h2, h3⟩ := p
        rw [← h2, List.length_map] at z
        exact .inr ⟨a, vs, rfl, o.sub _ _ h1, z.val o rfl⟩
      · split at z
        · rename_i hn
          obtain ⟨a, rfl, ha⟩ := p
          obtain ⟨vs, h1, h2, h3⟩ := o.rep _ a _ ha hn
          rw [← h2, List.length_map] at z
          exact .inr ⟨a, vs, rfl, h1, z.val o rfl⟩
        · exact z.elim
      · exact z.elim
  · exact z.elim
/-- ints of a list -/
def intsOf : List D → Option (List Int)
  | [] => some []
  | .int i :: ds => (intsOf ds).map fun is => i :: is
  | _ => none
theorem intsOf_eq : ∀ {ds : List D} {ns : List Int}, intsOf ds = some ns → ds = ns.map D.int
  | [], ns, h => by cases h; rfl
  | .int i :: ds, ns, h => by
    unfold intsOf at h
    obtain ⟨is, h1, rfl⟩ := Option.map_eq_some_iff.mp h
    rw [intsOf_eq h1]
    rfl
  | .non :: _, _, h => by cases h
  | .bl _ :: _, _, h => by cases h
  | .str _ :: _, _, h => by cases h
  | .ty _ :: _, _, h => by cases h
  | .cls _ :: _, _, h => by cases h
  | .tup _ :: _, _, h => by cases h
  | .ftup _ :: _, _, h => by cases h
  | .lst _ :: _, _, h => by cases h
  | .fz _ :: _, _, h => by cases h
  | .ref _ :: _, _, h => by cases h
  | .dk _ _ :: _, _, h => by cases h
  | .dt _ _ :: _, _, h => by cases h
  | .ins _ _ _ :: _, _, h => by cases h
theorem intsOf_map : ∀ ns : List Int, intsOf (ns.map D.int) = some ns
  | [] => rfl
  | n :: ns => by
    show (intsOf (ns.map D.int)).map _ = _
    rw [intsOf_map ns]
    rfl
def blsOf : List D → Option (List Bool)
  | [] => some []
  | .bl i :: ds => (blsOf ds).map fun is => i :: is
  | _ => none
theorem blsOf_eq : ∀ {ds : List D} {ns : List Bool}, blsOf ds = some ns → ds = ns.map D.bl
  | [], ns, h => by cases h; rfl
  | .bl i :: ds, ns, h => by
    unfold blsOf at h
    obtain ⟨is, h1, rfl⟩ := Option.map_eq_some_iff.mp h
    rw [blsOf_eq h1]
    rfl
  | .non :: _, _, h => by cases h
  | .int _ :: _, _, h => by cases h
  | .str _ :: _, _, h => by cases h
  | .ty _ :: _, _, h => by cases h
  | .cls _ :: _, _, h => by cases h
  | .tup _ :: _, _, h => by cases h
  | .ftup _ :: _, _, h => by cases h
  | .lst _ :: _, _, h => by cases h
  | .fz _ :: _, _, h => by cases h
  | .ref _ :: _, _, h => by cases h
  | .dk _ _ :: _, _, h => by cases h
  | .dt _ _ :: _, _, h => by cases h
  | .ins _ _ _ :: _, _, h => by cases h
theorem blsOf_map : ∀ ns : List Bool, blsOf (ns.map D.bl) = some ns
  | [] => rfl
  | n :: ns => by
    show (blsOf (ns.map D.bl)).map _ = _
    rw [blsOf_map ns]
    rfl
def sumA : FA := fun xs g => match xs with
  | [d] => (match (seqL g d).bind intsOf with
    | some ns => .ok (.int ns.sum) g
    | none => .bad)
  | _ => .bad
theorem ca_sum : CaD Γ W (rSum Γ.K) sumA := by
  intro w σ H g xs us Q o hp z
  unfold sumA at z
  split at z
  · obtain ⟨u, rfl, p⟩ := hp.inv1
    split at z
    · rename_i ns e
      obtain ⟨ys, hy, hi⟩ := Option.bind_eq_some_iff.mp e
      obtain ⟨a, vs, rfl, h, r⟩ := seqL_rep o p hy
      rw [intsOf_eq hi] at r
      rw [r.ints] at h
      exact ⟨a, ns, rfl, h, z.val o rfl⟩
    · exact z.elim
  · exact z.elim
def allA : FA := fun xs g => match xs with
  | [d] => (match (seqL g d).bind blsOf with
    | some ns => .ok (.bl (ns.all _root_.id)) g
    | none => .bad)
  | _ => .bad
def anyA : FA := fun xs g => match xs with
  | [d] => (match (seqL g d).bind blsOf with
    | some ns => .ok (.bl (ns.any _root_.id)) g
    | none => .bad)
  | _ => .bad
theorem ca_all : CaD Γ W (rAll Γ.K) allA := by
  intro w σ H g xs us Q o hp z
  unfold allA at z
  split at z
  · obtain ⟨u, rfl, p⟩ := hp.inv1
    split at z
    · rename_i ns e
      obtain ⟨ys, hy, hi⟩ := Option.bind_eq_some_iff.mp e
      obtain ⟨a, vs, rfl, h, r⟩ := seqL_rep o p hy
      rw [blsOf_eq hi] at r
      rw [r.bls] at h
      exact ⟨a, ns, rfl, h, z.val o rfl⟩
    · exact z.elim
  · exact z.elim
theorem ca_any : CaD Γ W (rAny Γ.K) anyA := by
  intro w σ H g xs us Q o hp z
  unfold anyA at z
  split at z
  · obtain ⟨u, rfl, p⟩ := hp.inv1
    split at z
    · rename_i ns e
      obtain ⟨ys, hy, hi⟩ := Option.bind_eq_some_iff.mp e
      obtain ⟨a, vs, rfl, h, r⟩ := seqL_rep o p hy
      rw [blsOf_eq hi] at r
      rw [r.bls] at h
      exact ⟨a, ns, rfl, h, z.val o rfl⟩
    · exact z.elim
  · exact z.elim
/-- int(n), int(flag) -/
def intA : FA := fun xs g => match xs with
  | [.int i] => .ok (.int i) g
  | [.bl k] => .ok (.int (if k then 1 else 0)) g
  | _ => .bad
theorem ca_int : CaD Γ W (fun xs H Q => (∃ i, xs = [.int i] ∧ Q (.int i) H) ∨ ∃ k, xs = [.bl k] ∧ Q (.int (if k then 1 else 0)) H) intA := by
  intro w σ H g xs us Q o hp z
  unfold intA at z
  split at z
  · obtain ⟨u, rfl, p⟩ := hp.inv1
    exact .inl ⟨_, by rw [show u = _ from p], z.val o rfl⟩
  · obtain ⟨u, rfl, p⟩ := hp.inv1
    exact .inr ⟨_, by rw [show u = _ from p], z.val o rfl⟩
  · exact z.elim
def absA : FA := fun xs g => match xs with
  | [.int i] => .ok (.int (if i < 0 then -i else i)) g
  | _ => .bad
theorem ca_abs : CaD Γ W (fun xs H Q => ∃ i, xs = [.int i] ∧ Q (.int (if i < 0 then -i else i)) H) absA := by
  intro w σ H g xs us Q o hp z
  unfold absA at z
  split at z
  · obtain ⟨u, rfl, p⟩ := hp.inv1
    exact ⟨_, by rw [show u = _ from p], z.val o rfl⟩
  · exact z.elim
/-- list(xs), tuple(xs) -/
def listA : FA := fun xs g => match xs with
  | [d] => (match seqOf g d with
    | some ys => .ok (.lst ys) g
    | none => .bad)
  | _ => .bad
def tupleA : FA := fun xs g => match xs with
  | [.tup ys] => .ok (.tup ys) g
  | [d] => (match seqL g d with
    | some ys => .ok (.tup ys) g
    | none => .bad)
  | _ => .bad
theorem ca_list : CaD Γ W (fun xs H Q => ∃ p ys, xs = [.ref p] ∧ (SqL Γ.K H p ys ∨ SqT Γ.K H p ys) ∧ ∀ l, H l = none → Q (.ref l) (upd H l (.lst ys))) listA := by
  intro w σ H g xs us Q o hp z
  unfold listA at z
  split at z
  · obtain ⟨u, rfl, p⟩ := hp.inv1
    split at z
    · rename_i ys hy
      obtain ⟨a, vs, rfl, h, r⟩ := seqOf_rep o p hy
      exact ⟨a, vs, rfl, h, fun l hl => z.newV o hl fun w' le hS => ⟨l, vs, rfl, hS, r.mono le⟩⟩
    · exact z.elim
  · exact z.elim
theorem ca_tuple : CaD Γ W (fun xs H Q => ∃ p ys, xs = [.ref p] ∧ ((SqL Γ.K H p ys ∧ ∀ l, H l = none → Q (.ref l) (upd H l (.tup ys))) ∨ (SqT Γ.K H p ys ∧ Q (.ref p) H))) tupleA := by
  intro w σ H g xs us Q o hp z
  unfold tupleA at z
  split at z
  · obtain ⟨u, rfl, p⟩ := hp.inv1
    obtain ⟨a, vs, rfl, h, r⟩ := p
    exact ⟨a, vs, rfl, .inr ⟨SqT.of (o.sub _ _ h), z.val o ⟨a, vs, rfl, h, r⟩⟩⟩
  · obtain ⟨u, rfl, p⟩ := hp.inv1
    split at z
    · rename_i ys hy
      obtain ⟨a, vs, rfl, h, r⟩ := seqL_rep o p hy
      exact ⟨a, vs, rfl, .inl ⟨h, fun l hl => z.newV o hl fun w' le hS => ⟨l, vs, rfl, hS, r.mono le⟩⟩⟩
    · exact z.elim
  · exact z.elim
/-- isinstance with built-in types -/
def kndOf (g : G) : D → Option Knd
  | .non => some .none
  | .bl _ => some .bool
  | .int _ => some .int
  | .str _ => some .str
  | .tup _ => some .tuple
  | .ftup _ => some .tuple
  | .lst _ => some .list
  | .fz _ => some .list
  | .dk _ _ => some .dict
  | .dt _ _ => some .dict
  | .ref n => (match g[n]? with
    | some (.lst _) => some .list
    | some (.dk _ _) => some .dict
    | some (.dt _ _) => some .dict
    | _ => none)
  | _ => none
def isi1 : Knd → Knd → Bool
  | .bool, .int => true
  | a, b => decide (a = b)
theorem isi1_kit {K : PySem.W.Frag} (a b : Knd) : PySem.W.kitOne K (.type a.name) (.type b.name) = some (isi1 a b) := by
  refine kit_ty ?_
  cases a <;> cases b <;> decide +kernel
theorem kndOf_ty {w : Wd} {H : Hp} {g : G} {d : D} {v : V} {kd : Knd} (o : Ok Γ w H g) (p : Rep Γ w d v) (e : kndOf g d = some kd) : TyX Γ.K H v (.type kd.name) := by
  cases d with
  | non => cases e; rw [show v = _ from p]; exact .base .non
  | bl b => cases e; rw [show v = _ from p]; exact .base (.bl b)
  | int b => cases e; rw [show v = _ from p]; exact .base (.int b)
  | str b => cases e; rw [show v = _ from p]; exact .base (.str b)
  | tup xs => cases e; obtain ⟨a, vs, rfl, h, r⟩ := p; exact .base (.tup (o.sub _ _ h))
  | lst xs => cases e; obtain ⟨a, vs, rfl, h, r⟩ := p; exact .base (.lst (o.sub _ _ h))
  | ftup xs =>
    cases e
    obtain ⟨a, vs, rfl, h, r⟩ := p
    rcases sqT_mono o.sub h with (h | ⟨ob, h⟩) | ⟨ob, its, n, h1, h2, _⟩
    · exact .base (.tup h)
    · exact .fTuple h
    · exact .kTuple h1 h2
  | fz xs =>
    cases e
    obtain ⟨a, vs, rfl, h, r⟩ := p
    rcases o.sub.seq h with (h | ⟨ob, h⟩) | ⟨ob, its, n, h1, h2, _⟩
    · exact .base (.lst h)
    · exact .base (.frz h)
    · exact .kList h1 h2
  | dk ks ds => cases e; obtain ⟨a, vs, rfl, h, r⟩ := p; exact .base (.dK (o.sub _ _ h))
  | dt ks ds => cases e; obtain ⟨a, vs, rfl, h, r⟩ := p; exact .base (.dT (o.sub _ _ h))
  | ref n =>
    obtain ⟨a, rfl, ha⟩ := p
    unfold kndOf at e
    simp only at e
    split at e
    · rename_i hn
      cases e
      obtain ⟨vs, h1, _⟩ := o.rep _ a _ ha hn
      exact .base (.lst h1)
    · rename_i hn
      cases e
      obtain ⟨vs, h1, _⟩ := o.rep _ a _ ha hn
      exact .base (.dK h1)
    · rename_i hn
      cases e
      obtain ⟨vs, h1, _⟩ := o.rep _ a _ ha hn
      exact .base (.dT h1)
    · cases e
  | ty _ => cases e
  | cls _ => cases e
  | ins _ _ _ => cases e
def tysOf : List D → Option (List Knd)
  | [] => some []
  | .ty k :: ds => (tysOf ds).map fun ks => k :: ks
  | _ => none
def isiA : FA := fun xs g => match xs with
  | [x, .ty t] => (match kndOf g x with
    | some a => .ok (.bl (isi1 a t)) g
    | none => .bad)
  | [x, .tup ts] => (match kndOf g x, tysOf ts with
    | some a, some ks => .ok (.bl (ks.any fun t => isi1 a t)) g
    | _, _ => .bad)
  | _ => .bad
theorem tysOf_rep {w : Wd} : ∀ {ts : List D} {ks : List Knd} {vs : List V}, tysOf ts = some ks → Reps Γ w ts vs → vs = ks.map fun k => V.ty k.name
  | [], ks, vs, e, r => by cases e; exact r
  | .ty k :: ts, ks, vs, e, r => by
    obtain ⟨v, vr, rfl, h1, h2⟩ := r
    unfold tysOf at e
    obtain ⟨ks', e1, rfl⟩ := Option.map_eq_some_iff.mp e
    rw [show v = _ from h1, tysOf_rep e1 h2]
    rfl
  | .non :: _, _, _, h, _ => by cases h
  | .bl _ :: _, _, _, h, _ => by cases h
  | .int _ :: _, _, _, h, _ => by cases h
  | .str _ :: _, _, _, h, _ => by cases h
  | .cls _ :: _, _, _, h, _ => by cases h
  | .tup _ :: _, _, _, h, _ => by cases h
  | .ftup _ :: _, _, _, h, _ => by cases h
  | .lst _ :: _, _, _, h, _ => by cases h
  | .fz _ :: _, _, _, h, _ => by cases h
  | .ref _ :: _, _, _, h, _ => by cases h
  | .dk _ _ :: _, _, _, h, _ => by cases h
  | .dt _ _ :: _, _, _, h, _ => by cases h
  | .ins _ _ _ :: _, _, _, h, _ => by cases h
theorem paired_ty : ∀ ks : List Knd, Paired ClsV (ks.map fun k => V.ty k.name) (ks.map fun k => Value.type k.name)
  | [] => .nil
  | k :: ks => .cons (.ty _) (paired_ty ks)
theorem kitAny_ty {K : PySem.W.Frag} (a : Knd) : ∀ ks : List Knd, PySem.W.kitAny K (.type a.name) (ks.map fun k => Value.type k.name) = some (ks.any fun t => isi1 a t)
  | [] => kitAny_nil
  | k :: ks => by
    show PySem.W.kitAny K (.type a.name) (Value.type k.name :: ks.map fun k => Value.type k.name) = some (isi1 a k || ks.any fun t => isi1 a t)
    refine kitAny_cons (isi1_kit a k) (fun e => ?_) (fun e => ?_)
    · rw [e, Bool.false_or]
      exact kitAny_ty a ks
    · rw [e]
      rfl
theorem call_isiAll : CallR X (.builtin "isinstance") (fun xs H Q => rIsi X.K xs H Q ∨ rIsiT X.K xs H Q) := call_isi.or call_isiT
theorem ca_isi : CaD Γ W (fun xs H Q => rIsi Γ.K xs H Q ∨ rIsiT Γ.K xs H Q) isiA := by
  intro w σ H g xs us Q o hp z
  unfold isiA at z
  split at z
  · obtain ⟨u, u', rfl, p1, p2⟩ := hp.inv2
    split at z
    · rename_i a ha
      exact .inl ⟨u, _, _, _, _, by rw [show u' = _ from p2], .ty _, kndOf_ty o p1 ha, isi1_kit _ _, z.val o rfl⟩
    · exact z.elim
  · obtain ⟨u, u', rfl, p1, p2⟩ := hp.inv2
    split at z
    · rename_i a ks ha hk
      obtain ⟨b, vs, rfl, hb, r⟩ := p2
      have e := tysOf_rep hk r
      subst e
      exact .inr ⟨u, b, _, _, _, _, rfl, o.sub _ _ hb, paired_ty ks, kndOf_ty o p1 ha, kitAny_ty a ks, z.val o rfl⟩
    · exact z.elim
  · exact z.elim
end
end Dn
namespace Dn
open PySem L2
/-! ### statements -/
inductive SRes where
  | nx (ρ : Env) (g : G) | rt (d : D) (g : G) | bk (ρ : Env) (g : G) | ct (ρ : Env) (g : G) | err (x : Xn) (ρ : Env) (g : G) | bad
def SRes.bind (r : SRes) (k : Env → G → SRes) : SRes := match r with
  | .nx ρ g => k ρ g
  | r => r
@[simp] theorem sbind_nx (ρ : Env) (g : G) (k : Env → G → SRes) : (SRes.nx ρ g).bind k = k ρ g := rfl
@[simp] theorem sbind_rt (d : D) (g : G) (k : Env → G → SRes) : (SRes.rt d g).bind k = .rt d g := rfl
@[simp] theorem sbind_bk (ρ : Env) (g : G) (k : Env → G → SRes) : (SRes.bk ρ g).bind k = .bk ρ g := rfl
@[simp] theorem sbind_ct (ρ : Env) (g : G) (k : Env → G → SRes) : (SRes.ct ρ g).bind k = .ct ρ g := rfl
@[simp] theorem sbind_err (x : Xn) (ρ : Env) (g : G) (k : Env → G → SRes) : (SRes.err x ρ g).bind k = .err x ρ g := rfl
@[simp] theorem sbind_bad (k : Env → G → SRes) : (SRes.bad).bind k = .bad := rfl
/-- an expression within a statement -/
def Res.toS {α : Type} (r : Res α) (ρ : Env) (k : α → G → SRes) : SRes := match r with
  | .ok a g => k a g
  | .err x g => .err x ρ g
  | .bad => .bad
@[simp] theorem toS_ok {α : Type} (a : α) (g : G) (ρ : Env) (k : α → G → SRes) : (Res.ok a g).toS ρ k = k a g := rfl
@[simp] theorem toS_err {α : Type} (x : Xn) (g : G) (ρ : Env) (k : α → G → SRes) : (Res.err x g).toS ρ k = .err x ρ g := rfl
@[simp] theorem toS_bad {α : Type} (ρ : Env) (k : α → G → SRes) : (Res.bad).toS ρ k = .bad := rfl
abbrev DS := Env → G → SRes
def FinS (Γ : Gm) (W : WX) (w : Wd) (H : Hp) : SRes → Ends → Prop
  | .nx ρ g, D => ∀ w' H' σ', w.Le w' → Off w H w' H' → Ok Γ w' H' g → RepS Γ w' ρ σ' → D.nx σ' H'
  | .bk ρ g, D => ∀ w' H' σ', w.Le w' → Off w H w' H' → Ok Γ w' H' g → RepS Γ w' ρ σ' → D.bk σ' H'
  | .ct ρ g, D => ∀ w' H' σ', w.Le w' → Off w H w' H' → Ok Γ w' H' g → RepS Γ w' ρ σ' → D.ct σ' H'
  | .rt d g, D => ∀ w' H' v, w.Le w' → Off w H w' H' → Ok Γ w' H' g → Rep Γ w' d v → D.rt v H'
  | .err x ρ g, D => ∀ w' H' c dd σ', w.Le w' → Off w H w' H' → Ok Γ w' H' g → RepX Γ w' x c dd → RepS Γ w' ρ σ' → W c dd σ' H'
  | .bad, _ => False
def tS (Γ : Gm) (W : WX) (f : DS) : TS := fun D σ H => ∃ w ρ g, Ok Γ w H g ∧ RepS Γ w ρ σ ∧ FinS Γ W w H (f ρ g) D
section
variable {Γ : Gm} {W : WX} {w w' : Wd} {σ : L2.St} {H H' : Hp} {g : G} {ρ : Env} {D D' : Ends} {r : SRes}
theorem FinS.mono (l : w.Le w') (f : Off w H w' H') (h : FinS Γ W w H r D) : FinS Γ W w' H' r D := by
  cases r with
  | nx ρ g => exact fun w2 H2 v l2 f2 k p => h w2 H2 v (l.trans l2) (f.trans f2) k p
  | bk ρ g => exact fun w2 H2 v l2 f2 k p => h w2 H2 v (l.trans l2) (f.trans f2) k p
  | ct ρ g => exact fun w2 H2 v l2 f2 k p => h w2 H2 v (l.trans l2) (f.trans f2) k p
  | rt d g => exact fun w2 H2 v l2 f2 k p => h w2 H2 v (l.trans l2) (f.trans f2) k p
  | err x ρ g => exact fun w2 H2 c dd v l2 f2 k p q => h w2 H2 c dd v (l.trans l2) (f.trans f2) k p q
  | bad => exact h
theorem FinS.seq {k : DS} (h : FinS Γ W w H (r.bind k) D) : FinS Γ W w H r { D with nx := tS Γ W k D } := by
  cases r with
  | nx ρ g => exact fun w2 H2 v l2 f2 o p => ⟨w2, ρ, g, o, p, FinS.mono l2 f2 h⟩
  | bk ρ g => exact h
  | ct ρ g => exact h
  | rt d g => exact h
  | err x ρ g => exact h
  | bad => exact h
theorem FinS.expr {α β : Type} {R : Wd → α → β → Prop} {r : Res α} {k : α → G → SRes} (s : RepS Γ w ρ σ) (h : FinS Γ W w H (r.toS ρ k) D) :
    Fin Γ W R w H σ r fun v H1 => ∃ w1 d g1, w.Le w1 ∧ Ok Γ w1 H1 g1 ∧ R w1 d v ∧ FinS Γ W w1 H1 (k d g1) D := by
  cases r with
  | ok d g => exact fun w1 H1 v l f o p => ⟨w1, d, g, l, o, p, FinS.mono l f h⟩
  | err x g => exact fun w1 H1 c dd l f o p => h w1 H1 c dd σ l f o p (s.mono l)
  | bad => exact h
/-- an expression, then what is done with its value -/
theorem tS_expr {α β : Type} {R : Wd → α → β → Prop} {f : Env → G → Res α} {k : α → Env → G → SRes} (h : tS Γ W (fun ρ g => (f ρ g).toS ρ fun x g1 => k x ρ g1) D σ H) :
    tG Γ W R f σ H fun v H1 => ∃ w ρ x g, Ok Γ w H1 g ∧ RepS Γ w ρ σ ∧ R w x v ∧ FinS Γ W w H1 (k x ρ g) D := by
  obtain ⟨w, ρ, g, o, s, z⟩ := h
  exact ⟨w, ρ, g, o, s, (FinS.expr (R := R) s z).imp fun v H1 ⟨w1, d, g1, l, o1, p, z1⟩ => ⟨w1, ρ, d, g1, o1, s.mono l, p, z1⟩⟩
theorem FinS.next (h : FinS Γ W w H (.nx ρ g) D) (o : Ok Γ w H g) (s : RepS Γ w ρ σ) : D.nx σ H := h w H σ (Wd.Le.refl w) (Off.refl w H) o s
theorem FinS.retV {d : Dn.D} {v : V} (h : FinS Γ W w H (.rt d g) D) (o : Ok Γ w H g) (s : Rep Γ w d v) : D.rt v H := h w H v (Wd.Le.refl w) (Off.refl w H) o s
end
section
variable {X : Cx} {cl : Str → Option Addr} {W : WX} {a b c e tg iter : Expr} {st : Stmt} {sts rest : List Stmt} {es : List Expr} {fa fb fc f : DE} {ft fu : DT} {fs : DA} {fS gS hS : DS} {pos p2 p : Pos} {k i : Nat} {Γ : Gm} {x : Str}
abbrev PDS (X : Cx) (cl : Str → Option Addr) (W : WX) (st : Stmt) (f : DS) : Prop := PS X st (tS ⟨X.K, cl⟩ W f)
abbrev PDSs (X : Cx) (cl : Str → Option Addr) (W : WX) (st : List Stmt) (f : DS) : Prop := PSs X st (tS ⟨X.K, cl⟩ W f)
def dNext : DS := fun ρ g => .nx ρ g
def dSeq (f h : DS) : DS := fun ρ g => (f ρ g).bind h
theorem pds_nil : PDSs X cl W [] dNext := PSs.weak pss_nil fun D σ H ⟨w, ρ, g, o, s, z⟩ => z.next o s
theorem pds_one (h : PDS X cl W st fS) : PDSs X cl W [st] fS := pss_one h
theorem pds_cons (h : PDS X cl W st fS) (h' : PDSs X cl W sts gS) : PDSs X cl W (st :: sts) (dSeq fS gS) := PSs.weak (pss_cons h h') fun D σ H ⟨w, ρ, g, o, s, z⟩ => ⟨w, ρ, g, o, s, z.seq⟩
theorem pds_pass : PDS X cl W (.Pass pos) dNext := PS.weak ps_pass fun D σ H ⟨w, ρ, g, o, s, z⟩ => z.next o s
def dBreak : DS := fun ρ g => .bk ρ g
def dCont : DS := fun ρ g => .ct ρ g
theorem pds_break : PDS X cl W (.Break pos) dBreak := PS.weak ps_break fun D σ H ⟨w, ρ, g, o, s, z⟩ => z w H σ (Wd.Le.refl w) (Off.refl w H) o s
theorem pds_continue : PDS X cl W (.Continue pos) dCont := PS.weak ps_continue fun D σ H ⟨w, ρ, g, o, s, z⟩ => z w H σ (Wd.Le.refl w) (Off.refl w H) o s
def dNever : DS := fun _ _ => .bad
/-- code that the proof never comes to -/
theorem pds_never : PDS X cl W st dNever := PS.weak ps_never fun D σ H ⟨w, ρ, g, o, s, z⟩ => z
def dExpr (f : DE) : DS := fun ρ g => (f ρ g).toS ρ fun _ g1 => .nx ρ g1
theorem pds_expr (h : PD X cl W e f) (hs : swapsWith e none pos.line X.env = pure false := by rfl) : PDS X cl W (.Expr e pos) (dExpr f) :=
  PS.weak (ps_expr h hs) fun D σ H q => (tS_expr (R := Rep ⟨X.K, cl⟩) (f := f) (k := fun _ ρ g1 => .nx ρ g1) q).imp fun v H1 ⟨w, ρ, d, g, o, s, p, z⟩ => z.next o s
def dRet (f : DE) : DS := fun ρ g => (f ρ g).toS ρ fun d g1 => .rt d g1
theorem pds_ret (h : PD X cl W e f) : PDS X cl W (.Return (some e) pos) (dRet f) :=
  PS.weak (ps_ret h) fun D σ H q => (tS_expr (R := Rep ⟨X.K, cl⟩) (f := f) (k := fun d _ g1 => .rt d g1) q).imp fun v H1 ⟨w, ρ, d, g, o, s, p, z⟩ => z.retV o p
def dRetN : DS := fun _ g => .rt .non g
theorem pds_retN : PDS X cl W (.Return none pos) dRetN := PS.weak ps_retN fun D σ H ⟨w, ρ, g, o, s, z⟩ => z.retV o rfl
def dIfS (f : DT) (h h' : DS) : DS := fun ρ g => (f ρ g).toS ρ fun b g1 => if b then h ρ g1 else h' ρ g1
theorem pds_if {A B : List Stmt} (hc : PDT X cl W c ft) (ha : PDSs X cl W A fS) (hb : PDSs X cl W B gS) : PDS X cl W (.If c A B pos) (dIfS ft fS gS) :=
  PS.weak (ps_if hc ha hb) fun D σ H q => (tS_expr (R := REq) (f := ft) (k := fun b ρ g1 => if b then fS ρ g1 else gS ρ g1) q).imp fun v H1 ⟨w, ρ, d, g, o, s, p, z⟩ => by
    obtain rfl : v = d := p
    cases v with
    | true => exact iteT ⟨w, ρ, g, o, s, z⟩
    | false => exact iteF ⟨w, ρ, g, o, s, z⟩
def dSet (i : Nat) (f : DE) : DS := fun ρ g => (f ρ g).toS ρ fun d g1 => .nx (ρ.set i (some d)) g1
theorem pds_set (hN : X.N.Nodup) (hi : X.N[i]? = some x) (hx : Loc X.env.scope x) (h : PD X cl W e f) (hs : swapsWith e (some (.Name x p2)) pos.line X.env = pure false := by rfl) (hf : X.fn x = true ∨ X.env.scope.names.lookup x = some .local := by first | exact .inl rfl | exact .inr rfl | assumption) :
    PDS X cl W (.Assign [.Name x p2] e pos) (dSet i f) :=
  PS.weak (ps_set hN hi hx h hs hf) fun D σ H q => (tS_expr (R := Rep ⟨X.K, cl⟩) (f := f) (k := fun d ρ g1 => .nx (ρ.set i (some d)) g1) q).imp fun v H1 ⟨w, ρ, d, g, o, s, p, z⟩ => z.next o (s.set i p)
/-! ### targets -/
abbrev DG := D → Env → Option Env
/-- vs: the slots that may be stored -/
def tTg (Γ : Gm) (vs : List Nat) (f : DG) : TG := fun v σ H Q => ∃ w ρ g d ρ', Ok Γ w H g ∧ RepS Γ w ρ σ ∧ Rep Γ w d v ∧ f d ρ = some ρ' ∧ ∀ σ', RepS Γ w ρ' σ' → wipe σ' vs = wipe σ vs → Q σ' H
def gN (i : Nat) : DG := fun d ρ => some (ρ.set i (some d))
theorem wipe_set {σ : L2.St} {i : Nat} {x : Option V} : ∀ {vs : List Nat}, i ∈ vs → wipe (σ.set i x) vs = wipe σ vs
  | v :: vs, h => by
    show (wipe (σ.set i x) vs).set v none = (wipe σ vs).set v none
    by_cases hv : i = v
    · subst hv
      by_cases hm : i ∈ vs
      · rw [wipe_set hm]
      · have : ∀ (vs : List Nat), i ∉ vs → wipe (σ.set i x) vs = (wipe σ vs).set i x := by
          intro vs
          induction vs with
          | nil => intro _; rfl
          | cons u us ih =>
            intro hn
            show (wipe (σ.set i x) us).set u none = ((wipe σ us).set u none).set i x
            rw [ih (fun z => hn (List.mem_cons_of_mem _ z)), List.set_comm _ _ (fun z => hn (by rw [z]; exact List.mem_cons_self))]
        rw [this vs hm, List.set_set]
    · have hm : i ∈ vs := (List.mem_cons.mp h).resolve_left hv
      rw [wipe_set hm]
theorem pdg_name {vs : List Nat} (hN : X.N.Nodup) (hi : X.N[i]? = some x) (hx : Loc X.env.scope x) (hv : i ∈ vs) (hf : X.fn x = true ∨ X.env.scope.names.lookup x = some .local := by first | exact .inl rfl | exact .inr rfl | assumption) : PG X (.Name x pos) (tTg ⟨X.K, cl⟩ vs (gN i)) :=
  PG.weak (pg_name hN hi hx hf) fun v σ H Q ⟨w, ρ, g, d, ρ', o, s, p, e, z⟩ => by
    cases e
    exact z _ (s.set i p) (wipe_set hv)
/-- several targets -/
abbrev DGs := List D → Env → Option Env
def tTgs (Γ : Gm) (vs : List Nat) (f : DGs) : TGs := fun us σ H Q => ∃ w ρ g ds ρ', Ok Γ w H g ∧ RepS Γ w ρ σ ∧ Reps Γ w ds us ∧ f ds ρ = some ρ' ∧ ∀ σ', RepS Γ w ρ' σ' → wipe σ' vs = wipe σ vs → Q σ' H
theorem PGs.weak {ts : List Expr} {t t' : TGs} (h : PGs X ts t) (i : ∀ v σ H Q, t' v σ H Q → t v σ H Q) : PGs X ts t' := ⟨fun pins s σ H v u Q I r q => h.run pins s σ H v u Q I r (i v σ H Q q)⟩
def gsNil : DGs := fun ds ρ => match ds with
  | [] => some ρ
  | _ => none
def gsCons (f : DG) (h : DGs) : DGs := fun ds ρ => match ds with
  | d :: ds => (f d ρ).bind fun ρ1 => h ds ρ1
  | [] => none
theorem pdgs_nil {vs : List Nat} : PGs X [] (tTgs ⟨X.K, cl⟩ vs gsNil) := PGs.weak pgs_nil fun us σ H Q ⟨w, ρ, g, ds, ρ', o, s, p, e, z⟩ => by
  cases ds with
  | nil =>
    cases e
    exact ⟨p, z σ s rfl⟩
  | cons d ds => cases e
theorem pdgs_cons {vs : List Nat} {fg : DG} {fgs : DGs} (h : PG X e (tTg ⟨X.K, cl⟩ vs fg)) (h' : PGs X es (tTgs ⟨X.K, cl⟩ vs fgs)) (hs : (assignEach (e :: es) X.env).map (·.2) = assign e X.env :: (assignEach es X.env).map (·.2) := by rfl) : PGs X (e :: es) (tTgs ⟨X.K, cl⟩ vs (gsCons fg fgs)) :=
  PGs.weak (pgs_cons h h' hs) fun us σ H Q ⟨w, ρ, g, ds, ρ', o, s, p, e, z⟩ => by
    cases ds with
    | nil => cases e
    | cons d ds =>
      obtain ⟨v, r, rfl, h1, h2⟩ := p
      obtain ⟨ρ1, e1, e2⟩ := Option.bind_eq_some_iff.mp e
      exact ⟨v, r, rfl, w, ρ, g, d, ρ1, o, s, h1, e1, fun σ' s' hw => ⟨w, ρ1, g, ds, ρ', o, s', h2, e2, fun σ2 s2 hw2 => z σ2 s2 (hw2.trans hw)⟩⟩
def gT (n : Nat) (f : DGs) : DG := fun d ρ => match seqT d with
  | some xs => if xs.length = n then f xs ρ else none
  | none => none
theorem pdg_tup {vs : List Nat} {n kk : Nat} {fgs : DGs} (hc : X.calm = true) (h : PGs X es (tTgs ⟨X.K, cl⟩ vs fgs)) (hn : (assignEach es X.env).length = n := by rfl) (hst : (assignEach es X.env).findIdx? (·.1) = none := by rfl) : PG X (.Tuple es kk pos) (tTg ⟨X.K, cl⟩ vs (gT n fgs)) :=
  PG.weak (pg_tup hc h hn hst) fun v σ H Q ⟨w, ρ, g, d, ρ', o, s, p, e, z⟩ => by
    unfold gT at e
    split at e
    · rename_i xs hx
      split at e
      · rename_i hl
        obtain ⟨a, us, rfl, hS, r⟩ := seqT_rep o p hx
        exact ⟨a, us, rfl, hS, by rw [r.length]; exact hl, w, ρ, g, xs, ρ', o, s, r, e, z⟩
      · cases e
    · cases e
def dAsg (f : DE) (h : DG) : DS := fun ρ g => (f ρ g).toS ρ fun d g1 => match h d ρ with
  | some ρ' => .nx ρ' g1
  | none => .bad
theorem pds_asg {vs : List Nat} {fg : DG} (h : PD X cl W e f) (hg : PG X tg (tTg ⟨X.K, cl⟩ vs fg)) (hs : swapsWithSole [tg] e pos.line X.env = pure false := by rfl) (hw : swappedStores [tg] e X.env = pure none := by rfl)
    (h1 : (assignEach [tg] X.env).map (·.2) = [assign tg X.env] := by rfl) : PDS X cl W (.Assign [tg] e pos) (dAsg f fg) :=
  PS.weak (ps_asg h hg hs hw h1) fun D σ H q => (tS_expr (R := Rep ⟨X.K, cl⟩) (f := f) (k := fun d ρ g1 => match fg d ρ with
    | some ρ' => .nx ρ' g1
    | none => .bad) q).imp fun v H1 ⟨w, ρ, d, g, o, s, p, z⟩ => by
    split at z
    · rename_i ρ' e
      exact ⟨w, ρ, g, d, ρ', o, s, p, e, fun σ' s' _ => z.next o s'⟩
    · exact z.elim
end
end Dn
namespace Dn
open PySem L2
/-! ### what is walked -/
/-- the items; the list by handle that must stand as it stood -/
structure Its where
  items : List D
  grd : Option (Nat × List D) := none
noncomputable def Its.okB (it : Its) (g : G) : Bool := match it.grd with
  | none => true
  | some (n, xs) => @decide (goL g n = some xs) (Classical.propDecidable _)
@[simp] theorem okB_none (xs : List D) (g : G) : (Its.mk xs none).okB g = true := rfl
@[simp] theorem okB_some (xs ys : List D) (n : Nat) (g : G) (h : goL g n = some ys) : (Its.mk xs (some (n, ys))).okB g = true := by
  unfold Its.okB
  simp only
  exact @decide_eq_true _ (Classical.propDecidable _) h
theorem okB_grd {it : Its} {g : G} {n : Nat} {xs : List D} (h : it.okB g = true) (e : it.grd = some (n, xs)) : goL g n = some xs := by
  unfold Its.okB at h
  rw [e] at h
  exact @of_decide_eq_true _ (Classical.propDecidable _) h
structure Yl (Γ : Gm) (w : Wd) (it : Its) (J : It) : Prop where
  go : ∀ i w' H g, w.Le w' → Ok Γ w' H g → it.okB g = true → i < it.items.length → J.go i H
  stop : ∀ w' H g, w.Le w' → Ok Γ w' H g → it.okB g = true → J.stop it.items.length H
  yld : ∀ i w' H g x H', w.Le w' → Ok Γ w' H g → it.okB g = true → i < it.items.length → J.yld i H x H' → ∃ w'' d, w'.Le w'' ∧ Off w' H w'' H' ∧ Ok Γ w'' H' g ∧ it.items[i]? = some d ∧ Rep Γ w'' d x
abbrev DI := Env → G → Res Its
abbrev tI (Γ : Gm) (W : WX) (f : DI) : TI := tG Γ W (Yl Γ) f
/-- from a walk whose items stand in the heap as it is -/
theorem yl_at {Γ : Gm} {w : Wd} {it : Its} {J : It} {n : Nat} {P : Hp → Prop} {vs : List V} (wk : Walk J n P (YAt vs)) (hn : n = it.items.length) (hg : ∀ w' H g, w.Le w' → Ok Γ w' H g → it.okB g = true → P H) (r : Reps Γ w it.items vs) : Yl Γ w it J where
  go := fun i w' H g l o k hi => wk.goes i H (by rw [hn]; exact hi) (hg w' H g l o k)
  stop := fun w' H g l o k => by
    rw [← hn]
    exact wk.stops H (hg w' H g l o k)
  yld := fun i w' H g x H' l o k hi y => by
    obtain ⟨e, hx⟩ := wk.yields i H x H' (by rw [hn]; exact hi) (hg w' H g l o k) y
    subst e
    obtain ⟨d, hd, p⟩ := (r.mono l).getV hx
    exact ⟨w', d, Wd.Le.refl w', Off.refl w' _, o, hd, p⟩
/-- .. new pairs -/
theorem yl_pair {Γ : Gm} {w : Wd} {it : Its} {J : It} {n : Nat} {P : Hp → Prop} {xs ys : Nat → Option V} (wk : Walk J n P (YPair xs ys)) (hn : n = it.items.length) (hg : ∀ w' H g, w.Le w' → Ok Γ w' H g → it.okB g = true → P H)
    (r : ∀ i x y, i < n → xs i = some x → ys i = some y → ∃ a b, it.items[i]? = some (.tup [a, b]) ∧ Rep Γ w a x ∧ Rep Γ w b y) : Yl Γ w it J where
  go := fun i w' H g l o k hi => wk.goes i H (by rw [hn]; exact hi) (hg w' H g l o k)
  stop := fun w' H g l o k => by
    rw [← hn]
    exact wk.stops H (hg w' H g l o k)
  yld := fun i w' H g x H' l o k hi y => by
    obtain ⟨T, u, v, rfl, hT, rfl, h1, h2⟩ := wk.yields i H x H' (by rw [hn]; exact hi) (hg w' H g l o k) y
    obtain ⟨a, b, hd, pa, pb⟩ := r i u v (by rw [hn]; exact hi) h1 h2
    have al := o.alloc hT (.tup [u, v])
    exact ⟨_, _, al.1, Off.alloc hT, al.2, hd, T, [u, v], rfl, upd_same, Reps.cons ((pa.mono l).mono al.1) (Reps.one ((pb.mono l).mono al.1))⟩

/-! ### for -/
noncomputable def forGo (it : Its) (fg : DG) (fb : DS) : List D → Env → G → SRes
  | [], ρ, g => if it.okB g then .nx ρ g else .bad
  | d :: ds, ρ, g => if it.okB g then (match fg d ρ with
    | none => .bad
    | some ρ1 => match fb ρ1 g with
      | .nx ρ2 g2 => forGo it fg fb ds ρ2 g2
      | .ct ρ2 g2 => forGo it fg fb ds ρ2 g2
      | .bk ρ2 g2 => .nx ρ2 g2
      | .rt d g2 => .rt d g2
      | .err x ρ2 g2 => .err x ρ2 g2
      | .bad => .bad) else .bad
noncomputable def dFor (fi : DI) (fg : DG) (fb : DS) : DS := fun ρ g => (fi ρ g).toS ρ fun it g1 => forGo it fg fb it.items ρ g1
section
variable {Γ : Gm} {W : WX}
theorem for_fin {it : Its} {J : It} {fg : DG} {fb : DS} {vs : List Nat} {w1 : Wd} {ρ1 : Env} {g1 : G} {σ1 : L2.St} {H1 : Hp} {D : Ends} (o1 : Ok Γ w1 H1 g1) (s1 : RepS Γ w1 ρ1 σ1) (y : Yl Γ w1 it J) (z1 : FinS Γ W w1 H1 (forGo it fg fb it.items ρ1 g1) D) :
    ∃ Wi : Nat → Nat → L2.St → Hp → Prop, (∃ m, Wi 0 m σ1 H1) ∧ ∀ i m σ H, Wi i m σ H →
      (J.stop i H ∧ D.nx σ H) ∨ (J.go i H ∧ ∃ N : L2.St → Hp → Prop, (∀ σ' H', N σ' H' → ∃ m', m' < m ∧ Wi (i + 1) m' σ' H') ∧ ∀ x H', J.yld i H x H' → tTg Γ vs fg x σ H' fun σ2 H2 => tS Γ W fb { D with nx := N, ct := N, bk := D.nx } σ2 H2) := by
  refine ⟨fun i m σ H => m = it.items.length - i ∧ i ≤ it.items.length ∧ ∃ w ρ g, w1.Le w ∧ Ok Γ w H g ∧ RepS Γ w ρ σ ∧ FinS Γ W w H (forGo it fg fb (it.items.drop i) ρ g) D, ⟨_, rfl, Nat.zero_le _, w1, ρ1, g1, Wd.Le.refl _, o1, s1, z1⟩, ?_⟩
  rintro i m σ H ⟨rfl, hi, w, ρ, g, l, o, s, z⟩
  by_cases hlt : i < it.items.length
  · rw [List.drop_eq_getElem_cons hlt] at z
    unfold forGo at z
    by_cases hk : it.okB g = true
    · rw [if_pos hk] at z
      refine .inr ⟨y.go i w H g l o hk hlt, fun σ' H' => ∃ w ρ g, w1.Le w ∧ Ok Γ w H' g ∧ RepS Γ w ρ σ' ∧ FinS Γ W w H' (forGo it fg fb (it.items.drop (i + 1)) ρ g) D, fun σ' H' q => ⟨_, by omega, rfl, hlt, q⟩, fun x H' hy => ?_⟩
      obtain ⟨w2, d, l2, f2, o2, hd, p⟩ := y.yld i w H g x H' l o hk hlt hy
      rw [List.getElem?_eq_getElem hlt] at hd
      have hd := Option.some.inj hd
      subst hd
      split at z
      · exact z.elim
      · rename_i ρ2 e2
        refine ⟨w2, ρ, g, _, ρ2, o2, s.mono l2, p, e2, fun σ2 s2 _ => ⟨w2, ρ2, g, o2, s2, ?_⟩⟩
        have z := FinS.mono l2 f2 z
        have l3 := l.trans l2
        split at z
        · rename_i e; rw [e]; exact fun w3 H3 σ3 le of ok rs => ⟨w3, _, _, l3.trans le, ok, rs, FinS.mono le of z⟩
        · rename_i e; rw [e]; exact fun w3 H3 σ3 le of ok rs => ⟨w3, _, _, l3.trans le, ok, rs, FinS.mono le of z⟩
        · rename_i e; rw [e]; exact z
        · rename_i e; rw [e]; exact z
        · rename_i e; rw [e]; exact z
        · exact z.elim
    · rw [if_neg hk] at z
      exact z.elim
  · have e : i = it.items.length := by omega
    subst e
    rw [List.drop_length] at z
    unfold forGo at z
    by_cases hk : it.okB g = true
    · rw [if_pos hk] at z
      exact .inl ⟨y.stop w H g l o hk, z.next o s⟩
    · rw [if_neg hk] at z
      exact z.elim
end
section
variable {X : Cx} {cl : Str → Option Addr} {W : WX} {a b c e tg iter : Expr} {st : Stmt} {sts rest body : List Stmt} {es : List Expr} {fa fb fc f : DE} {ft fu : DT} {fs : DA} {fS gS hS : DS} {fi : DI} {fg : DG} {pos p2 p : Pos} {k i : Nat} {Γ : Gm} {x : Str} {vs : List Nat}
theorem pds_for (hp : PassesOwn (model X.prog X.w) X.A X.env X.xe) (hc : X.calm = true) (hi : PI X tg iter (tI ⟨X.K, cl⟩ W fi)) (hg : PG X tg (tTg ⟨X.K, cl⟩ vs fg)) (hb : PDSs X cl W body fS)
    (hs : ∀ x, foldedSetIterable iter X.env x = pure x := by intro _; rfl) : PDS X cl W (.For tg iter body [] pos) (dFor fi fg fS) :=
  PS.weak (ps_for hp hc hi hg hb hs) fun D σ H q => (tS_expr (R := Yl ⟨X.K, cl⟩) (f := fi) (k := fun it ρ g1 => forGo it fg fS it.items ρ g1) q).imp fun J H1 ⟨w, ρ, it, g, o, s, y, z⟩ => for_fin o s y z
/-! ### while -/
def whileGo (ft : DT) (fb : DS) : Nat → Env → G → SRes
  | 0, _, _ => .bad
  | n + 1, ρ, g => (ft ρ g).toS ρ fun b g1 => if b then (match fb ρ g1 with
    | .nx ρ2 g2 => whileGo ft fb n ρ2 g2
    | .ct ρ2 g2 => whileGo ft fb n ρ2 g2
    | .bk ρ2 g2 => .nx ρ2 g2
    | .rt d g2 => .rt d g2
    | .err x ρ2 g2 => .err x ρ2 g2
    | .bad => .bad) else .nx ρ g1
theorem whileGo_succ {ft : DT} {fb : DS} : ∀ (n : Nat) (ρ : Env) (g : G), whileGo ft fb n ρ g ≠ .bad → whileGo ft fb (n + 1) ρ g = whileGo ft fb n ρ g
  | 0, _, _, h => absurd rfl h
  | n + 1, ρ, g, h => by
    unfold whileGo at h ⊢
    cases e : ft ρ g with
    | ok b g1 =>
      rw [e] at h
      simp only [toS_ok] at h ⊢
      cases b with
      | false => rfl
      | true =>
        simp only [if_true] at h ⊢
        cases e2 : fb ρ g1 with
        | nx ρ2 g2 => rw [e2] at h; exact whileGo_succ n ρ2 g2 h
        | ct ρ2 g2 => rw [e2] at h; exact whileGo_succ n ρ2 g2 h
        | _ => rfl
    | err x g1 => rfl
    | bad => rfl
theorem whileGo_le {ft : DT} {fb : DS} {n m : Nat} (hnm : n ≤ m) {ρ : Env} {g : G} (h : whileGo ft fb n ρ g ≠ .bad) : whileGo ft fb m ρ g = whileGo ft fb n ρ g := by
  induction hnm with
  | refl => rfl
  | step _ ih => rw [whileGo_succ _ _ _ (by rw [ih]; exact h), ih]
open Classical in
noncomputable def dWhile (ft : DT) (fb : DS) : DS := fun ρ g => if h : ∃ n, whileGo ft fb n ρ g ≠ .bad then whileGo ft fb (choose h) ρ g else .bad
theorem dWhile_eq {ft : DT} {fb : DS} {n : Nat} {ρ : Env} {g : G} (h : whileGo ft fb n ρ g ≠ .bad) : dWhile ft fb ρ g = whileGo ft fb n ρ g := by
  have hx : ∃ n, whileGo ft fb n ρ g ≠ .bad := ⟨n, h⟩
  unfold dWhile
  rw [dif_pos hx]
  have h2 := Classical.choose_spec hx
  rcases Nat.le_total n (Classical.choose hx) with hl | hl
  · exact whileGo_le hl h
  · exact (whileGo_le hl h2).symm
theorem dWhile_has {ft : DT} {fb : DS} (ρ : Env) (g : G) : ∃ n, dWhile ft fb ρ g = whileGo ft fb n ρ g := by
  unfold dWhile
  split
  · exact ⟨_, rfl⟩
  · exact ⟨0, rfl⟩
/-- one turn, then again -/
def turnW (ft : DT) (fb k : DS) : DS := fun ρ g => (ft ρ g).toS ρ fun b g1 => if b then (match fb ρ g1 with
    | .nx ρ2 g2 => k ρ2 g2
    | .ct ρ2 g2 => k ρ2 g2
    | .bk ρ2 g2 => .nx ρ2 g2
    | .rt d g2 => .rt d g2
    | .err x ρ2 g2 => .err x ρ2 g2
    | .bad => .bad) else .nx ρ g1
theorem dWhile_unfold (ft : DT) (fb : DS) (ρ : Env) (g : G) : dWhile ft fb ρ g = turnW ft fb (dWhile ft fb) ρ g := by
  by_cases h : ∃ n, whileGo ft fb n ρ g ≠ .bad
  · obtain ⟨n, h⟩ := h
    rw [dWhile_eq h]
    cases n with
    | zero => exact absurd rfl h
    | succ n =>
      unfold turnW
      unfold whileGo at h ⊢
      cases e : ft ρ g with
      | ok b g1 =>
        rw [e] at h
        simp only [toS_ok] at h ⊢
        cases b with
        | false => rfl
        | true =>
          simp only [if_true] at h ⊢
          cases e2 : fb ρ g1 with
          | nx ρ2 g2 => rw [e2] at h; exact (dWhile_eq h).symm
          | ct ρ2 g2 => rw [e2] at h; exact (dWhile_eq h).symm
          | _ => rfl
      | err x g1 => rfl
      | bad => rfl
  · have h0 : dWhile ft fb ρ g = .bad := by
      unfold dWhile
      rw [dif_neg h]
    rw [h0]
    unfold turnW
    cases e : ft ρ g with
    | ok b g1 =>
      simp only [toS_ok]
      cases b with
      | false => exact absurd ⟨1, by unfold whileGo; rw [e]; simp⟩ h
      | true =>
        simp only [if_true]
        cases e2 : fb ρ g1 with
        | nx ρ2 g2 =>
          simp only
          obtain ⟨n, en⟩ := dWhile_has (ft := ft) (fb := fb) ρ2 g2
          rw [en]
          by_cases hb : whileGo ft fb n ρ2 g2 = .bad
          · exact hb.symm
          · exact absurd ⟨n + 1, by unfold whileGo; rw [e]; simp only [toS_ok, if_true, e2]; exact hb⟩ h
        | ct ρ2 g2 =>
          simp only
          obtain ⟨n, en⟩ := dWhile_has (ft := ft) (fb := fb) ρ2 g2
          rw [en]
          by_cases hb : whileGo ft fb n ρ2 g2 = .bad
          · exact hb.symm
          · exact absurd ⟨n + 1, by unfold whileGo; rw [e]; simp only [toS_ok, if_true, e2]; exact hb⟩ h
        | bk ρ2 g2 => exact absurd ⟨1, by unfold whileGo; rw [e]; simp only [toS_ok, if_true, e2]; simp⟩ h
        | rt d g2 => exact absurd ⟨1, by unfold whileGo; rw [e]; simp only [toS_ok, if_true, e2]; simp⟩ h
        | err x ρ2 g2 => exact absurd ⟨1, by unfold whileGo; rw [e]; simp only [toS_ok, if_true, e2]; simp⟩ h
        | bad => rfl
    | err x g1 => exact absurd ⟨1, by unfold whileGo; rw [e]; simp⟩ h
    | bad => rfl
theorem pds_while {c : Expr} (hp : PassesOwn (model X.prog X.w) X.A X.env X.xe) (hc : PDT X cl W c ft) (hb : PDSs X cl W body fS) : PDS X cl W (.While c body [] pos) (dWhile ft fS) :=
  PS.weak (ps_while hp hc hb) fun D σ H ⟨w, ρ, g, o, s, z⟩ => by
    obtain ⟨n, en⟩ := dWhile_has (ft := ft) (fb := fS) ρ g
    rw [en] at z
    refine ⟨fun m σ H => ∃ w ρ g, Ok ⟨X.K, cl⟩ w H g ∧ RepS ⟨X.K, cl⟩ w ρ σ ∧ FinS ⟨X.K, cl⟩ W w H (whileGo ft fS m ρ g) D, ⟨n, w, ρ, g, o, s, z⟩, ?_⟩
    rintro m σ H ⟨w, ρ, g, o, s, z⟩
    cases m with
    | zero => exact z.elim
    | succ m =>
      unfold whileGo at z
      refine ⟨w, ρ, g, o, s, (FinS.expr (R := REq) s z).imp fun b H1 ⟨w1, b', g1, l, o1, e, z1⟩ => ?_⟩
      obtain rfl : b = b' := e
      cases b with
      | false => exact iteF (FinS.next z1 o1 (s.mono l))
      | true =>
        refine iteT ⟨fun σ' H' => ∃ w ρ g, Ok ⟨X.K, cl⟩ w H' g ∧ RepS ⟨X.K, cl⟩ w ρ σ' ∧ FinS ⟨X.K, cl⟩ W w H' (whileGo ft fS m ρ g) D, fun σ' H' q => ⟨m, Nat.lt_succ_self m, q⟩, w1, ρ, g1, o1, s.mono l, ?_⟩
        simp only [if_true] at z1
        cases e2 : fS ρ g1 with
        | nx ρ2 g2 => rw [e2] at z1; exact fun w3 H3 σ3 le of ok rs => ⟨w3, _, _, ok, rs, FinS.mono le of z1⟩
        | ct ρ2 g2 => rw [e2] at z1; exact fun w3 H3 σ3 le of ok rs => ⟨w3, _, _, ok, rs, FinS.mono le of z1⟩
        | bk ρ2 g2 => rw [e2] at z1; exact z1
        | rt d g2 => rw [e2] at z1; exact z1
        | err x ρ2 g2 => rw [e2] at z1; exact z1
        | bad => rw [e2] at z1; exact z1.elim
end
end Dn
namespace Dn
open PySem L2
/-! ### what is walked: lists, tuples, texts, ranges, enumerate, zip -/
def itsOf (g : G) (d : D) : Option Its := match d with
  | .str z => some ⟨z.cps.toList.map fun c => .str ⟨#[c]⟩, none⟩
  | .ref n => (goL g n).map fun xs => ⟨xs, some (n, xs)⟩
  | d => (seqOf g d).map fun xs => ⟨xs, none⟩
def iterR (d : D) (g : G) : Res Its := match itsOf g d with
  | some it => .ok it g
  | none => .bad
def dIt (f : DE) : DI := fun ρ g => (f ρ g).bind iterR
section
variable {X : Cx} {cl : Str → Option Addr} {W : WX} {a b c e tg iter : Expr} {es : List Expr} {fa fb fc f : DE} {fs : DA} {pos p2 p tpos : Pos} {k i : Nat} {Γ : Gm} {x : Str}
theorem yl_list {w : Wd} {H : Hp} {g : G} {d : D} {v : V} {xs : List D} (o : Ok Γ w H g) (p : Rep Γ w d v) (e : seqL g d = some xs) (hd : ∀ n, d ≠ .ref n) : ∃ a, v = .ref a ∧ (∃ vs, SqL Γ.K H a vs) ∧ Yl Γ w ⟨xs, none⟩ (Itl Γ.K a) := by
  obtain ⟨a, vs, hv, hs, r⟩ : ∃ a vs, v = .ref a ∧ SqL Γ.K w.S a vs ∧ Reps Γ w xs vs := by
    cases d with
    | fz ys => obtain ⟨a, vs, e1, h, r⟩ := p; cases e; exact ⟨a, vs, e1, h, r⟩
    | lst ys => obtain ⟨a, vs, e1, h, r⟩ := p; cases e; exact ⟨a, vs, e1, SqL.of h, r⟩
    | ref n => exact absurd rfl (hd n)
    | _ => cases e
  exact ⟨a, hv, ⟨vs, o.sub.seq hs⟩, yl_at (walk_list (K := Γ.K) (a := a) (xs := vs)) r.length (fun w' H' g' l o' _ => o'.sub.seq (l.2.seq hs)) r⟩
theorem yl_tup {w : Wd} {H : Hp} {g : G} {d : D} {v : V} {xs : List D} (o : Ok Γ w H g) (p : Rep Γ w d v) (e : seqT d = some xs) : ∃ a, v = .ref a ∧ (∃ vs, SqT Γ.K H a vs) ∧ Yl Γ w ⟨xs, none⟩ (Itt Γ.K a) := by
  obtain ⟨a, vs, hv, hs, r⟩ : ∃ a vs, v = .ref a ∧ SqT Γ.K w.S a vs ∧ Reps Γ w xs vs := by
    cases d with
    | tup ys => obtain ⟨a, vs, e1, h, r⟩ := p; cases e; exact ⟨a, vs, e1, SqT.of h, r⟩
    | ftup ys => obtain ⟨a, vs, e1, h, r⟩ := p; cases e; exact ⟨a, vs, e1, h, r⟩
    | _ => cases e
  exact ⟨a, hv, ⟨vs, sqT_mono o.sub hs⟩, yl_at (walk_tup (K := Γ.K) (a := a) (xs := vs)) r.length (fun w' H' g' l o' _ => sqT_mono o'.sub (sqT_mono l.2 hs)) r⟩
theorem ads_mono {w w' : Wd} (l : w.Le w') {n : Nat} {a : Addr} (h : w.ads[n]? = some a) : w'.ads[n]? = some a := by
  obtain ⟨t, e⟩ := l.1
  rw [e]
  exact List.getElem?_append_left (List.getElem?_eq_some_iff.mp h).1 ▸ h
theorem yl_ref {w : Wd} {H : Hp} {g : G} {n : Nat} {v : V} {xs : List D} (o : Ok Γ w H g) (p : Rep Γ w (.ref n) v) (e : goL g n = some xs) : ∃ a, v = .ref a ∧ (∃ vs, SqL Γ.K H a vs) ∧ Yl Γ w ⟨xs, some (n, xs)⟩ (Itl Γ.K a) := by
  obtain ⟨a, hv, ha⟩ := p
  obtain ⟨vs, h1, r⟩ := o.rep n a _ ha (goL_some e)
  refine ⟨a, hv, ⟨vs, SqL.of h1⟩, ⟨fun i w' H' g' l o' k hi => ?_, fun w' H' g' l o' k => ?_, fun i w' H' g' x H2 l o' k hi y => ?_⟩⟩
  · obtain ⟨us, h2, r2⟩ := o'.rep n a _ (ads_mono l ha) (goL_some (okB_grd k rfl))
    have hi' : i < us.length := by rw [r2.length]; exact hi
    exact ⟨us, us[i], SqL.of h2, by simp [hi']⟩
  · obtain ⟨us, h2, r2⟩ := o'.rep n a _ (ads_mono l ha) (goL_some (okB_grd k rfl))
    exact ⟨us, SqL.of h2, by rw [r2.length]; exact Nat.le_refl _⟩
  · obtain ⟨us, h2, r2⟩ := o'.rep n a _ (ads_mono l ha) (goL_some (okB_grd k rfl))
    obtain ⟨e2, y⟩ := y
    subst e2
    obtain ⟨d, hd, p⟩ := r2.getV (y us (SqL.of h2))
    exact ⟨w', d, Wd.Le.refl w', Off.refl w' _, o', hd, p⟩
theorem yl_str {w : Wd} (z : Str) : Yl Γ w ⟨z.cps.toList.map fun c => .str ⟨#[c]⟩, none⟩ (L2.Its z) := by
  have hl : z.cps.size = (z.cps.toList.map fun c => D.str ⟨#[c]⟩).length := by simp
  refine ⟨fun i w' H' g' l o' k hi => ?_, fun w' H' g' l o' k => ?_, fun i w' H' g' x H2 l o' k hi y => ?_⟩
  · show i < z.cps.size
    rw [hl]; exact hi
  · show z.cps.size ≤ _
    rw [hl]; exact Nat.le_refl _
  · obtain ⟨e2, c, hc, rfl⟩ := y
    subst e2
    exact ⟨w', .str ⟨#[c]⟩, Wd.Le.refl w', Off.refl w' _, o', by simp [List.getElem?_map, hc], rfl⟩
theorem pdi (h : PD X cl W e f) : PI X tg e (tI ⟨X.K, cl⟩ W (dIt f)) :=
  PI.weak (PI.or (pi_str h) (PI.or (pi_list h) (pi_tup h))) fun σ H Q q => by
    have q1 := tG_seq (R := Rep ⟨X.K, cl⟩) (f := f) (k := fun d _ g1 => iterR d g1) q
    -- which of the three rules is asked depends on the value: so decide by the datum
    obtain ⟨w, ρ, g, o, s, z⟩ := q
    cases hf : f ρ g with
    | ok d g1 =>
      unfold dIt at z
      rw [hf] at z
      simp only [bind_ok] at z
      unfold iterR at z
      split at z
      · rename_i it ei
        unfold itsOf at ei
        split at ei
        · rename_i zs
          cases ei
          refine .inl ⟨w, ρ, g, o, s, ?_⟩
          rw [hf]
          exact fun w1 H1 v l f1 o1 p => ⟨_, p, z w1 H1 _ l f1 o1 (yl_str _)⟩
        · rename_i n
          obtain ⟨xs, hx, rfl⟩ := Option.map_eq_some_iff.mp ei
          refine .inr (.inl ⟨w, ρ, g, o, s, ?_⟩)
          rw [hf]
          intro w1 H1 v l f1 o1 p
          obtain ⟨a, hv, hs, y⟩ := yl_ref o1 p hx
          exact ⟨a, hv, hs, z w1 H1 _ l f1 o1 y⟩
        · rename_i hns hnr
          obtain ⟨xs, hx, rfl⟩ := Option.map_eq_some_iff.mp ei
          unfold seqOf at hx
          split at hx
          · rename_i ys hy
            cases hx
            refine .inr (.inl ⟨w, ρ, g, o, s, ?_⟩)
            rw [hf]
            intro w1 H1 v l f1 o1 p
            obtain ⟨a, hv, hs, y⟩ := yl_list o1 p hy (fun n en => hnr n en)
            exact ⟨a, hv, hs, z w1 H1 _ l f1 o1 y⟩
          · refine .inr (.inr ⟨w, ρ, g, o, s, ?_⟩)
            rw [hf]
            intro w1 H1 v l f1 o1 p
            obtain ⟨a, hv, hs, y⟩ := yl_tup o1 p hx
            exact ⟨a, hv, hs, z w1 H1 _ l f1 o1 y⟩
      · exact z.elim
    | err x g1 =>
      unfold dIt at z
      rw [hf] at z
      refine .inl ⟨w, ρ, g, o, s, ?_⟩
      rw [hf]
      exact z
    | bad =>
      unfold dIt at z
      rw [hf] at z
      exact z.elim
/-! ranges -/
def rngL (lo : Int) (n : Nat) : List D := (List.range n).map fun i => .int (lo + (i : Nat))
def rng1 (xs : List D) (g : G) : Res Its := match xs with
  | [.int j] => if -(2 ^ 62) ≤ j ∧ j < 2 ^ 62 then .ok ⟨rngL 0 j.toNat, none⟩ g else .bad
  | _ => .bad
def rng2 (xs : List D) (g : G) : Res Its := match xs with
  | [.int i, .int j] => if -(2 ^ 62) ≤ i ∧ i < 2 ^ 62 ∧ -(2 ^ 62) ≤ j ∧ j < 2 ^ 62 then .ok ⟨rngL i (j - i).toNat, none⟩ g else .bad
  | _ => .bad
theorem yl_rng {w : Wd} (lo : Int) (n : Nat) : Yl Γ w ⟨rngL lo n, none⟩ (Itr lo n) := by
  have hl : n = (rngL lo n).length := by simp [rngL]
  refine ⟨fun i w' H' g' l o' k hi => ?_, fun w' H' g' l o' k => ?_, fun i w' H' g' x H2 l o' k hi y => ?_⟩
  · show i < n
    rw [hl]; exact hi
  · show n ≤ _
    exact Nat.le_of_eq hl
  · obtain ⟨e2, rfl⟩ := y
    subst e2
    have hi' : i < n := by rw [hl]; exact hi
    exact ⟨w', .int (lo + (i : Nat)), Wd.Le.refl w', Off.refl w' _, o', by simp [rngL, hi'], rfl⟩
def dItA (k : List D → G → Res Its) (fs : DA) : DI := fun ρ g => (fs ρ g).bind k
theorem pdi_range1 (hg : Gl X "range") (hm : X.mg "range" = none) (ha : PDA X cl W [a] fs) (hs : starEach [a] X.env = [(false, eval a X.env)] := by rfl) : PI X tg (.Call (.Name "range" p) [a] [] pos) (tI ⟨X.K, cl⟩ W (dItA rng1 fs)) :=
  PI.weak (pi_range1 hg hm ha hs) fun σ H Q q => (tG_seq (R := Reps ⟨X.K, cl⟩) (f := fs) (k := fun xs _ g1 => rng1 xs g1) q).imp fun v H1 ⟨w, ρ, xs, g, o, s, hp, z⟩ => by
    unfold rng1 at z
    split at z
    · split at z
      · rename_i h
        obtain ⟨u, rfl, p1⟩ := hp.inv1
        exact ⟨_, by rw [show u = _ from p1], h.1, h.2, z.val o (yl_rng _ _)⟩
      · exact z.elim
    · exact z.elim
theorem pdi_range2 (hg : Gl X "range") (hm : X.mg "range" = none) (ha : PDA X cl W [a, b] fs) (hs : starEach [a, b] X.env = [(false, eval a X.env), (false, eval b X.env)] := by rfl) (hs2 : starEach [b] X.env = [(false, eval b X.env)] := by rfl) : PI X tg (.Call (.Name "range" p) [a, b] [] pos) (tI ⟨X.K, cl⟩ W (dItA rng2 fs)) :=
  PI.weak (pi_range2 hg hm ha hs hs2) fun σ H Q q => (tG_seq (R := Reps ⟨X.K, cl⟩) (f := fs) (k := fun xs _ g1 => rng2 xs g1) q).imp fun v H1 ⟨w, ρ, xs, g, o, s, hp, z⟩ => by
    unfold rng2 at z
    split at z
    · split at z
      · rename_i h
        obtain ⟨u, u', rfl, p1, p2⟩ := hp.inv2
        exact ⟨_, _, by rw [show u = _ from p1, show u' = _ from p2], h, z.val o (yl_rng _ _)⟩
      · exact z.elim
    · exact z.elim
/-! enumerate(list), zip(list, list), zip(tuple, tuple) -/
def enumL (xs : List D) : List D := (List.range xs.length).zipWith (fun i x => .tup [.int (i : Nat), x]) xs
theorem enumL_len (xs : List D) : (enumL xs).length = xs.length := by simp [enumL]
theorem enumL_get {xs : List D} {i : Nat} {d : D} (h : xs[i]? = some d) : (enumL xs)[i]? = some (.tup [.int (i : Nat), d]) := by
  have hi := (List.getElem?_eq_some_iff.mp h).1
  simp [enumL, List.getElem?_zipWith, h, List.getElem?_range hi]
def zipL (xs ys : List D) : List D := xs.zipWith (fun x y => .tup [x, y]) ys
theorem zipL_get {xs ys : List D} {i : Nat} {a b : D} (h : xs[i]? = some a) (h' : ys[i]? = some b) : (zipL xs ys)[i]? = some (.tup [a, b]) := by
  simp [zipL, List.getElem?_zipWith, h, h']
/-- the list's items, stable or by handle -/
def srcL (g : G) (d : D) : Option Its := match d with
  | .ref n => (goL g n).map fun xs => ⟨xs, some (n, xs)⟩
  | d => (seqL g d).map fun xs => ⟨xs, none⟩
def enumR (xs : List D) (g : G) : Res Its := match xs with
  | [d] => (match srcL g d with
    | some it => .ok ⟨enumL it.items, it.grd⟩ g
    | none => .bad)
  | _ => .bad
theorem srcL_rep {w : Wd} {H : Hp} {g : G} {d : D} {v : V} {it : Its} (o : Ok Γ w H g) (p : Rep Γ w d v) (e : srcL g d = some it) : ∃ a vs, v = .ref a ∧ SqL Γ.K H a vs ∧ Reps Γ w it.items vs ∧ ∀ w' H' g' (its : List D), w.Le w' → Ok Γ w' H' g' → (Its.mk its it.grd).okB g' = true → ∃ us, SqL Γ.K H' a us ∧ Reps Γ w' it.items us := by
  unfold srcL at e
  split at e
  · obtain ⟨xs, hx, rfl⟩ := Option.map_eq_some_iff.mp e
    obtain ⟨a, hv, ha⟩ := p
    obtain ⟨vs, h1, r⟩ := o.rep _ a _ ha (goL_some hx)
    refine ⟨a, vs, hv, SqL.of h1, r, fun w' H' g' its l o' k => ?_⟩
    obtain ⟨us, h2, r2⟩ := o'.rep _ a _ (ads_mono l ha) (goL_some (okB_grd k rfl))
    exact ⟨us, SqL.of h2, r2⟩
  · rename_i hn
    obtain ⟨xs, hx, rfl⟩ := Option.map_eq_some_iff.mp e
    obtain ⟨a, vs, hv, hs, r⟩ : ∃ a vs, v = .ref a ∧ SqL Γ.K w.S a vs ∧ Reps Γ w xs vs := by
      cases d with
      | fz ys => obtain ⟨a, vs, e1, h, r⟩ := p; cases hx; exact ⟨a, vs, e1, h, r⟩
      | lst ys => obtain ⟨a, vs, e1, h, r⟩ := p; cases hx; exact ⟨a, vs, e1, SqL.of h, r⟩
      | ref n => exact absurd rfl (hn n)
      | _ => cases hx
    exact ⟨a, vs, hv, o.sub.seq hs, r, fun w' H' g' its l o' k => ⟨vs, o'.sub.seq (l.2.seq hs), r.mono l⟩⟩
theorem yl_enum {w : Wd} {H : Hp} {g : G} {d : D} {v : V} {it : Its} (o : Ok Γ w H g) (p : Rep Γ w d v) (e : srcL g d = some it) : ∃ a vs, v = .ref a ∧ SqL Γ.K H a vs ∧ Yl Γ w ⟨enumL it.items, it.grd⟩ (Ite Γ.K a) := by
  obtain ⟨a, vs, hv, hs, r, keep⟩ := srcL_rep o p e
  refine ⟨a, vs, hv, hs, ⟨fun i w' H' g' l o' k hi => ?_, fun w' H' g' l o' k => ?_, fun i w' H' g' x H2 l o' k hi y => ?_⟩⟩
  · obtain ⟨us, h2, r2⟩ := keep w' H' g' _ l o' k
    have hi' : i < us.length := by rw [r2.length, ← enumL_len]; exact hi
    exact ⟨us, us[i], h2, by simp [hi']⟩
  · obtain ⟨us, h2, r2⟩ := keep w' H' g' _ l o' k
    exact ⟨us, h2, by rw [r2.length, ← enumL_len]; exact Nat.le_refl _⟩
  · obtain ⟨us, h2, r2⟩ := keep w' H' g' _ l o' k
    obtain ⟨T, x', rfl, hT, rfl, hx⟩ := y
    obtain ⟨d', hd, pd⟩ := r2.getV (hx us h2)
    have al := o'.alloc hT (.tup [.int (i : Nat), x'])
    exact ⟨_, _, al.1, Off.alloc hT, al.2, enumL_get hd, T, _, rfl, upd_same, Reps.cons rfl (Reps.one (pd.mono al.1))⟩
theorem pdi_enum {elts : List Expr} {kk : Nat} (hg : Gl X "enumerate") (hm : X.mg "enumerate" = none) (ha : PDA X cl W [e] fs) (hs : starEach [e] X.env = [(false, eval e X.env)] := by rfl) : PI X (.Tuple elts kk tpos) (.Call (.Name "enumerate" p) [e] [] pos) (tI ⟨X.K, cl⟩ W (dItA enumR fs)) :=
  PI.weak (pi_enum hg hm ha hs) fun σ H Q q => (tG_seq (R := Reps ⟨X.K, cl⟩) (f := fs) (k := fun xs _ g1 => enumR xs g1) q).imp fun v H1 ⟨w, ρ, xs, g, o, s, hp, z⟩ => by
    unfold enumR at z
    split at z
    · split at z
      · rename_i it h
        obtain ⟨u, rfl, p1⟩ := hp.inv1
        obtain ⟨a, vs, rfl, h1, y⟩ := yl_enum o p1 h
        exact ⟨a, vs, rfl, h1, z.val o y⟩
      · exact z.elim
    · exact z.elim
theorem walk_zipT {K : PySem.W.Frag} {a b : Addr} {xs ys : List V} {n : Nat} (hn : n = min xs.length ys.length) : Walk (RZ.ItzT K a b) n (fun H => SqT K H a xs ∧ SqT K H b ys) (YPair (fun i => xs[i]?) (fun i => ys[i]?)) := by
  subst hn
  refine ⟨fun i _ hi q => ?_, fun _ q => ⟨xs, ys, q.1, q.2, by omega⟩, fun i H v H' _ q y => ?_⟩
  · have h1 : i < xs.length := by omega
    have h2 : i < ys.length := by omega
    exact ⟨xs, ys, xs[i], ys[i], q.1, q.2, by simp [h1], by simp [h2]⟩
  · obtain ⟨T, x, z, h1, h2, h3, h4, h5⟩ := y
    exact ⟨T, x, z, h1, h2, h3, h4 xs q.1, h5 ys q.2⟩
def zipR (xs : List D) (g : G) : Res Its := match xs with
  | [.lst a, .lst b] => .ok ⟨zipL a b, none⟩ g
  | [.tup a, .tup b] => .ok ⟨zipL a b, none⟩ g
  | _ => .bad
theorem pdi_zip {elts : List Expr} {kk : Nat} {e2 : Expr} (hg : Gl X "zip") (hm : X.mg "zip" = none) (ha : PDA X cl W [e, e2] fs)
    (hs : starEach [e, e2] X.env = (false, eval e X.env) :: starEach [e2] X.env := by rfl) (hpl : (backTo pos (starEach [e2] X.env)).any (·.1) = false := by rfl) :
    PI X (.Tuple elts kk tpos) (.Call (.Name "zip" p) [e, e2] [] pos) (tI ⟨X.K, cl⟩ W (dItA zipR fs)) :=
  PI.weak (RZ.pi_zipA hg hm ha hs hpl) fun σ H Q q => (tG_seq (R := Reps ⟨X.K, cl⟩) (f := fs) (k := fun xs _ g1 => zipR xs g1) q).imp fun v H1 ⟨w, ρ, xs, g, o, s, hp, z⟩ => by
    unfold zipR at z
    split at z
    · obtain ⟨u, u', rfl, p1, p2⟩ := hp.inv2
      obtain ⟨x1, vs1, rfl, q1, r1⟩ := p1
      obtain ⟨x2, vs2, rfl, q2, r2⟩ := p2
      refine ⟨x1, x2, vs1, vs2, rfl, .inl ⟨SqL.of (o.sub _ _ q1), SqL.of (o.sub _ _ q2), z.val o ?_⟩⟩
      refine yl_pair (walk_zip (xs := vs1) (ys := vs2) rfl) (by simp [zipL, r1.length, r2.length]) (fun w' H' g' l' o' _ => ⟨SqL.of (o'.sub _ _ (l'.2 _ _ q1)), SqL.of (o'.sub _ _ (l'.2 _ _ q2))⟩) fun i x y _ hx hy => ?_
      obtain ⟨d1, e1, t1⟩ := r1.getV hx
      obtain ⟨d2, e2, t2⟩ := r2.getV hy
      exact ⟨d1, d2, zipL_get e1 e2, t1, t2⟩
    · obtain ⟨u, u', rfl, p1, p2⟩ := hp.inv2
      obtain ⟨x1, vs1, rfl, q1, r1⟩ := p1
      obtain ⟨x2, vs2, rfl, q2, r2⟩ := p2
      refine ⟨x1, x2, vs1, vs2, rfl, .inr ⟨SqT.of (o.sub _ _ q1), SqT.of (o.sub _ _ q2), z.val o ?_⟩⟩
      refine yl_pair (walk_zipT (xs := vs1) (ys := vs2) rfl) (by simp [zipL, r1.length, r2.length]) (fun w' H' g' l' o' _ => ⟨SqT.of (o'.sub _ _ (l'.2 _ _ q1)), SqT.of (o'.sub _ _ (l'.2 _ _ q2))⟩) fun i x y _ hx hy => ?_
      obtain ⟨d1, e1, t1⟩ := r1.getV hx
      obtain ⟨d2, e2, t2⟩ := r2.getV hy
      exact ⟨d1, d2, zipL_get e1 e2, t1, t2⟩
    · exact z.elim
end
end Dn
namespace Dn
open PySem L2
/-! ### list comprehensions -/
def wipeE (ρ : Env) : List Nat → Env
  | [] => ρ
  | v :: vs => (wipeE ρ vs).set v none
theorem RepS.unset {Γ : Gm} {w : Wd} {ρ : Env} {σ : L2.St} (h : RepS Γ w ρ σ) (i : Nat) (x : Option V) : RepS Γ w (ρ.set i none) (σ.set i x) := by
  refine ⟨by rw [List.length_set, List.length_set]; exact h.1, fun j e ej => ?_⟩
  by_cases hj : i = j
  · subst hj
    by_cases hl : i < ρ.length
    · rw [List.getElem?_set_self hl] at ej
      cases ej
    · rw [List.getElem?_eq_none (by rw [List.length_set]; omega)] at ej
      cases ej
  · rw [List.getElem?_set_ne hj] at ej
    obtain ⟨u, e1, q⟩ := h.2 j e ej
    exact ⟨u, by rw [List.getElem?_set_ne hj]; exact e1, q⟩
theorem RepS.wipe {Γ : Gm} {w : Wd} {ρ : Env} {σ : L2.St} (h : RepS Γ w ρ σ) : ∀ vs : List Nat, RepS Γ w (wipeE ρ vs) (L2.wipe σ vs)
  | [] => h
  | v :: vs => (RepS.wipe h vs).unset v none
theorem wipe_wipe (σ : L2.St) : ∀ vs us : List Nat, (∀ v ∈ vs, v ∈ us) → wipe (wipe σ vs) us = wipe σ us
  | [], us, _ => rfl
  | v :: vs, us, h => by
    show wipe ((wipe σ vs).set v none) us = wipe σ us
    rw [wipe_set (h v List.mem_cons_self)]
    exact wipe_wipe σ vs us fun x hx => h x (List.mem_cons_of_mem _ hx)
/-- what raises in a comprehension has no rule -/
def noE {α : Type} (r : Res α) : Res α := match r with
  | .ok a g => .ok a g
  | _ => .bad
@[simp] theorem noE_ok {α : Type} (a : α) (g : G) : noE (Res.ok a g) = .ok a g := rfl
noncomputable def lcGo (it : Its) (fg : DG) (ft : DT) (fe : DE) (ρ : Env) : List D → G → Res (List D)
  | [], g => if it.okB g then .ok [] g else .bad
  | d :: ds, g => if it.okB g then (match fg d ρ with
    | none => .bad
    | some ρ1 => (noE (ft ρ1 g)).bind fun b g1 => if b then (noE (fe ρ1 g1)).bind fun y g2 => (lcGo it fg ft fe ρ ds g2).bind fun ys g3 => .ok (y :: ys) g3 else lcGo it fg ft fe ρ ds g1) else .bad
noncomputable def dLc (fi : DI) (fg : DG) (vs : List Nat) (ft : DT) (fe : DE) : DE := fun ρ g => (fi ρ g).bind fun it g1 => if it.items.length ≤ sizeLine then (lcGo it fg ft fe (wipeE ρ vs) it.items g1).bind fun xs g2 => .ok (.lst xs) g2 else .bad
abbrev W0 : WX := fun _ _ _ _ => False
section
variable {Γ : Gm} {W : WX}
theorem bind_assoc {α β γ : Type} (r : Res α) (k : α → G → Res β) (l : β → G → Res γ) : (r.bind k).bind l = r.bind fun x g => (k x g).bind l := by
  cases r <;> rfl
theorem lc_fin {it : Its} {J : It} {fg : DG} {ft : DT} {fe : DE} {vs : List Nat} {w1 : Wd} {ρ1 : Env} {g1 : G} {σ1 : L2.St} {H1 : Hp} {Q : VK} (o1 : Ok Γ w1 H1 g1) (s1 : RepS Γ w1 ρ1 σ1) (y : Yl Γ w1 it J) (hsz : it.items.length ≤ sizeLine)
    (z1 : Fin Γ W (Rep Γ) w1 H1 σ1 ((lcGo it fg ft fe (wipeE ρ1 vs) it.items g1).bind fun xs g2 => .ok (.lst xs) g2) Q) : ∀ Da, H1 Da = none → ∃ Wi : Nat → Nat → Hp → Prop, (∃ m, Wi 0 m (upd H1 Da (.lst []))) ∧ ∀ i m H, Wi i m H →
    (J.stop i H ∧ Q (.ref Da) H) ∨ (J.go i H ∧ ∃ Nx : Hp → Prop, (∀ H', Nx H' → ∃ m', m' < m ∧ Wi (i + 1) m' H') ∧ ∀ x H', J.yld i H x H' → tTg Γ vs fg x (wipe σ1 vs) H' fun σ2 H2 => wipe σ2 vs = wipe σ1 vs ∧ tT Γ W0 ft σ2 H2 fun b H3 =>
      if b = true then tD Γ W0 fe σ2 H3 fun yv H4 => ∃ acc, H4 Da = some (.lst acc) ∧ acc.length < sizeLine ∧ Nx (upd H4 Da (.lst (acc ++ [yv]))) else Nx H3) := by
  intro Da hDa
  -- what holds ahead of a turn
  let St : Nat → Hp → Prop := fun i H => ∃ w g acc ds, w1.Le w ∧ Off w1 H1 w H ∧ Ok Γ w H g ∧ Priv w H Da (.lst acc) ∧ Reps Γ w ds acc ∧ ds.length ≤ i ∧
    Fin Γ W (Rep Γ) w1 H1 σ1 ((lcGo it fg ft fe (wipeE ρ1 vs) (it.items.drop i) g).bind fun xs g2 => .ok (.lst (ds ++ xs)) g2) Q
  have off1 : Off w1 H1 w1 (upd H1 Da (.lst [])) := fun p o h => ⟨by rw [upd_ne (ne_of_none h.at_ hDa)]; exact h.at_, h.ads, h.st⟩
  have new1 := o1.new hDa
  refine ⟨fun i m H => m = it.items.length - i ∧ i ≤ it.items.length ∧ St i H, ⟨_, rfl, Nat.zero_le _, w1, g1, [], [], Wd.Le.refl _, off1, o1.grow (same_upd' hDa), ⟨upd_same, new1.1, new1.2⟩, rfl, Nat.le_refl _, z1⟩, ?_⟩
  rintro i m H ⟨rfl, hi, w, g, acc, ds, l, f, o, pv, r, hl, z⟩
  by_cases hlt : i < it.items.length
  · rw [List.drop_eq_getElem_cons hlt] at z
    unfold lcGo at z
    by_cases hk : it.okB g = true
    · rw [if_pos hk] at z
      refine .inr ⟨y.go i w H g l o hk hlt, St (i + 1), fun H' q => ⟨_, by omega, rfl, hlt, q⟩, fun x H' hy => ?_⟩
      obtain ⟨w2, d, l2, f2, o2, hd, p⟩ := y.yld i w H g x H' l o hk hlt hy
      rw [List.getElem?_eq_getElem hlt] at hd
      have hd := Option.some.inj hd
      subst hd
      split at z
      · exact z.elim
      · rename_i ρ2 e2
        refine ⟨w2, wipeE ρ1 vs, g, _, ρ2, o2, ((s1.mono (l.trans l2)).wipe vs), p, e2, fun σ2 s2 hw => ⟨hw.trans (wipe_wipe σ1 vs vs fun _ h => h), ?_⟩⟩
        refine ⟨w2, ρ2, g, o2, s2, ?_⟩
        cases et : ft ρ2 g with
        | err x g2 => rw [et] at z; exact z.elim
        | bad => rw [et] at z; exact z.elim
        | ok b g2 =>
          rw [et] at z
          simp only [noE_ok, bind_ok] at z
          intro w3 H3 b' l3 f3 o3 eb
          obtain rfl : b' = b := eb
          cases b' with
          | false =>
            refine iteF ⟨w3, g2, acc, ds, (l.trans l2).trans l3, (f.trans f2).trans f3, o3, f3 _ _ (f2 _ _ pv), (r.mono l2).mono l3, by omega, z⟩
          | true =>
            refine iteT ⟨w3, ρ2, g2, o3, s2.mono l3, ?_⟩
            cases ee : fe ρ2 g2 with
            | err x g3 => rw [ee] at z; exact z.elim
            | bad => rw [ee] at z; exact z.elim
            | ok yd g3 =>
              rw [ee] at z
              simp only [if_true, noE_ok, bind_ok, bind_assoc] at z
              intro w4 H4 yv l4 f4 o4 py
              have pv4 := f4 _ _ (f3 _ _ (f2 _ _ pv))
              have r4 := ((r.mono l2).mono l3).mono l4
              have hacc : acc.length = ds.length := r.length
              refine ⟨acc, pv4.at_, by omega, w4, g3, acc ++ [yv], ds ++ [yd], ((l.trans l2).trans l3).trans l4, fun q oq hq => ?_, ⟨fun q oq e => ?_, o4.nd, o4.off, o4.len, fun n a u ea eo => ?_⟩, ⟨upd_same, pv4.ads, pv4.st⟩, r4.app (Reps.one py), by rw [List.length_append]; show ds.length + 1 ≤ i + 1; omega, ?_⟩
              · have hq4 := f4 _ _ (f3 _ _ (f2 _ _ (f _ _ hq)))
                have hne : q ≠ Da := ne_of_none hq.at_ hDa
                exact ⟨by rw [upd_ne hne]; exact hq4.at_, hq4.ads, hq4.st⟩
              · rw [upd_ne (ne_of_none e pv4.st)]
                exact o4.sub _ _ e
              · have hne : a ≠ Da := fun z => pv4.ads (by rw [← z]; exact List.mem_of_getElem? ea)
                rw [upd_ne hne]
                exact o4.rep n a u ea eo
              · have e3 : (fun (xs : List Dn.D) (g2 : G) => Res.ok (Dn.D.lst (ds ++ [yd] ++ xs)) g2) = fun xs g2 => Res.ok (Dn.D.lst (ds ++ (yd :: xs))) g2 := by
                  funext xs g2
                  rw [List.append_assoc]
                  rfl
                rw [e3]
                exact z
    · rw [if_neg hk] at z
      exact z.elim
  · have e : i = it.items.length := by omega
    subst e
    rw [List.drop_length] at z
    unfold lcGo at z
    by_cases hk : it.okB g = true
    · rw [if_pos hk] at z
      refine .inl ⟨y.stop w H g l o hk, ?_⟩
      simp only [bind_ok, List.append_nil] at z
      have le2 : w.Le ⟨w.ads, upd w.S Da (.lst acc)⟩ := ⟨⟨[], (List.append_nil _).symm⟩, same_upd' pv.st⟩
      refine z ⟨w.ads, upd w.S Da (.lst acc)⟩ H (.ref Da) (l.trans le2) (fun q oq hq => ?_) ⟨fun q oq e => ?_, o.nd, fun a ha => ?_, o.len, fun n a u ea eo => (o.rep n a u ea eo).mono le2⟩ ⟨Da, acc, rfl, upd_same, r.mono le2⟩
      · have hq2 := f _ _ hq
        have hne : q ≠ Da := ne_of_none hq.at_ hDa
        exact ⟨hq2.at_, hq2.ads, by show upd w.S Da _ q = none; rw [upd_ne hne]; exact hq2.st⟩
      · by_cases hq : q = Da
        · subst hq
          have e' : upd w.S q (.lst acc) q = some oq := e
          rw [upd_same] at e'
          rw [pv.at_]
          exact e'
        · have e' : upd w.S Da (.lst acc) q = some oq := e
          rw [upd_ne hq] at e'
          exact o.sub _ _ e'
      · show upd w.S Da _ a = none
        rw [upd_ne (fun z => pv.ads (by rw [← z]; exact ha))]
        exact o.off a ha
    · rw [if_neg hk] at z
      exact z.elim
end
section
variable {X : Cx} {cl : Str → Option Addr} {W : WX} {elt tg iter : Expr} {ifs : List Expr} {scope : Scope} {own : List (Str × Nat)} {pos spos py : Pos} {fi : DI} {fg : DG} {ft : DT} {fe : DE} {vs : List Nat} {i : Nat} {y : Str}
def dYes : DT := fun _ g => .ok true g
theorem pts_yes : PTs X [] (tT ⟨X.K, cl⟩ W dYes) := ⟨fun pins s σ H Q I ⟨w, ρ, g, o, r, z⟩ => pts_nil.run pins s σ H Q I (z.val o rfl)⟩
theorem lc_imp {σ : L2.St} {H : Hp} {Q : VK} (q : tD ⟨X.K, cl⟩ W (dLc fi fg vs ft fe) σ H Q) : tLc (tI ⟨X.K, cl⟩ W fi) (tTg ⟨X.K, cl⟩ vs fg) (tT ⟨X.K, cl⟩ W0 ft) (tD ⟨X.K, cl⟩ W0 fe) vs σ H Q :=
  (tG_seq (R := Yl ⟨X.K, cl⟩) (f := fi) (k := fun it ρ g1 => if it.items.length ≤ sizeLine then (lcGo it fg ft fe (wipeE ρ vs) it.items g1).bind fun xs g2 => .ok (D.lst xs) g2 else .bad) q).imp fun J H1 ⟨w, ρ, it, g, o, s, yl, z⟩ => by
    split at z
    · rename_i hs
      exact lc_fin o s yl hs z
    · exact z.elim
theorem pd_lc (hc : X.calm = true) (hN : X.N.Nodup) (hi : PI X tg iter (tI ⟨X.K, cl⟩ W fi)) (ok : BlkOk X.N X.env.scope scope own)
    (hg : ∀ (s : Shared) (H : Hp) (C : Addr) (clo : List (Str × Addr)) (fp : List Addr), PG (X.blk s H scope (compEnvC scope clo C X.env) fp) tg (tTg ⟨X.K, cl⟩ (own.map (·.2)) fg)) (ht : ∀ (s : Shared) (H : Hp) (C : Addr) (clo : List (Str × Addr)) (fp : List Addr), PTs (X.blk s H scope (compEnvC scope clo C X.env) fp) ifs (tT ⟨X.K, cl⟩ W0 ft))
    (he : ∀ (s : Shared) (H : Hp) (C : Addr) (clo : List (Str × Addr)) (fp : List Addr), PE (X.blk s H scope (compEnvC scope clo C X.env) fp) elt (tD ⟨X.K, cl⟩ W0 fe)) (hs : ∀ x, foldedSetIterable iter X.env x = pure x := by intro _; rfl) :
    PD X cl W (.ListComp elt [⟨tg, iter, ifs, 0⟩] scope pos) (dLc fi fg (own.map (·.2)) ft fe) := PE.weak (pe_lc hc hN hi ok hg ht he hs) fun σ H Q q => lc_imp q
/-- name = [..] -/
theorem pds_setLc (hc : X.calm = true) (hN : X.N.Nodup) (hy : X.N[i]? = some y) (hyl : X.env.scope.names.lookup y = some .local)
    (hsw : swapsWith (.ListComp elt [⟨tg, iter, ifs, 0⟩] scope pos) (some (.Name y py)) spos.line X.env = pure true) (hi : PI X tg iter (tI ⟨X.K, cl⟩ W fi)) (ok : BlkOk X.N X.env.scope scope own)
    (hg : ∀ (s : Shared) (H : Hp) (C : Addr) (clo : List (Str × Addr)) (fp : List Addr), PG (X.blk s H scope (compEnvC scope clo C X.env) fp) tg (tTg ⟨X.K, cl⟩ (own.map (·.2)) fg)) (ht : ∀ (s : Shared) (H : Hp) (C : Addr) (clo : List (Str × Addr)) (fp : List Addr), PTs (X.blk s H scope (compEnvC scope clo C X.env) fp) ifs (tT ⟨X.K, cl⟩ W0 ft))
    (he : ∀ (s : Shared) (H : Hp) (C : Addr) (clo : List (Str × Addr)) (fp : List Addr), PE (X.blk s H scope (compEnvC scope clo C X.env) fp) elt (tD ⟨X.K, cl⟩ W0 fe)) (hs : ∀ x, foldedSetIterable iter X.env x = pure x := by intro _; rfl) :
    PDS X cl W (.Assign [.Name y py] (.ListComp elt [⟨tg, iter, ifs, 0⟩] scope pos) spos) (dSet i (dLc fi fg (own.map (·.2)) ft fe)) :=
  PS.weak (ps_setLc hc hN hy hyl hsw hi ok hg ht he hs) fun D σ H q => by
    have q1 := tS_expr (R := Rep ⟨X.K, cl⟩) (f := dLc fi fg (own.map (·.2)) ft fe) (k := fun d ρ g1 => .nx (ρ.set i (some d)) g1) q
    exact lc_imp (q1.imp fun v H1 ⟨w, ρ, d, g, o, s, p, z⟩ => z.next o (s.set i p))
end
end Dn
namespace Dn
open PySem L2
/-! ### defs -/
abbrev Fn := List D → G → Res D
/-- a def's promise: its function -/
def spD (Γ : Gm) (n : Nat) (f : Fn) : Sp := fun vs H Q E => vs.length = n ∧ ∃ w ds g, Ok Γ w H g ∧ Reps Γ w ds vs ∧ Fin Γ (fun c dd _ H => E c dd H) (Rep Γ) w H [] (f ds g) Q
def startE (n : Nat) (ds : List D) : Env := ds.map some ++ List.replicate (n - ds.length) none
/-- a body as a function -/
def dFn (n : Nat) (fS : DS) : Fn := fun ds g => match fS (startE n ds) g with
  | .rt d g' => .ok d g'
  | .nx _ g' => .ok .non g'
  | .err x _ g' => .err x g'
  | _ => .bad
theorem reps_start {Γ : Gm} {w : Wd} {N : List Str} {ds : List D} {vs : List V} (r : Reps Γ w ds vs) : RepS Γ w (startE N.length ds) (L2.start N vs) := by
  refine ⟨by simp [startE, L2.start, r.length], fun i d e => ?_⟩
  unfold startE at e
  by_cases hi : i < ds.length
  · rw [List.getElem?_append_left (by simpa using hi), List.getElem?_map] at e
    obtain ⟨d', hd, e⟩ := Option.map_eq_some_iff.mp e
    cases e
    obtain ⟨v, hv, p⟩ := r.get hd
    refine ⟨v, ?_, p⟩
    unfold L2.start
    rw [List.getElem?_append_left (by rw [List.length_map, r.length]; exact hi), List.getElem?_map, hv]
    rfl
  · rw [List.getElem?_append_right (by simpa using hi)] at e
    have := List.mem_of_getElem? e
    rw [List.mem_replicate] at this
    exact nomatch this.2
theorem Fin.swap {Γ : Gm} {W W' : WX} {α β : Type} {R : Wd → α → β → Prop} {w : Wd} {H : Hp} {σ σ' : L2.St} {r : Res α} {Q : β → Hp → Prop} (h : Fin Γ W R w H σ r Q) (hW : ∀ c dd H, W c dd σ H → W' c dd σ' H) : Fin Γ W' R w H σ' r Q := by
  cases r with
  | ok d g => exact h
  | err x g => exact fun w' H' c dd l f o p => hW _ _ _ (h w' H' c dd l f o p)
  | bad => exact h
theorem fn_fin {Γ : Gm} {w : Wd} {H : Hp} {fS : DS} {n : Nat} {ds : List D} {g : G} {Q : VK} {E : XK} (z : Fin Γ (fun c dd _ H => E c dd H) (Rep Γ) w H [] (dFn n fS ds g) Q) : FinS Γ (fun c dd _ H => E c dd H) w H (fS (startE n ds) g) { nx := fun _ H' => Q .non H', rt := Q } := by
  unfold dFn at z
  cases e : fS (startE n ds) g with
  | rt d g' => rw [e] at z; exact z
  | nx ρ g' => rw [e] at z; exact fun w' H' σ' l f o _ => z w' H' .non l f o rfl
  | err x ρ g' => rw [e] at z; exact fun w' H' c dd σ' l f o p _ => z w' H' c dd l f o p
  | bk ρ g' => rw [e] at z; exact z.elim
  | ct ρ g' => rw [e] at z; exact z.elim
  | bad => rw [e] at z; exact z.elim
section
variable {P : Program} {w : World} {K : PySem.W.Frag} {mg : Str → Option Value} {base : Heap} {x qual : Str} {params : Arguments} {body : List Stmt} {scope : Scope} {dvs : List V} {kws : List (Str × V)} {f : Addr} {fd : FuncData} {cl : Str → Option Addr}
/-- THE RULE for a def: its body as a function -/
theorem fnD_ok {N ps : List Str} {k : Nat} {fS : DS} (F : FunD K x qual params body scope dvs kws f fd) (S : FnScope N ps scope)
    (hbody : ∀ (cdv : Value) (A : Around) (outer : List PySem.Env) (s : Shared) (H : Hp) (E : XK), Room k (A.deeper (PyProof.Rows.envOfC qual scope s.heap.objs.size f cdv)) → PDSs (cxOf (L2.CX P w) P w K mg base N qual scope f cdv A outer s H E) cl (fun c dd _ H => E c dd H) body fS) :
    FnOk P w K mg base (L2.CX P w) (k + 1) f fd ps (spD ⟨K, cl⟩ ps.length (dFn N.length fS)) :=
  F.ok S (fun vs H Q E h => h.1) fun cdv A outer s H vs Q E hr h => by
    obtain ⟨hl, wd, ds, g, o, r, z⟩ := h
    exact ⟨_, hbody cdv A outer s H E hr, wd, startE N.length ds, g, o, reps_start r, fn_fin z⟩
end
/-! ### calls -/
/-- how a call with n positional values and the keywords ks binds -/
def CallB (Γ : Gm) (fd : FuncData) (ps : List Str) (n : Nat) (ks : List Str) (gD : List D → List D → List D) : Prop :=
  ∃ (g : List Value → List Value → List Value) (gV : List V → List V → List V), KBn Γ.K fd ps n ks g gV ∧ (∀ vs us, vs.length = n → us.length = ks.length → (gV vs us).length = ps.length) ∧ ∀ w ds vs es us, Reps Γ w ds vs → Reps Γ w es us → Reps Γ w (gD ds es) (gV vs us)
section
variable {X : Cx} {cl : Str → Option Addr} {W : WX} {a b c e o : Expr} {es rest : List Expr} {kws : List Keyword} {fa fb fc : DE} {fs fk : DA} {pos p2 p apos : Pos} {k n : Nat} {Γ : Gm} {x m : Str} {f C : Addr} {fd : FuncData} {ps ks : List Str} {den : Fn} {gD : List D → List D → List D}
theorem run_D {pins : List (Addr × Obj)} {σ : L2.St} {H : Hp} {s : Shared} {Q : VK} {us ws : List Value} {vs zs : List V} {wd : Wd} {ds es' : List D} {g : G} (F : FnOk X.prog X.w X.K X.mg X.base (L2.CX X.prog X.w) k f fd ps (spD ⟨X.K, cl⟩ ps.length den)) (hr : Room k X.A) (hb : CallB ⟨X.K, cl⟩ fd ps n ks gD) (tk : Takes X W)
    (I : Inv X pins σ H s) (r : Vals vs us) (rz : Vals zs ws) (l1 : vs.length = n) (l2 : zs.length = ks.length) (o : Ok ⟨X.K, cl⟩ wd H g) (q1 : Reps ⟨X.K, cl⟩ wd ds vs) (q2 : Reps ⟨X.K, cl⟩ wd es' zs) (h : Fin ⟨X.K, cl⟩ W (Rep ⟨X.K, cl⟩) wd H σ (den (gD ds es') g) Q) :
    wpAny (model X.prog X.w) X.A (call (.ref f) us (ks.zip ws)) (EP X pins σ Q) X.xe s := by
  obtain ⟨gg, gV, B, hl, hR⟩ := hb
  have r2 := B.rel r rz
  refine wpAny_call (codeAny_mono (F.run X.A X.stack s H ⟨us, ks.zip ws⟩ (gg us ws) (gV vs zs) Q (WE W σ) hr I.env0 (B.to s us ws I.kIn (by rw [← r.length]; exact l1) (by rw [← rz.length]; exact l2)) r2 ⟨hl vs zs l1 l2, wd, gD ds es', g, o, hR wd ds vs es' zs q1 q2, h.swap fun c dd H h => h⟩) fun r s' hq => ?_)
  cases r with
  | error e => exact passAt tk σ pins H s e s' I hq
  | ok fl =>
    cases fl with
    | ret u => exact I.after hq
    | next => exact False.elim hq
    | brk => exact False.elim hq
    | cont => exact False.elim hq
def tCallD (Γ : Gm) (W : WX) (n m : Nat) (den : Fn) (gD : List D → List D → List D) (t tk : TA) : TE := fun σ H Q => t σ H fun vs H1 => tk σ H1 fun zs H2 => vs.length = n ∧ zs.length = m ∧ ∃ w ds es g, Ok Γ w H2 g ∧ Reps Γ w ds vs ∧ Reps Γ w es zs ∧ Fin Γ W (Rep Γ) w H2 σ (den (gD ds es) g) Q
/-- f(e, ..), f(), f(k = v, ..), f(e, .., k = v, ..) -/
theorem pe_callP {t : TA} (F : FnOk X.prog X.w X.K X.mg X.base (L2.CX X.prog X.w) k f fd ps (spD ⟨X.K, cl⟩ ps.length den)) (hr : Room k X.A) (hg : Gl X x) (hm : X.mg x = some (.ref f)) (hk : PySem.W.keepIn X.K (.ref f) = true) (hb : CallB ⟨X.K, cl⟩ fd ps n [] gD) (tk : Takes X W)
    (ha : PA X (e :: es) t) (hdb : (x == ("__debug__" : Str)) = false := by decide) (he : starEach (e :: es) X.env = (false, eval e X.env) :: starEach es X.env := by rfl) (hpl : (backTo pos (starEach es X.env)).any (·.1) = false := by rfl) :
    PE X (.Call (.Name x p) (e :: es) [] pos) (tCallD ⟨X.K, cl⟩ W n 0 den gD t tNil) := by
  refine ⟨fun pins s σ H Q I h => ?_⟩
  refine wpAny_Call_Name_kw (ld_glob I hg hm ?_ hdb)
  refine PySem.W.callWith_K (h₀ := X.base) I.ok.mod.kin hk (thn (ha.run pos pins s σ H _ I h) fun us s1 ⟨vs, H1, I1, r, l1, l2, wd, ds, es', g, o, q1, q2, z⟩ => ⟨I1.kIn, ?_⟩) he hpl
  exact run_D (ks := []) (ws := []) F hr hb tk I1 r .nil l1 rfl o q1 q2 z
theorem pe_callP0 (F : FnOk X.prog X.w X.K X.mg X.base (L2.CX X.prog X.w) k f fd ps (spD ⟨X.K, cl⟩ ps.length den)) (hr : Room k X.A) (hg : Gl X x) (hm : X.mg x = some (.ref f)) (hk : PySem.W.keepIn X.K (.ref f) = true) (hb : CallB ⟨X.K, cl⟩ fd ps 0 [] gD) (tk : Takes X W)
    (hdb : (x == ("__debug__" : Str)) = false := by decide) : PE X (.Call (.Name x p) [] [] pos) (tCallD ⟨X.K, cl⟩ W 0 0 den gD tNil tNil) := by
  refine ⟨fun pins s σ H Q I ⟨l1, l2, wd, ds, es', g, o, q1, q2, z⟩ => ?_⟩
  refine wpAny_Call_Name_kw (ld_glob I hg hm ?_ hdb)
  exact PySem.W.callWith_K0 I.kIn hk (run_D (us := []) (ks := []) (ws := []) F hr hb tk I .nil .nil rfl rfl o q1 q2 z)
theorem pe_callPK {t tkw : TA} (F : FnOk X.prog X.w X.K X.mg X.base (L2.CX X.prog X.w) k f fd ps (spD ⟨X.K, cl⟩ ps.length den)) (hr : Room k X.A) (hg : Gl X x) (hm : X.mg x = some (.ref f)) (hk : PySem.W.keepIn X.K (.ref f) = true) (hb : CallB ⟨X.K, cl⟩ fd ps n ks gD) (tk : Takes X W)
    (ha : PA X (e :: es) t) (hkw : PK X kws tkw) (hall : (backToKw pos (keywordEach kws X.env)).all (·.1.isSome) = true := by rfl) (hks : (backToKw pos (keywordEach kws X.env)).filterMap (·.1) = ks := by rfl)
    (hdb : (x == ("__debug__" : Str)) = false := by decide) (he : starEach (e :: es) X.env = (false, eval e X.env) :: starEach es X.env := by rfl)
    (hpl : ((backTo pos (starEach (e :: es) X.env)).any (·.1) || (backToKw pos (keywordEach kws X.env)).any (·.1.isNone)) = false := by rfl) :
    PE X (.Call (.Name x p) (e :: es) kws pos) (tCallD ⟨X.K, cl⟩ W n ks.length den gD t tkw) := by
  refine ⟨fun pins s σ H Q I h => ?_⟩
  refine wpAny_Call_Name_kw (ld_glob I hg hm ?_ hdb)
  refine PySem.W.callWith_KW (h₀ := X.base) I.ok.mod.kin hk hall (thn (ha.run pos pins s σ H _ I h) fun us s1 ⟨vs, H1, I1, r, q⟩ => ?_) hpl he
  refine thn (hkw.run pos pins s1 σ H1 _ I1 q) fun ws s2 ⟨zs, H2, I2, rz, l1, l2, wd, ds, es', g, o, q1, q2, z⟩ => ⟨I2.kIn, ?_⟩
  rw [hks]
  exact run_D F hr hb tk I2 r rz l1 l2 o q1 q2 z
theorem pe_callPK0 {tkw : TA} (F : FnOk X.prog X.w X.K X.mg X.base (L2.CX X.prog X.w) k f fd ps (spD ⟨X.K, cl⟩ ps.length den)) (hr : Room k X.A) (hg : Gl X x) (hm : X.mg x = some (.ref f)) (hk : PySem.W.keepIn X.K (.ref f) = true) (hb : CallB ⟨X.K, cl⟩ fd ps 0 ks gD) (tk : Takes X W)
    (hkw : PK X kws tkw) (hall : (backToKw pos (keywordEach kws X.env)).all (·.1.isSome) = true := by rfl) (hks : (backToKw pos (keywordEach kws X.env)).filterMap (·.1) = ks := by rfl) (hdb : (x == ("__debug__" : Str)) = false := by decide)
    (hpl : ((backTo pos (starEach [] X.env)).any (·.1) || (backToKw pos (keywordEach kws X.env)).any (·.1.isNone)) = false := by rfl) :
    PE X (.Call (.Name x p) [] kws pos) (tCallD ⟨X.K, cl⟩ W 0 ks.length den gD tNil tkw) := by
  refine ⟨fun pins s σ H Q I h => ?_⟩
  refine wpAny_Call_Name_kw (ld_glob I hg hm ?_ hdb)
  refine PySem.W.callWith_KW0 (h₀ := X.base) I.ok.mod.kin hk hall ?_ hpl
  refine thn (hkw.run pos pins s σ H _ I h) fun ws s2 ⟨zs, H2, I2, rz, l1, l2, wd, ds, es', g, o, q1, q2, z⟩ => ⟨I2.kIn, ?_⟩
  rw [hks]
  exact run_D (us := []) F hr hb tk I2 .nil rz l1 l2 o q1 q2 z
def dCall (n m : Nat) (den : Fn) (gD : List D → List D → List D) (fs fk : DA) : DE := fun ρ g => (fs ρ g).bind fun xs g1 => (fk ρ g1).bind fun ys g2 => if xs.length = n ∧ ys.length = m then den (gD xs ys) g2 else .bad
theorem call_imp {m : Nat} {σ : L2.St} {H : Hp} {Q : VK} (q : tD Γ W (dCall n m den gD fs fk) σ H Q) : tCallD Γ W n m den gD (tA Γ W fs) (tA Γ W fk) σ H Q :=
  (tG_seq (R := Reps Γ) (f := fs) (k := fun xs ρ g1 => (fk ρ g1).bind fun ys g2 => if xs.length = n ∧ ys.length = m then den (gD xs ys) g2 else .bad) q).imp fun vs H1 ⟨w, ρ, xs, g, o, s, p, z⟩ =>
    ⟨w, ρ, g, o, s, (z.seq (R := Reps Γ)).imp fun zs H2 ⟨w2, ys, g2, l, o2, p2, z2⟩ => by
      split at z2
      · rename_i h
        exact ⟨by rw [p.length]; exact h.1, by rw [p2.length]; exact h.2, w2, xs, ys, g2, o2, p.mono l, p2, z2⟩
      · exact z2.elim⟩
/-- no arguments of that kind -/
theorem nil_imp {σ : L2.St} {H : Hp} {Q : List V → Hp → Prop} (q : tA Γ W dNil σ H Q) : tNil σ H Q := by
  obtain ⟨w, ρ, g, o, s, z⟩ := q
  exact z.val o rfl
theorem call_imp0 {m : Nat} {σ : L2.St} {H : Hp} {Q : VK} (q : tD Γ W (dCall n m den gD fs dNil) σ H Q) : tCallD Γ W n m den gD (tA Γ W fs) tNil σ H Q :=
  tG.imp (call_imp q) fun vs H1 z => nil_imp z
theorem call_imp1 {m : Nat} {σ : L2.St} {H : Hp} {Q : VK} (q : tD Γ W (dCall n m den gD dNil fk) σ H Q) : tCallD Γ W n m den gD tNil (tA Γ W fk) σ H Q := nil_imp (call_imp q)
theorem call_imp2 {m : Nat} {σ : L2.St} {H : Hp} {Q : VK} (q : tD Γ W (dCall n m den gD dNil dNil) σ H Q) : tCallD Γ W n m den gD tNil tNil σ H Q := nil_imp (call_imp0 q)
abbrev PDK (X : Cx) (cl : Str → Option Addr) (W : WX) (kws : List Keyword) (f : DA) : Prop := PK X kws (tA ⟨X.K, cl⟩ W f)
theorem PK.weak {t t' : TA} (h : PK X kws t) (i : ∀ σ H Q, t' σ H Q → t σ H Q) : PK X kws t' := ⟨fun pos pins s σ H Q I q => h.run pos pins s σ H Q I (i σ H Q q)⟩
theorem pdk_nil : PDK X cl W [] dNil := PK.weak pk_nil fun σ H Q q => nil_imp q
theorem pdk_cons {nm : Option Str} {kpos : Pos} (ha : PD X cl W e fa) (hr : PDK X cl W kws fs) : PDK X cl W (⟨nm, e, kpos⟩ :: kws) (dCons fa fs) :=
  PK.weak (pk_cons ha hr) fun σ H Q q =>
    (tG_seq (R := Rep ⟨X.K, cl⟩) (f := fa) (k := fun x ρ g1 => (fs ρ g1).bind fun xs g2 => .ok (x :: xs) g2) q).imp fun v H1 ⟨w, ρ, x, g, o, s, p, z⟩ =>
      ⟨w, ρ, g, o, s, (z.seq (R := Reps ⟨X.K, cl⟩)).imp fun us H2 ⟨w2, y, g2, l, o2, p2, z2⟩ => z2.val o2 (Reps.cons (p.mono l) p2)⟩
/-- a def of the text and its function, as a caller uses it -/
structure Df (X : Cx) (cl : Str → Option Addr) (k : Nat) (x : Str) (ps : List Str) (den : Fn) (f : Addr) (fd : FuncData) : Prop where
  F : FnOk X.prog X.w X.K X.mg X.base (L2.CX X.prog X.w) k f fd ps (spD ⟨X.K, cl⟩ ps.length den)
  hm : X.mg x = some (.ref f)
  hk : PySem.W.keepIn X.K (.ref f) = true
theorem pd_call (F : Df X cl k x ps den f fd) (hr : Room k X.A) (hb : CallB ⟨X.K, cl⟩ fd ps n [] gD) (tk : Takes X W) (ha : PDA X cl W (e :: es) fs) (hg : Gl X x := by rfl) (hdb : (x == ("__debug__" : Str)) = false := by decide)
    (he : starEach (e :: es) X.env = (false, eval e X.env) :: starEach es X.env := by rfl) (hpl : (backTo pos (starEach es X.env)).any (·.1) = false := by rfl) : PD X cl W (.Call (.Name x p) (e :: es) [] pos) (dCall n 0 den gD fs dNil) :=
  PE.weak (pe_callP F.F hr hg F.hm F.hk hb tk ha hdb he hpl) fun σ H Q q => call_imp0 q
theorem pd_call0 (F : Df X cl k x ps den f fd) (hr : Room k X.A) (hb : CallB ⟨X.K, cl⟩ fd ps 0 [] gD) (tk : Takes X W) (hg : Gl X x := by rfl) (hdb : (x == ("__debug__" : Str)) = false := by decide) : PD X cl W (.Call (.Name x p) [] [] pos) (dCall 0 0 den gD dNil dNil) :=
  PE.weak (pe_callP0 F.F hr hg F.hm F.hk hb tk hdb) fun σ H Q q => call_imp2 q
theorem pd_callK (F : Df X cl k x ps den f fd) (hr : Room k X.A) (hb : CallB ⟨X.K, cl⟩ fd ps n ks gD) (tk : Takes X W) (ha : PDA X cl W (e :: es) fs) (hkw : PDK X cl W kws fk) (hg : Gl X x := by rfl)
    (hall : (backToKw pos (keywordEach kws X.env)).all (·.1.isSome) = true := by rfl) (hks : (backToKw pos (keywordEach kws X.env)).filterMap (·.1) = ks := by rfl)
    (hdb : (x == ("__debug__" : Str)) = false := by decide) (he : starEach (e :: es) X.env = (false, eval e X.env) :: starEach es X.env := by rfl)
    (hpl : ((backTo pos (starEach (e :: es) X.env)).any (·.1) || (backToKw pos (keywordEach kws X.env)).any (·.1.isNone)) = false := by rfl) : PD X cl W (.Call (.Name x p) (e :: es) kws pos) (dCall n ks.length den gD fs fk) :=
  PE.weak (pe_callPK F.F hr hg F.hm F.hk hb tk ha hkw hall hks hdb he hpl) fun σ H Q q => call_imp q
theorem pd_callK0 (F : Df X cl k x ps den f fd) (hr : Room k X.A) (hb : CallB ⟨X.K, cl⟩ fd ps 0 ks gD) (tk : Takes X W) (hkw : PDK X cl W kws fk) (hg : Gl X x := by rfl)
    (hall : (backToKw pos (keywordEach kws X.env)).all (·.1.isSome) = true := by rfl) (hks : (backToKw pos (keywordEach kws X.env)).filterMap (·.1) = ks := by rfl) (hdb : (x == ("__debug__" : Str)) = false := by decide)
    (hpl : ((backTo pos (starEach [] X.env)).any (·.1) || (backToKw pos (keywordEach kws X.env)).any (·.1.isNone)) = false := by rfl) : PD X cl W (.Call (.Name x p) [] kws pos) (dCall 0 ks.length den gD dNil fk) :=
  PE.weak (pe_callPK0 F.F hr hg F.hm F.hk hb tk hkw hall hks hdb hpl) fun σ H Q q => call_imp1 q
end
end Dn
namespace Dn
open PySem L2
/-! ### things by handle: made -/
theorem Fin.pushV {Γ : Gm} {W : WX} {w : Wd} {H : Hp} {σ : L2.St} {g : G} {Q : VK} {p : Addr} {o : HO} {u : GO} (h : Fin Γ W (Rep Γ) w H σ (.ok (.ref g.length) (g ++ [u])) Q) (k : Ok Γ w H g) (hp : H p = none) (q : ∀ w', w.Le w' → RepO Γ w' u (some o)) : Q (.ref p) (upd H p o) := by
  have x := k.push hp q
  refine h _ _ _ x.1 (Off.push hp) x.2 ⟨p, rfl, ?_⟩
  show (w.ads ++ [p])[g.length]? = some p
  rw [← k.len, List.getElem?_append_right (Nat.le_refl _), Nat.sub_self]
  rfl
section
variable {X : Cx} {cl : Str → Option Addr} {W : WX} {a b c e o tg iter : Expr} {es rest : List Expr} {fa fb fc f : DE} {ft : DT} {fs fk : DA} {fi : DI} {fg : DG} {pos p2 p apos cpos spos py : Pos} {k n i : Nat} {Γ : Gm} {x m y : Str}
/-- a list display, by handle -/
def dLstH (fs : DA) : DE := fun ρ g => (fs ρ g).bind fun xs g1 => if xs.length ≤ sizeLine then .ok (.ref g1.length) (g1 ++ [.lst xs]) else .bad
theorem pd_lstH (h : PDA X cl W es fs) : PD X cl W (.List es pos) (dLstH fs) := PE.weak (pe_lst h) fun σ H Q q =>
  (tG_seq (R := Reps ⟨X.K, cl⟩) (f := fs) (k := fun xs _ g1 => if xs.length ≤ sizeLine then .ok (D.ref g1.length) (g1 ++ [.lst xs]) else .bad) q).imp fun v H1 ⟨w, ρ, x, g, o, s, p, z⟩ => by
    split at z
    · rename_i hl
      exact ⟨by rw [p.length]; exact hl, fun a ha => z.pushV o ha fun w' l => ⟨_, rfl, p.mono l⟩⟩
    · exact z.elim
/-- list(xs), by handle -/
def listAH : FA := fun xs g => match xs with
  | [d] => (match seqOf g d with
    | some ys => .ok (.ref g.length) (g ++ [.lst ys])
    | none => .bad)
  | _ => .bad
theorem ca_listH : CaD Γ W (fun xs H Q => ∃ p ys, xs = [.ref p] ∧ (SqL Γ.K H p ys ∨ SqT Γ.K H p ys) ∧ ∀ l, H l = none → Q (.ref l) (upd H l (.lst ys))) listAH := by
  intro w σ H g xs us Q o hp z
  unfold listAH at z
  split at z
  · obtain ⟨u, rfl, p⟩ := hp.inv1
    split at z
    · rename_i ys hy
      obtain ⟨a, vs, rfl, h, r⟩ := seqOf_rep o p hy
      exact ⟨a, vs, rfl, h, fun l hl => z.pushV o hl fun w' le => ⟨_, rfl, r.mono le⟩⟩
    · exact z.elim
  · exact z.elim
/-- xs + ys, by handle -/
def addH : F2 := fun x y g => match lstOf g x, lstOf g y with
    | some i, some j => if i.length + j.length ≤ sizeLine then .ok (.ref g.length) (g ++ [.lst (i ++ j)]) else .bad
    | _, _ => .bad
theorem od_addH : OpD Γ W (rAddAll Γ.K) addH := by
  intro w σ H g x y u v Q o px py z
  unfold addH at z
  split at z
  · rename_i i j e1 e2
    obtain ⟨a, vs, rfl, h1, r1⟩ := lstOf_rep o px e1
    obtain ⟨b, us, rfl, h2, r2⟩ := lstOf_rep o py e2
    split at z
    · rename_i hs
      refine .inr (.inr (.inr ⟨a, b, vs, us, rfl, rfl, h1, h2, by rw [r1.length, r2.length]; exact hs, fun p hp => ?_⟩))
      exact z.pushV o hp fun w' l => ⟨_, rfl, (r1.mono l).app (r2.mono l)⟩
    · exact z.elim
  · exact z.elim
/-! ### changed -/
/-- xs[i] = v of a list by handle -/
def setD (x i v : D) (g : G) : Option G := match x, i with
  | .ref n, .int k => (goL g n).bind fun xs => (ixN xs.length k).map fun j => g.set n (.lst (xs.set j v))
  | _, _ => none
def dSetIx (fo fi fv : DE) : DS := fun ρ g => (fv ρ g).toS ρ fun v g1 => (fo ρ g1).toS ρ fun x g2 => (fi ρ g2).toS ρ fun i g3 => match setD x i v g3 with
  | some g4 => .nx ρ g4
  | none => .bad
theorem pds_setIx {value : Expr} {fo fi fv : DE} (hv : PD X cl W value fv) (ho : PD X cl W a fo) (hi : PD X cl W b fi)
    (ha : ∀ v, assign (.Subscript a b p) X.env v = (do
      let ov ← holding [v] (eval a X.env)
      let iv ← holding [v, ov] (eval b X.env)
      standAt p
      holding [v, ov, iv] (setItem ov iv v)
      release [v, ov, iv] []) := by intro _; rfl)
    (hs : swapsWithSole [.Subscript a b p] value pos.line X.env = pure false := by rfl) (hw : swappedStores [.Subscript a b p] value X.env = pure none := by rfl)
    (h1 : (assignEach [.Subscript a b p] X.env).map (·.2) = [assign (.Subscript a b p) X.env] := by rfl) : PDS X cl W (.Assign [.Subscript a b p] value pos) (dSetIx fo fi fv) :=
  PS.weak (ps_asg hv (pg_sub ho hi set_list ha) hs hw h1) fun D σ H q =>
    (tS_expr (R := Rep ⟨X.K, cl⟩) (f := fv) (k := fun v ρ g1 => (fo ρ g1).toS ρ fun x g2 => (fi ρ g2).toS ρ fun i g3 => match setD x i v g3 with
      | some g4 => .nx ρ g4
      | none => .bad) q).imp fun v H1 ⟨w, ρ, d, g, o, s, p, z⟩ =>
      ⟨w, ρ, g, o, s, (FinS.expr (R := Rep ⟨X.K, cl⟩) s z).imp fun x H2 ⟨w2, xd, g2, l2, o2, p2, z2⟩ =>
        ⟨w2, ρ, g2, o2, s.mono l2, (FinS.expr (R := Rep ⟨X.K, cl⟩) (s.mono l2) z2).imp fun iv H3 ⟨w3, idd, g3, l3, o3, p3, z3⟩ => by
          split at z3
          · rename_i g4 e4
            unfold setD at e4
            split at e4
            · obtain ⟨xs, hx, e4⟩ := Option.bind_eq_some_iff.mp e4
              obtain ⟨j, hj, rfl⟩ := Option.map_eq_some_iff.mp e4
              obtain ⟨a, rfl, ha⟩ := p2.mono l3
              obtain ⟨vs, e5, r⟩ := o3.rep _ a _ ha (goL_some hx)
              refine ⟨a, vs, _, j, rfl, p3, e5, by rw [r.length]; exact hj, ?_⟩
              have r' := r.set j ((p.mono l2).mono l3)
              have o4 := o3.put ha (o := .lst (vs.set j v)) (u := .lst (xs.set j d)) ⟨_, rfl, r'⟩
              exact z3 w3 _ σ (Wd.Le.refl _) (Off.put ha) o4 ((s.mono l2).mono l3)
            · cases e4
          · exact z3.elim⟩⟩
/-- xs.append(v) -/
def appD (x v : D) (g : G) : Option G := match x with
  | .ref n => (goL g n).bind fun xs => if xs.length < sizeLine then some (g.set n (.lst (xs ++ [v]))) else none
  | _ => none
def dApp (fo fv : DE) : DS := fun ρ g => (fo ρ g).toS ρ fun x g1 => match goL g1 (match x with | .ref n => n | _ => g1.length) with
  | some _ => (fv ρ g1).toS ρ fun v g2 => (match appD x v g2 with
    | some g3 => .nx ρ g3
    | none => .bad)
  | none => .bad
theorem pds_app (ho : PD X cl W o fa) (hv : PD X cl W e fb) (h : PE X (.Call (.Attribute o "append" apos) [e] [] cpos) (tBM X.K "list" rAppend (tD ⟨X.K, cl⟩ W fa) (tCons (tD ⟨X.K, cl⟩ W fb) tNil)))
    (hs : swapsWith (.Call (.Attribute o "append" apos) [e] [] cpos) none pos.line X.env = pure false := by rfl) : PDS X cl W (.Expr (.Call (.Attribute o "append" apos) [e] [] cpos) pos) (dApp fa fb) :=
  PS.weak (ps_expr h hs) fun D σ H q => by
    refine (tS_expr (R := Rep ⟨X.K, cl⟩) (f := fa) (k := fun x ρ g1 => match goL g1 (match x with | .ref n => n | _ => g1.length) with
      | some _ => (fb ρ g1).toS ρ fun v g2 => (match appD x v g2 with
        | some g3 => .nx ρ g3
        | none => .bad)
      | none => .bad) q).imp fun u H1 ⟨w, ρ, x, g, o, s, p, z⟩ => ?_
    split at z
    · rename_i ys hy
      cases x with
      | ref n =>
        obtain ⟨a, rfl, ha⟩ := id p
        obtain ⟨vs, e5, r⟩ := o.rep n a _ ha (goL_some hy)
        refine ⟨.inl ⟨rfl, vs, SqL.of e5⟩, w, ρ, g, o, s, (FinS.expr (R := Rep ⟨X.K, cl⟩) s z).imp fun v H2 ⟨w2, vd, g2, l2, o2, p2, z2⟩ => ?_⟩
        split at z2
        · rename_i g3 e3
          obtain ⟨xs, hx, e3⟩ := Option.bind_eq_some_iff.mp (show (goL g2 n).bind _ = some g3 from e3)
          split at e3
          · rename_i hl
            cases e3
            have ha2 := ads_mono l2 ha
            obtain ⟨us, e6, r2⟩ := o2.rep n a _ ha2 (goL_some hx)
            refine ⟨a, us, v, rfl, rfl, e6, by rw [r2.length]; exact hl, ?_⟩
            have o4 := o2.put ha2 (o := .lst (us ++ [v])) (u := .lst (xs ++ [vd])) ⟨_, rfl, r2.app (Reps.one p2)⟩
            exact z2 w2 _ σ (Wd.Le.refl _) (Off.put ha2) o4 (s.mono l2)
          · cases e3
        · exact z2.elim
      | _ =>
        simp only [goL] at hy
        rw [List.getElem?_eq_none (Nat.le_refl _)] at hy
        cases hy
    · exact z.elim
end
end Dn
namespace Dn
open PySem L2
/-! ### what a def made by handle and hands back, as data that stay -/
mutual
def belowD (n : Nat) : D → Bool
  | .ref m => decide (m < n)
  | .tup xs => belowDs n xs
  | .ftup xs => belowDs n xs
  | .lst xs => belowDs n xs
  | .fz xs => belowDs n xs
  | .dk _ ds => belowDs n ds
  | .dt _ ds => belowDs n ds
  | .ins _ _ ds => belowDs n ds
  | .non => true
  | .bl _ => true
  | .int _ => true
  | .str _ => true
  | .ty _ => true
  | .cls _ => true
def belowDs (n : Nat) : List D → Bool
  | [] => true
  | d :: ds => belowD n d && belowDs n ds
end
def belowO (n : Nat) : GO → Bool
  | .lst ds => belowDs n ds
  | .dk _ ds => belowDs n ds
  | .dt _ ds => belowDs n ds
  | .ins _ _ ds => belowDs n ds
mutual
def frz (k : Nat → Option D) : D → Option D
  | .ref m => k m
  | .tup xs => (frzs k xs).map .tup
  | .ftup xs => (frzs k xs).map .ftup
  | .lst xs => (frzs k xs).map .lst
  | .fz xs => (frzs k xs).map .fz
  | .dk ks ds => (frzs k ds).map (.dk ks)
  | .dt ks ds => (frzs k ds).map (.dt ks)
  | .ins c ns ds => (frzs k ds).map (.ins c ns)
  | .non => some .non
  | .bl b => some (.bl b)
  | .int i => some (.int i)
  | .str x => some (.str x)
  | .ty t => some (.ty t)
  | .cls c => some (.cls c)
def frzs (k : Nat → Option D) : List D → Option (List D)
  | [] => some []
  | d :: ds => (frz k d).bind fun e => (frzs k ds).map fun es => e :: es
end
def frzO (k : Nat → Option D) : GO → Option D
  | .lst ds => (frzs k ds).map .lst
  | .dk ks ds => (frzs k ds).map (.dk ks)
  | .dt ks ds => (frzs k ds).map (.dt ks)
  | .ins c ns ds => (frzs k ds).map (.ins c ns)
def frzK (n : Nat) (g : G) : Nat → Nat → Option D
  | 0, m => if m < n then some (.ref m) else none
  | j + 1, m => if m < n then some (.ref m) else (g[m]?).bind (frzO (frzK n g j))
section
variable {Γ : Gm} {w w2 : Wd}
mutual
theorem Rep.below : ∀ {d : D} {v : V}, Rep Γ w d v → belowD w.ads.length d = true
  | .ref m, v, h => by
    obtain ⟨a, _, e⟩ := h
    exact decide_eq_true (List.getElem?_eq_some_iff.mp e).1
  | .tup xs, v, h => by obtain ⟨_, _, _, _, r⟩ := h; exact Reps.below r
  | .ftup xs, v, h => by obtain ⟨_, _, _, _, r⟩ := h; exact Reps.below r
  | .lst xs, v, h => by obtain ⟨_, _, _, _, r⟩ := h; exact Reps.below r
  | .fz xs, v, h => by obtain ⟨_, _, _, _, r⟩ := h; exact Reps.below r
  | .dk ks xs, v, h => by obtain ⟨_, _, _, _, _, r⟩ := h; exact Reps.below r
  | .dt ks xs, v, h => by obtain ⟨_, _, _, _, _, r⟩ := h; exact Reps.below r
  | .ins c ns xs, v, h => by obtain ⟨_, _, _, _, _, _, _, _, r⟩ := h; exact Reps.below r
  | .non, _, _ => rfl
  | .bl _, _, _ => rfl
  | .int _, _, _ => rfl
  | .str _, _, _ => rfl
  | .ty _, _, _ => rfl
  | .cls _, _, _ => rfl
theorem Reps.below : ∀ {ds : List D} {vs : List V}, Reps Γ w ds vs → belowDs w.ads.length ds = true
  | [], _, _ => rfl
  | d :: ds, _, h => by
    obtain ⟨v, r, _, h1, h2⟩ := h
    show (belowD _ d && belowDs _ ds) = true
    rw [Rep.below h1, Reps.below h2]
    rfl
end
mutual
theorem Rep.down {n : Nat} (hS : Same w.S w2.S) (ha : w2.ads = w.ads.take n) : ∀ {d : D} {v : V}, belowD n d = true → Rep Γ w d v → Rep Γ w2 d v
  | .ref m, v, hb, h => by
    obtain ⟨a, e1, e⟩ := h
    have hm : m < n := of_decide_eq_true hb
    exact ⟨a, e1, by rw [ha, List.getElem?_take, if_pos hm]; exact e⟩
  | .tup xs, v, hb, h => by obtain ⟨a, vs, e, q, r⟩ := h; exact ⟨a, vs, e, hS _ _ q, Reps.down hS ha hb r⟩
  | .ftup xs, v, hb, h => by obtain ⟨a, vs, e, q, r⟩ := h; exact ⟨a, vs, e, sqT_mono hS q, Reps.down hS ha hb r⟩
  | .lst xs, v, hb, h => by obtain ⟨a, vs, e, q, r⟩ := h; exact ⟨a, vs, e, hS _ _ q, Reps.down hS ha hb r⟩
  | .fz xs, v, hb, h => by obtain ⟨a, vs, e, q, r⟩ := h; exact ⟨a, vs, e, hS.seq q, Reps.down hS ha hb r⟩
  | .dk ks xs, v, hb, h => by obtain ⟨a, vs, e, q, t, r⟩ := h; exact ⟨a, vs, e, hS _ _ q, t, Reps.down hS ha hb r⟩
  | .dt ks xs, v, hb, h => by obtain ⟨a, vs, e, q, t, r⟩ := h; exact ⟨a, vs, e, hS _ _ q, t, Reps.down hS ha hb r⟩
  | .ins c ns xs, v, hb, h => by obtain ⟨a, C, dx, vs, e, t, q, u, r⟩ := h; exact ⟨a, C, dx, vs, e, t, hS _ _ q, u, Reps.down hS ha hb r⟩
  | .non, _, _, h => h
  | .bl _, _, _, h => h
  | .int _, _, _, h => h
  | .str _, _, _, h => h
  | .ty _, _, _, h => h
  | .cls _, _, _, h => h
theorem Reps.down {n : Nat} (hS : Same w.S w2.S) (ha : w2.ads = w.ads.take n) : ∀ {ds : List D} {vs : List V}, belowDs n ds = true → Reps Γ w ds vs → Reps Γ w2 ds vs
  | [], _, _, h => h
  | d :: ds, _, hb, h => by
    obtain ⟨v, r, e, h1, h2⟩ := h
    have hb' := Bool.and_eq_true_iff.mp (show (belowD n d && belowDs n ds) = true from hb)
    exact ⟨v, r, e, Rep.down hS ha hb'.1 h1, Reps.down hS ha hb'.2 h2⟩
end
theorem RepO.down {n : Nat} (hS : Same w.S w2.S) (ha : w2.ads = w.ads.take n) : ∀ {o : GO} {h : Option HO}, belowO n o = true → RepO Γ w o h → RepO Γ w2 o h
  | .lst ds, _, hb, ⟨vs, e, r⟩ => ⟨vs, e, r.down hS ha hb⟩
  | .dk ks ds, _, hb, ⟨us, e, k, r⟩ => ⟨us, e, k, r.down hS ha hb⟩
  | .dt ks ds, _, hb, ⟨us, e, k, r⟩ => ⟨us, e, k, r.down hS ha hb⟩
  | .ins c ns ds, _, hb, ⟨C, dx, us, q, e, k, r⟩ => ⟨C, dx, us, q, e, k, r.down hS ha hb⟩
theorem RepO.below : ∀ {o : GO} {h : Option HO}, RepO Γ w o h → belowO w.ads.length o = true
  | .lst ds, _, ⟨vs, e, r⟩ => r.below
  | .dk ks ds, _, ⟨us, e, k, r⟩ => r.below
  | .dt ks ds, _, ⟨us, e, k, r⟩ => r.below
  | .ins c ns ds, _, ⟨C, dx, us, q, e, k, r⟩ => r.below
mutual
theorem Rep.frz {k : Nat → Option D} (hS : Same w.S w2.S) (hk : ∀ m v d, Rep Γ w (.ref m) v → k m = some d → Rep Γ w2 d v) : ∀ {d d' : D} {v : V}, Dn.frz k d = some d' → Rep Γ w d v → Rep Γ w2 d' v
  | .ref m, d', v, e, h => hk m v d' h e
  | .tup xs, d', v, e, h => by
    obtain ⟨ys, ey, rfl⟩ := Option.map_eq_some_iff.mp e
    obtain ⟨a, vs, e, q, r⟩ := h; exact ⟨a, vs, e, hS _ _ q, Reps.frz hS hk ey r⟩
  | .ftup xs, d', v, e, h => by
    obtain ⟨ys, ey, rfl⟩ := Option.map_eq_some_iff.mp e
    obtain ⟨a, vs, e, q, r⟩ := h; exact ⟨a, vs, e, sqT_mono hS q, Reps.frz hS hk ey r⟩
  | .lst xs, d', v, e, h => by
    obtain ⟨ys, ey, rfl⟩ := Option.map_eq_some_iff.mp e
    obtain ⟨a, vs, e, q, r⟩ := h; exact ⟨a, vs, e, hS _ _ q, Reps.frz hS hk ey r⟩
  | .fz xs, d', v, e, h => by
    obtain ⟨ys, ey, rfl⟩ := Option.map_eq_some_iff.mp e
    obtain ⟨a, vs, e, q, r⟩ := h; exact ⟨a, vs, e, hS.seq q, Reps.frz hS hk ey r⟩
  | .dk ks xs, d', v, e, h => by
    obtain ⟨ys, ey, rfl⟩ := Option.map_eq_some_iff.mp e
    obtain ⟨a, vs, e, q, t, r⟩ := h; exact ⟨a, vs, e, hS _ _ q, t, Reps.frz hS hk ey r⟩
  | .dt ks xs, d', v, e, h => by
    obtain ⟨ys, ey, rfl⟩ := Option.map_eq_some_iff.mp e
    obtain ⟨a, vs, e, q, t, r⟩ := h; exact ⟨a, vs, e, hS _ _ q, t, Reps.frz hS hk ey r⟩
  | .ins c ns xs, d', v, e, h => by
    obtain ⟨ys, ey, rfl⟩ := Option.map_eq_some_iff.mp e
    obtain ⟨a, C, dx, vs, e, t, q, u, r⟩ := h; exact ⟨a, C, dx, vs, e, t, hS _ _ q, u, Reps.frz hS hk ey r⟩
  | .non, d', v, e, h => by cases e; exact h
  | .bl _, d', v, e, h => by cases e; exact h
  | .int _, d', v, e, h => by cases e; exact h
  | .str _, d', v, e, h => by cases e; exact h
  | .ty _, d', v, e, h => by cases e; exact h
  | .cls _, d', v, e, h => by cases e; exact h
theorem Reps.frz {k : Nat → Option D} (hS : Same w.S w2.S) (hk : ∀ m v d, Rep Γ w (.ref m) v → k m = some d → Rep Γ w2 d v) : ∀ {ds ds' : List D} {vs : List V}, frzs k ds = some ds' → Reps Γ w ds vs → Reps Γ w2 ds' vs
  | [], ds', vs, e, h => by cases e; exact h
  | d :: ds, ds', vs, e, h => by
    obtain ⟨x, ex, e⟩ := Option.bind_eq_some_iff.mp e
    obtain ⟨xs, exs, rfl⟩ := Option.map_eq_some_iff.mp e
    obtain ⟨v, r, ev, h1, h2⟩ := h
    exact ⟨v, r, ev, Rep.frz hS hk ex h1, Reps.frz hS hk exs h2⟩
end
/-- things by handle from n on have become things that stay -/
theorem frzK_rep {H : Hp} {g : G} {n : Nat} (o : Ok Γ w H g) (hS : Same w.S w2.S) (ha : w2.ads = w.ads.take n) (hd : ∀ m a, w.ads[m]? = some a → n ≤ m → w2.S a = H a) : ∀ (j m : Nat) (v : V) (d : D), Rep Γ w (.ref m) v → frzK n g j m = some d → Rep Γ w2 d v
  | 0, m, v, d, h, e => by
    unfold frzK at e
    split at e
    · rename_i hm
      cases e
      exact Rep.down hS ha (show belowD n (.ref m) = true from decide_eq_true hm) h
    · cases e
  | j + 1, m, v, d, h, e => by
    unfold frzK at e
    split at e
    · rename_i hm
      cases e
      exact Rep.down hS ha (show belowD n (.ref m) = true from decide_eq_true hm) h
    · rename_i hm
      obtain ⟨a, rfl, hat⟩ := h
      obtain ⟨ob, eo, e⟩ := Option.bind_eq_some_iff.mp e
      have ro := o.rep m a ob hat eo
      have hs := hd m a hat (by omega)
      have ih := frzK_rep o hS ha hd j
      cases ob with
      | lst ds =>
        obtain ⟨ys, ey, rfl⟩ := Option.map_eq_some_iff.mp e
        obtain ⟨vs, e1, r⟩ := ro
        exact ⟨a, vs, rfl, hs.trans e1, Reps.frz hS ih ey r⟩
      | dk ks ds =>
        obtain ⟨ys, ey, rfl⟩ := Option.map_eq_some_iff.mp e
        obtain ⟨vs, e1, k1, r⟩ := ro
        exact ⟨a, vs, rfl, hs.trans e1, k1, Reps.frz hS ih ey r⟩
      | dt ks ds =>
        obtain ⟨ys, ey, rfl⟩ := Option.map_eq_some_iff.mp e
        obtain ⟨vs, e1, k1, r⟩ := ro
        exact ⟨a, vs, rfl, hs.trans e1, k1, Reps.frz hS ih ey r⟩
      | ins c ns ds =>
        obtain ⟨ys, ey, rfl⟩ := Option.map_eq_some_iff.mp e
        obtain ⟨C, dx, vs, q1, e1, k1, r⟩ := ro
        exact ⟨a, C, dx, vs, rfl, q1, hs.trans e1, k1, Reps.frz hS ih ey r⟩
end
/-- what stood by handle holds no thing made since -/
def Kept (g g' : G) : Prop := g.length ≤ g'.length ∧ ∀ i, i < g.length → g'[i]? = g[i]? ∨ ∃ o, g'[i]? = some o ∧ belowO g.length o = true
theorem Kept.refl (g : G) : Kept g g := ⟨Nat.le_refl _, fun i _ => .inl rfl⟩
theorem Kept.push {g g' : G} {o : GO} (h : Kept g g') : Kept g (g' ++ [o]) := ⟨by rw [List.length_append]; have := h.1; omega, fun i hi => by
  rw [List.getElem?_append_left (Nat.lt_of_lt_of_le hi h.1)]
  exact h.2 i hi⟩
theorem Kept.set {g g' : G} {n : Nat} {o : GO} (h : Kept g g') (hn : g.length ≤ n ∨ belowO g.length o = true) : Kept g (g'.set n o) := ⟨by rw [List.length_set]; exact h.1, fun i hi => by
  by_cases hin : n = i
  · subst hin
    rcases hn with hn | hn
    · omega
    · exact .inr ⟨o, List.getElem?_set_self (Nat.lt_of_lt_of_le hi h.1), hn⟩
  · rw [List.getElem?_set_ne hin]
    exact h.2 i hi⟩
open Classical in
/-- a body as a function whose new things stay -/
noncomputable def dFnZ (n : Nat) (fS : DS) : Fn := fun ds g => match fS (startE n ds) g with
  | .rt d g' => if Kept g g' then (match frz (frzK g.length g' 4) d with
    | some d' => .ok d' (g'.take g.length)
    | none => .bad) else .bad
  | .nx _ g' => if Kept g g' then .ok .non (g'.take g.length) else .bad
  | .err x _ g' => if Kept g g' then (match frzs (frzK g.length g' 4) x.ds with
    | some ds' => .err ⟨x.c, x.ns, ds'⟩ (g'.take g.length)
    | none => .bad) else .bad
  | _ => .bad
section
variable {Γ : Gm} {w w' : Wd} {H H' : Hp} {g g' : G}
/-! the world behind it -/
open Classical in
noncomputable def wZ (w' : Wd) (H' : Hp) (n : Nat) : Wd := ⟨w'.ads.take n, fun a => if a ∈ w'.ads.drop n then H' a else w'.S a⟩
theorem wZ_same (o' : Ok Γ w' H' g') (n : Nat) : Same w'.S (wZ w' H' n).S := fun a o e => by
  show (if a ∈ w'.ads.drop n then H' a else w'.S a) = some o
  rw [if_neg (fun m => by have := o'.off a (List.mem_of_mem_drop m); rw [e] at this; cases this)]
  exact e
theorem wZ_le (o : Ok Γ w H g) (l : w.Le w') (o' : Ok Γ w' H' g') : w.Le (wZ w' H' g.length) := by
  obtain ⟨t, et⟩ := l.1
  refine ⟨⟨[], ?_⟩, l.2.trans (wZ_same o' _)⟩
  show w'.ads.take g.length = w.ads ++ []
  rw [et, ← o.len, List.take_left, List.append_nil]
theorem wZ_off (f : Off w H w' H') (n : Nat) : Off w H (wZ w' H' n) H' := fun p o h => by
  have q := f p o h
  refine ⟨q.at_, fun m => q.ads (List.mem_of_mem_take m), ?_⟩
  show (if p ∈ w'.ads.drop n then H' p else w'.S p) = none
  rw [if_neg (fun m => q.ads (List.mem_of_mem_drop m))]
  exact q.st
theorem wZ_ok (o : Ok Γ w H g) (l : w.Le w') (o' : Ok Γ w' H' g') (k : Kept g g') : Ok Γ (wZ w' H' g.length) H' (g'.take g.length) := by
  have hS := wZ_same o' g.length
  have disj : ∀ a, a ∈ w'.ads.take g.length → a ∉ w'.ads.drop g.length := fun a h1 h2 => by
    have nd := o'.nd
    rw [← List.take_append_drop g.length w'.ads] at nd
    exact (List.nodup_append.mp nd).2.2 a h1 a h2 rfl
  refine ⟨fun a ob e => ?_, List.Nodup.sublist (List.take_sublist _ _) o'.nd, fun a ha => ?_, ?_, fun n a ob ea eo => ?_⟩
  · have e' : (if a ∈ w'.ads.drop g.length then H' a else w'.S a) = some ob := e
    split at e'
    · exact e'
    · exact o'.sub _ _ e'
  · show (if a ∈ w'.ads.drop g.length then H' a else w'.S a) = none
    rw [if_neg (disj a ha)]
    exact o'.off a (List.mem_of_mem_take ha)
  · show (w'.ads.take g.length).length = (g'.take g.length).length
    rw [List.length_take, List.length_take, o'.len]
  · have ea' : (w'.ads.take g.length)[n]? = some a := ea
    rw [List.getElem?_take] at ea' eo
    split at ea'
    · rename_i hn
      rw [if_pos hn] at eo
      have r := o'.rep n a ob ea' eo
      refine RepO.down hS rfl ?_ r
      rcases k.2 n hn with q | ⟨o2, q, hb⟩
      · rw [eo] at q
        have ha0 : w.ads[n]? = some a := by
          obtain ⟨t, et⟩ := l.1
          rw [et, List.getElem?_append_left (by rw [o.len]; exact hn)] at ea'
          exact ea'
        have := (o.rep n a ob ha0 q.symm).below
        rw [o.len] at this
        exact this
      · rw [eo] at q
        cases q
        exact hb
    · cases ea'
theorem wZ_rep (o' : Ok Γ w' H' g') {n j : Nat} {d d' : D} {v : V} (e : frz (frzK n g' j) d = some d') (p : Rep Γ w' d v) : Rep Γ (wZ w' H' n) d' v := by
  refine Rep.frz (wZ_same o' n) (frzK_rep o' (wZ_same o' n) rfl (fun m a ha hm => ?_) j) e p
  show (if a ∈ w'.ads.drop n then H' a else w'.S a) = H' a
  rw [if_pos]
  have : (w'.ads.drop n)[m - n]? = some a := by
    rw [List.getElem?_drop, Nat.add_sub_cancel' hm]
    exact ha
  exact List.mem_of_getElem? this
theorem wZ_reps (o' : Ok Γ w' H' g') {n j : Nat} {ds ds' : List D} {vs : List V} (e : frzs (frzK n g' j) ds = some ds') (p : Reps Γ w' ds vs) : Reps Γ (wZ w' H' n) ds' vs := by
  refine Reps.frz (wZ_same o' n) (frzK_rep o' (wZ_same o' n) rfl (fun m a ha hm => ?_) j) e p
  show (if a ∈ w'.ads.drop n then H' a else w'.S a) = H' a
  rw [if_pos]
  have : (w'.ads.drop n)[m - n]? = some a := by
    rw [List.getElem?_drop, Nat.add_sub_cancel' hm]
    exact ha
  exact List.mem_of_getElem? this
theorem fn_finZ {fS : DS} {n : Nat} {ds : List D} {Q : VK} {E : XK} (o : Ok Γ w H g) (z : Fin Γ (fun c dd _ H => E c dd H) (Rep Γ) w H [] (dFnZ n fS ds g) Q) : FinS Γ (fun c dd _ H => E c dd H) w H (fS (startE n ds) g) { nx := fun _ H' => Q .non H', rt := Q } := by
  unfold dFnZ at z
  cases e : fS (startE n ds) g with
  | rt d g' =>
    rw [e] at z
    simp only at z
    split at z
    · rename_i hk
      split at z
      · rename_i d' ed
        exact fun w' H' v l f o' p => z _ H' v (wZ_le o l o') (wZ_off f _) (wZ_ok o l o' hk) (wZ_rep o' ed p)
      · exact z.elim
    · exact z.elim
  | nx ρ g' =>
    rw [e] at z
    simp only at z
    split at z
    · rename_i hk
      exact fun w' H' σ' l f o' _ => z _ H' .non (wZ_le o l o') (wZ_off f _) (wZ_ok o l o' hk) rfl
    · exact z.elim
  | err x ρ g' =>
    rw [e] at z
    simp only at z
    split at z
    · rename_i hk
      split at z
      · rename_i ds' ed
        intro w' H' c dd σ' l f o' p _
        refine z _ H' c dd (wZ_le o l o') (wZ_off f _) (wZ_ok o l o' hk) ?_
        obtain ⟨C, d, us, h1, h2, h3, h4, h5, h6⟩ := p
        exact ⟨C, d, us, h1, h2, h3, wZ_same o' _ _ _ h4, h5, wZ_reps o' ed h6⟩
      · exact z.elim
    · exact z.elim
  | bk ρ g' => rw [e] at z; exact z.elim
  | ct ρ g' => rw [e] at z; exact z.elim
  | bad => rw [e] at z; exact z.elim
end
section
variable {P : Program} {w : World} {K : PySem.W.Frag} {mg : Str → Option Value} {base : Heap} {x qual : Str} {params : Arguments} {body : List Stmt} {scope : Scope} {dvs : List V} {kws : List (Str × V)} {f : Addr} {fd : FuncData} {cl : Str → Option Addr}
theorem fnZ_ok {N ps : List Str} {k : Nat} {fS : DS} (F : FunD K x qual params body scope dvs kws f fd) (S : FnScope N ps scope)
    (hbody : ∀ (cdv : Value) (A : Around) (outer : List PySem.Env) (s : Shared) (H : Hp) (E : XK), Room k (A.deeper (PyProof.Rows.envOfC qual scope s.heap.objs.size f cdv)) → PDSs (cxOf (L2.CX P w) P w K mg base N qual scope f cdv A outer s H E) cl (fun c dd _ H => E c dd H) body fS) :
    FnOk P w K mg base (L2.CX P w) (k + 1) f fd ps (spD ⟨K, cl⟩ ps.length (dFnZ N.length fS)) :=
  F.ok S (fun vs H Q E h => h.1) fun cdv A outer s H vs Q E hr h => by
    obtain ⟨hl, wd, ds, g, o, r, z⟩ := h
    exact ⟨_, hbody cdv A outer s H E hr, wd, startE N.length ds, g, o, reps_start r, fn_finZ o z⟩
end
end Dn
namespace Dn
open PySem L2
/-! ### how arguments come to parameters -/
def pick {α : Type} (idx : List Nat) (l : List α) : List α := idx.filterMap fun i => l[i]?
theorem pick_nil {α : Type} (l : List α) : pick [] l = [] := rfl
theorem pick_cons {α : Type} (i : Nat) (idx : List Nat) (l : List α) : pick (i :: idx) l = (match l[i]? with
  | some x => x :: pick idx l
  | none => pick idx l) := by
  unfold pick
  rw [List.filterMap_cons]
  cases l[i]? <;> rfl
theorem Vals.pick : ∀ (idx : List Nat) {vs : List V} {us : List Value}, Vals vs us → Vals (Dn.pick idx vs) (Dn.pick idx us)
  | [], _, _, _ => .nil
  | i :: idx, vs, us, r => by
    rw [pick_cons, pick_cons]
    cases e : vs[i]? with
    | none =>
      rw [r.none_of e]
      exact Vals.pick idx r
    | some v =>
      obtain ⟨u, hu, ru⟩ := r.get e
      rw [hu]
      exact .cons ru (Vals.pick idx r)
theorem Reps.pick {Γ : Gm} {w : Wd} : ∀ (idx : List Nat) {ds : List D} {vs : List V}, Reps Γ w ds vs → Reps Γ w (Dn.pick idx ds) (Dn.pick idx vs)
  | [], _, _, _ => rfl
  | i :: idx, ds, vs, r => by
    rw [pick_cons, pick_cons]
    cases e : ds[i]? with
    | none =>
      have : vs[i]? = none := List.getElem?_eq_none_iff.mpr (by rw [r.length]; exact List.getElem?_eq_none_iff.mp e)
      rw [this]
      exact Reps.pick idx r
    | some d =>
      obtain ⟨v, hv, p⟩ := r.get e
      rw [hv]
      exact Reps.cons p (Reps.pick idx r)
theorem pick_len {α β : Type} : ∀ (idx : List Nat) {l : List α} {m : List β}, l.length = m.length → (pick idx l).length = (pick idx m).length
  | [], _, _, _ => rfl
  | i :: idx, l, m, h => by
    rw [pick_cons, pick_cons]
    by_cases hi : i < l.length
    · rw [List.getElem?_eq_getElem hi, List.getElem?_eq_getElem (by rw [← h]; exact hi), List.length_cons, List.length_cons, pick_len idx h]
    · rw [List.getElem?_eq_none (by omega), List.getElem?_eq_none (by omega)]
      exact pick_len idx h
def posD : List D → List D → List D := fun xs _ => xs
def pickD (idx : List Nat) : List D → List D → List D := fun xs ys => pick idx (xs ++ ys)
section
variable {K : PySem.W.Frag} {cl : Str → Option Addr} {x qual : Str} {params : Arguments} {body : List Stmt} {scope : Scope} {kws : List (Str × V)} {f : Addr} {fd : FuncData} {ps ks : List Str} {n : Nat}
/-- every parameter by its place -/
theorem callB_pos (F : FunD K x qual params body scope [] kws f fd) (hn : ps.length = n)
    (h : ∀ (kV doc pm : Value) (an : Option Addr) (cdv ct : Value) (us : List Value), us.length = ps.length → bindArgs (PySem.W.fnOf x qual params body scope .none kV doc pm an cdv ct) ⟨us, []⟩ = pure (ps.zip us)) : CallB ⟨K, cl⟩ fd ps n [] posD := by
  obtain ⟨oc, od, dV, kV, doc, pm, an, cdv, ct, osl, rfl, lk, hcd, hD, hK⟩ := F.ex
  rcases hD with ⟨_, rfl⟩ | ⟨e, _⟩
  · exact ⟨fun us _ => us, fun vs _ => vs, ⟨fun s us ws _ h1 h2 => .of_eq (h kV doc pm an cdv ct us (h1.trans hn.symm)), fun r _ => r⟩, fun vs us h1 _ => h1.trans hn.symm, fun w ds vs es us r _ => r⟩
  · exact absurd rfl e
/-- by places and names -/
theorem callB_pick (idx : List Nat) (F : FunD K x qual params body scope [] kws f fd) (hl : (pick idx (List.replicate (n + ks.length) ())).length = ps.length)
    (h : ∀ (kV doc pm : Value) (an : Option Addr) (cdv ct : Value) (us ws : List Value), us.length = n → ws.length = ks.length → bindArgs (PySem.W.fnOf x qual params body scope .none kV doc pm an cdv ct) ⟨us, ks.zip ws⟩ = pure (ps.zip (pick idx (us ++ ws)))) : CallB ⟨K, cl⟩ fd ps n ks (pickD idx) := by
  obtain ⟨oc, od, dV, kV, doc, pm, an, cdv, ct, osl, rfl, lk, hcd, hD, hK⟩ := F.ex
  rcases hD with ⟨_, rfl⟩ | ⟨e, _⟩
  · exact ⟨fun us ws => pick idx (us ++ ws), fun vs zs => pick idx (vs ++ zs), ⟨fun s us ws _ h1 h2 => .of_eq (h kV doc pm an cdv ct us ws h1 h2), fun r rz => Vals.pick idx (r.append rz)⟩,
      fun vs us h1 h2 => by rw [pick_len idx (show (vs ++ us).length = (List.replicate (n + ks.length) ()).length by rw [List.length_append, List.length_replicate, h1, h2])]; exact hl, fun w ds vs es us r rz => Reps.pick idx (r.app rz)⟩
  · exact absurd rfl e
end
/-! ### a def of the top, with its function -/
def Got (P : Program) (w : World) (K : PySem.W.Frag) (mg : Str → Option Value) (base : Heap) (cl : Str → Option Addr) (k : Nat) (x : Str) (st : Stmt) (ps : List Str) (den : Fn) : Prop :=
  ∃ fd, FunD K x x (defArgs st) (defBody st) (defScope st) [] [] (He.ga K x) fd ∧ FnOk P w K mg base (L2.CX P w) k (He.ga K x) fd ps (spD ⟨K, cl⟩ ps.length den) ∧ mg x = some (.ref (He.ga K x))
theorem Got.mono {P : Program} {w : World} {K : PySem.W.Frag} {mg : Str → Option Value} {base : Heap} {cl : Str → Option Addr} {k j : Nat} {x : Str} {st : Stmt} {ps : List Str} {den : Fn} (g : Got P w K mg base cl k x st ps den) (h : k ≤ j) : Got P w K mg base cl j x st ps den := by
  obtain ⟨fd, F, ok, m⟩ := g
  exact ⟨fd, F, ok.mono h, m⟩
section
variable {P : Program} {w : World} {K : PySem.W.Frag} {mg : Str → Option Value} {base : Heap} {cl : Str → Option Addr} {k : Nat} {x : Str} {st : Stmt} {ps N : List Str} {fS : DS}
theorem got_of {fd : FuncData} (F : FunD K x x (defArgs st) (defBody st) (defScope st) [] [] (He.ga K x) fd) (m : mg x = some (.ref (He.ga K x))) (S : FnScope N ps (defScope st))
    (hbody : ∀ (f : Addr) (cdv : Value) (A : Around) (outer : List PySem.Env) (s : Shared) (H : Hp) (E : XK), Room k (A.deeper (PyProof.Rows.envOfC x (defScope st) s.heap.objs.size f cdv)) → PDSs (cxOf (L2.CX P w) P w K mg base N x (defScope st) f cdv A outer s H E) cl (fun c dd _ H => E c dd H) (defBody st) fS) :
    Got P w K mg base cl (k + 1) x st ps (dFn N.length fS) := ⟨fd, F, fnD_ok F S fun cdv A outer s H E hr => hbody _ cdv A outer s H E hr, m⟩
theorem gotZ_of {fd : FuncData} (F : FunD K x x (defArgs st) (defBody st) (defScope st) [] [] (He.ga K x) fd) (m : mg x = some (.ref (He.ga K x))) (S : FnScope N ps (defScope st))
    (hbody : ∀ (f : Addr) (cdv : Value) (A : Around) (outer : List PySem.Env) (s : Shared) (H : Hp) (E : XK), Room k (A.deeper (PyProof.Rows.envOfC x (defScope st) s.heap.objs.size f cdv)) → PDSs (cxOf (L2.CX P w) P w K mg base N x (defScope st) f cdv A outer s H E) cl (fun c dd _ H => E c dd H) (defBody st) fS) :
    Got P w K mg base cl (k + 1) x st ps (dFnZ N.length fS) := ⟨fd, F, fnZ_ok F S fun cdv A outer s H E hr => hbody _ cdv A outer s H E hr, m⟩
/-- nothing is promised -/
theorem got_bad {fd : FuncData} (F : FunD K x x (defArgs st) (defBody st) (defScope st) [] [] (He.ga K x) fd) (m : mg x = some (.ref (He.ga K x))) : Got P w K mg base cl 0 x st ps (fun _ _ => .bad) :=
  ⟨fd, F, ⟨fun vs H Q E h => h.1, fun A outer s H args us vs Q E hr he hb hv hs => by obtain ⟨_, _, _, _, _, _, z⟩ := hs; exact z.elim⟩, m⟩
end
section
variable {X : Cx} {cl : Str → Option Addr} {W : WX} {e : Expr} {es : List Expr} {kws : List Keyword} {fs fk : DA} {pos p : Pos} {k n : Nat} {x : Str} {st : Stmt} {ps ks : List Str} {den : Fn}
/-- f(e, ..) -/
theorem pd_callG (G : Got X.prog X.w X.K X.mg X.base cl k x st ps den) (hr : Room k X.A) (tk : Takes X W) (ha : PDA X cl W (e :: es) fs)
    (h : ∀ (kV doc pm : Value) (an : Option Addr) (cdv ct : Value) (us : List Value), us.length = ps.length → bindArgs (PySem.W.fnOf x x (defArgs st) (defBody st) (defScope st) .none kV doc pm an cdv ct) ⟨us, []⟩ = pure (ps.zip us))
    (hg : Gl X x := by rfl) (hdb : (x == ("__debug__" : Str)) = false := by decide) (he : starEach (e :: es) X.env = (false, eval e X.env) :: starEach es X.env := by rfl) (hpl : (backTo pos (starEach es X.env)).any (·.1) = false := by rfl) :
    PD X cl W (.Call (.Name x p) (e :: es) [] pos) (dCall ps.length 0 den posD fs dNil) := by
  obtain ⟨fd, F, ok, m⟩ := G
  exact pd_call ⟨ok, m, F.kp⟩ hr (callB_pos F rfl h) tk ha hg hdb he hpl
theorem pd_callG0 (G : Got X.prog X.w X.K X.mg X.base cl k x st [] den) (hr : Room k X.A) (tk : Takes X W)
    (h : ∀ (kV doc pm : Value) (an : Option Addr) (cdv ct : Value) (us : List Value), us.length = ([] : List Str).length → bindArgs (PySem.W.fnOf x x (defArgs st) (defBody st) (defScope st) .none kV doc pm an cdv ct) ⟨us, []⟩ = pure (([] : List Str).zip us))
    (hg : Gl X x := by rfl) (hdb : (x == ("__debug__" : Str)) = false := by decide) : PD X cl W (.Call (.Name x p) [] [] pos) (dCall 0 0 den posD dNil dNil) := by
  obtain ⟨fd, F, ok, m⟩ := G
  exact pd_call0 ⟨ok, m, F.kp⟩ hr (callB_pos F rfl h) tk hg hdb
/-- f(k = v, ..) -/
theorem pd_callGK0 (idx : List Nat) (G : Got X.prog X.w X.K X.mg X.base cl k x st ps den) (hr : Room k X.A) (tk : Takes X W) (hkw : PDK X cl W kws fk) (hl : (pick idx (List.replicate (0 + ks.length) ())).length = ps.length)
    (h : ∀ (kV doc pm : Value) (an : Option Addr) (cdv ct : Value) (us ws : List Value), us.length = 0 → ws.length = ks.length → bindArgs (PySem.W.fnOf x x (defArgs st) (defBody st) (defScope st) .none kV doc pm an cdv ct) ⟨us, ks.zip ws⟩ = pure (ps.zip (pick idx (us ++ ws))))
    (hg : Gl X x := by rfl) (hall : (backToKw pos (keywordEach kws X.env)).all (·.1.isSome) = true := by rfl) (hks : (backToKw pos (keywordEach kws X.env)).filterMap (·.1) = ks := by rfl) (hdb : (x == ("__debug__" : Str)) = false := by decide)
    (hpl : ((backTo pos (starEach [] X.env)).any (·.1) || (backToKw pos (keywordEach kws X.env)).any (·.1.isNone)) = false := by rfl) :
    PD X cl W (.Call (.Name x p) [] kws pos) (dCall 0 ks.length den (pickD idx) dNil fk) := by
  obtain ⟨fd, F, ok, m⟩ := G
  exact pd_callK0 ⟨ok, m, F.kp⟩ hr (callB_pick idx F hl h) tk hkw hg hall hks hdb hpl
/-- f(e, .., k = v, ..) -/
theorem pd_callGK (idx : List Nat) (n : Nat) (G : Got X.prog X.w X.K X.mg X.base cl k x st ps den) (hr : Room k X.A) (tk : Takes X W) (ha : PDA X cl W (e :: es) fs) (hkw : PDK X cl W kws fk) (hl : (pick idx (List.replicate (n + ks.length) ())).length = ps.length)
    (h : ∀ (kV doc pm : Value) (an : Option Addr) (cdv ct : Value) (us ws : List Value), us.length = n → ws.length = ks.length → bindArgs (PySem.W.fnOf x x (defArgs st) (defBody st) (defScope st) .none kV doc pm an cdv ct) ⟨us, ks.zip ws⟩ = pure (ps.zip (pick idx (us ++ ws))))
    (hg : Gl X x := by rfl) (hall : (backToKw pos (keywordEach kws X.env)).all (·.1.isSome) = true := by rfl) (hks : (backToKw pos (keywordEach kws X.env)).filterMap (·.1) = ks := by rfl) (hdb : (x == ("__debug__" : Str)) = false := by decide)
    (he : starEach (e :: es) X.env = (false, eval e X.env) :: starEach es X.env := by rfl) (hpl : ((backTo pos (starEach (e :: es) X.env)).any (·.1) || (backToKw pos (keywordEach kws X.env)).any (·.1.isNone)) = false := by rfl) :
    PD X cl W (.Call (.Name x p) (e :: es) kws pos) (dCall n ks.length den (pickD idx) fs fk) := by
  obtain ⟨fd, F, ok, m⟩ := G
  exact pd_callK ⟨ok, m, F.kp⟩ hr (callB_pick idx F hl h) tk ha hkw hg hall hks hdb he hpl
end
/-! ### the law's end -/
theorem law_sp {K : PySem.W.Frag} {cl : Str → Option Addr} {den : Fn} {n : Nat} (h : ∀ ns : List Int, ns.length ≤ n → ∃ g, den [.fz (ns.map .int)] [] = .ok (.bl true) g) (H : Hp) (a : Addr) (ns : List Int) (hl : ns.length ≤ n) (hS : SqL K H a (ns.map V.int)) :
    spD ⟨K, cl⟩ 1 den [.ref a] H (fun v _ => v = .bl true) fun _ _ _ => False := by
  refine ⟨rfl, ⟨[], H⟩, [.fz (ns.map .int)], [], ⟨Same.refl H, List.nodup_nil, (fun a h => by cases h), rfl, (fun n a o h => by cases h)⟩, Reps.one ⟨a, _, rfl, hS, Reps.of_ints ns⟩, ?_⟩
  obtain ⟨g, e⟩ := h ns hl
  rw [e]
  exact fun w' H' v _ _ _ p => p
theorem cx_end {P : Program} {w : World} (H : Hp) (s : Shared) (e : Value) (s' : Shared) (h : L2.CX P w [] H s (fun _ _ _ => False) e s') : False := by
  obtain ⟨_, _, _, _, _, _, _, _, _, _, _, _, z⟩ := h
  exact z
/-- the end of a law over a head by facts -/
theorem walk_D {l : PySem.W.OpenLaw} {n k : Nat} {q : Program} {loose : List Str} {XP : (Str → Option Value) → Heap → Prop} {YP : World → Heap → Prop} {d : DefRec} {x : Str}
    (hn : l.most = some n) (hn2 : n ≤ sizeLine) (hdf : d.params.defaults = []) (hr : Room k callerA)
    (F : ∀ (w : World) (mg : Str → Option Value) (fa : Addr) (h : Heap), YP w h → h.Ns mainGlobals mg → mg d.name = some (.ref fa) →
      ∃ (K : PySem.W.Frag) (fd : FuncData) (sp : Sp), K.In h ∧ (∀ (s : Shared) (u : Value), BindsTo s fd ⟨[u], []⟩ [(x, u)]) ∧
        (∀ (H : Hp) (a : Addr) (ns : List Int), ns.length ≤ n → SqL K H a (ns.map V.int) → sp [.ref a] H (fun v _ => v = .bl true) fun _ _ _ => False) ∧
        ∀ base : Heap, K.In base → base.Ns mainGlobals mg → FnOk l.prog w K mg base (L2.CX l.prog w) k fa fd [x] sp) :
    PySem.W.WalkO q loose XP YP l.row.toRowW d [] (fun f vs => PySem.call f vs) := by
  refine Att.attach_call hn hdf fun w s₀ s₁ mg mb fa o pm cd doc a vs ns G Y ho hd hcd hmg hobj hints hlen hg => ?_
  obtain ⟨K, fd, sp, KX, hb, hsp, hF⟩ := F w mg fa _ Y G.T.g hmg
  exact law_call KX G.T.g G.T.b G.T.builtins G.T.nolimit hg hobj hints (Nat.le_trans hlen hn2) hr hF hb (fun H hO hS => hsp H a ns hlen hS) fun H e s' => cx_end H s₁ e s'
end Dn
namespace Dn
open PySem L2
section
variable {X : Cx} {cl : Str → Option Addr} {W : WX} {a b c e o tg iter : Expr} {es rest : List Expr} {fa fb fc f : DE} {ft : DT} {fs fk : DA} {pos p2 p apos cpos spos px py pz pt : Pos} {k n i j l : Nat} {Γ : Gm} {x m y z : Str}
/-- a, b = e1, e2 -/
def dPar2 (i j : Nat) (fs : DA) : DS := fun ρ g => (fs ρ g).toS ρ fun ds g1 => match ds with
  | [a, b] => .nx ((ρ.set i (some a)).set j (some b)) g1
  | _ => .bad
theorem pds_par2 {kt k2 pt2} (hc : X.calm = true) (hN : X.N.Nodup) (hi : X.N[i]? = some x) (hj : X.N[j]? = some y) (hij : i ≠ j)
    (hx : X.env.scope.names.lookup x = some .local) (hy : X.env.scope.names.lookup y = some .local) (ha : PDA X cl W [a, b] fs)
    (hw : swappedStores [.Tuple [.Name x px, .Name y py] kt pt] (.Tuple [a, b] k2 pt2) X.env = pure (some [x, y]) := by rfl)
    (hs : swapsWithSole [.Tuple [.Name x px, .Name y py] kt pt] (.Tuple [a, b] k2 pt2) pos.line X.env = pure false := by rfl) :
    PDS X cl W (.Assign [.Tuple [.Name x px, .Name y py] kt pt] (.Tuple [a, b] k2 pt2) pos) (dPar2 i j fs) :=
  PS.weak (ps_par hc hN hi hj hij hx hy ha hw hs) fun D σ H q => (tS_expr (R := Reps ⟨X.K, cl⟩) (f := fs) (k := fun ds ρ g1 => match ds with
    | [a, b] => .nx ((ρ.set i (some a)).set j (some b)) g1
    | _ => .bad) q).imp fun vs H1 ⟨w, ρ, ds, g, o, s, p, z⟩ => by
    split at z
    · obtain ⟨u, u', rfl, p1, p2⟩ := p.inv2
      exact ⟨u, u', rfl, z.next o ((s.set i p1).set j p2)⟩
    · exact z.elim
/-- a, b, c = e1, e2, e3 -/
def dPar3 (i j l : Nat) (fs : DA) : DS := fun ρ g => (fs ρ g).toS ρ fun ds g1 => match ds with
  | [a, b, c] => .nx (((ρ.set i (some a)).set j (some b)).set l (some c)) g1
  | _ => .bad
theorem pds_par3 {kt k2 pt2} (hc : X.calm = true) (hN : X.N.Nodup) (hi : X.N[i]? = some x) (hj : X.N[j]? = some y) (hl : X.N[l]? = some z) (hij : i ≠ j) (hil : i ≠ l) (hjl : j ≠ l)
    (hx : X.env.scope.names.lookup x = some .local) (hy : X.env.scope.names.lookup y = some .local) (hz : X.env.scope.names.lookup z = some .local) (ha : PDA X cl W [a, b, c] fs)
    (hw : swappedStores [.Tuple [.Name x px, .Name y py, .Name z pz] kt pt] (.Tuple [a, b, c] k2 pt2) X.env = pure (some [x, y, z]) := by rfl)
    (hs : swapsWithSole [.Tuple [.Name x px, .Name y py, .Name z pz] kt pt] (.Tuple [a, b, c] k2 pt2) pos.line X.env = pure false := by rfl) :
    PDS X cl W (.Assign [.Tuple [.Name x px, .Name y py, .Name z pz] kt pt] (.Tuple [a, b, c] k2 pt2) pos) (dPar3 i j l fs) :=
  PS.weak (ps_par3 hc hN hi hj hl hij hil hjl hx hy hz ha hw hs) fun D σ H q => (tS_expr (R := Reps ⟨X.K, cl⟩) (f := fs) (k := fun ds ρ g1 => match ds with
    | [a, b, c] => .nx (((ρ.set i (some a)).set j (some b)).set l (some c)) g1
    | _ => .bad) q).imp fun vs H1 ⟨w, ρ, ds, g, o, s, p, z⟩ => by
    split at z
    · obtain ⟨u, r, rfl, p1, pr⟩ := p
      obtain ⟨u', u'', rfl, p2, p3⟩ := Reps.inv2 pr
      exact ⟨u, u', u'', rfl, z.next o (((s.set i p1).set j p2).set l p3)⟩
    · exact z.elim
/-- x op= e, ints -/
def dAug (i : Nat) (h : Int → Int → Int) (f : DE) : DS := fun ρ g => match ρ[i]? with
  | some (some (.int a)) => (f ρ g).toS ρ fun d g1 => (match d with
    | .int b => .nx (ρ.set i (some (.int (h a b)))) g1
    | _ => .bad)
  | _ => .bad
theorem pds_aug {op : Operator} {h : Int → Int → Int} (hN : X.N.Nodup) (hi : X.N[i]? = some x) (hx : Loc X.env.scope x) (he : PD X cl W e f) (ho : PIp X op (ipI h)) (hf : X.fn x = true ∨ X.env.scope.names.lookup x = some .local := by first | exact .inl rfl | exact .inr rfl | assumption) :
    PDS X cl W (.AugAssign (.Name x p) op e pos) (dAug i h f) :=
  PS.weak (ps_aug hN hi hx he ho hf) fun D σ H ⟨w, ρ, g, o, s, z⟩ => by
    unfold dAug at z
    split at z
    · rename_i a ea
      obtain ⟨v, ev, pv⟩ := s.2 i _ ea
      refine ⟨v, ev, w, ρ, g, o, s, (FinS.expr (R := Rep ⟨X.K, cl⟩) s z).imp fun u H1 ⟨w1, d, g1, l, o1, p1, z1⟩ => ?_⟩
      split at z1
      · exact ⟨a, _, pv, p1, z1.next o1 ((s.mono l).set i (show Rep _ w1 (.int _) (.int _) from rfl))⟩
      · exact z1.elim
    · exact z.elim
end
end Dn
namespace Dn
open PySem L2
/-! ### what stands behind the top -/
structure Tp (fa : List He.Fa) (fn : List He.DefD) (K : PySem.W.Frag) (mg : Str → Option Value) : Prop where
  says : He.SaysD fa fn K
  glo : ∀ x, (He.Fa.glo x).ok K = true → mg x = some (.ref (He.ga K x))
  free : ∀ x, (He.Fa.free x).ok K = true → mg x = none
  int : ∀ x i, (He.Fa.int x i).ok K = true → ∃ t, mg x = some (.int i t)
  str : ∀ x z, (He.Fa.str x z).ok K = true → ∃ t, mg x = some (.str z t)
theorem Tp.mk' {fa : List He.Fa} {fn : List He.DefD} {K : PySem.W.Frag} {mg : Str → Option Value} {h : Heap} (X : K.In h) (G : h.Ns mainGlobals mg) (c : He.SaysD fa fn K) : Tp fa fn K mg :=
  ⟨c, fun _ e => He.glo_ok X G e, fun _ e => He.free_ok X G e, fun _ _ e => He.int_ok X G e, fun _ _ e => He.str_ok X G e⟩
section
variable {fa : List He.Fa} {fn : List He.DefD} {K : PySem.W.Frag} {mg : Str → Option Value}
theorem Tp.fr (T : Tp fa fn K mg) (i : Nat) {x : Str} (h : fa[i]? = some (.free x) := by rfl) : mg x = none := T.free x (T.says.fact i h)
/-- a def of the top -/
def mkD (x : Str) (st : Stmt) : He.DefD := ⟨(x, none), x, x, defArgs st, defBody st, defScope st, [], []⟩
theorem Tp.df (T : Tp fa fn K mg) (i : Nat) (x : Str) (st : Stmt) (h : fn[i]? = some (mkD x st)) : ∃ fd, FunD K x x (defArgs st) (defBody st) (defScope st) [] [] (He.ga K x) fd := T.says.def_ i h
theorem Tp.gl (T : Tp fa fn K mg) (i : Nat) {x : Str} (h : fa[i]? = some (.glo x) := by rfl) : mg x = some (.ref (He.ga K x)) := T.glo x (T.says.fact i h)
end
theorem funD_uniq {K : PySem.W.Frag} {x x' qual qual' : Str} {params params' : Arguments} {body body' : List Stmt} {scope scope' : Scope} {dvs dvs' : List V} {kws kws' : List (Str × V)} {f : Addr} {fd fd' : FuncData}
    (F : FunD K x qual params body scope dvs kws f fd) (F' : FunD K x' qual' params' body' scope' dvs' kws' f fd') : fd = fd' := by
  obtain ⟨oc, od, dV, kV, doc, pm, an, cdv, ct, osl, _, l1, _⟩ := F.ex
  obtain ⟨oc', od', dV', kV', doc', pm', an', cdv', ct', osl', _, l2, _⟩ := F'.ex
  have e := Option.some.inj (l1.symm.trans l2)
  have e2 : Data.func fd = Data.func fd' := congrArg Obj.data e
  injection e2
/-- the law's end: its function object, its promise -/
theorem law_got {P : Program} {w : World} {K : PySem.W.Frag} {mg : Str → Option Value} {cl : Str → Option Addr} {k : Nat} {st : Stmt} {x : Str} {den : Fn} {fd : FuncData} (F : FunD K "law" "law" (defArgs st) (defBody st) (defScope st) [] [] (He.ga K "law") fd)
    (hg : ∀ base : Heap, Got P w K mg base cl k "law" st [x] den) (base : Heap) : FnOk P w K mg base (L2.CX P w) k (He.ga K "law") fd [x] (spD ⟨K, cl⟩ 1 den) := by
  obtain ⟨fd', F', ok, m⟩ := hg base
  rw [funD_uniq F F']
  exact ok
section
variable {X : Cx} {cl : Str → Option Addr} {W : WX} {e : Expr} {es : List Expr} {f : DE} {fs : DA} {pos p2 p : Pos} {i : Nat} {x : Str} {vs : List Nat}
theorem pdv (i : Nat) {x : Str} {pos : Pos} (hN : X.N[i]? = some x := by rfl) (hv : Vis X.env.scope x := by first | exact Or.inl rfl | exact Or.inr (Or.inl rfl) | exact Or.inr (Or.inr rfl)) (hd : (x == ("__debug__" : Str)) = false := by decide)
    (hcd : (x == ("__classdict__" : Str)) = false := by decide) : PD X cl W (.Name x pos) (dVar i) := pd_var i (pe_var hN hv hd hcd)
theorem pdgN (i : Nat) (hN : X.N.Nodup) {x : Str} {pos : Pos} (hi : X.N[i]? = some x := by rfl) (hx : Loc X.env.scope x := by first | exact Or.inl rfl | exact Or.inr rfl) (hv : i ∈ vs := by decide) (hf : X.fn x = true ∨ X.env.scope.names.lookup x = some .local := by first | exact .inl rfl | exact .inr rfl) :
    PG X (.Name x pos) (tTg ⟨X.K, cl⟩ vs (gN i)) := pdg_name hN hi hx hv hf
theorem pdsN (i : Nat) (hN : X.N.Nodup) (h : PD X cl W e f) (hi : X.N[i]? = some x := by rfl) (hx : Loc X.env.scope x := by first | exact Or.inl rfl | exact Or.inr rfl) (hs : swapsWith e (some (.Name x p2)) pos.line X.env = pure false := by rfl) (hf : X.fn x = true ∨ X.env.scope.names.lookup x = some .local := by first | exact .inl rfl | exact .inr rfl) :
    PDS X cl W (.Assign [.Name x p2] e pos) (dSet i f) := pds_set hN hi hx h hs hf
theorem pds_append {o : Expr} {fa fb : DE} {apos cpos : Pos} (ho : PD X cl W o fa) (hv : PD X cl W e fb) (hs : swapsWith (.Call (.Attribute o "append" apos) [e] [] cpos) none pos.line X.env = pure false := by rfl)
    (hbase : attributeBase o "append" X.env (eval o X.env) = eval o X.env := by rfl) (hfew : ((backTo cpos (starEach [e] X.env)).all (fun x => !x.1) && (backToKw cpos (keywordEach [] X.env)).all (fun x => x.1.isSome)
      && decide ([e].length + ([] : List Keyword).length + (if ([] : List Keyword).isEmpty then 0 else 1) < 30)) = true := by rfl)
    (hst : starEach [e] X.env = (false, eval e X.env) :: starEach [] X.env := by rfl) (hline : (apos.endLine == cpos.line) = true := by rfl) (hplain : (backTo cpos (starEach [] X.env)).any (·.1) = false := by rfl) :
    PDS X cl W (.Expr (.Call (.Attribute o "append" apos) [e] [] cpos) pos) (dApp fa fb) :=
  pds_app ho hv (pe_bm PySem.F.plainAttrs_list PySem.F.slot_list_append PySem.F.type_list_append mt_append ho (pa_cons hv pa_nil hst) hbase hfew hline hst hplain) hs
end
theorem b_len : bootBuiltins "len" = some (.builtin "len") := PySem.boot_len
theorem b_sum : bootBuiltins "sum" = some (.builtin "sum") := by decide +kernel
theorem b_abs : bootBuiltins "abs" = some (.builtin "abs") := by decide +kernel
theorem b_all : bootBuiltins "all" = some (.builtin "all") := by decide +kernel
theorem b_any : bootBuiltins "any" = some (.builtin "any") := by decide +kernel
theorem b_isinstance : bootBuiltins "isinstance" = some (.builtin "isinstance") := by decide +kernel
theorem b_int : bootBuiltins "int" = some (.type "int") := by decide +kernel
theorem b_str : bootBuiltins "str" = some (.type "str") := by decide +kernel
theorem b_bool : bootBuiltins "bool" = some (.type "bool") := by decide +kernel
theorem b_list : bootBuiltins "list" = some (.type "list") := by decide +kernel
theorem b_tuple : bootBuiltins "tuple" = some (.type "tuple") := by decide +kernel
theorem b_dict : bootBuiltins "dict" = some (.type "dict") := by decide +kernel
end Dn
namespace Dn
open PySem L2
/-! ### a head's facts with further ones -/
def obsX (n : Nat) (fa : List He.Fa) (fn : List He.DefD) (fx : PySem.W.Frag → Bool) (g : Addr → Option Obj) : Bool × He.AlD := (fx (He.frG g (He.asD g n)), He.obsDG n fa fn g)
def hookX (n : Nat) (fa : List He.Fa) (fn : List He.DefD) (fx : PySem.W.Frag → Bool) : PySem.W.Hook where
  α := Bool × He.AlD
  obs := fun s => obsX n fa fn fx s.heap.get?
  val := fun _ => (true, He.valD fn)
  says := fun _ h => ∃ K : PySem.W.Frag, K.In h ∧ fx K = true ∧ He.SaysD fa fn K
  of := fun _ s e => ⟨He.frG s.heap.get? (He.asD s.heap.get? n), He.frG_in, congrArg (fun z : Bool × He.AlD => z.1) e, congrArg (fun z : Bool × He.AlD => z.2) e⟩
  keeps := fun _ _ _ ⟨K, hK, c⟩ k => ⟨K, PySem.W.Frag.In.keeps hK k, c⟩
theorem obsX_eq {n : Nat} {fa : List He.Fa} {fn : List He.DefD} {fx : PySem.W.Frag → Bool} {g : Addr → Option Obj} {s : Shared} (h : ∀ a, g a = s.heap.get? a) : obsX n fa fn fx g = (hookX n fa fn fx).obs s := by
  have e : g = s.heap.get? := funext h
  rw [e] <;> rfl
abbrev obsQ (n : Nat) (fa : List He.Fa) (fn : List He.DefD) (fx : List (PySem.W.Frag → Bool)) (g : Addr → Option Obj) : Bool × He.AlD := obsX n fa fn (fun K => fx.all fun f => f K) g
abbrev hookQ (n : Nat) (fa : List He.Fa) (fn : List He.DefD) (fx : List (PySem.W.Frag → Bool)) : PySem.W.Hook := hookX n fa fn (fun K => fx.all fun f => f K)
theorem obsQ_eq {n : Nat} {fa : List He.Fa} {fn : List He.DefD} {fx : List (PySem.W.Frag → Bool)} {g : Addr → Option Obj} {s : Shared} (h : ∀ a, g a = s.heap.get? a) : obsQ n fa fn fx g = (hookQ n fa fn fx).obs s := obsX_eq h
def SaysQ (fa : List He.Fa) (fn : List He.DefD) (fx : List (PySem.W.Frag → Bool)) (K : PySem.W.Frag) : Prop := (fx.all fun f => f K) = true ∧ He.SaysD fa fn K
structure Tq (fa : List He.Fa) (fn : List He.DefD) (fx : List (PySem.W.Frag → Bool)) (K : PySem.W.Frag) (mg : Str → Option Value) : Prop extends Tp fa fn K mg where
  xs : (fx.all fun f => f K) = true
theorem Tq.mk' {fa : List He.Fa} {fn : List He.DefD} {fx : List (PySem.W.Frag → Bool)} {K : PySem.W.Frag} {mg : Str → Option Value} {h : Heap} (X : K.In h) (G : h.Ns mainGlobals mg) (c : SaysQ fa fn fx K) : Tq fa fn fx K mg := ⟨Tp.mk' X G c.2, c.1⟩
theorem Tq.x {fa : List He.Fa} {fn : List He.DefD} {fx : List (PySem.W.Frag → Bool)} {K : PySem.W.Frag} {mg : Str → Option Value} (T : Tq fa fn fx K mg) (i : Nat) {f : PySem.W.Frag → Bool} (h : fx[i]? = some f := by rfl) : f K = true := List.all_eq_true.mp T.xs f (List.mem_of_getElem? h)
theorem Tp.in_ {fa : List He.Fa} {fn : List He.DefD} {K : PySem.W.Frag} {mg : Str → Option Value} (T : Tp fa fn K mg) (i : Nat) {x : Str} {j : Int} (h : fa[i]? = some (.int x j) := by rfl) : ∃ t, mg x = some (.int j t) := T.int x j (T.says.fact i h)
theorem Tp.st_ {fa : List He.Fa} {fn : List He.DefD} {K : PySem.W.Frag} {mg : Str → Option Value} (T : Tp fa fn K mg) (i : Nat) {x z : Str} (h : fa[i]? = some (.str x z) := by rfl) : ∃ t, mg x = some (.str z t) := T.str x z (T.says.fact i h)
section
variable {X : Cx} {cl : Str → Option Addr} {W : WX} {a b c e : Expr} {es : List Expr} {fa fb fc f : DE} {fs : DA} {pos p2 p : Pos} {x : Str}
/-! ### globals that are data -/
def flatV : D → Option V
  | .non => some .non
  | .bl b => some (.bl b)
  | .int i => some (.int i)
  | .str s => some (.str s)
  | _ => none
theorem flatV_rep {Γ : Gm} {w : Wd} {d : D} {v : V} (e : flatV d = some v) : Rep Γ w d v := by
  cases d <;> cases e <;> rfl
def flatVs : List D → Option (List V)
  | [] => some []
  | d :: ds => (flatV d).bind fun v => (flatVs ds).map fun vs => v :: vs
theorem flatVs_rep {Γ : Gm} {w : Wd} : ∀ {ds : List D} {vs : List V}, flatVs ds = some vs → Reps Γ w ds vs
  | [], vs, e => by cases e; rfl
  | d :: ds, vs, e => by
    obtain ⟨v, h1, h2⟩ := Option.bind_eq_some_iff.mp (show (flatV d).bind _ = some vs from e)
    cases h3 : flatVs ds with
    | none => rw [h3] at h2; cases h2
    | some us =>
      rw [h3] at h2
      cases h2
      exact Reps.cons (flatV_rep h1) (flatVs_rep h3)
theorem pd_gtup {vs : List He.Dv} {ds : List D} (hg : Gl X x) (hm : X.mg x = some (.ref (He.ga X.K x))) (ht : He.tupB X.K x vs = true) (hd : flatVs ds = some (vs.map (He.Dv.v X.K))) (hdb : (x == ("__debug__" : Str)) = false := by decide) : PD X cl W (.Name x pos) (dC (.ftup ds)) :=
  pd_c (v := .ref (He.ga X.K x)) (pe_glob hg hm rfl hdb) fun w => ⟨_, _, rfl, He.tupB_ok ht _, flatVs_rep hd⟩
theorem pd_gint {i : Int} (hg : Gl X x) (hm : ∃ t, X.mg x = some (.int i t)) (hdb : (x == ("__debug__" : Str)) = false := by decide) : PD X cl W (.Name x pos) (dC (.int i)) := by
  obtain ⟨t, hm⟩ := hm
  exact pd_c (v := .int i) (pe_glob hg hm ⟨t, rfl⟩ hdb) fun w => rfl
theorem pd_gstr {i : Str} (hg : Gl X x) (hm : ∃ t, X.mg x = some (.str i t)) (hdb : (x == ("__debug__" : Str)) = false := by decide) : PD X cl W (.Name x pos) (dC (.str i)) := by
  obtain ⟨t, hm⟩ := hm
  exact pd_c (v := .str i) (pe_glob hg hm ⟨t, rfl⟩ hdb) fun w => rfl
/-! ### methods of built-in types -/
abbrev FM := D → List D → G → Res D
/-- the receiver is asked first -/
def dM (T : String) (k : FM) (fo : DE) (fs : DA) : DE := fun ρ g => (fo ρ g).bind fun x g1 => match kndOf g1 x with
  | some kd => if kd.name = T then (fs ρ g1).bind fun xs g2 => k x xs g2 else .bad
  | none => .bad
def MtD (Γ : Gm) (W : WX) (r : V → List V → Hp → VK → Prop) (k : FM) : Prop := ∀ (w : Wd) (σ : L2.St) (H : Hp) (g : G) (x : D) (xs : List D) (u : V) (us : List V) (Q : VK), Ok Γ w H g → Rep Γ w x u → Reps Γ w xs us → Fin Γ W (Rep Γ) w H σ (k x xs g) Q → r u us H Q
theorem tD_strM {r : V → List V → Hp → VK → Prop} {k : FM} {σ : L2.St} {H : Hp} {Q : VK} (hk : MtD ⟨X.K, cl⟩ W r k) (q : tD ⟨X.K, cl⟩ W (dM "str" k fa fs) σ H Q) : tBM X.K "str" r (tD ⟨X.K, cl⟩ W fa) (tA ⟨X.K, cl⟩ W fs) σ H Q :=
  (tG_seq (R := Rep ⟨X.K, cl⟩) (f := fa) (k := fun x ρ g1 => match kndOf g1 x with
  | some kd => if kd.name = "str" then (fs ρ g1).bind fun xs g2 => k x xs g2 else .bad
  | none => .bad) q).imp fun v H1 ⟨w, ρ, x, g, o, s, p, z⟩ => by
    split at z
    · rename_i kd hk1
      split at z
      · rename_i hn
        have hx : ∃ y, x = .str y := by
          cases x with
          | str y => exact ⟨y, rfl⟩
          | ref n =>
            exfalso
            simp only [kndOf] at hk1
            split at hk1 <;> cases hk1 <;> simp [Knd.name] at hn
          | _ => first | (exfalso; cases hk1; simp [Knd.name] at hn; done) | (exfalso; cases hk1)
        obtain ⟨y, rfl⟩ := hx
        have : v = .str y := p
        subst this
        exact ⟨rfl, w, ρ, g, o, s, (z.seq (R := Reps ⟨X.K, cl⟩)).imp fun us H2 ⟨w2, xs, g2, l, o2, p2, z2⟩ => hk w2 σ H2 g2 _ xs _ us Q o2 (p.mono l) p2 z2⟩
      · exact z.elim
    · exact z.elim
/-- sep.join(texts) -/
def strsOf : List D → Option (List Str)
  | [] => some []
  | .str i :: ds => (strsOf ds).map fun is => i :: is
  | _ => none
theorem strsOf_eq : ∀ {ds : List D} {ns : List Str}, strsOf ds = some ns → ds = ns.map D.str
  | [], ns, h => by cases h; rfl
  | .str i :: ds, ns, h => by
    unfold strsOf at h
    cases h3 : strsOf ds with
    | none => rw [h3] at h; cases h
    | some us =>
      rw [h3] at h
      cases h
      rw [strsOf_eq h3]
      rfl
def joinM : FM := fun x xs g => match x, xs with
  | .str a, [d] => (match (seqOf g d).bind strsOf with
    | some ys => if (ys.map (·.length)).sum + ys.length * a.length ≤ 16777216 then .ok (.str (Txt.join a ys)) g else .bad
    | none => .bad)
  | _, _ => .bad
theorem md_join {Γ : Gm} {W : WX} : MtD Γ W (fun x xs H Q => ∃ a p, ∃ ys : List Str, x = .str a ∧ xs = [.ref p] ∧ (SqL Γ.K H p (ys.map V.str) ∨ SqT Γ.K H p (ys.map V.str)) ∧
    (ys.map (·.length)).sum + ys.length * a.length ≤ 16777216 ∧ Q (.str (Txt.join a ys)) H) joinM := by
  intro w σ H g x xs u us Q o hp hps z
  unfold joinM at z
  split at z
  · rename_i a d
    obtain ⟨u1, rfl, p1⟩ := hps.inv1
    split at z
    · rename_i ys e
      obtain ⟨zs, hz, hi⟩ := Option.bind_eq_some_iff.mp e
      split at z
      · rename_i hl
        rw [strsOf_eq hi] at hz
        have : u = .str a := hp
        subst this
        obtain ⟨q, vs, rfl, hs, r⟩ := seqOf_rep o p1 hz
        rw [r.strs] at hs
        exact ⟨a, q, ys, rfl, rfl, hs, hl, z.val o rfl⟩
      · exact z.elim
    · exact z.elim
  · exact z.elim
theorem pd_join {o : Expr} {apos cpos : Pos} (ho : PD X cl W o fa) (hv : PDA X cl W [e] fs)
    (hbase : attributeBase o "join" X.env (eval o X.env) = eval o X.env := by rfl) (hfew : ((backTo cpos (starEach [e] X.env)).all (fun x => !x.1) && (backToKw cpos (keywordEach [] X.env)).all (fun x => x.1.isSome)
      && decide ([e].length + ([] : List Keyword).length + (if ([] : List Keyword).isEmpty then 0 else 1) < 30)) = true := by rfl)
    (hst : starEach [e] X.env = (false, eval e X.env) :: starEach [] X.env := by rfl) (hline : (apos.endLine == cpos.line) = true := by rfl) (hplain : (backTo cpos (starEach [] X.env)).any (·.1) = false := by rfl) :
    PD X cl W (.Call (.Attribute o "join" apos) [e] [] cpos) (dM "str" joinM fa fs) :=
  PE.weak (pe_bm PySem.F.plainAttrs_str PySem.F.slot_str_join PySem.F.type_str_join mt_join ho hv hbase hfew hline hst hplain) fun σ H Q q => tD_strM md_join q
end
end Dn
namespace Pl
open PySem hiding Env
open L2 Dn
/-! ### the combinators, applied -/
theorem dC_ap (d : D) (ρ : Env) (g : G) : dC d ρ g = .ok d g := (rfl)
theorem d1_ap (k : F1) (fa : DE) (ρ : Env) (g : G) : d1 k fa ρ g = (fa ρ g).bind k := (rfl)
theorem d2_ap (k : F2) (fa fb : DE) (ρ : Env) (g : G) : d2 k fa fb ρ g = (fa ρ g).bind fun x g1 => (fb ρ g1).bind fun y g2 => k x y g2 := (rfl)
theorem dA_ap (k : FA) (fs : DA) (ρ : Env) (g : G) : dA k fs ρ g = (fs ρ g).bind k := (rfl)
theorem dB_ap (f : DE) (ρ : Env) (g : G) : dB f ρ g = (f ρ g).bind boolD := (rfl)
theorem dNil_ap  (ρ : Env) (g : G) : dNil ρ g = .ok [] g := (rfl)
theorem dCons_ap (fa : DE) (fs : DA) (ρ : Env) (g : G) : dCons fa fs ρ g = (fa ρ g).bind fun x g1 => (fs ρ g1).bind fun xs g2 => .ok (x :: xs) g2 := (rfl)
theorem dONone_ap  (ρ : Env) (g : G) : dONone ρ g = .ok none g := (rfl)
theorem dSl_ap (fa : DE) (fl fh : DO) (ρ : Env) (g : G) : dSl fa fl fh ρ g = (fa ρ g).bind fun x g1 => (fl ρ g1).bind fun l g2 => (fh ρ g2).bind fun h g3 => sliceD x l h g3 := (rfl)
theorem dTru_ap (f : DE) (ρ : Env) (g : G) : dTru f ρ g = (f ρ g).bind truR := (rfl)
theorem dNot_ap (f : DT) (ρ : Env) (g : G) : dNot f ρ g = (f ρ g).bind fun b g1 => .ok (!b) g1 := (rfl)
theorem dAnd_ap (f h : DT) (ρ : Env) (g : G) : dAnd f h ρ g = (f ρ g).bind fun b g1 => if b then h ρ g1 else .ok false g1 := (rfl)
theorem dOr_ap (f h : DT) (ρ : Env) (g : G) : dOr f h ρ g = (f ρ g).bind fun b g1 => if b then .ok true g1 else h ρ g1 := (rfl)
theorem dIf_ap (f : DT) (fa fb : DE) (ρ : Env) (g : G) : dIf f fa fb ρ g = (f ρ g).bind fun b g1 => if b then fa ρ g1 else fb ρ g1 := (rfl)
theorem dNext_ap  (ρ : Env) (g : G) : dNext ρ g = .nx ρ g := (rfl)
theorem dSeq_ap (f h : DS) (ρ : Env) (g : G) : dSeq f h ρ g = (f ρ g).bind h := (rfl)
theorem dBreak_ap  (ρ : Env) (g : G) : dBreak ρ g = .bk ρ g := (rfl)
theorem dCont_ap  (ρ : Env) (g : G) : dCont ρ g = .ct ρ g := (rfl)
theorem dNever_ap  (ρ : Env) (g : G) : dNever ρ g = .bad := (rfl)
theorem dExpr_ap (f : DE) (ρ : Env) (g : G) : dExpr f ρ g = (f ρ g).toS ρ fun _ g1 => .nx ρ g1 := (rfl)
theorem dRet_ap (f : DE) (ρ : Env) (g : G) : dRet f ρ g = (f ρ g).toS ρ fun d g1 => .rt d g1 := (rfl)
theorem dRetN_ap  (ρ : Env) (g : G) : dRetN ρ g = .rt .non g := (rfl)
theorem dIfS_ap (f : DT) (h h' : DS) (ρ : Env) (g : G) : dIfS f h h' ρ g = (f ρ g).toS ρ fun b g1 => if b then h ρ g1 else h' ρ g1 := (rfl)
theorem dSet_ap (i : Nat) (f : DE) (ρ : Env) (g : G) : dSet i f ρ g = (f ρ g).toS ρ fun d g1 => .nx (ρ.set i (some d)) g1 := (rfl)
theorem dIt_ap (f : DE) (ρ : Env) (g : G) : dIt f ρ g = (f ρ g).bind iterR := (rfl)
theorem dItA_ap (k : List D → G → Res Its) (fs : DA) (ρ : Env) (g : G) : dItA k fs ρ g = (fs ρ g).bind k := (rfl)
theorem dYes_ap  (ρ : Env) (g : G) : dYes ρ g = .ok true g := (rfl)
theorem dCall_ap (n m : Nat) (den : Fn) (gD : List D → List D → List D) (fs fk : DA) (ρ : Env) (g : G) : dCall n m den gD fs fk ρ g = (fs ρ g).bind fun xs g1 => (fk ρ g1).bind fun ys g2 => if xs.length = n ∧ ys.length = m then den (gD xs ys) g2 else .bad := (rfl)
theorem dVar_ap (i : Nat) (ρ : Env) (g : G) : dVar i ρ g = (match ρ[i]? with | some (some d) => .ok d g | _ => .bad) := (rfl)
theorem dOSome_ap (f : DE) (ρ : Env) (g : G) : dOSome f ρ g = (f ρ g).bind fun d g1 => match d with | .int i => .ok (some i) g1 | _ => .bad := (rfl)
theorem dSetIx_ap (fo fi fv : DE) (ρ : Env) (g : G) : dSetIx fo fi fv ρ g = (fv ρ g).toS ρ fun v g1 => (fo ρ g1).toS ρ fun x g2 => (fi ρ g2).toS ρ fun i g3 => match setD x i v g3 with | some g4 => .nx ρ g4 | none => .bad := (rfl)
theorem dAsg_ap (f : DE) (h : DG) (ρ : Env) (g : G) : dAsg f h ρ g = (f ρ g).toS ρ fun d g1 => match h d ρ with | some ρ1 => .nx ρ1 g1 | none => .bad := (rfl)
theorem dAndV_ap (f h : DE) (ρ : Env) (g : G) : dAndV f h ρ g = (f ρ g).bind fun d g1 => match d with | .bl true => h ρ g1 | .bl false => .ok (.bl false) g1 | _ => .bad := (rfl)
theorem dOrV_ap (f h : DE) (ρ : Env) (g : G) : dOrV f h ρ g = (f ρ g).bind fun d g1 => match d with | .bl true => .ok (.bl true) g1 | .bl false => h ρ g1 | _ => .bad := (rfl)
theorem dNotV_ap (f : DE) (ρ : Env) (g : G) : dNotV f ρ g = (f ρ g).bind fun d g1 => match d with | .bl b => .ok (.bl (!b)) g1 | _ => .bad := (rfl)
def lstS (xs : List D) (g : G) : Res D := if xs.length ≤ sizeLine then .ok (.lst xs) g else .bad
def tupS (xs : List D) (g : G) : Res D := if xs.length ≤ sizeLine then .ok (.tup xs) g else .bad
def lstHS (xs : List D) (g1 : G) : Res D := if xs.length ≤ sizeLine then .ok (.ref g1.length) (g1 ++ [.lst xs]) else .bad
theorem dLst_ap (fs : DA) (ρ : Env) (g : G) : dLst fs ρ g = (fs ρ g).bind lstS := (rfl)
theorem dTup_ap (fs : DA) (ρ : Env) (g : G) : dTup fs ρ g = (fs ρ g).bind tupS := (rfl)
theorem dLstH_ap (fs : DA) (ρ : Env) (g : G) : dLstH fs ρ g = (fs ρ g).bind lstHS := (rfl)
theorem sz {n : Nat} (h : n ≤ 1000000) : n ≤ sizeLine := Nat.le_trans h (by decide)
theorem lstS_ok {xs : List D} {g : G} (h : xs.length ≤ 1000000) : lstS xs g = .ok (.lst xs) g := if_pos (sz h)
theorem tupS_ok {xs : List D} {g : G} (h : xs.length ≤ 1000000) : tupS xs g = .ok (.tup xs) g := if_pos (sz h)
theorem lstHS_ok {xs : List D} {g : G} (h : xs.length ≤ 1000000) : lstHS xs g = .ok (.ref g.length) (g ++ [.lst xs]) := if_pos (sz h)
theorem lstS0 (g : G) : lstS [] g = .ok (.lst []) g := lstS_ok (show 0 ≤ 1000000 by decide)
theorem tupS0 (g : G) : tupS [] g = .ok (.tup []) g := tupS_ok (show 0 ≤ 1000000 by decide)
theorem lstHS0 (g : G) : lstHS [] g = .ok (.ref g.length) (g ++ [.lst []]) := lstHS_ok (show 0 ≤ 1000000 by decide)
theorem lstS1 (x0 : D) (g : G) : lstS [x0] g = .ok (.lst [x0]) g := lstS_ok (show 1 ≤ 1000000 by decide)
theorem tupS1 (x0 : D) (g : G) : tupS [x0] g = .ok (.tup [x0]) g := tupS_ok (show 1 ≤ 1000000 by decide)
theorem lstHS1 (x0 : D) (g : G) : lstHS [x0] g = .ok (.ref g.length) (g ++ [.lst [x0]]) := lstHS_ok (show 1 ≤ 1000000 by decide)
theorem lstS2 (x0 x1 : D) (g : G) : lstS [x0, x1] g = .ok (.lst [x0, x1]) g := lstS_ok (show 2 ≤ 1000000 by decide)
theorem tupS2 (x0 x1 : D) (g : G) : tupS [x0, x1] g = .ok (.tup [x0, x1]) g := tupS_ok (show 2 ≤ 1000000 by decide)
theorem lstHS2 (x0 x1 : D) (g : G) : lstHS [x0, x1] g = .ok (.ref g.length) (g ++ [.lst [x0, x1]]) := lstHS_ok (show 2 ≤ 1000000 by decide)
theorem lstS3 (x0 x1 x2 : D) (g : G) : lstS [x0, x1, x2] g = .ok (.lst [x0, x1, x2]) g := lstS_ok (show 3 ≤ 1000000 by decide)
theorem tupS3 (x0 x1 x2 : D) (g : G) : tupS [x0, x1, x2] g = .ok (.tup [x0, x1, x2]) g := tupS_ok (show 3 ≤ 1000000 by decide)
theorem lstHS3 (x0 x1 x2 : D) (g : G) : lstHS [x0, x1, x2] g = .ok (.ref g.length) (g ++ [.lst [x0, x1, x2]]) := lstHS_ok (show 3 ≤ 1000000 by decide)
theorem lstS4 (x0 x1 x2 x3 : D) (g : G) : lstS [x0, x1, x2, x3] g = .ok (.lst [x0, x1, x2, x3]) g := lstS_ok (show 4 ≤ 1000000 by decide)
theorem tupS4 (x0 x1 x2 x3 : D) (g : G) : tupS [x0, x1, x2, x3] g = .ok (.tup [x0, x1, x2, x3]) g := tupS_ok (show 4 ≤ 1000000 by decide)
theorem lstHS4 (x0 x1 x2 x3 : D) (g : G) : lstHS [x0, x1, x2, x3] g = .ok (.ref g.length) (g ++ [.lst [x0, x1, x2, x3]]) := lstHS_ok (show 4 ≤ 1000000 by decide)
theorem lstS5 (x0 x1 x2 x3 x4 : D) (g : G) : lstS [x0, x1, x2, x3, x4] g = .ok (.lst [x0, x1, x2, x3, x4]) g := lstS_ok (show 5 ≤ 1000000 by decide)
theorem tupS5 (x0 x1 x2 x3 x4 : D) (g : G) : tupS [x0, x1, x2, x3, x4] g = .ok (.tup [x0, x1, x2, x3, x4]) g := tupS_ok (show 5 ≤ 1000000 by decide)
theorem lstHS5 (x0 x1 x2 x3 x4 : D) (g : G) : lstHS [x0, x1, x2, x3, x4] g = .ok (.ref g.length) (g ++ [.lst [x0, x1, x2, x3, x4]]) := lstHS_ok (show 5 ≤ 1000000 by decide)
theorem lstS6 (x0 x1 x2 x3 x4 x5 : D) (g : G) : lstS [x0, x1, x2, x3, x4, x5] g = .ok (.lst [x0, x1, x2, x3, x4, x5]) g := lstS_ok (show 6 ≤ 1000000 by decide)
theorem tupS6 (x0 x1 x2 x3 x4 x5 : D) (g : G) : tupS [x0, x1, x2, x3, x4, x5] g = .ok (.tup [x0, x1, x2, x3, x4, x5]) g := tupS_ok (show 6 ≤ 1000000 by decide)
theorem lstHS6 (x0 x1 x2 x3 x4 x5 : D) (g : G) : lstHS [x0, x1, x2, x3, x4, x5] g = .ok (.ref g.length) (g ++ [.lst [x0, x1, x2, x3, x4, x5]]) := lstHS_ok (show 6 ≤ 1000000 by decide)
theorem lstS7 (x0 x1 x2 x3 x4 x5 x6 : D) (g : G) : lstS [x0, x1, x2, x3, x4, x5, x6] g = .ok (.lst [x0, x1, x2, x3, x4, x5, x6]) g := lstS_ok (show 7 ≤ 1000000 by decide)
theorem tupS7 (x0 x1 x2 x3 x4 x5 x6 : D) (g : G) : tupS [x0, x1, x2, x3, x4, x5, x6] g = .ok (.tup [x0, x1, x2, x3, x4, x5, x6]) g := tupS_ok (show 7 ≤ 1000000 by decide)
theorem lstHS7 (x0 x1 x2 x3 x4 x5 x6 : D) (g : G) : lstHS [x0, x1, x2, x3, x4, x5, x6] g = .ok (.ref g.length) (g ++ [.lst [x0, x1, x2, x3, x4, x5, x6]]) := lstHS_ok (show 7 ≤ 1000000 by decide)
theorem lstS8 (x0 x1 x2 x3 x4 x5 x6 x7 : D) (g : G) : lstS [x0, x1, x2, x3, x4, x5, x6, x7] g = .ok (.lst [x0, x1, x2, x3, x4, x5, x6, x7]) g := lstS_ok (show 8 ≤ 1000000 by decide)
theorem tupS8 (x0 x1 x2 x3 x4 x5 x6 x7 : D) (g : G) : tupS [x0, x1, x2, x3, x4, x5, x6, x7] g = .ok (.tup [x0, x1, x2, x3, x4, x5, x6, x7]) g := tupS_ok (show 8 ≤ 1000000 by decide)
theorem lstHS8 (x0 x1 x2 x3 x4 x5 x6 x7 : D) (g : G) : lstHS [x0, x1, x2, x3, x4, x5, x6, x7] g = .ok (.ref g.length) (g ++ [.lst [x0, x1, x2, x3, x4, x5, x6, x7]]) := lstHS_ok (show 8 ≤ 1000000 by decide)
theorem lstS9 (x0 x1 x2 x3 x4 x5 x6 x7 x8 : D) (g : G) : lstS [x0, x1, x2, x3, x4, x5, x6, x7, x8] g = .ok (.lst [x0, x1, x2, x3, x4, x5, x6, x7, x8]) g := lstS_ok (show 9 ≤ 1000000 by decide)
theorem tupS9 (x0 x1 x2 x3 x4 x5 x6 x7 x8 : D) (g : G) : tupS [x0, x1, x2, x3, x4, x5, x6, x7, x8] g = .ok (.tup [x0, x1, x2, x3, x4, x5, x6, x7, x8]) g := tupS_ok (show 9 ≤ 1000000 by decide)
theorem lstHS9 (x0 x1 x2 x3 x4 x5 x6 x7 x8 : D) (g : G) : lstHS [x0, x1, x2, x3, x4, x5, x6, x7, x8] g = .ok (.ref g.length) (g ++ [.lst [x0, x1, x2, x3, x4, x5, x6, x7, x8]]) := lstHS_ok (show 9 ≤ 1000000 by decide)
theorem lstS10 (x0 x1 x2 x3 x4 x5 x6 x7 x8 x9 : D) (g : G) : lstS [x0, x1, x2, x3, x4, x5, x6, x7, x8, x9] g = .ok (.lst [x0, x1, x2, x3, x4, x5, x6, x7, x8, x9]) g := lstS_ok (show 10 ≤ 1000000 by decide)
theorem tupS10 (x0 x1 x2 x3 x4 x5 x6 x7 x8 x9 : D) (g : G) : tupS [x0, x1, x2, x3, x4, x5, x6, x7, x8, x9] g = .ok (.tup [x0, x1, x2, x3, x4, x5, x6, x7, x8, x9]) g := tupS_ok (show 10 ≤ 1000000 by decide)
theorem lstHS10 (x0 x1 x2 x3 x4 x5 x6 x7 x8 x9 : D) (g : G) : lstHS [x0, x1, x2, x3, x4, x5, x6, x7, x8, x9] g = .ok (.ref g.length) (g ++ [.lst [x0, x1, x2, x3, x4, x5, x6, x7, x8, x9]]) := lstHS_ok (show 10 ≤ 1000000 by decide)
theorem bok {α β : Type} (a : α) (g : G) (k : α → G → Res β) : (Res.ok a g).bind k = k a g := (rfl)
theorem tok {α : Type} (a : α) (g : G) (ρ : Env) (k : α → G → SRes) : (Res.ok a g).toS ρ k = k a g := (rfl)
theorem snx (ρ : Env) (g : G) (k : Env → G → SRes) : (SRes.nx ρ g).bind k = k ρ g := (rfl)
theorem srt (d : D) (g : G) (k : Env → G → SRes) : (SRes.rt d g).bind k = .rt d g := (rfl)
theorem boolD_ap (b : Bool) (g : G) : boolD (.bl b) g = .ok b g := (rfl)
theorem truR_bl (b : Bool) (g : G) : truR (.bl b) g = .ok b g := (rfl)
theorem posD_ap (xs ys : List D) : posD xs ys = xs := (rfl)
theorem gN_ap (i : Nat) (d : D) (ρ : Env) : gN i d ρ = some (ρ.set i (some d)) := (rfl)
end Pl
namespace Pl
open PySem L2 Dn
theorem goL_set_self {g : G} {n : Nat} {xs : List D} (h : n < g.length) : goL (g.set n (.lst xs)) n = some xs := by
  unfold goL
  rw [List.getElem?_set_self h]
theorem goL_set_ne {g : G} {n m : Nat} {o : GO} (h : n ≠ m) : goL (g.set n o) m = goL g m := by
  unfold goL
  rw [List.getElem?_set_ne h]
theorem goL_lt {g : G} {n : Nat} {xs : List D} (h : goL g n = some xs) : n < g.length := (List.getElem?_eq_some_iff.mp (goL_some h)).1
theorem goL_of {g : G} {n : Nat} {xs : List D} (h : g[n]? = some (.lst xs)) : goL g n = some xs := by
  unfold goL
  rw [h]
/-! the bag -/
noncomputable def b_bag : DS := dSeq (dSet 1 (dLc (dIt (dSl (dVar 0) (dONone) (dOSome (dC (.int 63))))) (gN 3) [3] (dYes) (dA intA (dCons (dVar 3) (dNil))))) (dSeq (dSet 2 (d2 addD (dC (.int 100360)) (d2 mulD (dC (.int 89)) (dA lenA (dCons (dVar 1) (dNil)))))) (dSeq (dFor (dIt (dVar 1)) (gN 3) (dSet 2 (d2 modD (dA intA (dCons (d2 addD (d2 mulD (dVar 2) (dC (.int 6947))) (dVar 3)) (dNil))) (dC (.int 2147483563))))) (dRet (dLstH (dCons (dVar 1) (dCons (dC (.int 0)) (dCons (dC (.int 0)) (dCons (dVar 2) (dCons (dC (.int 0)) (dNil))))))))))
noncomputable def den_bag : Fn := dFn 4 b_bag
noncomputable def b_take : DS := dSeq (dSetIx (dVar 0) (dC (.int 4)) (d2 addD (d2 idxR (dVar 0) (dC (.int 4))) (dC (.int 1)))) (dSeq (dIfS (dAnd (dB (d2 ltD (d2 idxR (dVar 0) (dC (.int 2))) (dC (.int 2)))) (dB (d2 ltD (d2 idxR (dVar 0) (dC (.int 1))) (dA lenA (dCons (d2 idxR (dVar 0) (dC (.int 0))) (dNil)))))) (dSeq (dSet 3 (d2 idxR (d2 idxR (dVar 0) (dC (.int 0))) (d2 idxR (dVar 0) (dC (.int 1))))) (dSeq (dSetIx (dVar 0) (dC (.int 1)) (d2 addD (d2 idxR (dVar 0) (dC (.int 1))) (dC (.int 1)))) (dSeq (dSetIx (dVar 0) (dC (.int 3)) (d2 modD (dA intA (dCons (d2 addD (d2 addD (d2 mulD (d2 idxR (dVar 0) (dC (.int 3))) (dC (.int 40009))) (d2 mulD (d2 modD (dA intA (dCons (dVar 3) (dNil))) (dC (.int 2147483549))) (dC (.int 59)))) (d2 idxR (dVar 0) (dC (.int 1)))) (dNil))) (dC (.int 2147483563)))) (dSetIx (dVar 0) (dC (.int 2)) (dIf (dB (d2 geD (dVar 3) (d2 powD (dC (.int 10)) (dC (.int 18))))) (dVar 3) (dC (.int 0))))))) (dNext)) (dSeq (dIfS (dB (d2 gtD (d2 idxR (dVar 0) (dC (.int 2))) (dC (.int 1)))) (dSeq (dSet 4 (d2 modD (dA intA (dCons (d2 idxR (dVar 0) (dC (.int 2))) (dNil))) (dVar 1))) (dSeq (dSetIx (dVar 0) (dC (.int 2)) (d2 fdivD (d2 idxR (dVar 0) (dC (.int 2))) (dVar 1))) (dRet (dVar 4)))) (dNext)) (dSeq (dSet 2 (d2 modD (dA intA (dCons (d2 addD (d2 idxR (dVar 0) (dC (.int 3))) (d2 mulD (d2 idxR (dVar 0) (dC (.int 4))) (dC (.int 9601)))) (dNil))) (dC (.int 2147483563)))) (dSeq (dSetIx (dVar 0) (dC (.int 3)) (d2 modD (dA intA (dCons (d2 addD (d2 addD (d2 mulD (dVar 2) (dVar 2)) (d2 mulD (dVar 2) (dC (.int 33811)))) (dC (.int 90247))) (dNil))) (dC (.int 2147483563)))) (dRet (d2 modD (dA intA (dCons (d2 addD (d2 fdivD (d2 idxR (dVar 0) (dC (.int 3))) (dC (.int 67))) (d2 mulD (d2 modD (dA intA (dCons (d2 idxR (dVar 0) (dC (.int 3))) (dNil))) (dC (.int 7919))) (dC (.int 193)))) (dNil))) (dVar 1)))))))
noncomputable def den_take : Fn := dFn 5 b_take
noncomputable def b_of : DS := dRet (d2 idxR (dVar 1) (dCall 2 0 den_take posD (dCons (dVar 0) (dCons (dA lenA (dCons (dVar 1) (dNil))) (dNil))) dNil))
noncomputable def den_of : Fn := dFn 2 b_of
noncomputable def b_same (self_ : Fn) : DS := dSeq (dIfS (dB (d2 isND (dVar 1) (dC .non))) (dRet (d2 isND (dVar 0) (dC .non))) (dNext)) (dSeq (dIfS (dOr (dTru (dA isiA (dCons (dVar 1) (dCons (dC (.ty .bool)) (dNil))))) (dTru (dA isiA (dCons (dVar 0) (dCons (dC (.ty .bool)) (dNil)))))) (dRet (dAndV (dA isiA (dCons (dVar 1) (dCons (dC (.ty .bool)) (dNil)))) (dAndV (dA isiA (dCons (dVar 0) (dCons (dC (.ty .bool)) (dNil)))) (d2 eqD (dVar 0) (dVar 1))))) (dNext)) (dSeq (dIfS (dTru (dA isiA (dCons (dVar 1) (dCons (dTup (dCons (dC (.ty .int)) (dCons (dC (.ty .str)) (dNil)))) (dNil))))) (dRet (dAndV (dA isiA (dCons (dVar 0) (dCons (dTup (dCons (dC (.ty .int)) (dCons (dC (.ty .str)) (dNil)))) (dNil)))) (dAndV (d2 eqD (dA isiA (dCons (dVar 0) (dCons (dC (.ty .int)) (dNil)))) (dA isiA (dCons (dVar 1) (dCons (dC (.ty .int)) (dNil))))) (d2 eqD (dVar 0) (dVar 1))))) (dNext)) (dSeq (dIfS (dOr (dB (d2 neD (dA isiA (dCons (dVar 1) (dCons (dC (.ty .list)) (dNil)))) (dA isiA (dCons (dVar 0) (dCons (dC (.ty .list)) (dNil)))))) (dB (d2 neD (dA isiA (dCons (dVar 1) (dCons (dC (.ty .tuple)) (dNil)))) (dA isiA (dCons (dVar 0) (dCons (dC (.ty .tuple)) (dNil))))))) (dRet (dC (.bl false))) (dNext)) (dSeq (dIfS (dOr (dNot (dTru (dA isiA (dCons (dVar 0) (dCons (dTup (dCons (dC (.ty .list)) (dCons (dC (.ty .tuple)) (dNil)))) (dNil)))))) (dB (d2 neD (dA lenA (dCons (dVar 0) (dNil))) (dA lenA (dCons (dVar 1) (dNil)))))) (dRet (dC (.bl false))) (dNext)) (dRet (dA allA (dCons (dLc (dItA zipR (dCons (dVar 0) (dCons (dVar 1) (dNil)))) (gT 2 (gsCons (gN 2) (gsCons (gN 3) (gsNil)))) [2, 3] (dYes) (dCall 2 0 self_ posD (dCons (dVar 2) (dCons (dVar 3) (dNil))) dNil)) (dNil))))))))
noncomputable def den_same : Nat → Fn
  | 0 => fun _ _ => .bad
  | j + 1 => dFn 4 (b_same (den_same j))

def bagO (cells : List Int) (i : Nat) (r m c : Int) : GO := .lst [.lst (cells.map .int), .int i, .int r, .int m, .int c]
def BagO (o : GO) : Prop := ∃ cells i r m c, 0 ≤ r ∧ 0 ≤ m ∧ o = bagO cells i r m c
def IsBag (g : G) (n : Nat) : Prop := ∃ o, g[n]? = some o ∧ BagO o
theorem modD_ok {i j : Int} {g : G} (h : 0 < j) : modD (.int i) (.int j) g = .ok (.int (i % j)) g := if_pos h
theorem fdivD_ok {i j : Int} {g : G} (h : CDivW i j) : fdivD (.int i) (.int j) g = .ok (.int (i / j)) g := if_pos h
theorem mulD_ok {i j : Int} {g : G} (h : CMulA i j) : mulD (.int i) (.int j) g = .ok (.int (i * j)) g := if_pos h
theorem mul_short {i j : Int} (h : -(2 ^ 64) < j ∧ j < 2 ^ 64) : CMulA i j := .inl (.inr h)
theorem mul_shortL {i j : Int} (h : -(2 ^ 64) < i ∧ i < 2 ^ 64) : CMulA i j := .inl (.inl h)
theorem idx_at {x : D} {xs : List D} {i : Int} {d : D} {g : G} (hs : ∀ z, x ≠ .str z) (h : seqOf g x = some xs) (e : atI xs i = some d) : idxR x (.int i) g = .ok d g := by
  have : idx1 x (.int i) g = some d := by
    cases x <;> first | exact absurd rfl (hs _) | (simp only [idx1, h]; exact e)
  unfold idxR
  rw [this]
theorem idx_ref {n : Nat} {xs : List D} {i : Int} {d : D} {g : G} (h : goL g n = some xs) (e : atI xs i = some d) : idxR (.ref n) (.int i) g = .ok d g := idx_at (fun _ z => nomatch z) (show (match goL g n with | some xs => some xs | none => seqT (.ref n)) = some xs by rw [h]) e
theorem idx_lst {xs : List D} {i : Int} {d : D} {g : G} (e : atI xs i = some d) : idxR (.lst xs) (.int i) g = .ok d g := idx_at (fun _ z => nomatch z) rfl e
theorem idx_tup {xs : List D} {i : Int} {d : D} {g : G} (e : atI xs i = some d) : idxR (.tup xs) (.int i) g = .ok d g := idx_at (fun _ z => nomatch z) rfl e
theorem len_lst {xs : List D} {g : G} : lenA [.lst xs] g = .ok (.int xs.length) g := rfl
theorem len_tup {xs : List D} {g : G} : lenA [.tup xs] g = .ok (.int xs.length) g := rfl
theorem setD_ref {n : Nat} {xs : List D} {k : Int} {j : Nat} {v : D} {g : G} (h : goL g n = some xs) (e : ixN xs.length k = some j) : setD (.ref n) (.int k) v g = some (g.set n (.lst (xs.set j v))) := by
  show (goL g n).bind (fun xs => (ixN xs.length k).map fun j => g.set n (.lst (xs.set j v))) = _
  rw [h]
  show (ixN xs.length k).map _ = _
  rw [e]
  rfl

theorem pow_ok (g : G) : powD (.int 10) (.int 18) g = .ok (.int 1000000000000000000) g := rfl
def fin1 : DS := (dSeq (dIfS (dB (d2 gtD (d2 idxR (dVar 0) (dC (.int 2))) (dC (.int 1)))) (dSeq (dSet 4 (d2 modD (dA intA (dCons (d2 idxR (dVar 0) (dC (.int 2))) (dNil))) (dVar 1))) (dSeq (dSetIx (dVar 0) (dC (.int 2)) (d2 fdivD (d2 idxR (dVar 0) (dC (.int 2))) (dVar 1))) (dRet (dVar 4)))) (dNext)) (dSeq (dSet 2 (d2 modD (dA intA (dCons (d2 addD (d2 idxR (dVar 0) (dC (.int 3))) (d2 mulD (d2 idxR (dVar 0) (dC (.int 4))) (dC (.int 9601)))) (dNil))) (dC (.int 2147483563)))) (dSeq (dSetIx (dVar 0) (dC (.int 3)) (d2 modD (dA intA (dCons (d2 addD (d2 addD (d2 mulD (dVar 2) (dVar 2)) (d2 mulD (dVar 2) (dC (.int 33811)))) (dC (.int 90247))) (dNil))) (dC (.int 2147483563)))) (dRet (d2 modD (dA intA (dCons (d2 addD (d2 fdivD (d2 idxR (dVar 0) (dC (.int 3))) (dC (.int 67))) (d2 mulD (d2 modD (dA intA (dCons (d2 idxR (dVar 0) (dC (.int 3))) (dNil))) (dC (.int 7919))) (dC (.int 193)))) (dNil))) (dVar 1))))))
theorem fin1_ok {g : G} {n : Nat} {many : Int} (hn : n < g.length) (h0 : 0 < many) (h1 : many.natAbs.log2 < 9000) (cells : List Int) (i : Nat) (r m c : Int) (d3 : Option D) (hr : 0 ≤ r) (hm : 0 ≤ m) :
    ∃ q o, fin1 [some (.ref n), some (.int many), none, d3, none] (g.set n (bagO cells i r m c)) = .rt (.int q) (g.set n o) ∧ 0 ≤ q ∧ q < many ∧ BagO o := by
  have hM : (0 : Int) < 2147483563 := by decide
  have hL : goL (g.set n (bagO cells i r m c)) n = some [.lst (cells.map .int), .int i, .int r, .int m, .int c] := goL_set_self hn
  by_cases h2 : (1 : Int) < r
  · refine ⟨r % many, bagO cells i (r / many) m c, ?_, Int.emod_nonneg _ (by omega), Int.emod_lt_of_pos _ h0, cells, i, r / many, m, c, Int.ediv_nonneg hr (by omega), hm, rfl⟩
    simp only [fin1, dSeq, dIfS, dB, d2, dVar, dC, dSet, dA, dCons, dNil, dSetIx, dRet, List.getElem?_cons_zero, List.getElem?_cons_succ, List.set_cons_zero, List.set_cons_succ, bind_ok, toS_ok, sbind_nx, idx_ref hL (show atI _ 2 = some (.int r) from rfl), gtD, cmpD, h2, decide_true, boolD, if_true, intA, modD_ok h0, fdivD_ok (show CDivW r many from ⟨h0, h1⟩), setD_ref hL (show ixN _ 2 = some 2 from rfl), sbind_rt]
    rw [List.set_set]
    rfl
  · generalize hold : (m + c * 9601) % 2147483563 = old
    have b0 : 0 ≤ old := by rw [← hold]; exact Int.emod_nonneg _ (by omega)
    have b1 : old < 2147483563 := by rw [← hold]; exact Int.emod_lt_of_pos _ hM
    generalize hnew : (old * old + old * 33811 + 90247) % 2147483563 = new
    have b2 : 0 ≤ new := by rw [← hnew]; exact Int.emod_nonneg _ (by omega)
    refine ⟨(new / 67 + new % 7919 * 193) % many, bagO cells i r new c, ?_, Int.emod_nonneg _ (by omega), Int.emod_lt_of_pos _ h0, cells, i, r, new, c, hr, b2, rfl⟩
    have hL2 : goL (g.set n (bagO cells i r new c)) n = some [.lst (cells.map .int), .int i, .int r, .int new, .int c] := goL_set_self hn
    have e2 : (g.set n (bagO cells i r m c)).set n (.lst [.lst (cells.map .int), .int i, .int r, .int new, .int c]) = g.set n (bagO cells i r new c) := by rw [List.set_set]; rfl
    simp only [fin1, dSeq, dIfS, dB, d2, dVar, dC, dSet, dA, dCons, dNil, dSetIx, dRet, dNext, List.getElem?_cons_zero, List.getElem?_cons_succ, List.set_cons_zero, List.set_cons_succ, bind_ok, toS_ok, sbind_nx, idx_ref hL (show atI _ 2 = some (.int r) from rfl), idx_ref hL (show atI _ 3 = some (.int m) from rfl), idx_ref hL (show atI _ 4 = some (.int c) from rfl), gtD, cmpD, h2, decide_false, boolD, Bool.false_eq_true, if_false, intA, modD_ok h0, modD_ok hM,
        mulD_ok (mul_short (i := c) (j := 9601) (by decide)), addD, hold, mulD_ok (mul_short (i := old) (j := old) (by omega)), mulD_ok (mul_short (i := old) (j := 33811) (by decide)), hnew, setD_ref hL (show ixN _ 3 = some 3 from rfl), e2, idx_ref hL2 (show atI _ 3 = some (.int new) from rfl), fdivD_ok (show CDivW new 67 from ⟨by decide, by decide⟩), modD_ok (show (0 : Int) < 7919 by decide), mulD_ok (mul_short (i := new % 7919) (j := 193) (by decide)), sbind_rt]
/-- _law_take: a number below many; the bag has changed -/
theorem take_ok {g : G} {n : Nat} {many : Int} (hb : IsBag g n) (h0 : 0 < many) (h1 : many.natAbs.log2 < 9000) :
    ∃ r o, den_take [.ref n, .int many] g = .ok (.int r) (g.set n o) ∧ 0 ≤ r ∧ r < many ∧ BagO o := by
  obtain ⟨o, hg, cells, i, r, m, c, hr, hm, rfl⟩ := hb
  have hL : goL g n = some [.lst (cells.map .int), .int i, .int r, .int m, .int c] := goL_of hg
  have hn := goL_lt hL
  have hM : (0 : Int) < 2147483563 := by decide
  have hL1 : goL (g.set n (bagO cells i r m (c + 1))) n = some [.lst (cells.map .int), .int i, .int r, .int m, .int (c + 1)] := goL_set_self hn
  have e1 : g.set n (.lst [.lst (cells.map .int), .int i, .int r, .int m, .int (c + 1)]) = g.set n (bagO cells i r m (c + 1)) := rfl
  by_cases hc : r < 2 ∧ i < cells.length
  · -- a cell is taken
    obtain ⟨hr2, hi⟩ := hc
    generalize hz : cells[i] = z
    have hat : atI (cells.map D.int) (i : Int) = some (.int z) := atI_nat (by rw [List.getElem?_map, List.getElem?_eq_getElem hi, hz]; rfl)
    have hil : (i : Int) < (cells.map D.int).length := by rw [List.length_map]; omega
    generalize hnew : (m * 40009 + z % 2147483549 * 59 + ((i : Int) + 1)) % 2147483563 = new
    have b2 : 0 ≤ new := by rw [← hnew]; exact Int.emod_nonneg _ (by omega)
    have zr : (0 : Int) ≤ if (1000000000000000000 : Int) ≤ z then z else 0 := by split <;> omega
    obtain ⟨q, o, e, q0, q1, bo⟩ := fin1_ok (many := many) hn h0 h1 cells (i + 1) (if (1000000000000000000 : Int) ≤ z then z else 0) new (c + 1) (some (.int z)) zr b2
    refine ⟨q, o, ?_, q0, q1, bo⟩
    have hL2 : goL (g.set n (bagO cells (i + 1) r m (c + 1))) n = some [.lst (cells.map .int), .int ((i + 1 : Nat) : Int), .int r, .int m, .int (c + 1)] := goL_set_self hn
    have hL3 : goL (g.set n (bagO cells (i + 1) r new (c + 1))) n = some [.lst (cells.map .int), .int ((i + 1 : Nat) : Int), .int r, .int new, .int (c + 1)] := goL_set_self hn
    have e2 : (g.set n (bagO cells i r m (c + 1))).set n (.lst [.lst (cells.map .int), .int ((i : Int) + 1), .int r, .int m, .int (c + 1)]) = g.set n (bagO cells (i + 1) r m (c + 1)) := by rw [List.set_set]; rfl
    have e3 : (g.set n (bagO cells (i + 1) r m (c + 1))).set n (.lst [.lst (cells.map .int), .int ((i + 1 : Nat) : Int), .int r, .int new, .int (c + 1)]) = g.set n (bagO cells (i + 1) r new (c + 1)) := by rw [List.set_set]; rfl
    have e4 : ∀ y : Int, (g.set n (bagO cells (i + 1) r new (c + 1))).set n (.lst [.lst (cells.map .int), .int ((i + 1 : Nat) : Int), .int y, .int new, .int (c + 1)]) = g.set n (bagO cells (i + 1) y new (c + 1)) := fun y => by rw [List.set_set]; rfl
    have ei : ((i + 1 : Nat) : Int) = (i : Int) + 1 := by omega
    have hnew' : (m * 40009 + z % 2147483549 * 59 + ((i + 1 : Nat) : Int)) % 2147483563 = new := by rw [ei]; exact hnew
    have step : b_take (startE 5 [.ref n, .int many]) g = fin1 [some (.ref n), some (.int many), none, some (.int z), none] (g.set n (bagO cells (i + 1) (if (1000000000000000000 : Int) ≤ z then z else 0) new (c + 1))) := by
      show (dSeq _ (dSeq _ fin1)) [some (.ref n), some (.int many), none, none, none] g = _
      simp only [dSeq, dIfS, dAnd, dIf, dB, d2, dVar, dC, dSet, dA, dCons, dNil, dSetIx, dRet, dNext, List.getElem?_cons_zero, List.getElem?_cons_succ, List.set_cons_zero, List.set_cons_succ, bind_ok, toS_ok, sbind_nx, idx_ref hL (show atI _ 4 = some (.int c) from rfl), addD, setD_ref hL (show ixN _ 4 = some 4 from rfl), e1,
        idx_ref hL1 (show atI _ 2 = some (.int r) from rfl), idx_ref hL1 (show atI _ 1 = some (.int i) from rfl), idx_ref hL1 (show atI _ 0 = some (.lst (cells.map .int)) from rfl), len_lst, ltD, geD, cmpD, hr2, decide_true, boolD, if_true, hil, idx_lst hat, setD_ref hL1 (show ixN _ 1 = some 1 from rfl), e2,
        idx_ref hL2 (show atI _ 3 = some (.int m) from rfl), idx_ref hL2 (show atI _ 1 = some (.int ((i + 1 : Nat) : Int)) from rfl), mulD_ok (mul_short (i := m) (j := 40009) (by decide)), intA, modD_ok (show (0 : Int) < 2147483549 by decide), mulD_ok (mul_short (i := z % 2147483549) (j := 59) (by decide)), modD_ok hM, hnew', setD_ref hL2 (show ixN _ 3 = some 3 from rfl), e3, pow_ok]
      by_cases hbig : (1000000000000000000 : Int) ≤ z
      · simp only [hbig, decide_true, if_true, toS_ok, bind_ok, setD_ref hL3 (show ixN _ 2 = some 2 from rfl), List.set_cons_zero, List.set_cons_succ, e4, sbind_nx]
      · simp only [hbig, decide_false, Bool.false_eq_true, if_false, toS_ok, bind_ok, setD_ref hL3 (show ixN _ 2 = some 2 from rfl), List.set_cons_zero, List.set_cons_succ, e4, sbind_nx]
    show dFn 5 b_take [.ref n, .int many] g = _
    unfold dFn
    rw [step, e]
  · obtain ⟨q, o, e, q0, q1, bo⟩ := fin1_ok (many := many) hn h0 h1 cells i r m (c + 1) none hr hm
    refine ⟨q, o, ?_, q0, q1, bo⟩
    have step : b_take (startE 5 [.ref n, .int many]) g = fin1 [some (.ref n), some (.int many), none, none, none] (g.set n (bagO cells i r m (c + 1))) := by
      show (dSeq _ (dSeq _ fin1)) [some (.ref n), some (.int many), none, none, none] g = _
      simp only [dSeq, dIfS, dAnd, dIf, dB, d2, dVar, dC, dSet, dA, dCons, dNil, dSetIx, dRet, dNext, List.getElem?_cons_zero, List.getElem?_cons_succ, List.set_cons_zero, List.set_cons_succ, bind_ok, toS_ok, sbind_nx, idx_ref hL (show atI _ 4 = some (.int c) from rfl), addD, setD_ref hL (show ixN _ 4 = some 4 from rfl), e1,
        idx_ref hL1 (show atI _ 2 = some (.int r) from rfl), idx_ref hL1 (show atI _ 1 = some (.int i) from rfl), idx_ref hL1 (show atI _ 0 = some (.lst (cells.map .int)) from rfl), len_lst, ltD, geD, cmpD, boolD, List.length_map]
      by_cases h2 : r < 2
      · have h3 : ¬ (i : Int) < (cells.length : Int) := fun z => hc ⟨h2, by omega⟩
        simp only [h2, h3, decide_true, decide_false, if_true, Bool.false_eq_true, if_false, bind_ok, toS_ok, sbind_nx]
      · simp only [h2, decide_false, Bool.false_eq_true, if_false, bind_ok, toS_ok, sbind_nx]
    show dFn 5 b_take [.ref n, .int many] g = _
    unfold dFn
    rw [step, e]
end Pl
namespace Pl
open PySem hiding Env
open L2 Dn
theorem a1 {k : FA} {fa : DE} {ρ : Env} {g g1 : G} {x : D} (h : fa ρ g = .ok x g1) : dA k (dCons fa dNil) ρ g = k [x] g1 := by
  show ((fa ρ g).bind fun x g1 => (dNil ρ g1).bind fun xs g2 => Res.ok (x :: xs) g2).bind k = _
  rw [h]
  rfl
/-! ### comprehensions -/
theorem lc_pure {it : Its} {fg : DG} {ft : DT} {fe : DE} {ρ : Env} {g : G} (hk : it.grd = none) {f : D → D} : ∀ ds : List D, (∀ d ∈ ds, ∃ ρ1, fg d ρ = some ρ1 ∧ ft ρ1 g = .ok true g ∧ fe ρ1 g = .ok (f d) g) → lcGo it fg ft fe ρ ds g = .ok (ds.map f) g
  | [], _ => by
    unfold lcGo Its.okB
    rw [hk]
    rfl
  | d :: ds, h => by
    obtain ⟨ρ1, e1, e2, e3⟩ := h d List.mem_cons_self
    unfold lcGo Its.okB
    rw [hk]
    simp only [if_true, e1, e2, noE_ok, bind_ok, e3, lc_pure hk ds (fun x hx => h x (List.mem_cons_of_mem _ hx)), List.map_cons]
theorem sz2 : 0 + 1 + 1 ≤ sizeLine := by decide
theorem rng1_nat {n : Nat} {g : G} (h : n ≤ 1000000) : rng1 [.int (n : Int)] g = .ok ⟨rngL 0 n, none⟩ g := by
  have h2 : -(2 ^ 62) ≤ (n : Int) ∧ (n : Int) < 2 ^ 62 := ⟨by omega, by omega⟩
  unfold rng1
  simp only
  rw [if_pos h2, Int.toNat_natCast]
theorem rngL_mem {n : Nat} {d : D} (h : d ∈ rngL 0 n) : ∃ i : Nat, i < n ∧ d = .int (i : Int) := by
  unfold rngL at h
  obtain ⟨i, hi, rfl⟩ := List.mem_map.mp h
  exact ⟨i, List.mem_range.mp hi, by rw [Int.zero_add]⟩
theorem rngL_len (a : Int) (n : Nat) : (rngL a n).length = n := by simp [rngL]
def dNat : D → Nat
  | .int i => i.toNat
  | _ => 0
/-- [e for k in range(n)] -/
theorem lc_any {fi : DI} {it : Its} {fg : DG} {vs : List Nat} {ft : DT} {fe : DE} {ρ : Env} {g : G} (f : D → D) (hi : fi ρ g = .ok it g) (hk : it.grd = none) (hl : it.items.length ≤ sizeLine) (h : ∀ d ∈ it.items, ∃ ρ1, fg d (wipeE ρ vs) = some ρ1 ∧ ft ρ1 g = .ok true g ∧ fe ρ1 g = .ok (f d) g) :
    dLc fi fg vs ft fe ρ g = .ok (.lst (it.items.map f)) g := by
  unfold dLc
  rw [hi, bind_ok, if_pos hl, lc_pure hk it.items h, bind_ok]
theorem rngL_map {n : Nat} (f : Nat → D) : (rngL 0 n).map (fun d => f (dNat d)) = (List.range n).map f := by
  unfold rngL
  rw [List.map_map]
  refine List.map_congr_left fun i _ => ?_
  show f (0 + (i : Int)).toNat = f i
  rw [Int.zero_add, Int.toNat_natCast]
theorem lc_rng {fs : DA} {k n : Nat} {vs : List Nat} {fe : DE} {ρ : Env} {g : G} (f : Nat → D) (hn : fs ρ g = .ok [.int (n : Int)] g) (h2 : n ≤ 1000000) (h : ∀ i, i < n → fe ((wipeE ρ vs).set k (some (.int (i : Int)))) g = .ok (f i) g) :
    dLc (dItA rng1 fs) (gN k) vs dYes fe ρ g = .ok (.lst ((List.range n).map f)) g := by
  rw [← rngL_map]
  refine lc_any (it := ⟨rngL 0 n, none⟩) (fun d => f (dNat d)) (by unfold dItA; rw [hn, bind_ok, rng1_nat h2]) rfl (by rw [rngL_len]; exact sz h2) fun d hd => ?_
  obtain ⟨i, hi, rfl⟩ := rngL_mem hd
  exact ⟨_, rfl, rfl, h i hi⟩
/-- [e for x in xs], xs a list or tuple that stays -/
theorem lc_tup {fa : DE} {k : Nat} {xs : List D} {vs : List Nat} {fe : DE} {ρ : Env} {g : G} (f : D → D) (hn : fa ρ g = .ok (.tup xs) g) (hl : xs.length ≤ sizeLine) (h : ∀ x ∈ xs, fe ((wipeE ρ vs).set k (some x)) g = .ok (f x) g) :
    dLc (dIt fa) (gN k) vs dYes fe ρ g = .ok (.lst (xs.map f)) g :=
  lc_any (it := ⟨xs, none⟩) f (by unfold dIt; rw [hn]; rfl) rfl hl fun d hd => ⟨_, rfl, rfl, h d hd⟩
theorem lc_lst {fa : DE} {k : Nat} {xs : List D} {vs : List Nat} {fe : DE} {ρ : Env} {g : G} (f : D → D) (hn : fa ρ g = .ok (.lst xs) g) (hl : xs.length ≤ sizeLine) (h : ∀ x ∈ xs, fe ((wipeE ρ vs).set k (some x)) g = .ok (f x) g) :
    dLc (dIt fa) (gN k) vs dYes fe ρ g = .ok (.lst (xs.map f)) g :=
  lc_any (it := ⟨xs, none⟩) f (by unfold dIt; rw [hn]; rfl) rfl hl fun d hd => ⟨_, rfl, rfl, h d hd⟩
theorem tup_lst {xs : List D} {g : G} : tupleA [.lst xs] g = .ok (.tup xs) g := rfl
theorem sum_ints {ns : List Int} {g : G} : sumA [.lst (ns.map .int)] g = .ok (.int ns.sum) g := by
  show (match ((seqL g (.lst (ns.map D.int))).bind intsOf) with | some ns => Res.ok (D.int ns.sum) g | none => .bad) = _
  rw [show (seqL g (.lst (ns.map D.int))).bind intsOf = some ns from intsOf_map ns]
theorem all_bls {ns : List Bool} {g : G} : allA [.lst (ns.map .bl)] g = .ok (.bl (ns.all id)) g := by
  show (match ((seqL g (.lst (ns.map D.bl))).bind blsOf) with | some ns => Res.ok (D.bl (ns.all id)) g | none => .bad) = _
  rw [show (seqL g (.lst (ns.map D.bl))).bind blsOf = some ns from blsOf_map ns]
/-! ### _law_same -/
def plain : Nat → D → Bool
  | 0, _ => false
  | j + 1, .tup xs => decide (xs.length ≤ sizeLine) && xs.all (plain j)
  | j + 1, .lst xs => decide (xs.length ≤ sizeLine) && xs.all (plain j)
  | _ + 1, .non => true
  | _ + 1, .bl _ => true
  | _ + 1, .int _ => true
  | _ + 1, .str x => SeqAt.shaped (.str x)
  | _, _ => false
theorem eq_py {x y : D} {p q : PyData} {g : G} (h : toPyG g x = some p) (h' : toPyG g y = some q) (hp : SeqAt.shaped p = true) (hq : SeqAt.shaped q = true) : eqD x y g = .ok (.bl (PyData.eqv p q)) g := by
  unfold eqD
  rw [h, h']
  exact if_pos ⟨hp, hq⟩
theorem ne_py {x y : D} {p q : PyData} {g : G} (h : toPyG g x = some p) (h' : toPyG g y = some q) (hp : SeqAt.shaped p = true) (hq : SeqAt.shaped q = true) : neD x y g = .ok (.bl (!PyData.eqv p q)) g := by
  unfold neD
  rw [h, h']
  exact if_pos ⟨hp, hq⟩
theorem toPy_int (g : G) (i : Int) : toPyG g (.int i) = some (.int i) := by unfold toPyG toPy; rfl
theorem toPy_bl (g : G) (i : Bool) : toPyG g (.bl i) = some (.bool i) := by unfold toPyG toPy; rfl
theorem toPy_str (g : G) (i : Str) : toPyG g (.str i) = some (.str i) := by unfold toPyG toPy; rfl
theorem sh_int (i : Int) : SeqAt.shaped (.int i) = true := by simp only [SeqAt.shaped, PyData.canLay0, PyData.depth]; rfl
theorem sh_bl (i : Bool) : SeqAt.shaped (.bool i) = true := by simp only [SeqAt.shaped, PyData.canLay0, PyData.depth]; rfl
theorem eq_int {i j : Int} {g : G} : eqD (.int i) (.int j) g = .ok (.bl (decide (i = j))) g := by
  rw [eq_py (toPy_int g i) (toPy_int g j) (sh_int i) (sh_int j)]
  unfold PyData.eqv
  rfl
theorem eq_bl {i j : Bool} {g : G} : eqD (.bl i) (.bl j) g = .ok (.bl (decide (i = j))) g := by
  rw [eq_py (toPy_bl g i) (toPy_bl g j) (sh_bl i) (sh_bl j)]
  unfold PyData.eqv
  rfl
theorem eq_strs {i : Str} {g : G} (h : SeqAt.shaped (.str i) = true) : eqD (.str i) (.str i) g = .ok (.bl true) g := by
  rw [eq_py (toPy_str g i) (toPy_str g i) h h]
  unfold PyData.eqv
  simp
theorem ne_int {i j : Int} {g : G} : neD (.int i) (.int j) g = .ok (.bl (!decide (i = j))) g := by
  rw [ne_py (toPy_int g i) (toPy_int g j) (sh_int i) (sh_int j)]
  unfold PyData.eqv
  rfl
theorem ne_bl {i j : Bool} {g : G} : neD (.bl i) (.bl j) g = .ok (.bl (!decide (i = j))) g := by
  rw [ne_py (toPy_bl g i) (toPy_bl g j) (sh_bl i) (sh_bl j)]
  unfold PyData.eqv
  rfl
noncomputable def allG (j : Nat) : DE := dA allA (dCons (dLc (dItA zipR (dCons (dVar 0) (dCons (dVar 1) (dNil)))) (gT 2 (gsCons (gN 2) (gsCons (gN 3) (gsNil)))) [2, 3] (dYes) (dCall 2 0 (den_same j) posD (dCons (dVar 2) (dCons (dVar 3) (dNil))) dNil)) (dNil))
theorem same_all {j : Nat} {d : D} {g : G} (ih : ∀ x, plain j x = true → den_same j [x, x] g = .ok (.bl true) g) {xs : List D} (hd : d = .tup xs ∨ d = .lst xs) (hl : xs.length ≤ sizeLine) (hx : ∀ x ∈ xs, plain j x = true) : allG j [some d, some d, none, none] g = .ok (.bl true) g := by
  have hz : zipR [d, d] g = .ok ⟨zipL xs xs, none⟩ g := by rcases hd with rfl | rfl <;> rfl
  have hll : (zipL xs xs).length ≤ sizeLine := by
    unfold zipL
    rw [List.length_zipWith, Nat.min_self]
    exact hl
  have hm : ∀ p ∈ zipL xs xs, ∃ x, x ∈ xs ∧ p = .tup [x, x] := by
    unfold zipL
    rw [List.zipWith_self]
    intro p hp
    obtain ⟨x, hx, rfl⟩ := List.mem_map.mp hp
    exact ⟨x, hx, rfl⟩
  have e := lc_any (fi := dItA zipR (dCons (dVar 0) (dCons (dVar 1) (dNil)))) (fg := gT 2 (gsCons (gN 2) (gsCons (gN 3) (gsNil)))) (vs := [2, 3]) (ft := dYes) (fe := dCall 2 0 (den_same j) posD (dCons (dVar 2) (dCons (dVar 3) (dNil))) dNil) (ρ := [some d, some d, none, none]) (g := g) (it := ⟨zipL xs xs, none⟩) (fun _ => .bl true) hz rfl hll fun p hp => by
    obtain ⟨x, hx', rfl⟩ := hm p hp
    exact ⟨_, rfl, rfl, ih x (hx x hx')⟩
  have e2 : (List.map (fun _ => D.bl true) (zipL xs xs)) = ((zipL xs xs).map fun _ => true).map D.bl := by rw [List.map_map]; rfl
  unfold allG
  rw [a1 e]
  show allA [.lst (List.map (fun _ => D.bl true) (zipL xs xs))] g = _
  rw [e2, all_bls]
  simp
theorem same_ok : ∀ (j : Nat) (d : D) (g : G), plain j d = true → den_same j [d, d] g = .ok (.bl true) g
  | 0, d, g, h => by cases h
  | j + 1, d, g, h => by
    show dFn 4 (b_same (den_same j)) [d, d] g = _
    have ih := same_ok j
    cases d with
    | non => rfl
    | bl b => cases b <;> rfl
    | int i => 
      unfold dFn b_same
      simp only [dSeq, dIfS, dB, d2, dVar, dC, dOr, dTru, dA, dCons, dNil, dTup, dRet, dAndV, dNext, startE, List.map_cons, List.map_nil, List.length_cons, List.length_nil, List.cons_append, List.nil_append, List.replicate, List.getElem?_cons_zero, List.getElem?_cons_succ, bind_ok, toS_ok, sbind_nx, sbind_rt, isND, boolD, isiA, kndOf, isi1, tysOf, Option.map, truR, truD, eq_bl, eq_int, reduceCtorEq, decide_false, decide_true, Bool.false_eq_true, if_false, if_true, List.any_cons, List.any_nil, Bool.or_false, Bool.or_true, Bool.true_or, sz2]
    | str x => 
      unfold dFn b_same
      simp only [dSeq, dIfS, dB, d2, dVar, dC, dOr, dTru, dA, dCons, dNil, dTup, dRet, dAndV, dNext, startE, List.map_cons, List.map_nil, List.length_cons, List.length_nil, List.cons_append, List.nil_append, List.replicate, List.getElem?_cons_zero, List.getElem?_cons_succ, bind_ok, toS_ok, sbind_nx, sbind_rt, isND, boolD, isiA, kndOf, isi1, tysOf, Option.map, truR, truD, eq_bl, eq_strs (show SeqAt.shaped (.str x) = true from h), reduceCtorEq, decide_false, decide_true, Bool.false_eq_true, if_false, if_true, List.any_cons, List.any_nil, Bool.or_false, Bool.false_or, Bool.or_true, Bool.true_or, sz2]
    | tup xs =>
      have hh : xs.length ≤ sizeLine ∧ ∀ x ∈ xs, plain j x = true := by
        simp only [plain, Bool.and_eq_true, decide_eq_true_eq, List.all_eq_true] at h
        exact h
      have hs := same_all (d := .tup xs) (fun x hx => ih x g hx) (.inl rfl) hh.1 hh.2
      have ep : b_same (den_same j) [some (.tup xs), some (.tup xs), none, none] g = dRet (allG j) [some (.tup xs), some (.tup xs), none, none] g := by
        unfold b_same
        rw [← allG]
        simp only [dSeq, dIfS, dB, d2, dVar, dC, dOr, dTru, dA, dCons, dNil, dTup, dNot, dNext, List.getElem?_cons_zero, List.getElem?_cons_succ, bind_ok, toS_ok, sbind_nx, sbind_rt, isND, boolD, isiA, kndOf, isi1, tysOf, Option.map, truR, truD, reduceCtorEq, decide_false, decide_true, Bool.false_eq_true, if_false, if_true, List.any_cons, List.any_nil, Bool.or_false, Bool.false_or, Bool.or_true, Bool.true_or, Bool.not_true, Bool.not_false, sz2, ne_bl, len_tup, ne_int, List.length_cons, List.length_nil]
      show (match b_same (den_same j) [some (.tup xs), some (.tup xs), none, none] g with | .rt d g' => Res.ok d g' | .nx _ g' => .ok .non g' | .err x _ g' => .err x g' | _ => .bad) = _
      rw [ep]
      unfold dRet
      rw [hs]
      rfl
    | lst xs =>
      have hh : xs.length ≤ sizeLine ∧ ∀ x ∈ xs, plain j x = true := by
        simp only [plain, Bool.and_eq_true, decide_eq_true_eq, List.all_eq_true] at h
        exact h
      have hs := same_all (d := .lst xs) (fun x hx => ih x g hx) (.inr rfl) hh.1 hh.2
      have ep : b_same (den_same j) [some (.lst xs), some (.lst xs), none, none] g = dRet (allG j) [some (.lst xs), some (.lst xs), none, none] g := by
        unfold b_same
        rw [← allG]
        simp only [dSeq, dIfS, dB, d2, dVar, dC, dOr, dTru, dA, dCons, dNil, dTup, dNot, dNext, List.getElem?_cons_zero, List.getElem?_cons_succ, bind_ok, toS_ok, sbind_nx, sbind_rt, isND, boolD, isiA, kndOf, isi1, tysOf, Option.map, truR, truD, reduceCtorEq, decide_false, decide_true, Bool.false_eq_true, if_false, if_true, List.any_cons, List.any_nil, Bool.or_false, Bool.false_or, Bool.or_true, Bool.true_or, Bool.not_true, Bool.not_false, sz2, ne_bl, len_lst, ne_int, List.length_cons, List.length_nil]
      show (match b_same (den_same j) [some (.lst xs), some (.lst xs), none, none] g with | .rt d g' => Res.ok d g' | .nx _ g' => .ok .non g' | .err x _ g' => .err x g' | _ => .bad) = _
      rw [ep]
      unfold dRet
      rw [hs]
      rfl
    | _ => cases h
end Pl
namespace Pl
open PySem hiding Env
open L2 Dn
theorem cut_map {α β : Type} (f : α → β) (xs : List α) (lo hi : Option Int) : cutD (xs.map f) lo hi = (cutD xs lo hi).map f := by
  unfold cutD
  rw [List.length_map, List.map_take, List.map_drop]
theorem cut_len {α : Type} (xs : List α) (lo hi : Option Int) : (cutD xs lo hi).length ≤ xs.length := by
  unfold cutD
  rw [List.length_take, List.length_drop]
  omega
/-! ### the bag at the store's head -/
theorem for_mix : ∀ (zs : List Int) (s c : D) (m : Int) (l : Option D) (g : G) (ys : List D), 0 ≤ m → ∃ m' l', 0 ≤ m' ∧ forGo ⟨ys, none⟩ (gN 3) (dSet 2 (d2 modD (dA intA (dCons (d2 addD (d2 mulD (dVar 2) (dC (.int 6947))) (dVar 3)) (dNil))) (dC (.int 2147483563)))) (zs.map .int) [some s, some c, some (.int m), l] g = .nx [some s, some c, some (.int m'), l'] g
  | [], s, c, m, l, g, ys, hm => ⟨m, l, hm, rfl⟩
  | z :: zs, s, c, m, l, g, ys, hm => by
    obtain ⟨m', l', h1, h2⟩ := for_mix zs s c ((m * 6947 + z) % 2147483563) (some (.int z)) g ys (Int.emod_nonneg _ (by omega))
    refine ⟨m', l', h1, ?_⟩
    rw [← h2]
    have e : dSet 2 (d2 modD (dA intA (dCons (d2 addD (d2 mulD (dVar 2) (dC (.int 6947))) (dVar 3)) (dNil))) (dC (.int 2147483563))) [some s, some c, some (.int m), some (.int z)] g = .nx [some s, some c, some (.int ((m * 6947 + z) % 2147483563)), some (.int z)] g := by
      simp only [dC_ap, d1_ap, d2_ap, dA_ap, dB_ap, dNil_ap, dCons_ap, dONone_ap, dSl_ap, dTru_ap, dNot_ap, dAnd_ap, dOr_ap, dIf_ap, dNext_ap, dSeq_ap, dBreak_ap, dCont_ap, dNever_ap, dExpr_ap, dRet_ap, dRetN_ap, dIfS_ap, dSet_ap, dIt_ap, dItA_ap, dYes_ap, dCall_ap, dVar_ap, dOSome_ap, dSetIx_ap, dAsg_ap, dAndV_ap, dOrV_ap, dNotV_ap, dLst_ap, dTup_ap, dLstH_ap, lstS0, tupS0, lstHS0, lstS1, tupS1, lstHS1, lstS2, tupS2, lstHS2, lstS3, tupS3, lstHS3, lstS4, tupS4, lstHS4, lstS5, tupS5, lstHS5, lstS6, tupS6, lstHS6, lstS7, tupS7, lstHS7, lstS8, tupS8, lstHS8, lstS9, tupS9, lstHS9, lstS10, tupS10, lstHS10, List.getElem?_cons_zero, List.getElem?_cons_succ, List.set_cons_zero, List.set_cons_succ, List.length_cons, List.length_nil, bok, tok, snx, srt, boolD_ap, gN_ap, posD_ap, and_self, if_true, Bool.false_eq_true, if_false, decide_true, decide_false, Bool.not_true, Bool.not_false, truR_bl, mulD_ok (mul_short (i := m) (j := 6947) (by decide)), addD, intA, modD_ok (show (0 : Int) < 2147483563 by decide)]
    show (if Its.okB ⟨ys, none⟩ g then (match gN 3 (.int z) [some s, some c, some (.int m), l] with
      | none => .bad
      | some ρ1 => match dSet 2 (d2 modD (dA intA (dCons (d2 addD (d2 mulD (dVar 2) (dC (.int 6947))) (dVar 3)) (dNil))) (dC (.int 2147483563))) ρ1 g with
        | .nx ρ2 g2 => forGo ⟨ys, none⟩ (gN 3) _ (zs.map .int) ρ2 g2
        | .ct ρ2 g2 => forGo ⟨ys, none⟩ (gN 3) _ (zs.map .int) ρ2 g2
        | .bk ρ2 g2 => .nx ρ2 g2
        | .rt d g2 => .rt d g2
        | .err x ρ2 g2 => .err x ρ2 g2
        | .bad => .bad) else SRes.bad) = _
    rw [okB_none, if_pos rfl]
    show (match dSet 2 _ [some s, some c, some (.int m), some (.int z)] g with
        | .nx ρ2 g2 => forGo ⟨ys, none⟩ (gN 3) _ (zs.map .int) ρ2 g2
        | .ct ρ2 g2 => forGo ⟨ys, none⟩ (gN 3) _ (zs.map .int) ρ2 g2
        | .bk ρ2 g2 => .nx ρ2 g2
        | .rt d g2 => .rt d g2
        | .err x ρ2 g2 => .err x ρ2 g2
        | .bad => .bad) = _
    rw [e]
theorem sz5 : 0 + 1 + 1 + 1 + 1 + 1 ≤ sizeLine := by decide
theorem bag_ok (ns : List Int) (h : ns.length ≤ 63) : ∃ o, den_bag [.fz (ns.map .int)] [] = .ok (.ref 0) [o] ∧ BagO o := by
  generalize hz : cutD ns none (some 63) = zs
  have hzl : zs.length ≤ 63 := by rw [← hz]; exact Nat.le_trans (cut_len _ _ _) h
  obtain ⟨m', l', h1, h2⟩ := for_mix zs (.fz (ns.map .int)) (.lst (zs.map .int)) (100360 + 89 * (zs.length : Int)) none [] (zs.map .int) (by omega)
  refine ⟨bagO zs 0 0 m' 0, ?_, zs, 0, 0, m', 0, by omega, h1, rfl⟩
  have e0 : dLc (dIt (dSl (dVar 0) (dONone) (dOSome (dC (.int 63))))) (gN 3) [3] (dYes) (dA intA (dCons (dVar 3) (dNil))) [some (.fz (ns.map .int)), none, none, none] [] = .ok (.lst (zs.map .int)) [] := by
    have hs : dSl (dVar 0) (dONone) (dOSome (dC (.int 63))) [some (.fz (ns.map .int)), none, none, none] [] = .ok (.lst (zs.map .int)) [] := by
      show Res.ok (D.lst (cutD (ns.map D.int) none (some 63))) [] = _
      rw [cut_map, hz]
    rw [lc_lst (fun d => d) hs (by rw [List.length_map]; exact Nat.le_trans hzl (by decide)) (fun x hx => by
      obtain ⟨i, _, rfl⟩ := List.mem_map.mp hx
      rfl)]
    rw [List.map_id']
  have hit : iterR (.lst (zs.map .int)) [] = .ok ⟨zs.map .int, none⟩ [] := rfl
  unfold den_bag dFn
  show (match b_bag [some (.fz (ns.map .int)), none, none, none] [] with | .rt d g' => Res.ok d g' | .nx _ g' => .ok .non g' | .err x _ g' => .err x g' | _ => .bad) = _
  have e : b_bag [some (.fz (ns.map .int)), none, none, none] [] = .rt (.ref 0) [bagO zs 0 0 m' 0] := by
    unfold b_bag
    simp only [dC_ap, d1_ap, d2_ap, dA_ap, dB_ap, dNil_ap, dCons_ap, dONone_ap, dSl_ap, dTru_ap, dNot_ap, dAnd_ap, dOr_ap, dIf_ap, dNext_ap, dSeq_ap, dBreak_ap, dCont_ap, dNever_ap, dExpr_ap, dRet_ap, dRetN_ap, dIfS_ap, dSet_ap, dIt_ap, dItA_ap, dYes_ap, dCall_ap, dVar_ap, dOSome_ap, dSetIx_ap, dAsg_ap, dAndV_ap, dOrV_ap, dNotV_ap, dLst_ap, dTup_ap, dLstH_ap, lstS0, tupS0, lstHS0, lstS1, tupS1, lstHS1, lstS2, tupS2, lstHS2, lstS3, tupS3, lstHS3, lstS4, tupS4, lstHS4, lstS5, tupS5, lstHS5, lstS6, tupS6, lstHS6, lstS7, tupS7, lstHS7, lstS8, tupS8, lstHS8, lstS9, tupS9, lstHS9, lstS10, tupS10, lstHS10, List.getElem?_cons_zero, List.getElem?_cons_succ, List.set_cons_zero, List.set_cons_succ, List.length_cons, List.length_nil, bok, tok, snx, srt, boolD_ap, gN_ap, posD_ap, and_self, if_true, Bool.false_eq_true, if_false, decide_true, decide_false, Bool.not_true, Bool.not_false, truR_bl, e0, len_lst, List.length_map, mulD_ok (mul_shortL (i := 89) (j := (zs.length : Int)) (by decide)), addD, dFor, hit, h2]
    rfl
  rw [e]
theorem take1 {o : GO} {t : G} {many : Int} (hb : BagO o) (h0 : 0 < many) (h1 : many < 2 ^ 64) : ∃ r o', den_take [.ref 0, .int many] (o :: t) = .ok (.int r) (o' :: t) ∧ 0 ≤ r ∧ r < many ∧ BagO o' := by
  obtain ⟨r, o', e, a, b, c⟩ := take_ok (g := o :: t) (n := 0) ⟨o, rfl, hb⟩ h0 (Nat.lt_of_lt_of_le (show many.natAbs.log2 < 64 from by
    rw [Nat.log2_lt (by omega)]
    omega) (by decide))
  exact ⟨r, o', e, a, b, c⟩
/-- the same, the number as a Nat -/
theorem takeN {o : GO} {t : G} (many : Nat) (hb : BagO o) (h0 : 0 < many) (h1 : (many : Int) < 2 ^ 64) : ∃ (r : Nat) (o' : GO), den_take [.ref 0, .int (many : Int)] (o :: t) = .ok (.int (r : Int)) (o' :: t) ∧ r < many ∧ BagO o' := by
  obtain ⟨r, o', e, a, b, c⟩ := take1 (t := t) hb (show (0 : Int) < (many : Int) by omega) h1
  exact ⟨r.toNat, o', by rw [Int.toNat_of_nonneg a]; exact e, by omega, c⟩
/-- _law_of: one of the things -/
theorem of1 {o : GO} {t : G} {d : D} {xs : List D} (hb : BagO o) (hs : ∀ z, d ≠ .str z) (hq : ∀ o', seqOf (o' :: t) d = some xs) (hlen : lenA [d] (o :: t) = .ok (.int xs.length) (o :: t)) (h0 : xs ≠ []) (h1 : xs.length ≤ 1000000) : ∃ x o', den_of [.ref 0, d] (o :: t) = .ok x (o' :: t) ∧ x ∈ xs ∧ BagO o' := by
  obtain ⟨r, o', e, hr, hb'⟩ := takeN (t := t) xs.length hb (List.length_pos_iff.mpr h0) (by omega)
  refine ⟨xs[r], o', ?_, List.getElem_mem _, hb'⟩
  have hx : idxR d (.int (r : Int)) (o' :: t) = .ok xs[r] (o' :: t) := idx_at hs (hq o') (atI_nat (List.getElem?_eq_getElem hr))
  unfold den_of dFn
  show (match b_of [some (.ref 0), some d] (o :: t) with | .rt d g' => Res.ok d g' | .nx _ g' => .ok .non g' | .err x _ g' => .err x g' | _ => .bad) = _
  have e2 : b_of [some (.ref 0), some d] (o :: t) = .rt xs[r] (o' :: t) := by
    unfold b_of
    simp only [dC_ap, d1_ap, d2_ap, dA_ap, dB_ap, dNil_ap, dCons_ap, dONone_ap, dSl_ap, dTru_ap, dNot_ap, dAnd_ap, dOr_ap, dIf_ap, dNext_ap, dSeq_ap, dBreak_ap, dCont_ap, dNever_ap, dExpr_ap, dRet_ap, dRetN_ap, dIfS_ap, dSet_ap, dIt_ap, dItA_ap, dYes_ap, dCall_ap, dVar_ap, dOSome_ap, dSetIx_ap, dAsg_ap, dAndV_ap, dOrV_ap, dNotV_ap, dLst_ap, dTup_ap, dLstH_ap, lstS0, tupS0, lstHS0, lstS1, tupS1, lstHS1, lstS2, tupS2, lstHS2, lstS3, tupS3, lstHS3, lstS4, tupS4, lstHS4, lstS5, tupS5, lstHS5, lstS6, tupS6, lstHS6, lstS7, tupS7, lstHS7, lstS8, tupS8, lstHS8, lstS9, tupS9, lstHS9, lstS10, tupS10, lstHS10, List.getElem?_cons_zero, List.getElem?_cons_succ, List.set_cons_zero, List.set_cons_succ, List.length_cons, List.length_nil, bok, tok, snx, srt, boolD_ap, gN_ap, posD_ap, and_self, if_true, Bool.false_eq_true, if_false, decide_true, decide_false, Bool.not_true, Bool.not_false, truR_bl, hlen, e, hx]
  rw [e2]
theorem of_lst {o : GO} {t : G} {xs : List D} (hb : BagO o) (h0 : xs ≠ []) (h1 : xs.length ≤ 1000000) : ∃ x o', den_of [.ref 0, .lst xs] (o :: t) = .ok x (o' :: t) ∧ x ∈ xs ∧ BagO o' := of1 hb (fun _ z => nomatch z) (fun _ => rfl) len_lst h0 h1
theorem of_tup {o : GO} {t : G} {xs : List D} (hb : BagO o) (h0 : xs ≠ []) (h1 : xs.length ≤ 1000000) : ∃ x o', den_of [.ref 0, .tup xs] (o :: t) = .ok x (o' :: t) ∧ x ∈ xs ∧ BagO o' := of1 hb (fun _ z => nomatch z) (fun _ => rfl) len_tup h0 h1
/-! ### bag comprehensions -/
theorem lc_bag {it : Its} {fg : DG} {fe : DE} {ρ : Env} {t : G} {P : D → Prop} (hk : it.grd = none) : ∀ (ds : List D) (o : GO), BagO o → (∀ d ∈ ds, ∃ ρ1, fg d ρ = some ρ1 ∧ ∀ o, BagO o → ∃ y o', fe ρ1 (o :: t) = .ok y (o' :: t) ∧ P y ∧ BagO o') → ∃ ys o', lcGo it fg dYes fe ρ ds (o :: t) = .ok ys (o' :: t) ∧ ys.length = ds.length ∧ (∀ y ∈ ys, P y) ∧ BagO o'
  | [], o, hb, _ => ⟨[], o, by unfold lcGo Its.okB; rw [hk]; rfl, rfl, (fun y hy => nomatch hy), hb⟩
  | d :: ds, o, hb, h => by
    obtain ⟨ρ1, e1, h1⟩ := h d List.mem_cons_self
    obtain ⟨y, o1, e2, hp, hb1⟩ := h1 o hb
    obtain ⟨ys, o2, e3, hl, hps, hb2⟩ := lc_bag hk ds o1 hb1 (fun x hx => h x (List.mem_cons_of_mem _ hx))
    refine ⟨y :: ys, o2, ?_, by rw [List.length_cons, hl, List.length_cons], fun z hz => ?_, hb2⟩
    · unfold lcGo Its.okB
      rw [hk]
      simp only [if_true, e1, dYes, noE_ok, bind_ok, e2, e3]
    · rcases List.mem_cons.mp hz with rfl | hz
      · exact hp
      · exact hps z hz
theorem lc_rngB {fs : DA} {k n : Nat} {vs : List Nat} {fe : DE} {ρ : Env} {t : G} {o o1 : GO} {P : D → Prop} (hb : BagO o1) (hn : fs ρ (o :: t) = .ok [.int (n : Int)] (o1 :: t)) (h2 : n ≤ 1000000) (h : ∀ i, i < n → ∀ o, BagO o → ∃ y o', fe ((wipeE ρ vs).set k (some (.int (i : Int)))) (o :: t) = .ok y (o' :: t) ∧ P y ∧ BagO o') :
    ∃ ys o', dLc (dItA rng1 fs) (gN k) vs dYes fe ρ (o :: t) = .ok (.lst ys) (o' :: t) ∧ ys.length = n ∧ (∀ y ∈ ys, P y) ∧ BagO o' := by
  obtain ⟨ys, o', e, hl, hp, hb'⟩ := lc_bag (it := ⟨rngL 0 n, none⟩) (fg := gN k) (fe := fe) (ρ := wipeE ρ vs) (t := t) (P := P) rfl (rngL 0 n) o1 hb (fun d hd => by
    obtain ⟨i, hi, rfl⟩ := rngL_mem hd
    exact ⟨_, rfl, h i hi⟩)
  refine ⟨ys, o', ?_, by rw [hl, rngL_len], hp, hb'⟩
  unfold dLc dItA
  rw [hn, bind_ok, rng1_nat h2, bind_ok, if_pos (by rw [rngL_len]; exact sz h2), e, bind_ok]
/-! ### rows and tables of ints -/
def vec (n : Nat) (x : Nat → Int) : List D := (List.range n).map fun i => .int (x i)
def mat (n w : Nat) (a : Nat → Nat → Int) : List D := (List.range n).map fun i => .tup (vec w (a i))
theorem vec_len (n : Nat) (x : Nat → Int) : (vec n x).length = n := by simp [vec]
theorem mat_len (n w : Nat) (a : Nat → Nat → Int) : (mat n w a).length = n := by simp [mat]
theorem at_rng {n i : Nat} (f : Nat → D) (h : i < n) : atI ((List.range n).map f) (i : Int) = some (f i) := atI_nat (by rw [List.getElem?_map, List.getElem?_range h]; rfl)
theorem vec_at {n i : Nat} (x : Nat → Int) (h : i < n) : atI (vec n x) (i : Int) = some (.int (x i)) := at_rng _ h
theorem mat_at {n w i : Nat} (a : Nat → Nat → Int) (h : i < n) : atI (mat n w a) (i : Int) = some (.tup (vec w (a i))) := at_rng _ h
theorem vec_of (xs : List Int) : xs.map D.int = vec xs.length (fun i => xs.getD i 0) := by
  unfold vec
  apply List.ext_getElem
  · simp
  · intro i h1 h2
    simp at h1 h2 ⊢
    simp [h1]
theorem vec_ints (n : Nat) (x : Nat → Int) : vec n x = ((List.range n).map x).map D.int := by
  unfold vec
  rw [List.map_map]
  rfl
theorem vec_congr {n : Nat} {x y : Nat → Int} (h : ∀ i, i < n → x i = y i) : vec n x = vec n y := List.map_congr_left fun i hi => by rw [h i (List.mem_range.mp hi)]
theorem plain_int (j : Nat) (i : Int) : plain (j + 1) (.int i) = true := rfl
theorem plain_tup {j : Nat} {xs : List D} (hl : xs.length ≤ 1000000) (h : ∀ x ∈ xs, plain j x = true) : plain (j + 1) (.tup xs) = true := by
  show (decide (xs.length ≤ sizeLine) && xs.all (plain j)) = true
  rw [decide_eq_true (sz hl), Bool.true_and, List.all_eq_true]
  exact h
theorem plain_lst {j : Nat} {xs : List D} (hl : xs.length ≤ 1000000) (h : ∀ x ∈ xs, plain j x = true) : plain (j + 1) (.lst xs) = true := by
  show (decide (xs.length ≤ sizeLine) && xs.all (plain j)) = true
  rw [decide_eq_true (sz hl), Bool.true_and, List.all_eq_true]
  exact h
theorem plain_vec {j n : Nat} (x : Nat → Int) (h : n ≤ 1000000) : plain (j + 2) (.tup (vec n x)) = true := plain_tup (by rw [vec_len]; exact h) fun d hd => by
  obtain ⟨i, _, rfl⟩ := List.mem_map.mp hd
  rfl
theorem plain_mat {j n w : Nat} (a : Nat → Nat → Int) (h : n ≤ 1000000) (h' : w ≤ 1000000) : plain (j + 3) (.tup (mat n w a)) = true := plain_tup (by rw [mat_len]; exact h) fun d hd => by
  obtain ⟨i, _, rfl⟩ := List.mem_map.mp hd
  exact plain_vec _ h'
end Pl
namespace Pl
open PySem hiding Env
open L2 Dn
theorem lc_ix {it : Its} {fg : DG} {fe : DE} {ρ : Env} {g : G} (hk : it.grd = none) {α : Type} {h f : α → D} : ∀ is : List α, (∀ i ∈ is, ∃ ρ1, fg (h i) ρ = some ρ1 ∧ fe ρ1 g = .ok (f i) g) → lcGo it fg dYes fe ρ (is.map h) g = .ok (is.map f) g
  | [], _ => by
    unfold lcGo Its.okB
    rw [hk]
    rfl
  | i :: is, hh => by
    obtain ⟨ρ1, e1, e3⟩ := hh i List.mem_cons_self
    have e2 : dYes ρ1 g = .ok true g := rfl
    rw [List.map_cons]
    unfold lcGo Its.okB
    rw [hk]
    simp only [if_true, e1, e2, noE_ok, bind_ok, e3, lc_ix hk is (fun x hx => hh x (List.mem_cons_of_mem _ hx)), List.map_cons]
theorem lc_ixD {fi : DI} {fg : DG} {fe : DE} {vs : List Nat} {ρ : Env} {g : G} {α : Type} {h f : α → D} {is : List α} (hi : fi ρ g = .ok ⟨is.map h, none⟩ g) (hl : is.length ≤ 1000000) (hh : ∀ i ∈ is, ∃ ρ1, fg (h i) (wipeE ρ vs) = some ρ1 ∧ fe ρ1 g = .ok (f i) g) : dLc fi fg vs dYes fe ρ g = .ok (.lst (is.map f)) g := by
  unfold dLc
  rw [hi, bind_ok]
  simp only [List.length_map, sz hl, if_true]
  rw [lc_ix rfl is hh, bind_ok]
/-- [e for x in xs], xs a tuple or list given by index -/
theorem lc_tupR {fa : DE} {k m : Nat} {vs : List Nat} {fe : DE} {ρ : Env} {g : G} {h f : Nat → D} (hn : fa ρ g = .ok (.tup ((List.range m).map h)) g) (hl : m ≤ 1000000) (hh : ∀ i, i < m → fe ((wipeE ρ vs).set k (some (h i))) g = .ok (f i) g) : dLc (dIt fa) (gN k) vs dYes fe ρ g = .ok (.lst ((List.range m).map f)) g :=
  lc_ixD (h := h) (by rw [dIt_ap, hn]; rfl) (by rw [List.length_range]; exact hl) fun i hi => ⟨_, rfl, hh i (List.mem_range.mp hi)⟩
theorem ints_ex {P : Int → Prop} : ∀ ys : List D, (∀ y ∈ ys, ∃ z : Int, y = .int z ∧ P z) → ∃ zs : List Int, ys = zs.map D.int ∧ ∀ z ∈ zs, P z
  | [], _ => ⟨[], rfl, fun z hz => nomatch hz⟩
  | y :: ys, h => by
    obtain ⟨z, rfl, hz⟩ := h y List.mem_cons_self
    obtain ⟨zs, rfl, hzs⟩ := ints_ex ys fun x hx => h x (List.mem_cons_of_mem _ hx)
    refine ⟨z :: zs, rfl, fun w hw => ?_⟩
    rcases List.mem_cons.mp hw with rfl | hw
    · exact hz
    · exact hzs w hw
theorem vec_ex {P : Int → Prop} {ys : List D} {n : Nat} (hl : ys.length = n) (h : ∀ y ∈ ys, ∃ z : Int, y = .int z ∧ P z) : ∃ x : Nat → Int, ys = vec n x ∧ ∀ i, i < n → P (x i) := by
  obtain ⟨zs, rfl, hz⟩ := ints_ex ys h
  rw [List.length_map] at hl
  subst hl
  refine ⟨fun i => zs.getD i 0, vec_of zs, fun i hi => ?_⟩
  show P (zs.getD i 0)
  rw [List.getD_eq_getElem?_getD, List.getElem?_eq_getElem hi]
  exact hz _ (List.getElem_mem hi)
theorem mat_ex {P : Int → Prop} {w : Nat} : ∀ {ys : List D} {n : Nat}, ys.length = n → (∀ y ∈ ys, ∃ x, y = .tup (vec w x) ∧ ∀ j, j < w → P (x j)) → ∃ a : Nat → Nat → Int, ys = mat n w a ∧ ∀ i, i < n → ∀ j, j < w → P (a i j) := by
  intro ys n hl h
  have hz : ∀ i, ∃ x : Nat → Int, i < n → ys[i]? = some (.tup (vec w x)) ∧ ∀ j, j < w → P (x j) := fun i => by
    by_cases hi : i < ys.length
    · obtain ⟨x, e, hx⟩ := h ys[i] (List.getElem_mem hi)
      exact ⟨x, fun _ => ⟨by rw [List.getElem?_eq_getElem hi, e], hx⟩⟩
    · exact ⟨fun _ => 0, fun z => absurd z (by omega)⟩
  refine ⟨fun i => Classical.choose (hz i), ?_, fun i hi => (Classical.choose_spec (hz i) hi).2⟩
  refine List.ext_getElem? fun i => ?_
  by_cases hi : i < n
  · rw [(Classical.choose_spec (hz i) hi).1]
    unfold mat
    rw [List.getElem?_map, List.getElem?_range hi]
    rfl
  · rw [List.getElem?_eq_none (by omega), List.getElem?_eq_none (by rw [mat_len]; omega)]
theorem zip_vec {n : Nat} (x y : Nat → Int) : zipL (vec n x) (vec n y) = (List.range n).map fun i => .tup [.int (x i), .int (y i)] := by
  unfold zipL vec
  rw [List.zipWith_map, List.zipWith_self]
/-! ### rows against [] -/
theorem toPys_ints : ∀ xs : List Int, toPys (xs.map D.int) = some (xs.map PyData.int)
  | [] => rfl
  | x :: xs => by
    show (some (PyData.int x)).bind (fun p => (toPys (xs.map D.int)).map fun ps => p :: ps) = _
    rw [toPys_ints xs]
    rfl
theorem lay_ints : ∀ xs : List Int, PyData.canLayAll0 (xs.map PyData.int) = true ∧ PyData.depthAll (xs.map PyData.int) = 0
  | [] => ⟨by simp [PyData.canLayAll0], by simp [PyData.depthAll]⟩
  | x :: xs => by
    have := lay_ints xs
    exact ⟨by simp [PyData.canLayAll0, PyData.canLay0, this.1], by simp [PyData.depthAll, PyData.depth, this.2]⟩
theorem rows_py {w : Nat} : ∀ rows : List D, (∀ d ∈ rows, ∃ x, d = .tup (vec w x)) → ∃ ps, toPys rows = some ps ∧ PyData.canLayAll0 ps = true ∧ PyData.depthAll ps ≤ 1 ∧ (ps = [] ↔ rows = [])
  | [], _ => ⟨[], rfl, by simp [PyData.canLayAll0], by simp [PyData.depthAll], by simp⟩
  | d :: ds, h => by
    obtain ⟨x, rfl⟩ := h d List.mem_cons_self
    obtain ⟨ps, e1, e2, e3, _⟩ := rows_py ds fun y hy => h y (List.mem_cons_of_mem _ hy)
    have l := lay_ints ((List.range w).map x)
    refine ⟨.tuple (((List.range w).map x).map PyData.int) :: ps, ?_, ?_, ?_, by simp⟩
    · show (toPy (.tup (vec w x))).bind (fun p => (toPys ds).map fun ps => p :: ps) = _
      rw [e1, vec_ints]
      show ((toPys (((List.range w).map x).map D.int)).map PyData.tuple).bind _ = _
      rw [toPys_ints]
      rfl
    · simp only [PyData.canLayAll0, PyData.canLay0, l.1, e2, Bool.and_self]
    · simp only [PyData.depthAll, PyData.depth, l.2]
      omega
theorem ne_rows {w n : Nat} {rows : List D} {g : G} (hg : goL g n = some rows) (h : ∀ d ∈ rows, ∃ x, d = .tup (vec w x)) : neD (.ref n) (.lst []) g = .ok (.bl (!decide (rows = []))) g := by
  obtain ⟨ps, e1, e2, e3, e4⟩ := rows_py rows h
  have h1 : toPyG g (.ref n) = some (.list ps) := by
    show (goL g n).bind (fun xs => (toPys xs).map PyData.list) = _
    rw [hg]
    show (toPys rows).map _ = _
    rw [e1]
    rfl
  have s1 : SeqAt.shaped (.list ps) = true := by
    simp only [SeqAt.shaped, PyData.canLay0, PyData.depth, e2, Bool.true_and]
    exact decide_eq_true (Nat.le_trans (Nat.succ_le_succ e3) (by decide))
  have s2 : SeqAt.shaped (.list []) = true := by simp [SeqAt.shaped, PyData.canLay0, PyData.depth, PyData.canLayAll0, PyData.depthAll]
  rw [ne_py h1 (show toPyG g (.lst []) = some (.list []) from rfl) s1 s2]
  cases ps with
  | nil => rw [decide_eq_true (e4.mp rfl)]; simp [PyData.eqv, PyData.eqvAll]
  | cons p ps => rw [decide_eq_false (fun z => nomatch e4.mpr z)]; simp [PyData.eqv, PyData.eqvAll]
theorem dApp_ap (fo fv : DE) (ρ : Env) (g : G) : dApp fo fv ρ g = (fo ρ g).toS ρ fun x g1 => match goL g1 (match x with | .ref n => n | _ => g1.length) with
  | some _ => (fv ρ g1).toS ρ fun v g2 => (match appD x v g2 with
    | some g3 => .nx ρ g3
    | none => .bad)
  | none => .bad := rfl
theorem app1 {o : GO} {xs : List D} {v : D} (h : xs.length < 1000000) : appD (.ref 1) v [o, .lst xs] = some [o, .lst (xs ++ [v])] := by
  show (if xs.length < sizeLine then _ else none) = _
  rw [if_pos (Nat.lt_of_lt_of_le h (by decide))]
  rfl
/-! ### for with an invariant -/
theorem for_inv {it : Its} {fg : DG} {fb : DS} (hk : it.grd = none) (I : Nat → Env → G → Prop) (n : Nat) : ∀ (ds : List D) (i : Nat) (ρ : Env) (g : G), i + ds.length = n → I i ρ g → (∀ j d ρ g, ds[j]? = some d → I (i + j) ρ g → ∃ ρ1, fg d ρ = some ρ1 ∧ ∃ ρ2 g2, fb ρ1 g = .nx ρ2 g2 ∧ I (i + j + 1) ρ2 g2) → ∃ ρ' g', forGo it fg fb ds ρ g = .nx ρ' g' ∧ I n ρ' g'
  | [], i, ρ, g, hl, hi, _ => ⟨ρ, g, by unfold forGo Its.okB; rw [hk]; rfl, (by simpa using hl : i = n) ▸ hi⟩
  | d :: ds, i, ρ, g, hl, hi, h => by
    obtain ⟨ρ1, e1, ρ2, g2, e2, h2⟩ := h 0 d ρ g rfl hi
    obtain ⟨ρ', g', e3, h3⟩ := for_inv hk I n ds (i + 1) ρ2 g2 (by rw [← hl, List.length_cons]; omega) h2 (fun j d ρ g hd hi => by
      have := h (j + 1) d ρ g hd (by rw [show i + (j + 1) = i + 1 + j by omega]; exact hi)
      rw [show i + (j + 1) + 1 = i + 1 + j + 1 by omega] at this
      exact this)
    refine ⟨ρ', g', ?_, h3⟩
    unfold forGo Its.okB
    rw [hk]
    simp only [if_true, e1, e2, e3]
theorem for_rng {fs : DA} {k n : Nat} {fb : DS} {ρ : Env} {g : G} (I : Nat → Env → G → Prop) (hn : fs ρ g = .ok [.int (n : Int)] g) (h2 : n ≤ 1000000) (h0 : I 0 ρ g) (h : ∀ i ρ g, i < n → I i ρ g → ∃ ρ2 g2, fb (ρ.set k (some (.int (i : Int)))) g = .nx ρ2 g2 ∧ I (i + 1) ρ2 g2) :
    ∃ ρ' g', dFor (dItA rng1 fs) (gN k) fb ρ g = .nx ρ' g' ∧ I n ρ' g' := by
  obtain ⟨ρ', g', e, hI⟩ := for_inv (it := ⟨rngL 0 n, none⟩) (fg := gN k) (fb := fb) rfl I n (rngL 0 n) 0 ρ g (by rw [rngL_len]; omega) h0 (fun j d ρ g hd hI => by
    have hj : j < n := by have := (List.getElem?_eq_some_iff.mp hd).1; rwa [rngL_len] at this
    have : d = .int (j : Int) := by
      unfold rngL at hd
      rw [List.getElem?_map, List.getElem?_range hj] at hd
      simp only [Option.map, Option.some.injEq] at hd
      rw [← hd, Int.zero_add]
    subst this
    rw [Nat.zero_add] at hI ⊢
    exact ⟨_, rfl, h j ρ g hj hI⟩)
  refine ⟨ρ', g', ?_, hI⟩
  unfold dFor dItA
  rw [hn, bind_ok, rng1_nat h2, toS_ok]
  exact e
theorem fn_rt {n : Nat} {fS : DS} {ds : List D} {g g' : G} {d : D} (h : fS (startE n ds) g = .rt d g') : dFn n fS ds g = .ok d g' := by
  unfold dFn
  rw [h]
theorem ret_ok {f : DE} {ρ : Env} {g g' : G} {d : D} (h : f ρ g = .ok d g') : dRet f ρ g = .rt d g' := by
  rw [dRet_ap, h]
  rfl
/-! ### freezing -/
theorem frz_ints {k : Nat → Option D} : ∀ xs : List Int, frzs k (xs.map D.int) = some (xs.map D.int)
  | [] => rfl
  | x :: xs => by
    show (some (D.int x)).bind (fun e => (frzs k (xs.map D.int)).map fun es => e :: es) = _
    rw [frz_ints xs]
    rfl
theorem frz_vec {k : Nat → Option D} (n : Nat) (x : Nat → Int) : frz k (.tup (vec n x)) = some (.tup (vec n x)) := by
  rw [vec_ints]
  show (frzs k _).map D.tup = _
  rw [frz_ints]
  rfl
theorem frzs_all {k : Nat → Option D} : ∀ ds : List D, (∀ d ∈ ds, frz k d = some d) → frzs k ds = some ds
  | [], _ => rfl
  | d :: ds, h => by
    show (frz k d).bind (fun e => (frzs k ds).map fun es => e :: es) = _
    rw [h d List.mem_cons_self, frzs_all ds (fun x hx => h x (List.mem_cons_of_mem _ hx))]
    rfl
theorem below_ints (n : Nat) : ∀ xs : List Int, belowDs n (xs.map D.int) = true
  | [] => rfl
  | x :: xs => below_ints n xs
theorem below_bag {o : GO} (h : BagO o) (n : Nat) : belowO n o = true := by
  obtain ⟨cells, i, r, m, c, _, _, rfl⟩ := h
  show (belowDs n (cells.map D.int) && true) = true
  rw [below_ints]
  rfl
/-- a def that made one list of its own beside the bag -/
theorem fnZ_one {n : Nat} {fS : DS} {ds : List D} {o o' : GO} {xs : List D} (h : fS (startE n ds) [o] = .rt (.ref 1) [o', .lst xs]) (hb : BagO o') (hx : ∀ (k : Nat → Option D), ∀ d ∈ xs, frz k d = some d) : dFnZ n fS ds [o] = .ok (.lst xs) [o'] := by
  unfold dFnZ
  rw [h]
  have hk : Kept [o] [o', .lst xs] := ⟨by simp, fun i hi => by
    have : i = 0 := by simpa using hi
    subst this
    exact .inr ⟨o', rfl, below_bag hb _⟩⟩
  simp only [hk, if_true]
  have : frz (frzK [o].length [o', .lst xs] 4) (.ref 1) = some (.lst xs) := by
    show (frzs (frzK 1 [o', .lst xs] 3) xs).map D.lst = _
    rw [frzs_all xs (hx _)]
    rfl
  rw [this]
  rfl
end Pl
namespace Pl
open PySem hiding Env
open L2 Dn
/-! ### texts -/
def Cs (n : Nat) (s : Str) : Prop := s.cps.toList.length ≤ n ∧ ∀ c ∈ s.cps.toList, c < 0x110000
theorem Cs.len {n : Nat} {s : Str} (h : Cs n s) : s.length ≤ n := by
  have := h.1
  rw [Array.length_toList] at this
  exact this
theorem Cs.mono {n m : Nat} {s : Str} (h : Cs n s) (hm : n ≤ m) : Cs m s := ⟨Nat.le_trans h.1 hm, h.2⟩
theorem Cs.shaped {n : Nat} {s : Str} (h : Cs n s) : SeqAt.shaped (.str s) = true := by
  simp only [SeqAt.shaped, PyData.canLay0, PyData.depth, PyData.strOk]
  rw [Array.all_eq_true'.mpr (fun c hc => decide_eq_true (h.2 c (Array.mem_toList_iff.mpr hc)))]
  rfl
theorem Cs.app {n m : Nat} {a b : Str} (h : Cs n a) (h' : Cs m b) : Cs (n + m) (a ++ b) := by
  have e : (a ++ b).cps.toList = a.cps.toList ++ b.cps.toList := by
    show (a.cps ++ b.cps).toList = _
    rw [Array.toList_append]
  unfold Cs
  rw [e, List.length_append]
  refine ⟨Nat.add_le_add h.1 h'.1, fun c hc => ?_⟩
  rcases List.mem_append.mp hc with hc | hc
  · exact h.2 c hc
  · exact h'.2 c hc
theorem Cs.cut {n : Nat} {a : Str} (h : Cs n a) (lo hi : Option Int) : Cs n (cutS a lo hi) := by
  unfold Cs cutS
  refine ⟨?_, fun c hc => h.2 c (List.mem_of_mem_drop (List.mem_of_mem_take hc))⟩
  show ((a.cps.toList.drop _).take _).length ≤ n
  have := h.1
  rw [List.length_take, List.length_drop]
  omega
theorem Cs.one {n : Nat} {s : Str} {c : Nat} (h : Cs n s) (hc : c ∈ s.cps.toList) : Cs 1 ⟨#[c]⟩ := ⟨Nat.le_refl _, fun x hx => by
  have : x = c := by simpa using hx
  rw [this]
  exact h.2 c hc⟩
theorem Cs.lit {n : Nat} {s : Str} (h : (decide (s.cps.toList.length ≤ n) && s.cps.toList.all fun c => decide (c < 0x110000)) = true) : Cs n s := by
  obtain ⟨h1, h2⟩ := Bool.and_eq_true_iff.mp h
  exact ⟨of_decide_eq_true h1, fun c hc => of_decide_eq_true (List.all_eq_true.mp h2 c hc)⟩
theorem join_nil0 : ∀ (ys : List Str), (∀ y ∈ ys, Cs 1 y) → Cs ys.length (Str.join "" ys)
  | [], _ => ⟨Nat.le_refl _, fun c hc => nomatch hc⟩
  | [x], h => h x List.mem_cons_self
  | x :: y :: r, h => by
    have h1 := h x List.mem_cons_self
    have h2 := join_nil0 (y :: r) fun z hz => h z (List.mem_cons_of_mem _ hz)
    have h3 : Cs 0 ("" : Str) := Cs.lit (by decide +kernel)
    have := (h1.app h3).app h2
    rw [List.length_cons, Nat.add_comm]
    exact this
theorem join_nil (ys : List Str) (h : ∀ y ∈ ys, Cs 1 y) : Cs ys.length (Txt.join "" ys) := by
  rw [show Txt.join "" ys = Str.join "" ys from PySem.StrLaws.glued_eq_join _ _]
  exact join_nil0 ys h
theorem len_str {s : Str} {g : G} (h : s.length ≤ 1000000) : lenA [.str s] g = .ok (.int s.length) g := if_pos (sz h)
theorem of_str {o : GO} {t : G} {s : Str} {n : Nat} (hb : BagO o) (hs : Cs n s) (h0 : 0 < s.length) (h1 : s.length ≤ 1000000) : ∃ y o', den_of [.ref 0, .str s] (o :: t) = .ok (.str y) (o' :: t) ∧ Cs 1 y ∧ BagO o' := by
  obtain ⟨r, o', e, hr, hb'⟩ := takeN (t := t) s.length hb h0 (by omega)
  have hr' : r < s.cps.toList.length := by rw [Array.length_toList]; exact hr
  have ha : atI s.cps.toList (r : Int) = some s.cps.toList[r] := atI_nat (List.getElem?_eq_getElem hr')
  refine ⟨⟨#[s.cps.toList[r]]⟩, o', ?_, hs.one (List.getElem_mem hr'), hb'⟩
  have hx : idxR (.str s) (.int (r : Int)) (o' :: t) = .ok (.str ⟨#[s.cps.toList[r]]⟩) (o' :: t) := by
    unfold idxR
    have : idx1 (.str s) (.int (r : Int)) (o' :: t) = some (.str ⟨#[s.cps.toList[r]]⟩) := by
      unfold idx1
      simp only [ha]
      rw [if_pos (sz h1)]
    rw [this]
  refine fn_rt ?_
  show b_of [some (.ref 0), some (.str s)] (o :: t) = _
  unfold b_of
  simp only [dC_ap, d1_ap, d2_ap, dA_ap, dB_ap, dNil_ap, dCons_ap, dONone_ap, dSl_ap, dTru_ap, dNot_ap, dAnd_ap, dOr_ap, dIf_ap, dNext_ap, dSeq_ap, dBreak_ap, dCont_ap, dNever_ap, dExpr_ap, dRet_ap, dRetN_ap, dIfS_ap, dSet_ap, dIt_ap, dItA_ap, dYes_ap, dCall_ap, dVar_ap, dOSome_ap, dSetIx_ap, dAsg_ap, dAndV_ap, dOrV_ap, dNotV_ap, dLst_ap, dTup_ap, dLstH_ap, lstS0, tupS0, lstHS0, lstS1, tupS1, lstHS1, lstS2, tupS2, lstHS2, lstS3, tupS3, lstHS3, lstS4, tupS4, lstHS4, lstS5, tupS5, lstHS5, lstS6, tupS6, lstHS6, lstS7, tupS7, lstHS7, lstS8, tupS8, lstHS8, lstS9, tupS9, lstHS9, lstS10, tupS10, lstHS10, List.getElem?_cons_zero, List.getElem?_cons_succ, List.set_cons_zero, List.set_cons_succ, List.length_cons, List.length_nil, bok, tok, snx, srt, boolD_ap, gN_ap, posD_ap, and_self, if_true, Bool.false_eq_true, if_false, decide_true, decide_false, Bool.not_true, Bool.not_false, truR_bl, len_str h1, e, hx]
theorem strs_ex {P : Str → Prop} : ∀ ys : List D, (∀ y ∈ ys, ∃ z : Str, y = .str z ∧ P z) → ∃ zs : List Str, ys = zs.map D.str ∧ ∀ z ∈ zs, P z
  | [], _ => ⟨[], rfl, fun z hz => nomatch hz⟩
  | y :: ys, h => by
    obtain ⟨z, rfl, hz⟩ := h y List.mem_cons_self
    obtain ⟨zs, rfl, hzs⟩ := strs_ex ys fun x hx => h x (List.mem_cons_of_mem _ hx)
    refine ⟨z :: zs, rfl, fun w hw => ?_⟩
    rcases List.mem_cons.mp hw with rfl | hw
    · exact hz
    · exact hzs w hw
theorem strsOf_map : ∀ ns : List Str, strsOf (ns.map D.str) = some ns
  | [] => rfl
  | n :: ns => by
    show (strsOf (ns.map D.str)).map _ = _
    rw [strsOf_map ns]
    rfl
theorem sum_ones {n : Nat} : ∀ ys : List Str, (∀ y ∈ ys, Cs n y) → (ys.map (·.length)).sum ≤ ys.length * n
  | [], _ => Nat.zero_le _
  | y :: ys, h => by
    have h1 := (h y List.mem_cons_self).len
    have h2 := sum_ones ys fun z hz => h z (List.mem_cons_of_mem _ hz)
    rw [List.map_cons, List.sum_cons, List.length_cons, Nat.add_mul]
    omega
theorem join_ok {ys : List Str} {g : G} (h : ∀ y ∈ ys, Cs 1 y) (hl : ys.length ≤ 1000) : joinM (.str "") [.lst (ys.map .str)] g = .ok (.str (Txt.join "" ys)) g := by
  have h0 : ("" : Str).length = 0 := by decide +kernel
  have hs := sum_ones ys h
  unfold joinM
  simp only [show (seqOf g (.lst (ys.map D.str))).bind strsOf = some ys from strsOf_map ys]
  exact if_pos (by rw [h0]; omega)
theorem cons1 {fa : DE} {ρ : Env} {g g1 : G} {x : D} (h : fa ρ g = .ok x g1) : dCons fa dNil ρ g = .ok [x] g1 := by
  rw [dCons_ap, h]
  rfl
theorem dM_str {k : FM} {fo : DE} {fs : DA} {ρ : Env} {g g1 g2 : G} {s : Str} {xs : List D} (h1 : fo ρ g = .ok (.str s) g1) (h2 : fs ρ g1 = .ok xs g2) : dM "str" k fo fs ρ g = k (.str s) xs g2 := by
  show (fo ρ g).bind _ = _
  rw [h1]
  show (fs ρ g1).bind _ = _
  rw [h2]
  rfl
theorem andV {f h : DE} {ρ : Env} {g : G} {a b : Bool} (h1 : f ρ g = .ok (.bl a) g) (h2 : h ρ g = .ok (.bl b) g) : dAndV f h ρ g = .ok (.bl (a && b)) g := by
  rw [dAndV_ap, h1]
  cases a
  · rfl
  · exact h2
theorem andF {f h : DE} {ρ : Env} {g : G} (h1 : f ρ g = .ok (.bl false) g) : dAndV f h ρ g = .ok (.bl false) g := by
  rw [dAndV_ap, h1]
  rfl
theorem chainLe {fa fb fc : DE} {ρ : Env} {g : G} {a b c : Int} (h1 : fa ρ g = .ok (.int a) g) (h2 : fb ρ g = .ok (.int b) g) (h3 : fc ρ g = .ok (.int c) g) : dChain leD leD fa fb fc ρ g = .ok (.bl (decide (a ≤ b) && decide (b ≤ c))) g := by
  show (fa ρ g).bind _ = _
  rw [h1]
  show (fb ρ g).bind _ = _
  rw [h2]
  show (match D.bl (decide (a ≤ b)) with | .bl true => (fc ρ g).bind fun u g4 => leD (.int b) u g4 | .bl false => .ok (.bl false) g | _ => .bad) = _
  cases decide (a ≤ b)
  · rfl
  · show (fc ρ g).bind _ = _
    rw [h3]
    rfl
theorem ne_str {i j : Str} {g : G} {n m : Nat} (h : Cs n i) (h' : Cs m j) : neD (.str i) (.str j) g = .ok (.bl (!(i == j))) g := by
  rw [ne_py (toPy_str g i) (toPy_str g j) h.shaped h'.shaped]
  unfold PyData.eqv
  rfl
end Pl
namespace Lk02
open PySem L2 Dn
def top (i : Nat) : Stmt := PySem.Challenge.pw_twinbegun_k02_names_and_integers.main.body.getD i (.Pass ⟨0, 0, 0, 0⟩)
/-! is_name -/
abbrev s_is_name : Stmt := top 2
theorem sc_is_name : FnScope ["value", "sign"] ["value"] (defScope s_is_name) := ⟨rfl, rfl, rfl, by decide +kernel, rfl, by decide +kernel, by decide +kernel⟩
noncomputable def b_is_name : DS := dRet (dAndV (dA isiA (dCons (dVar 0) (dCons (dC (.ty .str)) (dNil)))) (dAndV (dChain leD leD (dC (.int 1)) (dA lenA (dCons (dVar 0) (dNil))) (dC (.int 6))) (dAndV (d2 notInD (dVar 0) (dC (.ftup [.str "amount", .str "one"]))) (dA allA (dCons (dLc (dIt (dVar 0)) (gN 1) [1] (dYes) (d2 inD (dVar 1) (dC (.str "abcdefghijklmnopqrstuvwxyz")))) (dNil))))))
noncomputable def den_is_name : Fn := dFn 2 b_is_name
abbrev dd_is_name : He.DefD := mkD "is_name" s_is_name

/-! is_integer -/
abbrev s_is_integer : Stmt := top 3
theorem sc_is_integer : FnScope ["value", "least", "most"] ["value", "least", "most"] (defScope s_is_integer) := ⟨rfl, rfl, rfl, by decide +kernel, rfl, by decide +kernel, by decide +kernel⟩
noncomputable def b_is_integer : DS := dRet (dAndV (dA isiA (dCons (dVar 0) (dCons (dC (.ty .int)) (dNil)))) (dAndV (dNotV (dA isiA (dCons (dVar 0) (dCons (dC (.ty .bool)) (dNil))))) (dChain leD leD (dVar 1) (dVar 0) (dVar 2))))
noncomputable def den_is_integer : Fn := dFn 3 b_is_integer
abbrev dd_is_integer : He.DefD := mkD "is_integer" s_is_integer

/-! _law_bag -/
abbrev s__law_bag : Stmt := top 5
theorem sc__law_bag : FnScope ["_law_script", "_law_cells", "_law_mixed", "_law_cell"] ["_law_script"] (defScope s__law_bag) := ⟨rfl, rfl, rfl, by decide +kernel, rfl, by decide +kernel, by decide +kernel⟩
noncomputable def b__law_bag : DS := dSeq (dSet 1 (dLc (dIt (dSl (dVar 0) (dONone) (dOSome (dC (.int 63))))) (gN 3) [3] (dYes) (dA intA (dCons (dVar 3) (dNil))))) (dSeq (dSet 2 (d2 addD (dC (.int 100360)) (d2 mulD (dC (.int 89)) (dA lenA (dCons (dVar 1) (dNil)))))) (dSeq (dFor (dIt (dVar 1)) (gN 3) (dSet 2 (d2 modD (dA intA (dCons (d2 addD (d2 mulD (dVar 2) (dC (.int 6947))) (dVar 3)) (dNil))) (dC (.int 2147483563))))) (dRet (dLstH (dCons (dVar 1) (dCons (dC (.int 0)) (dCons (dC (.int 0)) (dCons (dVar 2) (dCons (dC (.int 0)) (dNil))))))))))
noncomputable def den__law_bag : Fn := dFn 4 b__law_bag
abbrev dd__law_bag : He.DefD := mkD "_law_bag" s__law_bag

/-! _law_take -/
abbrev s__law_take : Stmt := top 6
theorem sc__law_take : FnScope ["_law_bag_here", "_law_many", "_law_old", "_law_cell", "_law_digit"] ["_law_bag_here", "_law_many"] (defScope s__law_take) := ⟨rfl, rfl, rfl, by decide +kernel, rfl, by decide +kernel, by decide +kernel⟩
noncomputable def b__law_take : DS := dSeq (dSetIx (dVar 0) (dC (.int 4)) (d2 addD (d2 idxR (dVar 0) (dC (.int 4))) (dC (.int 1)))) (dSeq (dIfS (dAnd (dB (d2 ltD (d2 idxR (dVar 0) (dC (.int 2))) (dC (.int 2)))) (dB (d2 ltD (d2 idxR (dVar 0) (dC (.int 1))) (dA lenA (dCons (d2 idxR (dVar 0) (dC (.int 0))) (dNil)))))) (dSeq (dSet 3 (d2 idxR (d2 idxR (dVar 0) (dC (.int 0))) (d2 idxR (dVar 0) (dC (.int 1))))) (dSeq (dSetIx (dVar 0) (dC (.int 1)) (d2 addD (d2 idxR (dVar 0) (dC (.int 1))) (dC (.int 1)))) (dSeq (dSetIx (dVar 0) (dC (.int 3)) (d2 modD (dA intA (dCons (d2 addD (d2 addD (d2 mulD (d2 idxR (dVar 0) (dC (.int 3))) (dC (.int 40009))) (d2 mulD (d2 modD (dA intA (dCons (dVar 3) (dNil))) (dC (.int 2147483549))) (dC (.int 59)))) (d2 idxR (dVar 0) (dC (.int 1)))) (dNil))) (dC (.int 2147483563)))) (dSetIx (dVar 0) (dC (.int 2)) (dIf (dB (d2 geD (dVar 3) (d2 powD (dC (.int 10)) (dC (.int 18))))) (dVar 3) (dC (.int 0))))))) (dNext)) (dSeq (dIfS (dB (d2 gtD (d2 idxR (dVar 0) (dC (.int 2))) (dC (.int 1)))) (dSeq (dSet 4 (d2 modD (dA intA (dCons (d2 idxR (dVar 0) (dC (.int 2))) (dNil))) (dVar 1))) (dSeq (dSetIx (dVar 0) (dC (.int 2)) (d2 fdivD (d2 idxR (dVar 0) (dC (.int 2))) (dVar 1))) (dRet (dVar 4)))) (dNext)) (dSeq (dSet 2 (d2 modD (dA intA (dCons (d2 addD (d2 idxR (dVar 0) (dC (.int 3))) (d2 mulD (d2 idxR (dVar 0) (dC (.int 4))) (dC (.int 9601)))) (dNil))) (dC (.int 2147483563)))) (dSeq (dSetIx (dVar 0) (dC (.int 3)) (d2 modD (dA intA (dCons (d2 addD (d2 addD (d2 mulD (dVar 2) (dVar 2)) (d2 mulD (dVar 2) (dC (.int 33811)))) (dC (.int 90247))) (dNil))) (dC (.int 2147483563)))) (dRet (d2 modD (dA intA (dCons (d2 addD (d2 fdivD (d2 idxR (dVar 0) (dC (.int 3))) (dC (.int 67))) (d2 mulD (d2 modD (dA intA (dCons (d2 idxR (dVar 0) (dC (.int 3))) (dNil))) (dC (.int 7919))) (dC (.int 193)))) (dNil))) (dVar 1)))))))
noncomputable def den__law_take : Fn := dFn 5 b__law_take
abbrev dd__law_take : He.DefD := mkD "_law_take" s__law_take

/-! _law_of -/
abbrev s__law_of : Stmt := top 7
theorem sc__law_of : FnScope ["_law_bag_here", "_law_things"] ["_law_bag_here", "_law_things"] (defScope s__law_of) := ⟨rfl, rfl, rfl, by decide +kernel, rfl, by decide +kernel, by decide +kernel⟩
noncomputable def b__law_of : DS := dRet (d2 idxR (dVar 1) (dCall 2 0 den__law_take posD (dCons (dVar 0) (dCons (dA lenA (dCons (dVar 1) (dNil))) (dNil))) dNil))
noncomputable def den__law_of : Fn := dFn 2 b__law_of
abbrev dd__law_of : He.DefD := mkD "_law_of" s__law_of

/-! _law_same -/
abbrev s__law_same : Stmt := top 8
theorem sc__law_same : FnScope ["_law_found", "_law_due", "_law_one", "_law_two"] ["_law_found", "_law_due"] (defScope s__law_same) := ⟨rfl, rfl, rfl, by decide +kernel, rfl, by decide +kernel, by decide +kernel⟩
noncomputable def b__law_same (self_ : Fn) : DS := dSeq (dIfS (dB (d2 isND (dVar 1) (dC .non))) (dRet (d2 isND (dVar 0) (dC .non))) (dNext)) (dSeq (dIfS (dOr (dTru (dA isiA (dCons (dVar 1) (dCons (dC (.ty .bool)) (dNil))))) (dTru (dA isiA (dCons (dVar 0) (dCons (dC (.ty .bool)) (dNil)))))) (dRet (dAndV (dA isiA (dCons (dVar 1) (dCons (dC (.ty .bool)) (dNil)))) (dAndV (dA isiA (dCons (dVar 0) (dCons (dC (.ty .bool)) (dNil)))) (d2 eqD (dVar 0) (dVar 1))))) (dNext)) (dSeq (dIfS (dTru (dA isiA (dCons (dVar 1) (dCons (dTup (dCons (dC (.ty .int)) (dCons (dC (.ty .str)) (dNil)))) (dNil))))) (dRet (dAndV (dA isiA (dCons (dVar 0) (dCons (dTup (dCons (dC (.ty .int)) (dCons (dC (.ty .str)) (dNil)))) (dNil)))) (dAndV (d2 eqD (dA isiA (dCons (dVar 0) (dCons (dC (.ty .int)) (dNil)))) (dA isiA (dCons (dVar 1) (dCons (dC (.ty .int)) (dNil))))) (d2 eqD (dVar 0) (dVar 1))))) (dNext)) (dSeq (dIfS (dOr (dB (d2 neD (dA isiA (dCons (dVar 1) (dCons (dC (.ty .list)) (dNil)))) (dA isiA (dCons (dVar 0) (dCons (dC (.ty .list)) (dNil)))))) (dB (d2 neD (dA isiA (dCons (dVar 1) (dCons (dC (.ty .tuple)) (dNil)))) (dA isiA (dCons (dVar 0) (dCons (dC (.ty .tuple)) (dNil))))))) (dRet (dC (.bl false))) (dNext)) (dSeq (dIfS (dOr (dNot (dTru (dA isiA (dCons (dVar 0) (dCons (dTup (dCons (dC (.ty .list)) (dCons (dC (.ty .tuple)) (dNil)))) (dNil)))))) (dB (d2 neD (dA lenA (dCons (dVar 0) (dNil))) (dA lenA (dCons (dVar 1) (dNil)))))) (dRet (dC (.bl false))) (dNext)) (dRet (dA allA (dCons (dLc (dItA zipR (dCons (dVar 0) (dCons (dVar 1) (dNil)))) (gT 2 (gsCons (gN 2) (gsCons (gN 3) (gsNil)))) [2, 3] (dYes) (dCall 2 0 self_ posD (dCons (dVar 2) (dCons (dVar 3) (dNil))) dNil)) (dNil))))))))
noncomputable def den__law_same : Nat → Fn
  | 0 => fun _ _ => .bad
  | j + 1 => dFn 4 (b__law_same (den__law_same j))
abbrev dd__law_same : He.DefD := mkD "_law_same" s__law_same

/-! law -/
abbrev s_law : Stmt := top 9
theorem sc_law : FnScope ["_law_script", "_law_bag_here", "_law_letters", "_law_turn", "_law_odd", "_law_k", "_law_text", "_law_at", "_law_plain", "_law_due", "_law_least_z", "_law_most_z", "_law_number", "_law_deep", "_law_sign"] ["_law_script"] (defScope s_law) := ⟨rfl, rfl, rfl, by decide +kernel, rfl, by decide +kernel, by decide +kernel⟩
noncomputable def b_law : DS := dSeq (dSet 1 (dCall 1 0 den__law_bag posD (dCons (dVar 0) (dNil)) dNil)) (dSeq (dSet 2 (dC (.str "abcdefghijklmnopqrstuvwxyz"))) (dSeq (dFor (dItA rng1 (dCons (dC (.int 12)) (dNil))) (gN 3) (dSeq (dSet 6 (dM "str" joinM (dC (.str "")) (dCons (dLc (dItA rng1 (dCons (dCall 2 0 den__law_take posD (dCons (dVar 1) (dCons (dC (.int 9)) (dNil))) dNil) (dNil))) (gN 5) [5] (dYes) (dCall 2 0 den__law_of posD (dCons (dVar 1) (dCons (dVar 2) (dNil))) dNil)) (dNil)))) (dSeq (dSet 7 (dCall 2 0 den__law_take posD (dCons (dVar 1) (dCons (d2 addD (dA lenA (dCons (dVar 6) (dNil))) (dC (.int 1))) (dNil))) dNil)) (dSeq (dIfS (dB (d2 eqD (dCall 2 0 den__law_take posD (dCons (dVar 1) (dCons (dC (.int 3)) (dNil))) dNil) (dC (.int 0)))) (dSet 6 (d2 addD (d2 addD (dSl (dVar 6) (dONone) (dOSome (dVar 7))) (dCall 2 0 den__law_of posD (dCons (dVar 1) (dCons (dLst (dCons (dC (.str "A")) (dCons (dC (.str "Z")) (dCons (dC (.str "0")) (dCons (dC (.str "9")) (dCons (dC (.str " ")) (dCons (dC (.str "_")) (dCons (dC (.str "-")) (dCons (dC (.str "\n")) (dCons (dC (.str "`")) (dCons (dC (.str "{")) (dNil)))))))))))) (dNil))) dNil)) (dSl (dVar 6) (dOSome (dVar 7)) (dONone)))) (dNext)) (dSeq (dSet 6 (dCall 2 0 den__law_of posD (dCons (dVar 1) (dCons (dLst (dCons (dVar 6) (dCons (dVar 6) (dCons (dVar 6) (dCons (dC (.str "amount")) (dCons (dC (.str "one")) (dCons (dC (.str "ones")) (dCons (dC (.str "amoun")) (dCons (dC (.str "on")) (dCons (dC (.str "mount")) (dNil))))))))))) (dNil))) dNil)) (dSeq (dSet 8 (dA allA (dCons (dLc (dIt (dVar 6)) (gN 14) [14] (dYes) (d2 inD (dVar 14) (dVar 2))) (dNil)))) (dSeq (dSet 9 (dAndV (dVar 8) (dAndV (dChain leD leD (dC (.int 1)) (dA lenA (dCons (dVar 6) (dNil))) (dC (.int 6))) (dAndV (d2 neD (dVar 6) (dC (.str "amount"))) (d2 neD (dVar 6) (dC (.str "one"))))))) (dSeq (dIfS (dNot (dTru (dCall 2 0 (den__law_same 6) posD (dCons (dLst (dCons (dCall 1 0 den_is_name posD (dCons (dVar 6) (dNil)) dNil) (dCons (dCall 0 1 den_is_name (pickD [0]) dNil (dCons (dVar 6) (dNil))) (dNil)))) (dCons (dLst (dCons (dVar 9) (dCons (dVar 9) (dNil)))) (dNil))) dNil))) (dRet (dC (.bl false))) (dNext)) (dSeq (dSet 10 (d2 subD (dCall 2 0 den__law_take posD (dCons (dVar 1) (dCons (dC (.int 41)) (dNil))) dNil) (dC (.int 20)))) (dSeq (dSet 11 (d2 subD (d2 addD (dVar 10) (dCall 2 0 den__law_take posD (dCons (dVar 1) (dCons (dC (.int 30)) (dNil))) dNil)) (dC (.int 3)))) (dSeq (dSet 12 (dCall 2 0 den__law_of posD (dCons (dVar 1) (dCons (dLst (dCons (dVar 10) (dCons (dVar 11) (dCons (d2 subD (dVar 10) (dC (.int 1))) (dCons (d2 addD (dVar 11) (dC (.int 1))) (dCons (d2 addD (dVar 10) (dCall 2 0 den__law_take posD (dCons (dVar 1) (dCons (dC (.int 9)) (dNil))) dNil)) (dCons (d2 powD (dC (.int 10)) (dC (.int 20))) (dCons (d2 subD (dC (.int 0)) (d2 powD (dC (.int 10)) (dC (.int 20)))) (dNil))))))))) (dNil))) dNil)) (dSeq (dSet 9 (dChain leD leD (dVar 10) (dVar 12) (dVar 11))) (dIfS (dNot (dTru (dCall 2 0 (den__law_same 6) posD (dCons (dLst (dCons (dCall 3 0 den_is_integer posD (dCons (dVar 12) (dCons (dVar 10) (dCons (dVar 11) (dNil)))) dNil) (dCons (dCall 0 3 den_is_integer (pickD [1, 2, 0]) dNil (dCons (dVar 11) (dCons (dVar 12) (dCons (dVar 10) (dNil))))) (dNil)))) (dCons (dLst (dCons (dVar 9) (dCons (dVar 9) (dNil)))) (dNil))) dNil))) (dRet (dC (.bl false))) (dNext)))))))))))))) (dSeq (dSet 4 (dCall 2 0 den__law_of posD (dCons (dVar 1) (dCons (dLst (dCons (dC .non) (dCons (dC (.bl true)) (dCons (dC (.bl false)) (dCons (dTup (dCons (dC (.str "a")) (dNil))) (dCons (dLst (dCons (dC (.str "a")) (dNil))) (dCons (dC (.int 3)) (dCons (dC (.str "")) (dNil))))))))) (dNil))) dNil)) (dSeq (dIfS (dB (d2 notND (dCall 1 0 den_is_name posD (dCons (dVar 4) (dNil)) dNil) (dC (.bl false)))) (dRet (dC (.bl false))) (dNext)) (dSeq (dPar2 4 13 (dCons (dCall 2 0 den__law_of posD (dCons (dVar 1) (dCons (dLst (dCons (dC .non) (dCons (dC (.bl true)) (dCons (dC (.bl false)) (dCons (dC (.str "1")) (dCons (dTup (dCons (dC (.int 1)) (dNil))) (dCons (dLst (dCons (dC (.int 1)) (dNil))) (dNil)))))))) (dNil))) dNil) (dCons (dTup (dNil)) (dNil)))) (dSeq (dFor (dItA rng1 (dCons (dC (.int 9)) (dNil))) (gN 5) (dSet 13 (dTup (dCons (dVar 13) (dNil))))) (dRet (dCall 2 0 (den__law_same 6) posD (dCons (dLst (dCons (dCall 3 0 den_is_integer posD (dCons (dVar 4) (dCons (dC (.int 0)) (dCons (dC (.int 1)) (dNil)))) dNil) (dCons (dCall 1 0 den_is_name posD (dCons (dVar 13) (dNil)) dNil) (dCons (dCall 3 0 den_is_integer posD (dCons (dVar 13) (dCons (dC (.int 0)) (dCons (dC (.int 1)) (dNil)))) dNil) (dNil))))) (dCons (d2 mulD (dLst (dCons (dC (.bl false)) (dNil))) (dC (.int 3))) (dNil))) dNil))))))))
noncomputable def den_law : Fn := dFn 15 b_law
abbrev dd_law : He.DefD := mkD "law" s_law

def fa : List He.Fa := [.glo "is_name", .glo "is_integer", .glo "_law_bag", .glo "_law_take", .glo "_law_of", .glo "_law_same", .glo "law", .glo "RESERVED", .free "str", .free "isinstance", .free "len", .free "all", .free "int", .free "bool", .free "list", .free "tuple", .free "zip", .free "range"]
def fn : List He.DefD := [dd_is_name, dd_is_integer, dd__law_bag, dd__law_take, dd__law_of, dd__law_same, dd_law]
def fx : List (PySem.W.Frag → Bool) := [fun K => He.tupB K "RESERVED" [.str "amount", .str "one"]]
section
variable {P : Program} {w : World} {K : PySem.W.Frag} {mg : Str → Option Value} {base : Heap} {cl : Str → Option Addr}
theorem got_is_name (T : Tq fa fn fx K mg) : Got P w K mg base cl 1 "is_name" s_is_name ["value"] den_is_name := by
  obtain ⟨fd, F⟩ := T.df 0 "is_name" s_is_name rfl
  have sc := sc_is_name
  refine got_of (x := "is_name") (st := s_is_name) (ps := ["value"]) (N := ["value", "sign"]) (k := 0) (fS := b_is_name) F (T.gl 0) sc fun f cdv A outer s H E hr => ?_
  have tk : Takes (cxOf (L2.CX P w) P w K mg base ["value", "sign"] "is_name" (defScope s_is_name) f cdv A outer s H E) (fun c dd _ H => E c dd H) := takes_of rfl rfl rfl rfl
  exact pds_one (pds_ret (pd_and (pd_callB call_isiAll ca_isi rfl (T.fr 9) b_isinstance (pda_cons (pdv 0) (pda_cons (pd_ty (kd := .str) rfl (T.fr 8) b_str) (pda_nil)))) (pd_and (pd_chain op_le op_le od_cmp od_cmp (pd_int) (pd_callB call_lenAll ca_len rfl (T.fr 10) b_len (pda_cons (pdv 0) (pda_nil))) (pd_int)) (pd_and (pd_cmp (op_notInAll hr) od_notin (pdv 0) (pd_gtup (vs := [.str "amount", .str "one"]) (ds := [.str "amount", .str "one"]) rfl (T.gl 7) (T.x 0) rfl) (by rfl)) (pd_one (pd_callB (cr_all rfl) ca_all rfl (T.fr 11) b_all (pda_cons (pd_lc (own := [("sign", 1)]) rfl sc.nd (pdi (pdv 0)) (blkOk_by (by kernel_rfl)) (fun _ _ _ _ _ => pdgN 1 sc.nd) (fun _ _ _ _ _ => pts_yes) (fun _ _ _ _ _ => pd_cmp (op_inAll hr) od_in (pdv 1) (pd_str) (by rfl))) (pda_nil))))))))
theorem got_is_integer (T : Tq fa fn fx K mg) : Got P w K mg base cl 1 "is_integer" s_is_integer ["value", "least", "most"] den_is_integer := by
  obtain ⟨fd, F⟩ := T.df 1 "is_integer" s_is_integer rfl
  have sc := sc_is_integer
  refine got_of (x := "is_integer") (st := s_is_integer) (ps := ["value", "least", "most"]) (N := ["value", "least", "most"]) (k := 0) (fS := b_is_integer) F (T.gl 1) sc fun f cdv A outer s H E hr => ?_
  have tk : Takes (cxOf (L2.CX P w) P w K mg base ["value", "least", "most"] "is_integer" (defScope s_is_integer) f cdv A outer s H E) (fun c dd _ H => E c dd H) := takes_of rfl rfl rfl rfl
  exact pds_one (pds_ret (pd_and (pd_callB call_isiAll ca_isi rfl (T.fr 9) b_isinstance (pda_cons (pdv 0) (pda_cons (pd_ty (kd := .int) rfl (T.fr 12) b_int) (pda_nil)))) (pd_and (pd_not (pd_callB call_isiAll ca_isi rfl (T.fr 9) b_isinstance (pda_cons (pdv 0) (pda_cons (pd_ty (kd := .bool) rfl (T.fr 13) b_bool) (pda_nil))))) (pd_one (pd_chain op_le op_le od_cmp od_cmp (pdv 1) (pdv 0) (pdv 2))))))
theorem got__law_bag (T : Tq fa fn fx K mg) : Got P w K mg base cl 1 "_law_bag" s__law_bag ["_law_script"] den__law_bag := by
  obtain ⟨fd, F⟩ := T.df 2 "_law_bag" s__law_bag rfl
  have sc := sc__law_bag
  refine got_of (x := "_law_bag") (st := s__law_bag) (ps := ["_law_script"]) (N := ["_law_script", "_law_cells", "_law_mixed", "_law_cell"]) (k := 0) (fS := b__law_bag) F (T.gl 2) sc fun f cdv A outer s H E hr => ?_
  have tk : Takes (cxOf (L2.CX P w) P w K mg base ["_law_script", "_law_cells", "_law_mixed", "_law_cell"] "_law_bag" (defScope s__law_bag) f cdv A outer s H E) (fun c dd _ H => E c dd H) := takes_of rfl rfl rfl rfl
  exact pds_cons (pds_setLc (i := 1) (own := [("_law_cell", 3)]) rfl sc.nd rfl rfl (sw_true rfl rfl rfl (by kernel_rfl)) (pdi (pd_slice (pdv 0) (pdo_none) (pdo_some (pd_int)))) (blkOk_by (by kernel_rfl)) (fun _ _ _ _ _ => pdgN 3 sc.nd) (fun _ _ _ _ _ => pts_yes) (fun _ _ _ _ _ => pd_callTy call_int1 ca_int rfl (T.fr 12) b_int (pda_cons (pdv 3) (pda_nil)))) (pds_cons (pdsN 2 sc.nd (pd_op op_addAll od_add (pd_int) (pd_op op_mulAll od_mul (pd_int) (pd_callB call_lenAll ca_len rfl (T.fr 10) b_len (pda_cons (pdv 1) (pda_nil)))))) (pds_cons (pds_for (vs := [3]) (passes_of rfl) rfl (pdi (pdv 1)) (pdgN 3 sc.nd) (pds_one (pdsN 2 sc.nd (pd_op op_mod od_int (pd_callTy call_int1 ca_int rfl (T.fr 12) b_int (pda_cons (pd_op op_addAll od_add (pd_op op_mulAll od_mul (pdv 2) (pd_int)) (pdv 3)) (pda_nil))) (pd_int))))) (pds_one (pds_ret (pd_lstH (pda_cons (pdv 1) (pda_cons (pd_int) (pda_cons (pd_int) (pda_cons (pdv 2) (pda_cons (pd_int) (pda_nil)))))))))))
theorem got__law_take (T : Tq fa fn fx K mg) : Got P w K mg base cl 1 "_law_take" s__law_take ["_law_bag_here", "_law_many"] den__law_take := by
  obtain ⟨fd, F⟩ := T.df 3 "_law_take" s__law_take rfl
  have sc := sc__law_take
  refine got_of (x := "_law_take") (st := s__law_take) (ps := ["_law_bag_here", "_law_many"]) (N := ["_law_bag_here", "_law_many", "_law_old", "_law_cell", "_law_digit"]) (k := 0) (fS := b__law_take) F (T.gl 3) sc fun f cdv A outer s H E hr => ?_
  have tk : Takes (cxOf (L2.CX P w) P w K mg base ["_law_bag_here", "_law_many", "_law_old", "_law_cell", "_law_digit"] "_law_take" (defScope s__law_take) f cdv A outer s H E) (fun c dd _ H => E c dd H) := takes_of rfl rfl rfl rfl
  exact pds_cons (pds_setIx (pd_op op_addAll od_add (pd_ix hr (pdv 0) (pd_int) (fun _ _ => rfl)) (pd_int)) (pdv 0) (pd_int)) (pds_cons (pds_if (pdw_t (pdw_and (pdt_cmp op_lt od_cmp (pd_ix hr (pdv 0) (pd_int) (fun _ _ => rfl)) (pd_int) (nomark _)) (pdw_and1 (pdt_cmp op_lt od_cmp (pd_ix hr (pdv 0) (pd_int) (fun _ _ => rfl)) (pd_callB call_lenAll ca_len rfl (T.fr 10) b_len (pda_cons (pd_ix hr (pdv 0) (pd_int) (fun _ _ => rfl)) (pda_nil))) (nomark _))))) (pds_cons (pdsN 3 sc.nd (pd_ix hr (pd_ix hr (pdv 0) (pd_int) (fun _ _ => rfl)) (pd_ix hr (pdv 0) (pd_int) (fun _ _ => rfl)) (fun _ _ => rfl))) (pds_cons (pds_setIx (pd_op op_addAll od_add (pd_ix hr (pdv 0) (pd_int) (fun _ _ => rfl)) (pd_int)) (pdv 0) (pd_int)) (pds_cons (pds_setIx (pd_op op_mod od_int (pd_callTy call_int1 ca_int rfl (T.fr 12) b_int (pda_cons (pd_op op_addAll od_add (pd_op op_addAll od_add (pd_op op_mulAll od_mul (pd_ix hr (pdv 0) (pd_int) (fun _ _ => rfl)) (pd_int)) (pd_op op_mulAll od_mul (pd_op op_mod od_int (pd_callTy call_int1 ca_int rfl (T.fr 12) b_int (pda_cons (pdv 3) (pda_nil))) (pd_int)) (pd_int))) (pd_ix hr (pdv 0) (pd_int) (fun _ _ => rfl))) (pda_nil))) (pd_int)) (pdv 0) (pd_int)) (pds_one (pds_setIx (pd_if (pdt_cmp op_ge od_cmp (pdv 3) (pd_op op_pow od_int (pd_int) (pd_int)) (nomark _)) (pdv 3) (pd_int)) (pdv 0) (pd_int)))))) (pds_nil)) (pds_cons (pds_if (pdt_cmp op_gt od_cmp (pd_ix hr (pdv 0) (pd_int) (fun _ _ => rfl)) (pd_int) (nomark _)) (pds_cons (pdsN 4 sc.nd (pd_op op_mod od_int (pd_callTy call_int1 ca_int rfl (T.fr 12) b_int (pda_cons (pd_ix hr (pdv 0) (pd_int) (fun _ _ => rfl)) (pda_nil))) (pdv 1))) (pds_cons (pds_setIx (pd_op op_fdivW od_int (pd_ix hr (pdv 0) (pd_int) (fun _ _ => rfl)) (pdv 1)) (pdv 0) (pd_int)) (pds_one (pds_ret (pdv 4))))) (pds_nil)) (pds_cons (pdsN 2 sc.nd (pd_op op_mod od_int (pd_callTy call_int1 ca_int rfl (T.fr 12) b_int (pda_cons (pd_op op_addAll od_add (pd_ix hr (pdv 0) (pd_int) (fun _ _ => rfl)) (pd_op op_mulAll od_mul (pd_ix hr (pdv 0) (pd_int) (fun _ _ => rfl)) (pd_int))) (pda_nil))) (pd_int))) (pds_cons (pds_setIx (pd_op op_mod od_int (pd_callTy call_int1 ca_int rfl (T.fr 12) b_int (pda_cons (pd_op op_addAll od_add (pd_op op_addAll od_add (pd_op op_mulAll od_mul (pdv 2) (pdv 2)) (pd_op op_mulAll od_mul (pdv 2) (pd_int))) (pd_int)) (pda_nil))) (pd_int)) (pdv 0) (pd_int)) (pds_one (pds_ret (pd_op op_mod od_int (pd_callTy call_int1 ca_int rfl (T.fr 12) b_int (pda_cons (pd_op op_addAll od_add (pd_op op_fdivW od_int (pd_ix hr (pdv 0) (pd_int) (fun _ _ => rfl)) (pd_int)) (pd_op op_mulAll od_mul (pd_op op_mod od_int (pd_callTy call_int1 ca_int rfl (T.fr 12) b_int (pda_cons (pd_ix hr (pdv 0) (pd_int) (fun _ _ => rfl)) (pda_nil))) (pd_int)) (pd_int))) (pda_nil))) (pdv 1))))))))
theorem got__law_of (T : Tq fa fn fx K mg) : Got P w K mg base cl 2 "_law_of" s__law_of ["_law_bag_here", "_law_things"] den__law_of := by
  obtain ⟨fd, F⟩ := T.df 4 "_law_of" s__law_of rfl
  have G__law_take := got__law_take (P := P) (w := w) (base := base) (cl := cl) T
  have sc := sc__law_of
  refine got_of (x := "_law_of") (st := s__law_of) (ps := ["_law_bag_here", "_law_things"]) (N := ["_law_bag_here", "_law_things"]) (k := 1) (fS := b__law_of) F (T.gl 4) sc fun f cdv A outer s H E hr => ?_
  have tk : Takes (cxOf (L2.CX P w) P w K mg base ["_law_bag_here", "_law_things"] "_law_of" (defScope s__law_of) f cdv A outer s H E) (fun c dd _ H => E c dd H) := takes_of rfl rfl rfl rfl
  exact pds_one (pds_ret (pd_ix hr (pdv 1) (pd_callG (x := "_law_take") (st := s__law_take) (ps := ["_law_bag_here", "_law_many"]) (den := den__law_take) G__law_take (by exact (Room.mono hr (by decide))) tk (by exact (pda_cons (pdv 0) (pda_cons (pd_callB call_lenAll ca_len rfl (T.fr 10) b_len (pda_cons (pdv 1) (pda_nil))) (pda_nil)))) (fun _ _ _ _ _ _ us hl => match us, hl with | [_, _], _ => rfl)) (fun _ _ => rfl)))
theorem got__law_same (T : Tq fa fn fx K mg) : ∀ j : Nat, Got P w K mg base cl (0 + j) "_law_same" s__law_same ["_law_found", "_law_due"] (den__law_same j)
  | 0 => by
    obtain ⟨fd, F⟩ := T.df 5 "_law_same" s__law_same rfl
    exact (got_bad F (T.gl 5)).mono (Nat.zero_le _)
  | j + 1 => by
    obtain ⟨fd, F⟩ := T.df 5 "_law_same" s__law_same rfl
    have G__law_same := got__law_same T j
    have sc := sc__law_same
    refine (got_of (x := "_law_same") (st := s__law_same) (ps := ["_law_found", "_law_due"]) (N := ["_law_found", "_law_due", "_law_one", "_law_two"]) (k := 0 + j) (fS := b__law_same (den__law_same j)) F (T.gl 5) sc fun f cdv A outer s H E hr => ?_)
    have tk : Takes (cxOf (L2.CX P w) P w K mg base ["_law_found", "_law_due", "_law_one", "_law_two"] "_law_same" (defScope s__law_same) f cdv A outer s H E) (fun c dd _ H => E c dd H) := takes_of rfl rfl rfl rfl
    exact pds_cons (pds_if (pdt_cmp op_isAll od_is (pdv 1) (pd_non) (nomark _)) (pds_one (pds_ret (pd_cmp op_isAll od_is (pdv 0) (pd_non) (nomark _)))) (pds_nil)) (pds_cons (pds_if (pdw_t (pdw_or (pdt_val (pd_callB call_isiAll ca_isi rfl (T.fr 9) b_isinstance (pda_cons (pdv 1) (pda_cons (pd_ty (kd := .bool) rfl (T.fr 13) b_bool) (pda_nil))))) (pdw_or1 (pdt_val (pd_callB call_isiAll ca_isi rfl (T.fr 9) b_isinstance (pda_cons (pdv 0) (pda_cons (pd_ty (kd := .bool) rfl (T.fr 13) b_bool) (pda_nil)))))))) (pds_one (pds_ret (pd_and (pd_callB call_isiAll ca_isi rfl (T.fr 9) b_isinstance (pda_cons (pdv 1) (pda_cons (pd_ty (kd := .bool) rfl (T.fr 13) b_bool) (pda_nil)))) (pd_and (pd_callB call_isiAll ca_isi rfl (T.fr 9) b_isinstance (pda_cons (pdv 0) (pda_cons (pd_ty (kd := .bool) rfl (T.fr 13) b_bool) (pda_nil)))) (pd_one (pd_cmp (op_eqD (Room.units hr)) od_eq (pdv 0) (pdv 1) (nomark _))))))) (pds_nil)) (pds_cons (pds_if (pdt_val (pd_callB call_isiAll ca_isi rfl (T.fr 9) b_isinstance (pda_cons (pdv 1) (pda_cons (pd_tup (pda_cons (pd_ty (kd := .int) rfl (T.fr 12) b_int) (pda_cons (pd_ty (kd := .str) rfl (T.fr 8) b_str) (pda_nil)))) (pda_nil))))) (pds_one (pds_ret (pd_and (pd_callB call_isiAll ca_isi rfl (T.fr 9) b_isinstance (pda_cons (pdv 0) (pda_cons (pd_tup (pda_cons (pd_ty (kd := .int) rfl (T.fr 12) b_int) (pda_cons (pd_ty (kd := .str) rfl (T.fr 8) b_str) (pda_nil)))) (pda_nil)))) (pd_and (pd_cmp (op_eqD (Room.units hr)) od_eq (pd_callB call_isiAll ca_isi rfl (T.fr 9) b_isinstance (pda_cons (pdv 0) (pda_cons (pd_ty (kd := .int) rfl (T.fr 12) b_int) (pda_nil)))) (pd_callB call_isiAll ca_isi rfl (T.fr 9) b_isinstance (pda_cons (pdv 1) (pda_cons (pd_ty (kd := .int) rfl (T.fr 12) b_int) (pda_nil)))) (nomark _)) (pd_one (pd_cmp (op_eqD (Room.units hr)) od_eq (pdv 0) (pdv 1) (nomark _))))))) (pds_nil)) (pds_cons (pds_if (pdw_t (pdw_or (pdt_cmp (op_neD (Room.units hr)) od_ne (pd_callB call_isiAll ca_isi rfl (T.fr 9) b_isinstance (pda_cons (pdv 1) (pda_cons (pd_ty (kd := .list) rfl (T.fr 14) b_list) (pda_nil)))) (pd_callB call_isiAll ca_isi rfl (T.fr 9) b_isinstance (pda_cons (pdv 0) (pda_cons (pd_ty (kd := .list) rfl (T.fr 14) b_list) (pda_nil)))) (nomark _)) (pdw_or1 (pdt_cmp (op_neD (Room.units hr)) od_ne (pd_callB call_isiAll ca_isi rfl (T.fr 9) b_isinstance (pda_cons (pdv 1) (pda_cons (pd_ty (kd := .tuple) rfl (T.fr 15) b_tuple) (pda_nil)))) (pd_callB call_isiAll ca_isi rfl (T.fr 9) b_isinstance (pda_cons (pdv 0) (pda_cons (pd_ty (kd := .tuple) rfl (T.fr 15) b_tuple) (pda_nil)))) (nomark _))))) (pds_one (pds_ret (pd_bl))) (pds_nil)) (pds_cons (pds_if (pdw_t (pdw_or (pdt_not (pdt_val (pd_callB call_isiAll ca_isi rfl (T.fr 9) b_isinstance (pda_cons (pdv 0) (pda_cons (pd_tup (pda_cons (pd_ty (kd := .list) rfl (T.fr 14) b_list) (pda_cons (pd_ty (kd := .tuple) rfl (T.fr 15) b_tuple) (pda_nil)))) (pda_nil)))))) (pdw_or1 (pdt_cmp (op_neD (Room.units hr)) od_ne (pd_callB call_lenAll ca_len rfl (T.fr 10) b_len (pda_cons (pdv 0) (pda_nil))) (pd_callB call_lenAll ca_len rfl (T.fr 10) b_len (pda_cons (pdv 1) (pda_nil))) (nomark _))))) (pds_one (pds_ret (pd_bl))) (pds_nil)) (pds_one (pds_ret (pd_callB (cr_all rfl) ca_all rfl (T.fr 11) b_all (pda_cons (pd_lc (own := [("_law_one", 2), ("_law_two", 3)]) rfl sc.nd (pdi_zip rfl (T.fr 16) (pda_cons (pdv 0) (pda_cons (pdv 1) (pda_nil)))) (blkOk_by (by kernel_rfl)) (fun _ _ _ _ _ => pdg_tup (n := 2) rfl (pdgs_cons (pdgN 2 sc.nd) (pdgs_cons (pdgN 3 sc.nd) (pdgs_nil)))) (fun _ _ _ _ _ => pts_yes) (fun _ _ _ _ _ => pd_callG (x := "_law_same") (st := s__law_same) (ps := ["_law_found", "_law_due"]) (den := (den__law_same j)) G__law_same (by exact (Room.mono hr (by omega))) takes0 (by exact (pda_cons (pdv 2) (pda_cons (pdv 3) (pda_nil)))) (fun _ _ _ _ _ _ us hl => match us, hl with | [_, _], _ => rfl))) (pda_nil)))))))))
theorem got_law (T : Tq fa fn fx K mg) : Got P w K mg base cl 7 "law" s_law ["_law_script"] den_law := by
  obtain ⟨fd, F⟩ := T.df 6 "law" s_law rfl
  have G__law_bag := got__law_bag (P := P) (w := w) (base := base) (cl := cl) T
  have G__law_of := got__law_of (P := P) (w := w) (base := base) (cl := cl) T
  have G__law_same := got__law_same (P := P) (w := w) (base := base) (cl := cl) T 6
  have G__law_take := got__law_take (P := P) (w := w) (base := base) (cl := cl) T
  have G_is_name := got_is_name (P := P) (w := w) (base := base) (cl := cl) T
  have G_is_integer := got_is_integer (P := P) (w := w) (base := base) (cl := cl) T
  have sc := sc_law
  refine got_of (x := "law") (st := s_law) (ps := ["_law_script"]) (N := ["_law_script", "_law_bag_here", "_law_letters", "_law_turn", "_law_odd", "_law_k", "_law_text", "_law_at", "_law_plain", "_law_due", "_law_least_z", "_law_most_z", "_law_number", "_law_deep", "_law_sign"]) (k := 6) (fS := b_law) F (T.gl 6) sc fun f cdv A outer s H E hr => ?_
  have tk : Takes (cxOf (L2.CX P w) P w K mg base ["_law_script", "_law_bag_here", "_law_letters", "_law_turn", "_law_odd", "_law_k", "_law_text", "_law_at", "_law_plain", "_law_due", "_law_least_z", "_law_most_z", "_law_number", "_law_deep", "_law_sign"] "law" (defScope s_law) f cdv A outer s H E) (fun c dd _ H => E c dd H) := takes_of rfl rfl rfl rfl
  exact pds_cons (pdsN 1 sc.nd (pd_callG (x := "_law_bag") (st := s__law_bag) (ps := ["_law_script"]) (den := den__law_bag) G__law_bag (by exact (Room.mono hr (by decide))) tk (by exact (pda_cons (pdv 0) (pda_nil))) (fun _ _ _ _ _ _ us hl => match us, hl with | [_], _ => rfl))) (pds_cons (pdsN 2 sc.nd (pd_str)) (pds_cons (pds_for (vs := [3]) (passes_of rfl) rfl (pdi_range1 rfl (T.fr 17) (pda_cons (pd_int) (pda_nil))) (pdgN 3 sc.nd) (pds_cons (pdsN 6 sc.nd (pd_join (pd_str) (pda_cons (pd_lc (own := [("_law_k", 5)]) rfl sc.nd (pdi_range1 rfl (T.fr 17) (pda_cons (pd_callG (x := "_law_take") (st := s__law_take) (ps := ["_law_bag_here", "_law_many"]) (den := den__law_take) G__law_take (by exact (Room.mono hr (by decide))) tk (by exact (pda_cons (pdv 1) (pda_cons (pd_int) (pda_nil)))) (fun _ _ _ _ _ _ us hl => match us, hl with | [_, _], _ => rfl)) (pda_nil))) (blkOk_by (by kernel_rfl)) (fun _ _ _ _ _ => pdgN 5 sc.nd) (fun _ _ _ _ _ => pts_yes) (fun _ _ _ _ _ => pd_callG (x := "_law_of") (st := s__law_of) (ps := ["_law_bag_here", "_law_things"]) (den := den__law_of) G__law_of (by exact (Room.mono hr (by decide))) takes0 (by exact (pda_cons (pdv 1) (pda_cons (pdv 2) (pda_nil)))) (fun _ _ _ _ _ _ us hl => match us, hl with | [_, _], _ => rfl))) (pda_nil)))) (pds_cons (pdsN 7 sc.nd (pd_callG (x := "_law_take") (st := s__law_take) (ps := ["_law_bag_here", "_law_many"]) (den := den__law_take) G__law_take (by exact (Room.mono hr (by decide))) tk (by exact (pda_cons (pdv 1) (pda_cons (pd_op op_addAll od_add (pd_callB call_lenAll ca_len rfl (T.fr 10) b_len (pda_cons (pdv 6) (pda_nil))) (pd_int)) (pda_nil)))) (fun _ _ _ _ _ _ us hl => match us, hl with | [_, _], _ => rfl))) (pds_cons (pds_if (pdt_cmp (op_eqD (Room.units hr)) od_eq (pd_callG (x := "_law_take") (st := s__law_take) (ps := ["_law_bag_here", "_law_many"]) (den := den__law_take) G__law_take (by exact (Room.mono hr (by decide))) tk (by exact (pda_cons (pdv 1) (pda_cons (pd_int) (pda_nil)))) (fun _ _ _ _ _ _ us hl => match us, hl with | [_, _], _ => rfl)) (pd_int) (nomark _)) (pds_one (pdsN 6 sc.nd (pd_op op_addAll od_add (pd_op op_addAll od_add (pd_slice (pdv 6) (pdo_none) (pdo_some (pdv 7))) (pd_callG (x := "_law_of") (st := s__law_of) (ps := ["_law_bag_here", "_law_things"]) (den := den__law_of) G__law_of (by exact (Room.mono hr (by decide))) tk (by exact (pda_cons (pdv 1) (pda_cons (pd_lst (pda_cons (pd_str) (pda_cons (pd_str) (pda_cons (pd_str) (pda_cons (pd_str) (pda_cons (pd_str) (pda_cons (pd_str) (pda_cons (pd_str) (pda_cons (pd_str) (pda_cons (pd_str) (pda_cons (pd_str) (pda_nil)))))))))))) (pda_nil)))) (fun _ _ _ _ _ _ us hl => match us, hl with | [_, _], _ => rfl))) (pd_slice (pdv 6) (pdo_some (pdv 7)) (pdo_none))))) (pds_nil)) (pds_cons (pdsN 6 sc.nd (pd_callG (x := "_law_of") (st := s__law_of) (ps := ["_law_bag_here", "_law_things"]) (den := den__law_of) G__law_of (by exact (Room.mono hr (by decide))) tk (by exact (pda_cons (pdv 1) (pda_cons (pd_lst (pda_cons (pdv 6) (pda_cons (pdv 6) (pda_cons (pdv 6) (pda_cons (pd_str) (pda_cons (pd_str) (pda_cons (pd_str) (pda_cons (pd_str) (pda_cons (pd_str) (pda_cons (pd_str) (pda_nil))))))))))) (pda_nil)))) (fun _ _ _ _ _ _ us hl => match us, hl with | [_, _], _ => rfl))) (pds_cons (pdsN 8 sc.nd (pd_callB (cr_all rfl) ca_all rfl (T.fr 11) b_all (pda_cons (pd_lc (own := [("_law_sign", 14)]) rfl sc.nd (pdi (pdv 6)) (blkOk_by (by kernel_rfl)) (fun _ _ _ _ _ => pdgN 14 sc.nd) (fun _ _ _ _ _ => pts_yes) (fun _ _ _ _ _ => pd_cmp (op_inAll hr) od_in (pdv 14) (pdv 2) (by rfl))) (pda_nil)))) (pds_cons (pdsN 9 sc.nd (pd_and (pdv 8) (pd_and (pd_chain op_le op_le od_cmp od_cmp (pd_int) (pd_callB call_lenAll ca_len rfl (T.fr 10) b_len (pda_cons (pdv 6) (pda_nil))) (pd_int)) (pd_and (pd_cmp (op_neD (Room.units hr)) od_ne (pdv 6) (pd_str) (nomark _)) (pd_one (pd_cmp (op_neD (Room.units hr)) od_ne (pdv 6) (pd_str) (nomark _))))))) (pds_cons (pds_if (pdt_not (pdt_val (pd_callG (x := "_law_same") (st := s__law_same) (ps := ["_law_found", "_law_due"]) (den := (den__law_same 6)) G__law_same (by exact (Room.mono hr (by decide))) tk (by exact (pda_cons (pd_lst (pda_cons (pd_callG (x := "is_name") (st := s_is_name) (ps := ["value"]) (den := den_is_name) G_is_name (by exact (Room.mono hr (by decide))) tk (by exact (pda_cons (pdv 6) (pda_nil))) (fun _ _ _ _ _ _ us hl => match us, hl with | [_], _ => rfl)) (pda_cons (pd_callGK0 (x := "is_name") (st := s_is_name) (ps := ["value"]) (den := den_is_name) (ks := ["value"]) [0] G_is_name (by exact (Room.mono hr (by decide))) tk (by exact (pdk_cons (pdv 6) (pdk_nil))) rfl (fun _ _ _ _ _ _ us ws h1 h2 => match us, ws, h1, h2 with | [], [_], _, _ => rfl)) (pda_nil)))) (pda_cons (pd_lst (pda_cons (pdv 9) (pda_cons (pdv 9) (pda_nil)))) (pda_nil)))) (fun _ _ _ _ _ _ us hl => match us, hl with | [_, _], _ => rfl)))) (pds_one (pds_ret (pd_bl))) (pds_nil)) (pds_cons (pdsN 10 sc.nd (pd_op op_sub od_int0 (pd_callG (x := "_law_take") (st := s__law_take) (ps := ["_law_bag_here", "_law_many"]) (den := den__law_take) G__law_take (by exact (Room.mono hr (by decide))) tk (by exact (pda_cons (pdv 1) (pda_cons (pd_int) (pda_nil)))) (fun _ _ _ _ _ _ us hl => match us, hl with | [_, _], _ => rfl)) (pd_int))) (pds_cons (pdsN 11 sc.nd (pd_op op_sub od_int0 (pd_op op_addAll od_add (pdv 10) (pd_callG (x := "_law_take") (st := s__law_take) (ps := ["_law_bag_here", "_law_many"]) (den := den__law_take) G__law_take (by exact (Room.mono hr (by decide))) tk (by exact (pda_cons (pdv 1) (pda_cons (pd_int) (pda_nil)))) (fun _ _ _ _ _ _ us hl => match us, hl with | [_, _], _ => rfl))) (pd_int))) (pds_cons (pdsN 12 sc.nd (pd_callG (x := "_law_of") (st := s__law_of) (ps := ["_law_bag_here", "_law_things"]) (den := den__law_of) G__law_of (by exact (Room.mono hr (by decide))) tk (by exact (pda_cons (pdv 1) (pda_cons (pd_lst (pda_cons (pdv 10) (pda_cons (pdv 11) (pda_cons (pd_op op_sub od_int0 (pdv 10) (pd_int)) (pda_cons (pd_op op_addAll od_add (pdv 11) (pd_int)) (pda_cons (pd_op op_addAll od_add (pdv 10) (pd_callG (x := "_law_take") (st := s__law_take) (ps := ["_law_bag_here", "_law_many"]) (den := den__law_take) G__law_take (by exact (Room.mono hr (by decide))) tk (by exact (pda_cons (pdv 1) (pda_cons (pd_int) (pda_nil)))) (fun _ _ _ _ _ _ us hl => match us, hl with | [_, _], _ => rfl))) (pda_cons (pd_op op_pow od_int (pd_int) (pd_int)) (pda_cons (pd_op op_sub od_int0 (pd_int) (pd_op op_pow od_int (pd_int) (pd_int))) (pda_nil))))))))) (pda_nil)))) (fun _ _ _ _ _ _ us hl => match us, hl with | [_, _], _ => rfl))) (pds_cons (pdsN 9 sc.nd (pd_chain op_le op_le od_cmp od_cmp (pdv 10) (pdv 12) (pdv 11))) (pds_one (pds_if (pdt_not (pdt_val (pd_callG (x := "_law_same") (st := s__law_same) (ps := ["_law_found", "_law_due"]) (den := (den__law_same 6)) G__law_same (by exact (Room.mono hr (by decide))) tk (by exact (pda_cons (pd_lst (pda_cons (pd_callG (x := "is_integer") (st := s_is_integer) (ps := ["value", "least", "most"]) (den := den_is_integer) G_is_integer (by exact (Room.mono hr (by decide))) tk (by exact (pda_cons (pdv 12) (pda_cons (pdv 10) (pda_cons (pdv 11) (pda_nil))))) (fun _ _ _ _ _ _ us hl => match us, hl with | [_, _, _], _ => rfl)) (pda_cons (pd_callGK0 (x := "is_integer") (st := s_is_integer) (ps := ["value", "least", "most"]) (den := den_is_integer) (ks := ["most", "value", "least"]) [1, 2, 0] G_is_integer (by exact (Room.mono hr (by decide))) tk (by exact (pdk_cons (pdv 11) (pdk_cons (pdv 12) (pdk_cons (pdv 10) (pdk_nil))))) rfl (fun _ _ _ _ _ _ us ws h1 h2 => match us, ws, h1, h2 with | [], [_, _, _], _, _ => rfl)) (pda_nil)))) (pda_cons (pd_lst (pda_cons (pdv 9) (pda_cons (pdv 9) (pda_nil)))) (pda_nil)))) (fun _ _ _ _ _ _ us hl => match us, hl with | [_, _], _ => rfl)))) (pds_one (pds_ret (pd_bl))) (pds_nil))))))))))))))) (pds_cons (pdsN 4 sc.nd (pd_callG (x := "_law_of") (st := s__law_of) (ps := ["_law_bag_here", "_law_things"]) (den := den__law_of) G__law_of (by exact (Room.mono hr (by decide))) tk (by exact (pda_cons (pdv 1) (pda_cons (pd_lst (pda_cons (pd_non) (pda_cons (pd_bl) (pda_cons (pd_bl) (pda_cons (pd_tup (pda_cons (pd_str) (pda_nil))) (pda_cons (pd_lst (pda_cons (pd_str) (pda_nil))) (pda_cons (pd_int) (pda_cons (pd_str) (pda_nil))))))))) (pda_nil)))) (fun _ _ _ _ _ _ us hl => match us, hl with | [_, _], _ => rfl))) (pds_cons (pds_if (pdt_cmp op_notAll od_isnot (pd_callG (x := "is_name") (st := s_is_name) (ps := ["value"]) (den := den_is_name) G_is_name (by exact (Room.mono hr (by decide))) tk (by exact (pda_cons (pdv 4) (pda_nil))) (fun _ _ _ _ _ _ us hl => match us, hl with | [_], _ => rfl)) (pd_bl) (nomark _)) (pds_one (pds_ret (pd_bl))) (pds_nil)) (pds_cons (pds_par2 (i := 4) (j := 13) rfl sc.nd rfl rfl (by decide) rfl rfl (pda_cons (pd_callG (x := "_law_of") (st := s__law_of) (ps := ["_law_bag_here", "_law_things"]) (den := den__law_of) G__law_of (by exact (Room.mono hr (by decide))) tk (by exact (pda_cons (pdv 1) (pda_cons (pd_lst (pda_cons (pd_non) (pda_cons (pd_bl) (pda_cons (pd_bl) (pda_cons (pd_str) (pda_cons (pd_tup (pda_cons (pd_int) (pda_nil))) (pda_cons (pd_lst (pda_cons (pd_int) (pda_nil))) (pda_nil)))))))) (pda_nil)))) (fun _ _ _ _ _ _ us hl => match us, hl with | [_, _], _ => rfl)) (pda_cons (pd_tup (pda_nil)) (pda_nil)))) (pds_cons (pds_for (vs := [5]) (passes_of rfl) rfl (pdi_range1 rfl (T.fr 17) (pda_cons (pd_int) (pda_nil))) (pdgN 5 sc.nd) (pds_one (pdsN 13 sc.nd (pd_tup (pda_cons (pdv 13) (pda_nil)))))) (pds_one (pds_ret (pd_callG (x := "_law_same") (st := s__law_same) (ps := ["_law_found", "_law_due"]) (den := (den__law_same 6)) G__law_same (by exact (Room.mono hr (by decide))) tk (by exact (pda_cons (pd_lst (pda_cons (pd_callG (x := "is_integer") (st := s_is_integer) (ps := ["value", "least", "most"]) (den := den_is_integer) G_is_integer (by exact (Room.mono hr (by decide))) tk (by exact (pda_cons (pdv 4) (pda_cons (pd_int) (pda_cons (pd_int) (pda_nil))))) (fun _ _ _ _ _ _ us hl => match us, hl with | [_, _, _], _ => rfl)) (pda_cons (pd_callG (x := "is_name") (st := s_is_name) (ps := ["value"]) (den := den_is_name) G_is_name (by exact (Room.mono hr (by decide))) tk (by exact (pda_cons (pdv 13) (pda_nil))) (fun _ _ _ _ _ _ us hl => match us, hl with | [_], _ => rfl)) (pda_cons (pd_callG (x := "is_integer") (st := s_is_integer) (ps := ["value", "least", "most"]) (den := den_is_integer) G_is_integer (by exact (Room.mono hr (by decide))) tk (by exact (pda_cons (pdv 13) (pda_cons (pd_int) (pda_cons (pd_int) (pda_nil))))) (fun _ _ _ _ _ _ us hl => match us, hl with | [_, _, _], _ => rfl)) (pda_nil))))) (pda_cons (pd_op op_mulAll od_mul (pd_lst (pda_cons (pd_bl) (pda_nil))) (pd_int)) (pda_nil)))) (fun _ _ _ _ _ _ us hl => match us, hl with | [_, _], _ => rfl))))))))))
end
end Lk02
namespace Lk02
open PySem hiding Env
open L2 Dn Pl
theorem q_bag : den__law_bag = den_bag := rfl
theorem q_take : den__law_take = den_take := rfl
theorem q_of : den__law_of = den_of := rfl
theorem q_same : den__law_same = den_same := by
  funext j
  induction j with
  | zero => rfl
  | succ j ih => 
    show dFn 4 (b__law_same (den__law_same j)) = dFn 4 (b_same (den_same j))
    rw [ih]
    rfl

/-! what a name is -/
def signs (s : Str) : List D := s.cps.toList.map fun c => .str ⟨#[c]⟩
noncomputable def sgB (d : D) : Bool := match d with
  | .str i => !(Builtin.Str.occurrences ("abcdefghijklmnopqrstuvwxyz" : Str) i 0 ("abcdefghijklmnopqrstuvwxyz" : Str).length 1).isEmpty
  | _ => false
noncomputable def plB (s : Str) : Bool := ((signs s).map sgB).all id
noncomputable def nmB (s : Str) : Bool := (decide ((1 : Int) ≤ s.length) && decide ((s.length : Int) ≤ 6)) && ((!(("amount" : Str) == s || ("one" : Str) == s)) && plB s)
theorem al {fa fc : DE} {k : Nat} {vs : List Nat} {ρ : Env} {g : G} {s : Str} (hs : s.length ≤ 1000) (ha : fa ρ g = .ok (.str s) g) (hc : ∀ d, dVar k ((wipeE ρ vs).set k (some d)) g = .ok d g) (hl : ∀ d, fc ((wipeE ρ vs).set k (some d)) g = .ok (.str "abcdefghijklmnopqrstuvwxyz") g) :
    dA allA (dCons (dLc (dIt fa) (gN k) vs (dYes) (d2 inD (dVar k) fc)) (dNil)) ρ g = .ok (.bl (plB s)) g := by
  have e := lc_any (fi := dIt fa) (fg := gN k) (vs := vs) (ft := dYes) (fe := d2 inD (dVar k) fc) (ρ := ρ) (g := g) (it := ⟨signs s, none⟩) (fun d => .bl (sgB d)) (by rw [dIt_ap, ha]; rfl) rfl (by
    show (signs s).length ≤ sizeLine
    unfold signs
    rw [List.length_map, Array.length_toList]
    exact sz (Nat.le_trans hs (by decide))) (fun d hd => ⟨_, rfl, rfl, by
      obtain ⟨c, _, rfl⟩ := List.mem_map.mp hd
      rw [d2_ap, hc, bok, hl, bok]
      rfl⟩)
  rw [a1 e]
  show allA [.lst ((signs s).map fun d => .bl (sgB d))] g = _
  rw [show ((signs s).map fun d => D.bl (sgB d)) = ((signs s).map sgB).map D.bl by rw [List.map_map]; rfl, all_bls]
  rfl
theorem isn_ok {s : Str} {g : G} (hs : s.length ≤ 1000) : den_is_name [.str s] g = .ok (.bl (nmB s)) g := by
  refine fn_rt (ret_ok ?_)
  show dAndV _ _ [some (.str s), none] g = _
  have h1 : dA isiA (dCons (dVar 0) (dCons (dC (.ty .str)) (dNil))) [some (.str s), none] g = .ok (.bl true) g := rfl
  have h2 : dChain leD leD (dC (.int 1)) (dA lenA (dCons (dVar 0) (dNil))) (dC (.int 6)) [some (.str s), none] g = .ok (.bl (decide ((1 : Int) ≤ s.length) && decide ((s.length : Int) ≤ 6))) g := chainLe rfl (by rw [a1 (x := .str s) (g1 := g) rfl]; exact len_str (by omega)) rfl
  have h3 : d2 notInD (dVar 0) (dC (.ftup [.str "amount", .str "one"])) [some (.str s), none] g = .ok (.bl (!(("amount" : Str) == s || ("one" : Str) == s))) g := by
    show Res.ok (D.bl (!(inV (.str s) [.str "amount", .str "one"]))) g = _
    have : inV (.str s) [.str "amount", .str "one"] = (("amount" : Str) == s || ("one" : Str) == s) := by
      unfold inV
      simp only [List.any_cons, List.any_nil, eqV, Bool.or_false]
    rw [this]
  have h4 := al (fa := dVar 0) (fc := dC (.str "abcdefghijklmnopqrstuvwxyz")) (k := 1) (vs := [1]) (ρ := [some (.str s), none]) (g := g) hs rfl (fun _ => rfl) (fun _ => rfl)
  have := andV h1 (andV h2 (andV h3 h4))
  rw [Bool.true_and] at this
  exact this
theorem int_ok {i a b : Int} {g : G} : den_is_integer [.int i, .int a, .int b] g = .ok (.bl (decide (a ≤ i) && decide (i ≤ b))) g := by
  refine fn_rt (ret_ok ?_)
  show dAndV _ _ [some (.int i), some (.int a), some (.int b)] g = _
  have := andV (f := dA isiA (dCons (dVar 0) (dCons (dC (.ty .int)) (dNil)))) (ρ := [some (.int i), some (.int a), some (.int b)]) (g := g) (a := true) rfl (andV (f := dNotV (dA isiA (dCons (dVar 0) (dCons (dC (.ty .bool)) (dNil))))) (a := true) rfl (chainLe (fa := dVar 1) (fb := dVar 0) (fc := dVar 2) rfl rfl rfl))
  rw [Bool.true_and, Bool.true_and] at this
  exact this
noncomputable def oddS : DS := dIfS (dB (d2 eqD (dCall 2 0 den__law_take posD (dCons (dVar 1) (dCons (dC (.int 3)) (dNil))) dNil) (dC (.int 0)))) (dSet 6 (d2 addD (d2 addD (dSl (dVar 6) (dONone) (dOSome (dVar 7))) (dCall 2 0 den__law_of posD (dCons (dVar 1) (dCons (dLst (dCons (dC (.str "A")) (dCons (dC (.str "Z")) (dCons (dC (.str "0")) (dCons (dC (.str "9")) (dCons (dC (.str " ")) (dCons (dC (.str "_")) (dCons (dC (.str "-")) (dCons (dC (.str "\n")) (dCons (dC (.str "`")) (dCons (dC (.str "{")) (dNil)))))))))))) (dNil))) dNil)) (dSl (dVar 6) (dOSome (dVar 7)) (dONone)))) (dNext)
noncomputable def plE : DE := dA allA (dCons (dLc (dIt (dVar 6)) (gN 14) [14] (dYes) (d2 inD (dVar 14) (dVar 2))) (dNil))
noncomputable def duE : DE := dAndV (dVar 8) (dAndV (dChain leD leD (dC (.int 1)) (dA lenA (dCons (dVar 6) (dNil))) (dC (.int 6))) (dAndV (d2 neD (dVar 6) (dC (.str "amount"))) (d2 neD (dVar 6) (dC (.str "one")))))
noncomputable def chE : DE := dChain leD leD (dVar 10) (dVar 12) (dVar 11)
noncomputable def jnE : DE := dM "str" joinM (dC (.str "")) (dCons (dLc (dItA rng1 (dCons (dCall 2 0 den__law_take posD (dCons (dVar 1) (dCons (dC (.int 9)) (dNil))) dNil) (dNil))) (gN 5) [5] (dYes) (dCall 2 0 den__law_of posD (dCons (dVar 1) (dCons (dVar 2) (dNil))) dNil)) (dNil))
noncomputable def lwB : DS := dSeq (dSet 6 jnE) (dSeq (dSet 7 (dCall 2 0 den__law_take posD (dCons (dVar 1) (dCons (d2 addD (dA lenA (dCons (dVar 6) (dNil))) (dC (.int 1))) (dNil))) dNil)) (dSeq oddS (dSeq (dSet 6 (dCall 2 0 den__law_of posD (dCons (dVar 1) (dCons (dLst (dCons (dVar 6) (dCons (dVar 6) (dCons (dVar 6) (dCons (dC (.str "amount")) (dCons (dC (.str "one")) (dCons (dC (.str "ones")) (dCons (dC (.str "amoun")) (dCons (dC (.str "on")) (dCons (dC (.str "mount")) (dNil))))))))))) (dNil))) dNil)) (dSeq (dSet 8 plE) (dSeq (dSet 9 duE) (dSeq (dIfS (dNot (dTru (dCall 2 0 (den__law_same 6) posD (dCons (dLst (dCons (dCall 1 0 den_is_name posD (dCons (dVar 6) (dNil)) dNil) (dCons (dCall 0 1 den_is_name (pickD [0]) dNil (dCons (dVar 6) (dNil))) (dNil)))) (dCons (dLst (dCons (dVar 9) (dCons (dVar 9) (dNil)))) (dNil))) dNil))) (dRet (dC (.bl false))) (dNext)) (dSeq (dSet 10 (d2 subD (dCall 2 0 den__law_take posD (dCons (dVar 1) (dCons (dC (.int 41)) (dNil))) dNil) (dC (.int 20)))) (dSeq (dSet 11 (d2 subD (d2 addD (dVar 10) (dCall 2 0 den__law_take posD (dCons (dVar 1) (dCons (dC (.int 30)) (dNil))) dNil)) (dC (.int 3)))) (dSeq (dSet 12 (dCall 2 0 den__law_of posD (dCons (dVar 1) (dCons (dLst (dCons (dVar 10) (dCons (dVar 11) (dCons (d2 subD (dVar 10) (dC (.int 1))) (dCons (d2 addD (dVar 11) (dC (.int 1))) (dCons (d2 addD (dVar 10) (dCall 2 0 den__law_take posD (dCons (dVar 1) (dCons (dC (.int 9)) (dNil))) dNil)) (dCons (d2 powD (dC (.int 10)) (dC (.int 20))) (dCons (d2 subD (dC (.int 0)) (d2 powD (dC (.int 10)) (dC (.int 20)))) (dNil))))))))) (dNil))) dNil)) (dSeq (dSet 9 chE) (dIfS (dNot (dTru (dCall 2 0 (den__law_same 6) posD (dCons (dLst (dCons (dCall 3 0 den_is_integer posD (dCons (dVar 12) (dCons (dVar 10) (dCons (dVar 11) (dNil)))) dNil) (dCons (dCall 0 3 den_is_integer (pickD [1, 2, 0]) dNil (dCons (dVar 11) (dCons (dVar 12) (dCons (dVar 10) (dNil))))) (dNil)))) (dCons (dLst (dCons (dVar 9) (dCons (dVar 9) (dNil)))) (dNil))) dNil))) (dRet (dC (.bl false))) (dNext))))))))))))
theorem add_str {i j : Str} {g : G} {n m : Nat} (h : Cs n i) (h' : Cs m j) (hl : n + m ≤ 1000000) : addD (.str i) (.str j) g = .ok (.str (i ++ j)) g := by
  have h1 := h.len
  have h2 := h'.len
  exact if_pos (sz (show i.length + j.length ≤ 1000000 by omega))
theorem sl_str {z : Str} {g : G} {n : Nat} (h : Cs n z) (hl : n ≤ 1000000) (lo hi : Option Int) : sliceD (.str z) lo hi g = .ok (.str (cutS z lo hi)) g := if_pos (sz (Nat.le_trans h.len hl))
theorem odd_if {o : GO} (hb : BagO o) {t : Str} (ht : Cs 8 t) (r : Int) (s0 : D) (a3 a4 a5 a8 a9 a10 a11 a12 a13 a14 : Option D) : ∃ t2 o', Cs 17 t2 ∧ BagO o' ∧ oddS [some s0, some (.ref 0), some (.str "abcdefghijklmnopqrstuvwxyz"), a3, a4, a5, some (.str t), some (.int r), a8, a9, a10, a11, a12, a13, a14] [o] = .nx [some s0, some (.ref 0), some (.str "abcdefghijklmnopqrstuvwxyz"), a3, a4, a5, some (.str t2), some (.int r), a8, a9, a10, a11, a12, a13, a14] [o'] := by
  obtain ⟨r3, o1, e1, _, _, hb1⟩ := take1 (t := []) (many := 3) hb (by decide) (by decide)
  by_cases h0 : r3 = 0
  · obtain ⟨x, o2, e2, hx, hb2⟩ := of_lst (t := []) (xs := [.str "A", .str "Z", .str "0", .str "9", .str " ", .str "_", .str "-", .str "\n", .str "`", .str "{"]) hb1 (by simp) (by simp)
    have hx' : ∃ y : Str, x = .str y ∧ Cs 1 y := by
      simp only [List.mem_cons, List.not_mem_nil, or_false] at hx
      rcases hx with rfl | rfl | rfl | rfl | rfl | rfl | rfl | rfl | rfl | rfl <;> exact ⟨_, rfl, Cs.lit (by decide +kernel)⟩
    obtain ⟨y, rfl, hy⟩ := hx'
    have c1 := ht.cut none (some r)
    have c2 := ht.cut (some r) none
    refine ⟨cutS t none (some r) ++ y ++ cutS t (some r) none, o2, (c1.app hy).app c2, hb2, ?_⟩
    have q : eqD (.int r3) (.int 0) [o1] = .ok (.bl true) [o1] := by rw [eq_int, decide_eq_true h0]
    unfold oddS
    simp only [dC_ap, d1_ap, d2_ap, dA_ap, dB_ap, dNil_ap, dCons_ap, dONone_ap, dSl_ap, dTru_ap, dNot_ap, dAnd_ap, dOr_ap, dIf_ap, dNext_ap, dSeq_ap, dBreak_ap, dCont_ap, dNever_ap, dExpr_ap, dRet_ap, dRetN_ap, dIfS_ap, dSet_ap, dIt_ap, dItA_ap, dYes_ap, dCall_ap, dVar_ap, dOSome_ap, dSetIx_ap, dAsg_ap, dAndV_ap, dOrV_ap, dNotV_ap, dLst_ap, dTup_ap, dLstH_ap, lstS0, tupS0, lstHS0, lstS1, tupS1, lstHS1, lstS2, tupS2, lstHS2, lstS3, tupS3, lstHS3, lstS4, tupS4, lstHS4, lstS5, tupS5, lstHS5, lstS6, tupS6, lstHS6, lstS7, tupS7, lstHS7, lstS8, tupS8, lstHS8, lstS9, tupS9, lstHS9, lstS10, tupS10, lstHS10, List.getElem?_cons_zero, List.getElem?_cons_succ, List.set_cons_zero, List.set_cons_succ, List.length_cons, List.length_nil, bok, tok, snx, srt, boolD_ap, gN_ap, posD_ap, and_self, if_true, Bool.false_eq_true, if_false, decide_true, decide_false, Bool.not_true, Bool.not_false, truR_bl, q_take, e1, q, sl_str ht (show 8 ≤ 1000000 by decide), q_of, e2, add_str c1 hy (show 8 + 1 ≤ 1000000 by decide), add_str (c1.app hy) c2 (show 8 + 1 + 8 ≤ 1000000 by decide)]
  · refine ⟨t, o1, ht.mono (by decide), hb1, ?_⟩
    have q : eqD (.int r3) (.int 0) [o1] = .ok (.bl false) [o1] := by rw [eq_int, decide_eq_false h0]
    unfold oddS
    simp only [dC_ap, d1_ap, d2_ap, dA_ap, dB_ap, dNil_ap, dCons_ap, dONone_ap, dSl_ap, dTru_ap, dNot_ap, dAnd_ap, dOr_ap, dIf_ap, dNext_ap, dSeq_ap, dBreak_ap, dCont_ap, dNever_ap, dExpr_ap, dRet_ap, dRetN_ap, dIfS_ap, dSet_ap, dIt_ap, dItA_ap, dYes_ap, dCall_ap, dVar_ap, dOSome_ap, dSetIx_ap, dAsg_ap, dAndV_ap, dOrV_ap, dNotV_ap, dLst_ap, dTup_ap, dLstH_ap, lstS0, tupS0, lstHS0, lstS1, tupS1, lstHS1, lstS2, tupS2, lstHS2, lstS3, tupS3, lstHS3, lstS4, tupS4, lstHS4, lstS5, tupS5, lstHS5, lstS6, tupS6, lstHS6, lstS7, tupS7, lstHS7, lstS8, tupS8, lstHS8, lstS9, tupS9, lstHS9, lstS10, tupS10, lstHS10, List.getElem?_cons_zero, List.getElem?_cons_succ, List.set_cons_zero, List.set_cons_succ, List.length_cons, List.length_nil, bok, tok, snx, srt, boolD_ap, gN_ap, posD_ap, and_self, if_true, Bool.false_eq_true, if_false, decide_true, decide_false, Bool.not_true, Bool.not_false, truR_bl, q_take, e1, q]
theorem lw_turn {o : GO} (hb : BagO o) (s0 : D) (a3 a4 a5 a6 a7 a8 a9 a10 a11 a12 a13 a14 : Option D) : ∃ b6 b7 b8 b9 b10 b11 b12 o', lwB [some s0, some (.ref 0), some (.str "abcdefghijklmnopqrstuvwxyz"), a3, a4, a5, a6, a7, a8, a9, a10, a11, a12, a13, a14] [o] = .nx [some s0, some (.ref 0), some (.str "abcdefghijklmnopqrstuvwxyz"), a3, a4, a5, b6, b7, b8, b9, b10, b11, b12, a13, a14] [o'] ∧ BagO o' := by
  have hL : Cs 26 ("abcdefghijklmnopqrstuvwxyz" : Str) := Cs.lit (by decide +kernel)
  have hL0 : 0 < ("abcdefghijklmnopqrstuvwxyz" : Str).length := by decide +kernel
  obtain ⟨n1, o1, e1, hn1, hb1⟩ := takeN (t := []) 9 hb (by decide) (by decide)
  have e1' : den_take [.ref 0, .int 9] [o] = .ok (.int (n1 : Int)) [o1] := e1
  obtain ⟨ys, o2, e2, hl, hp, hb2⟩ := lc_rngB (t := []) (o := o) (o1 := o1) (n := n1) (k := 5) (vs := [5]) (P := fun d => ∃ z : Str, d = .str z ∧ Cs 1 z) (fs := dCons (dCall 2 0 den__law_take posD (dCons (dVar 1) (dCons (dC (.int 9)) (dNil))) dNil) (dNil)) (fe := dCall 2 0 den__law_of posD (dCons (dVar 1) (dCons (dVar 2) (dNil))) dNil) (ρ := [some s0, some (.ref 0), some (.str "abcdefghijklmnopqrstuvwxyz"), a3, a4, a5, a6, a7, a8, a9, a10, a11, a12, a13, a14]) hb1 (by simp only [dC_ap, d1_ap, d2_ap, dA_ap, dB_ap, dNil_ap, dCons_ap, dONone_ap, dSl_ap, dTru_ap, dNot_ap, dAnd_ap, dOr_ap, dIf_ap, dNext_ap, dSeq_ap, dBreak_ap, dCont_ap, dNever_ap, dExpr_ap, dRet_ap, dRetN_ap, dIfS_ap, dSet_ap, dIt_ap, dItA_ap, dYes_ap, dCall_ap, dVar_ap, dOSome_ap, dSetIx_ap, dAsg_ap, dAndV_ap, dOrV_ap, dNotV_ap, dLst_ap, dTup_ap, dLstH_ap, lstS0, tupS0, lstHS0, lstS1, tupS1, lstHS1, lstS2, tupS2, lstHS2, lstS3, tupS3, lstHS3, lstS4, tupS4, lstHS4, lstS5, tupS5, lstHS5, lstS6, tupS6, lstHS6, lstS7, tupS7, lstHS7, lstS8, tupS8, lstHS8, lstS9, tupS9, lstHS9, lstS10, tupS10, lstHS10, List.getElem?_cons_zero, List.getElem?_cons_succ, List.set_cons_zero, List.set_cons_succ, List.length_cons, List.length_nil, bok, tok, snx, srt, boolD_ap, gN_ap, posD_ap, and_self, if_true, Bool.false_eq_true, if_false, decide_true, decide_false, Bool.not_true, Bool.not_false, truR_bl, q_take, e1']) (by omega) (fun i hi o hb => by
    obtain ⟨y, o', e, hy, hb'⟩ := of_str (t := []) hb hL hL0 (Nat.le_trans hL.len (by decide))
    refine ⟨.str y, o', ?_, ⟨y, rfl, hy⟩, hb'⟩
    simp only [wipeE, dC_ap, d1_ap, d2_ap, dA_ap, dB_ap, dNil_ap, dCons_ap, dONone_ap, dSl_ap, dTru_ap, dNot_ap, dAnd_ap, dOr_ap, dIf_ap, dNext_ap, dSeq_ap, dBreak_ap, dCont_ap, dNever_ap, dExpr_ap, dRet_ap, dRetN_ap, dIfS_ap, dSet_ap, dIt_ap, dItA_ap, dYes_ap, dCall_ap, dVar_ap, dOSome_ap, dSetIx_ap, dAsg_ap, dAndV_ap, dOrV_ap, dNotV_ap, dLst_ap, dTup_ap, dLstH_ap, lstS0, tupS0, lstHS0, lstS1, tupS1, lstHS1, lstS2, tupS2, lstHS2, lstS3, tupS3, lstHS3, lstS4, tupS4, lstHS4, lstS5, tupS5, lstHS5, lstS6, tupS6, lstHS6, lstS7, tupS7, lstHS7, lstS8, tupS8, lstHS8, lstS9, tupS9, lstHS9, lstS10, tupS10, lstHS10, List.getElem?_cons_zero, List.getElem?_cons_succ, List.set_cons_zero, List.set_cons_succ, List.length_cons, List.length_nil, bok, tok, snx, srt, boolD_ap, gN_ap, posD_ap, and_self, if_true, Bool.false_eq_true, if_false, decide_true, decide_false, Bool.not_true, Bool.not_false, truR_bl, q_of, e])
  obtain ⟨zs, rfl, hz⟩ := strs_ex ys hp
  rw [List.length_map] at hl
  have ht : Cs 8 (Txt.join "" zs) := (join_nil zs hz).mono (by omega)
  have jn : ∀ g, joinM (.str "") [.lst (zs.map .str)] g = .ok (.str (Txt.join "" zs)) g := fun g => join_ok hz (by omega)
  generalize Txt.join "" zs = t at *
  obtain ⟨at_, o3, e3, _, hb3⟩ := takeN (t := []) (t.length + 1) hb2 (by omega) (by have := ht.len; omega)
  have e3' : den_take [.ref 0, .int ((t.length : Int) + 1)] [o2] = .ok (.int (at_ : Int)) [o3] := e3
  obtain ⟨t2, o4, ht2, hb4, e4⟩ := odd_if hb3 ht at_ s0 a3 a4 a5 a8 a9 a10 a11 a12 a13 a14
  obtain ⟨x, o5, e5, hx, hb5⟩ := of_lst (t := []) (xs := [.str t2, .str t2, .str t2, .str "amount", .str "one", .str "ones", .str "amoun", .str "on", .str "mount"]) hb4 (by simp) (by simp)
  have hx' : ∃ y : Str, x = .str y ∧ Cs 17 y := by
    simp only [List.mem_cons, List.not_mem_nil, or_false] at hx
    rcases hx with rfl | rfl | rfl | rfl | rfl | rfl | rfl | rfl | rfl
    · exact ⟨_, rfl, ht2⟩
    · exact ⟨_, rfl, ht2⟩
    · exact ⟨_, rfl, ht2⟩
    all_goals exact ⟨_, rfl, Cs.lit (by decide +kernel)⟩
  obtain ⟨s, rfl, hs⟩ := hx'
  have hs1 : s.length ≤ 1000 := Nat.le_trans hs.len (by decide)
  have pl : ∀ g, plE [some s0, some (.ref 0), some (.str "abcdefghijklmnopqrstuvwxyz"), a3, a4, a5, some (.str s), some (.int (at_ : Int)), a8, a9, a10, a11, a12, a13, a14] g = .ok (.bl (plB s)) g := fun g => al hs1 rfl (fun _ => rfl) (fun _ => rfl)
  have du : ∀ g, duE [some s0, some (.ref 0), some (.str "abcdefghijklmnopqrstuvwxyz"), a3, a4, a5, some (.str s), some (.int (at_ : Int)), some (.bl (plB s)), a9, a10, a11, a12, a13, a14] g = .ok (.bl (nmB s)) g := fun g => by
    have := andV (f := dVar 8) (ρ := [some s0, some (.ref 0), some (.str "abcdefghijklmnopqrstuvwxyz"), a3, a4, a5, some (.str s), some (.int (at_ : Int)), some (.bl (plB s)), a9, a10, a11, a12, a13, a14]) (g := g) (a := plB s) rfl (andV (chainLe (fa := dC (.int 1)) (fb := dA lenA (dCons (dVar 6) (dNil))) (fc := dC (.int 6)) (a := 1) (b := s.length) (c := 6) rfl (by rw [a1 (x := .str s) (g1 := g) rfl]; exact len_str (by omega)) rfl) (andV (f := d2 neD (dVar 6) (dC (.str "amount"))) (h := d2 neD (dVar 6) (dC (.str "one"))) (ne_str (j := "amount") (m := 6) hs (Cs.lit (by decide +kernel))) (ne_str (j := "one") (m := 6) hs (Cs.lit (by decide +kernel)))))
    refine this.trans ?_
    have c1 : (s == ("amount" : Str)) = (("amount" : Str) == s) := BEq.comm
    have c2 : (s == ("one" : Str)) = (("one" : Str) == s) := BEq.comm
    unfold nmB
    rw [c1, c2]
    generalize plB s = p1
    generalize decide ((1 : Int) ≤ s.length) = p2
    generalize decide ((s.length : Int) ≤ 6) = p3
    generalize (("amount" : Str) == s) = p4
    generalize (("one" : Str) == s) = p5
    cases p1 <;> cases p2 <;> cases p3 <;> cases p4 <;> cases p5 <;> rfl
  have sm : ∀ (b : Bool) g, den_same 6 [.lst [.bl b, .bl b], .lst [.bl b, .bl b]] g = .ok (.bl true) g := fun b g => same_ok 6 _ g (plain_lst (by simp) fun d hd => by
    simp only [List.mem_cons, List.not_mem_nil, or_false, or_self] at hd
    subst hd
    rfl)
  obtain ⟨r1, o6, e6, _, _, hb6⟩ := take1 (t := []) (many := 41) hb5 (by decide) (by decide)
  obtain ⟨r2, o7, e7, _, _, hb7⟩ := take1 (t := []) (many := 30) hb6 (by decide) (by decide)
  obtain ⟨r3, o8, e8, _, _, hb8⟩ := take1 (t := []) (many := 9) hb7 (by decide) (by decide)
  generalize hle : r1 - 20 = le
  generalize hmo : le + r2 - 3 = mo
  obtain ⟨x, o9, e9, hx, hb9⟩ := of_lst (t := []) (xs := [.int le, .int mo, .int (le - 1), .int (mo + 1), .int (le + r3), .int (10 ^ 20), .int (0 - 10 ^ 20)]) hb8 (by simp) (by simp)
  have hx' : ∃ y : Int, x = .int y := by
    simp only [List.mem_cons, List.not_mem_nil, or_false] at hx
    rcases hx with rfl | rfl | rfl | rfl | rfl | rfl | rfl <;> exact ⟨_, rfl⟩
  obtain ⟨nu, rfl⟩ := hx'
  have p1 : ∀ g, powD (.int 10) (.int 20) g = .ok (.int (10 ^ 20)) g := fun _ => rfl
  have pk : ∀ a b c : D, pickD [1, 2, 0] [] [a, b, c] = [b, c, a] := fun _ _ _ => rfl
  have pk1 : ∀ a : D, pickD [0] [] [a] = [a] := fun _ => rfl
  have lt : lenA [.str t] = fun g => .ok (.int t.length) g := funext fun g => len_str (by have := ht.len; omega)
  have ch : ∀ (v9 : Option D) g, chE [some s0, some (.ref 0), some (.str "abcdefghijklmnopqrstuvwxyz"), a3, a4, a5, some (.str s), some (.int (at_ : Int)), some (.bl (plB s)), v9, some (.int le), some (.int mo), some (.int nu), a13, a14] g = .ok (.bl (decide (le ≤ nu) && decide (nu ≤ mo))) g := fun v9 g => chainLe rfl rfl rfl
  have jj := dM_str (k := joinM) (fo := dC (.str "")) (g := [o]) (g1 := [o]) (s := "") rfl (cons1 e2)
  rw [jn] at jj
  have jj' : jnE [some s0, some (.ref 0), some (.str "abcdefghijklmnopqrstuvwxyz"), a3, a4, a5, a6, a7, a8, a9, a10, a11, a12, a13, a14] [o] = .ok (.str t) [o2] := jj
  refine ⟨some (.str s), some (.int (at_ : Int)), some (.bl (plB s)), some (.bl (decide (le ≤ nu) && decide (nu ≤ mo))), some (.int le), some (.int mo), some (.int nu), o9, ?_, hb9⟩
  unfold lwB
  simp only [dC_ap, d1_ap, d2_ap, dA_ap, dB_ap, dNil_ap, dCons_ap, dONone_ap, dSl_ap, dTru_ap, dNot_ap, dAnd_ap, dOr_ap, dIf_ap, dNext_ap, dSeq_ap, dBreak_ap, dCont_ap, dNever_ap, dExpr_ap, dRet_ap, dRetN_ap, dIfS_ap, dSet_ap, dIt_ap, dItA_ap, dYes_ap, dCall_ap, dVar_ap, dOSome_ap, dSetIx_ap, dAsg_ap, dAndV_ap, dOrV_ap, dNotV_ap, dLst_ap, dTup_ap, dLstH_ap, lstS0, tupS0, lstHS0, lstS1, tupS1, lstHS1, lstS2, tupS2, lstHS2, lstS3, tupS3, lstHS3, lstS4, tupS4, lstHS4, lstS5, tupS5, lstHS5, lstS6, tupS6, lstHS6, lstS7, tupS7, lstHS7, lstS8, tupS8, lstHS8, lstS9, tupS9, lstHS9, lstS10, tupS10, lstHS10, List.getElem?_cons_zero, List.getElem?_cons_succ, List.set_cons_zero, List.set_cons_succ, List.length_cons, List.length_nil, bok, tok, snx, srt, boolD_ap, gN_ap, posD_ap, and_self, if_true, Bool.false_eq_true, if_false, decide_true, decide_false, Bool.not_true, Bool.not_false, truR_bl, jj', lt, addD, q_take, e3', e4, q_of, e5, pl, du, q_same, isn_ok hs1, sm, pk, pk1, e6, e7, e8, e9, subD, intD0, hle, hmo, p1, ch, int_ok]
theorem b_law_eq : b_law = dSeq (dSet 1 (dCall 1 0 den__law_bag posD (dCons (dVar 0) (dNil)) dNil)) (dSeq (dSet 2 (dC (.str "abcdefghijklmnopqrstuvwxyz"))) (dSeq (dFor (dItA rng1 (dCons (dC (.int 12)) (dNil))) (gN 3) lwB) (dSeq (dSet 4 (dCall 2 0 den__law_of posD (dCons (dVar 1) (dCons (dLst (dCons (dC .non) (dCons (dC (.bl true)) (dCons (dC (.bl false)) (dCons (dTup (dCons (dC (.str "a")) (dNil))) (dCons (dLst (dCons (dC (.str "a")) (dNil))) (dCons (dC (.int 3)) (dCons (dC (.str "")) (dNil))))))))) (dNil))) dNil)) (dSeq (dIfS (dB (d2 notND (dCall 1 0 den_is_name posD (dCons (dVar 4) (dNil)) dNil) (dC (.bl false)))) (dRet (dC (.bl false))) (dNext)) (dSeq (dPar2 4 13 (dCons (dCall 2 0 den__law_of posD (dCons (dVar 1) (dCons (dLst (dCons (dC .non) (dCons (dC (.bl true)) (dCons (dC (.bl false)) (dCons (dC (.str "1")) (dCons (dTup (dCons (dC (.int 1)) (dNil))) (dCons (dLst (dCons (dC (.int 1)) (dNil))) (dNil)))))))) (dNil))) dNil) (dCons (dTup (dNil)) (dNil)))) (dSeq (dFor (dItA rng1 (dCons (dC (.int 9)) (dNil))) (gN 5) (dSet 13 (dTup (dCons (dVar 13) (dNil))))) (dRet (dCall 2 0 (den__law_same 6) posD (dCons (dLst (dCons (dCall 3 0 den_is_integer posD (dCons (dVar 4) (dCons (dC (.int 0)) (dCons (dC (.int 1)) (dNil)))) dNil) (dCons (dCall 1 0 den_is_name posD (dCons (dVar 13) (dNil)) dNil) (dCons (dCall 3 0 den_is_integer posD (dCons (dVar 13) (dCons (dC (.int 0)) (dCons (dC (.int 1)) (dNil)))) dNil) (dNil))))) (dCons (d2 mulD (dLst (dCons (dC (.bl false)) (dNil))) (dC (.int 3))) (dNil))) dNil)))))))) := rfl
theorem law_true (ns : List Int) (h : ns.length ≤ 63) : ∃ g, den_law [.fz (ns.map .int)] [] = .ok (.bl true) g := by
  obtain ⟨o, e0, hb⟩ := bag_ok ns h
  obtain ⟨ρ', g', e, o1, b3, b6, b7, b8, b9, b10, b11, b12, rfl, rfl, hb1⟩ := for_rng (fs := dCons (dC (.int 12)) dNil) (k := 3) (n := 12) (fb := lwB) (ρ := [some (.fz (ns.map .int)), some (.ref 0), some (.str "abcdefghijklmnopqrstuvwxyz"), none, none, none, none, none, none, none, none, none, none, none, none]) (g := [o])
    (fun i ρ g => ∃ o' b3 b6 b7 b8 b9 b10 b11 b12, ρ = [some (.fz (ns.map .int)), some (.ref 0), some (.str "abcdefghijklmnopqrstuvwxyz"), b3, none, none, b6, b7, b8, b9, b10, b11, b12, none, none] ∧ g = [o'] ∧ BagO o') rfl (by omega)
    ⟨o, _, _, _, _, _, _, _, _, rfl, rfl, hb⟩ (fun i ρ g hi ⟨o', b3, b6, b7, b8, b9, b10, b11, b12, e1, e2, hb'⟩ => by
      subst e1 e2
      obtain ⟨c6, c7, c8, c9, c10, c11, c12, o2, e, hb2⟩ := lw_turn hb' (.fz (ns.map .int)) (some (.int (i : Int))) none none b6 b7 b8 b9 b10 b11 b12 none none
      exact ⟨_, _, e, o2, _, _, _, _, _, _, _, _, rfl, rfl, hb2⟩)
  obtain ⟨x, o2, e2, hx, hb2⟩ := of_lst (t := []) (xs := [.non, .bl true, .bl false, .tup [.str "a"], .lst [.str "a"], .int 3, .str ""]) hb1 (by simp) (by simp)
  have n1 : ∀ g, den_is_name [x] g = .ok (.bl false) g := fun g => by
    simp only [List.mem_cons, List.not_mem_nil, or_false] at hx
    rcases hx with rfl | rfl | rfl | rfl | rfl | rfl | rfl
    · rfl
    · rfl
    · rfl
    · rfl
    · rfl
    · rfl
    · rw [isn_ok (by decide +kernel)]
      unfold nmB
      rw [show ("" : Str).length = 0 by decide +kernel]
      rfl
  obtain ⟨y, o3, e3, hy, hb3⟩ := of_lst (t := []) (xs := [.non, .bl true, .bl false, .str "1", .tup [.int 1], .lst [.int 1]]) hb2 (by simp) (by simp)
  have n2 : ∀ g, den_is_integer [y, .int 0, .int 1] g = .ok (.bl false) g := fun g => by
    simp only [List.mem_cons, List.not_mem_nil, or_false] at hy
    rcases hy with rfl | rfl | rfl | rfl | rfl | rfl <;> rfl
  obtain ⟨ρ2, g2, e4, b5, ds, rfl, rfl⟩ := for_rng (fs := dCons (dC (.int 9)) dNil) (k := 5) (n := 9) (fb := dSet 13 (dTup (dCons (dVar 13) (dNil)))) (ρ := [some (.fz (ns.map .int)), some (.ref 0), some (.str "abcdefghijklmnopqrstuvwxyz"), b3, some y, none, b6, b7, b8, b9, b10, b11, b12, some (.tup []), none]) (g := [o3])
    (fun i ρ g => ∃ b5 ds, ρ = [some (.fz (ns.map .int)), some (.ref 0), some (.str "abcdefghijklmnopqrstuvwxyz"), b3, some y, b5, b6, b7, b8, b9, b10, b11, b12, some (.tup ds), none] ∧ g = [o3]) rfl (by omega)
    ⟨none, [], rfl, rfl⟩ (fun i ρ g hi ⟨b5, ds, e1, e2⟩ => by
      subst e1 e2
      refine ⟨_, _, ?_, some (.int (i : Int)), [.tup ds], rfl, rfl⟩
      simp only [dC_ap, d1_ap, d2_ap, dA_ap, dB_ap, dNil_ap, dCons_ap, dONone_ap, dSl_ap, dTru_ap, dNot_ap, dAnd_ap, dOr_ap, dIf_ap, dNext_ap, dSeq_ap, dBreak_ap, dCont_ap, dNever_ap, dExpr_ap, dRet_ap, dRetN_ap, dIfS_ap, dSet_ap, dIt_ap, dItA_ap, dYes_ap, dCall_ap, dVar_ap, dOSome_ap, dSetIx_ap, dAsg_ap, dAndV_ap, dOrV_ap, dNotV_ap, dLst_ap, dTup_ap, dLstH_ap, lstS0, tupS0, lstHS0, lstS1, tupS1, lstHS1, lstS2, tupS2, lstHS2, lstS3, tupS3, lstHS3, lstS4, tupS4, lstHS4, lstS5, tupS5, lstHS5, lstS6, tupS6, lstHS6, lstS7, tupS7, lstHS7, lstS8, tupS8, lstHS8, lstS9, tupS9, lstHS9, lstS10, tupS10, lstHS10, List.getElem?_cons_zero, List.getElem?_cons_succ, List.set_cons_zero, List.set_cons_succ, List.length_cons, List.length_nil, bok, tok, snx, srt, boolD_ap, gN_ap, posD_ap, and_self, if_true, Bool.false_eq_true, if_false, decide_true, decide_false, Bool.not_true, Bool.not_false, truR_bl])
  have n3 : ∀ g, den_is_name [.tup ds] g = .ok (.bl false) g := fun g => rfl
  have n4 : ∀ g, den_is_integer [.tup ds, .int 0, .int 1] g = .ok (.bl false) g := fun g => rfl
  have m3 : ∀ g, mulD (.lst [.bl false]) (.int 3) g = .ok (.lst [.bl false, .bl false, .bl false]) g := fun g => rfl
  have sm : ∀ g, den_same 6 [.lst [.bl false, .bl false, .bl false], .lst [.bl false, .bl false, .bl false]] g = .ok (.bl true) g := fun g => same_ok 6 _ g (plain_lst (by simp) fun d hd => by
    simp only [List.mem_cons, List.not_mem_nil, or_false, or_self] at hd
    subst hd
    rfl)
  have p2 : ∀ (fs : DA) (ρ : Env) (g : G), dPar2 4 13 fs ρ g = (fs ρ g).toS ρ fun ds g1 => match ds with | [a, b] => .nx ((ρ.set 4 (some a)).set 13 (some b)) g1 | _ => .bad := fun _ _ _ => rfl
  refine ⟨[o3], fn_rt ?_⟩
  show b_law [some (.fz (ns.map .int)), none, none, none, none, none, none, none, none, none, none, none, none, none, none] [] = _
  rw [b_law_eq]
  simp only [dC_ap, d1_ap, d2_ap, dA_ap, dB_ap, dNil_ap, dCons_ap, dONone_ap, dSl_ap, dTru_ap, dNot_ap, dAnd_ap, dOr_ap, dIf_ap, dNext_ap, dSeq_ap, dBreak_ap, dCont_ap, dNever_ap, dExpr_ap, dRet_ap, dRetN_ap, dIfS_ap, dSet_ap, dIt_ap, dItA_ap, dYes_ap, dCall_ap, dVar_ap, dOSome_ap, dSetIx_ap, dAsg_ap, dAndV_ap, dOrV_ap, dNotV_ap, dLst_ap, dTup_ap, dLstH_ap, lstS0, tupS0, lstHS0, lstS1, tupS1, lstHS1, lstS2, tupS2, lstHS2, lstS3, tupS3, lstHS3, lstS4, tupS4, lstHS4, lstS5, tupS5, lstHS5, lstS6, tupS6, lstHS6, lstS7, tupS7, lstHS7, lstS8, tupS8, lstHS8, lstS9, tupS9, lstHS9, lstS10, tupS10, lstHS10, List.getElem?_cons_zero, List.getElem?_cons_succ, List.set_cons_zero, List.set_cons_succ, List.length_cons, List.length_nil, bok, tok, snx, srt, boolD_ap, gN_ap, posD_ap, and_self, if_true, Bool.false_eq_true, if_false, decide_true, decide_false, Bool.not_true, Bool.not_false, truR_bl, q_bag, e0, e, q_of, e2, n1, notND, e3, p2, e4, n2, n3, n4, q_same, m3, sm]
end Lk02

namespace Lk02
open PySem PySem.Spec PyProof.Rows L2 Dn
abbrev R : PySem.W.OpenRow := PySem.W.OpenLaw.row PySem.Challenge.rw_twinbegun_k02_names_and_integers
abbrev hk : PySem.W.Hook := Dn.hookQ 4 fa fn fx
def ob (s : PySem.W.SharedT) : Bool × He.AlD := Dn.obsQ 4 fa fn fx (HandSHeadRun.getT s)
theorem ob_eq (s : PySem.W.SharedT) : ob s = hk.obs s.abs := Dn.obsQ_eq (HandSHeadRun.getT_eq s)
def loose : List PySem.Str := (["is_name", "is_integer", "_law_bag", "_law_take", "_law_of", "_law_same", "RESERVED"] : List PySem.Str)
theorem run (w : World) : HandSHeadRun.RunEq R (PySem.W.view R.prog [9]) hk ob 3000 loose w := by
  intro os
  kernel_rfl
theorem facts {P : Program} {w : World} {K : PySem.W.Frag} {h : Heap} {mg : Str → Option Value} {f : Addr} (X : K.In h) (G : h.Ns mainGlobals mg) (hfa : mg ("law" : Str) = some (.ref f)) (c : Dn.SaysQ fa fn fx K) :
    ∃ fd : FuncData, (∀ (s : Shared) (v : Value), BindsTo s fd ⟨[v], []⟩ [("_law_script", v)]) ∧ ∀ base : Heap, FnOk P w K mg base (L2.CX P w) 7 f fd ["_law_script"] (Dn.spD ⟨K, fun _ => none⟩ 1 den_law) := by
  have T : Dn.Tq fa fn fx K mg := Dn.Tq.mk' X G c
  have e := hfa.symm.trans (T.gl 6 (x := "law"))
  cases e
  obtain ⟨fd, F⟩ := T.df 6 "law" s_law rfl
  have b := L2.FunD.bindsA (ps := ["_law_script"]) F fun _ _ _ _ _ _ us hl => match us, hl with | [_], _ => rfl
  exact ⟨fd, fun s v => b s [v] rfl, fun base => Dn.law_got F (fun base => got_law T) base⟩
end Lk02
open PySem PySem.W PySem.Calls PyProof.Rows
theorem PySem.Challenge.cw_twinbegun_k02_names_and_integers_holds : PySem.Challenge.rw_twinbegun_k02_names_and_integers.Holds := by
  w_on; o_law
  refine HandSHeadRun.head_any (r := OpenLaw.row PySem.Challenge.rw_twinbegun_k02_names_and_integers) (q := view (OpenLaw.row PySem.Challenge.rw_twinbegun_k02_names_and_integers).prog [9]) (H := Lk02.hk) (ob := Lk02.ob) (M := 3000) (loose := Lk02.loose) (d := HandSHeadRun.topDef (OpenLaw.row PySem.Challenge.rw_twinbegun_k02_names_and_integers).prog 9) (kwd := []) Lk02.ob_eq
    (by kernel_rfl) (fun s => by kernel_rfl) Lk02.run (by kernel_rfl) (by kernel_rfl) (by kernel_rfl) (by rfl) (by first | assumption | decide +kernel) (by decide +kernel) ⟨rfl, rfl, rfl, rfl, rfl, by decide +kernel⟩ ?hw ?hc
  case hw => w_witness2
  case hc =>
    refine Dn.walk_D (l := PySem.Challenge.rw_twinbegun_k02_names_and_integers) (n := 63) (k := 7) (x := "_law_script") rfl (by decide) (by kernel_rfl) ⟨rfl, by decide, by decide⟩ ?F
    intro w mg fa h Y G hmg0
    obtain ⟨K, KX, c⟩ := Y
    have hmg : mg ("law" : PySem.Str) = some (.ref fa) := by
      have e : (HandSHeadRun.topDef (OpenLaw.row PySem.Challenge.rw_twinbegun_k02_names_and_integers).prog 9).name = ("law" : PySem.Str) := by kernel_rfl
      rw [← e]
      exact hmg0
    obtain ⟨fd, hb, hF⟩ := Lk02.facts (P := (PySem.Challenge.rw_twinbegun_k02_names_and_integers).prog) (w := w) KX G hmg c
    exact ⟨K, fd, Dn.spD ⟨K, fun _ => none⟩ 1 Lk02.den_law, KX, hb, fun H a ns hl hS => Dn.law_sp Lk02.law_true H a ns hl hS, fun base _ _ => hF base⟩
