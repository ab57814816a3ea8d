import PyProof.Rows.All
import Wide.All
import OpenK.AllK
import Wide.FinOn
import HandS.ForMost
import HandS.Exc
import HandS.ExcOwn
import HandS.TryMany
import HandS.ExcInit
import HandS.Star
import HandS.Defaults
import HandS.FStr
import HandS.Property
import HandS.Codes
import HandS.Conv
import HandS.Deep
import HandS.TupAny
import HandS.Wide
import HandS.IsInst
import HandS.RaiseMore
import HandS.Head0
import HandS.Head1
import HandS.Head2
import HandS.HeadEnd
import HandS.HeadHook1
import HandS.HeadHook2
import HandS.HeadHook3
import HandS.HeadHook4
import PySem.Challenge.RW_queuecut_k02_names
set_option Elab.async false
set_option linter.all false
set_option maxRecDepth 100000
set_option maxHeartbeats 1000000
/-! Values as data: what a Python value of the program is, apart from the addresses at which it stands. -/
namespace Q
open PySem PySem.Spec PyProof.Rows L2

/-- a value as data; ref l: the changeable object with the number l -/
inductive D where
  | non
  | bl (b : Bool)
  | int (i : Int)
  | str (s : Str)
  | ty (n : String)
  | cls (n : Str)
  | ref (l : Nat)
  | tup (l : List D)
  | lst (l : List D)
  | scr (l : List D)
  | obj (n : Str) (fs : List (Str × D))
  | exn (n : Str) (fs : List (Str × D))
/-- a changeable object -/
inductive MO where
  | lst (l : List D)
  | inst (n : Str) (fs : List (Str × D))
  | dead
abbrev MS := List MO
/-- the classes of the program, by name -/
structure Cl where
  K : PySem.W.Frag
  adr : Str → Option Addr

mutual
def VR (c : Cl) (θ : List Addr) (P : Hp) : D → V → Prop
  | .non, v => v = .non
  | .bl b, v => v = .bl b
  | .int i, v => v = .int i
  | .str s, v => v = .str s
  | .ty n, v => v = .ty n
  | .cls n, v => ∃ a, c.adr n = some a ∧ v = .ref a
  | .ref l, v => ∃ a, θ[l]? = some a ∧ v = .ref a
  | .tup l, v => ∃ a vs, v = .ref a ∧ SqT c.K P a vs ∧ VRL c θ P l vs
  | .lst l, v => ∃ a vs, v = .ref a ∧ P a = some (.lst vs) ∧ VRL c θ P l vs
  | .scr l, v => ∃ a vs, v = .ref a ∧ SqL c.K P a vs ∧ VRL c θ P l vs
  | .obj n fs, v => ∃ a C dx fv, v = .ref a ∧ c.adr n = some C ∧ P a = some (.ins C dx fv) ∧ VRF c θ P fs fv
  | .exn n fs, v => ∃ a C d fv, v = .ref a ∧ c.adr n = some C ∧ P a = some (exo a C (some d)) ∧ P d = some (exd d fv) ∧ VRF c θ P fs fv
def VRL (c : Cl) (θ : List Addr) (P : Hp) : List D → List V → Prop
  | [], vs => vs = []
  | d :: ds, vs => ∃ v r, vs = v :: r ∧ VR c θ P d v ∧ VRL c θ P ds r
def VRF (c : Cl) (θ : List Addr) (P : Hp) : List (Str × D) → List (Str × V) → Prop
  | [], vs => vs = []
  | (f, d) :: ds, vs => ∃ v r, vs = (f, v) :: r ∧ VR c θ P d v ∧ VRF c θ P ds r
end
theorem rd_mono {P P' : Hp} (h : ∀ b o, P b = some o → P' b = some o) {a : Addr} {u : HO} : Rd P a u → Rd P' a u
  | .inl e => .inl (h _ _ e)
  | .inr ⟨o, e⟩ => .inr ⟨o, h _ _ e⟩
theorem sqL_mono {K : PySem.W.Frag} {P P' : Hp} (h : ∀ b o, P b = some o → P' b = some o) {a : Addr} {vs : List V} : SqL K P a vs → SqL K P' a vs
  | .inl e => .inl (rd_mono h e)
  | .inr e => .inr e
theorem sqT_mono {K : PySem.W.Frag} {P P' : Hp} (h : ∀ b o, P b = some o → P' b = some o) {a : Addr} {vs : List V} : SqT K P a vs → SqT K P' a vs
  | .inl e => .inl (rd_mono h e)
  | .inr e => .inr e
section
variable {c : Cl} {θ θ' : List Addr} {P P' : Hp} (h1 : ∀ (l : Nat) (a : Addr), θ[l]? = some a → θ'[l]? = some a) (h2 : ∀ b o, P b = some o → P' b = some o)
include h1 h2
mutual
theorem VR.mono : ∀ {d : D} {v : V}, VR c θ P d v → VR c θ' P' d v
  | .non, _, h => h
  | .bl _, _, h => h
  | .int _, _, h => h
  | .str _, _, h => h
  | .ty _, _, h => h
  | .cls _, _, h => h
  | .ref _, _, ⟨a, e, r⟩ => ⟨a, h1 _ _ e, r⟩
  | .tup _, _, ⟨a, vs, e, r, q⟩ => ⟨a, vs, e, sqT_mono h2 r, VRL.mono q⟩
  | .lst _, _, ⟨a, vs, e, r, q⟩ => ⟨a, vs, e, h2 _ _ r, VRL.mono q⟩
  | .scr _, _, ⟨a, vs, e, r, q⟩ => ⟨a, vs, e, sqL_mono h2 r, VRL.mono q⟩
  | .obj _ _, _, ⟨a, C, dx, fv, e, k, r, q⟩ => ⟨a, C, dx, fv, e, k, h2 _ _ r, VRF.mono q⟩
  | .exn _ _, _, ⟨a, C, dx, fv, e, k, r, r', q⟩ => ⟨a, C, dx, fv, e, k, h2 _ _ r, h2 _ _ r', VRF.mono q⟩
theorem VRL.mono : ∀ {d : List D} {v : List V}, VRL c θ P d v → VRL c θ' P' d v
  | [], _, h => h
  | _ :: _, _, ⟨v, r, e, a, b⟩ => ⟨v, r, e, VR.mono a, VRL.mono b⟩
theorem VRF.mono : ∀ {d : List (Str × D)} {v : List (Str × V)}, VRF c θ P d v → VRF c θ' P' d v
  | [], _, h => h
  | (_, _) :: _, _, ⟨v, r, e, a, b⟩ => ⟨v, r, e, VR.mono a, VRF.mono b⟩
end
end
section
variable {c : Cl} {θ : List Addr} {P : Hp}
theorem VRL.length : ∀ {ds : List D} {vs : List V}, VRL c θ P ds vs → vs.length = ds.length
  | [], _, h => by cases h; rfl
  | _ :: _, _, ⟨v, r, e, _, b⟩ => by subst e; simp [VRL.length b]
theorem VRL.get : ∀ {ds : List D} {vs : List V} {i : Nat} {d : D}, VRL c θ P ds vs → ds[i]? = some d → ∃ v, vs[i]? = some v ∧ VR c θ P d v
  | [], _, _, _, _, e => by simp at e
  | d :: ds, _, 0, d', ⟨v, r, e, a, b⟩, q => by subst e; simp at q; subst q; exact ⟨v, rfl, a⟩
  | d :: ds, _, i + 1, d', ⟨v, r, e, a, b⟩, q => by
    subst e
    obtain ⟨v', h1, h2⟩ := VRL.get (i := i) (d := d') b (by simpa using q)
    exact ⟨v', by simpa using h1, h2⟩
theorem VRL.getV : ∀ {ds : List D} {vs : List V} {i : Nat} {v : V}, VRL c θ P ds vs → vs[i]? = some v → ∃ d, ds[i]? = some d ∧ VR c θ P d v
  | [], _, _, _, h, e => by cases h; simp at e
  | d :: ds, _, 0, v', ⟨v, r, e, a, b⟩, q => by subst e; simp at q; subst q; exact ⟨d, rfl, a⟩
  | d :: ds, _, i + 1, v', ⟨v, r, e, a, b⟩, q => by
    subst e
    obtain ⟨v', h1, h2⟩ := VRL.getV (i := i) (v := v') b (by simpa using q)
    exact ⟨v', by simpa using h1, h2⟩
theorem VRL.append : ∀ {ds es : List D} {vs ws : List V}, VRL c θ P ds vs → VRL c θ P es ws → VRL c θ P (ds ++ es) (vs ++ ws)
  | [], _, _, _, h, k => by cases h; exact k
  | _ :: _, _, _, _, ⟨v, r, e, a, b⟩, k => by subst e; exact ⟨v, r ++ _, rfl, a, VRL.append b k⟩
theorem VRL.take : ∀ {ds : List D} {vs : List V} (n : Nat), VRL c θ P ds vs → VRL c θ P (ds.take n) (vs.take n)
  | _, _, 0, _ => by simp [VRL]
  | [], _, _ + 1, h => by cases h; simp [VRL]
  | _ :: _, _, n + 1, ⟨v, r, e, a, b⟩ => by subst e; exact ⟨v, _, rfl, a, VRL.take n b⟩
theorem VRL.drop : ∀ {ds : List D} {vs : List V} (n : Nat), VRL c θ P ds vs → VRL c θ P (ds.drop n) (vs.drop n)
  | _, _, 0, h => h
  | [], _, _ + 1, h => by cases h; simp [VRL]
  | _ :: _, _, n + 1, ⟨v, r, e, a, b⟩ => by subst e; exact VRL.drop n b
theorem VRL.set {d : D} {v : V} (hv : VR c θ P d v) : ∀ {ds : List D} {vs : List V} (i : Nat), VRL c θ P ds vs → VRL c θ P (ds.set i d) (vs.set i v)
  | [], _, _, h => by cases h; simp [VRL]
  | _ :: _, _, 0, ⟨v', r, e, a, b⟩ => by subst e; exact ⟨v, r, rfl, hv, b⟩
  | _ :: _, _, i + 1, ⟨v', r, e, a, b⟩ => by subst e; exact ⟨v', r.set i v, rfl, a, VRL.set hv i b⟩
theorem VRL.one {d : D} {v : V} (hv : VR c θ P d v) : VRL c θ P [d] [v] := ⟨v, [], rfl, hv, rfl⟩
theorem VRF.lookup {f : Str} : ∀ {ds : List (Str × D)} {vs : List (Str × V)}, VRF c θ P ds vs → (ds.lookup f = none → vs.lookup f = none) ∧ ∀ d, ds.lookup f = some d → ∃ v, vs.lookup f = some v ∧ VR c θ P d v
  | [], _, h => by cases h; exact ⟨fun _ => rfl, fun d e => by simp at e⟩
  | (g, d) :: ds, _, ⟨v, r, e, a, b⟩ => by
    subst e
    have ih := VRF.lookup (f := f) b
    by_cases q : (f == g) = true
    · simp only [List.lookup, q]
      exact ⟨fun z => by simp at z, fun d' e => by cases e; exact ⟨v, rfl, a⟩⟩
    · have q' : (f == g) = false := by simpa using q
      simp only [List.lookup, q']
      exact ih
theorem VRF.length : ∀ {ds : List (Str × D)} {vs : List (Str × V)}, VRF c θ P ds vs → vs.length = ds.length
  | [], _, h => by cases h; rfl
  | _ :: _, _, ⟨v, r, e, _, b⟩ => by subst e; simp [VRF.length b]
/-- a field stored: in its place, or at the end -/
def putD (f : Str) (d : D) : List (Str × D) → List (Str × D)
  | [] => [(f, d)]
  | (g, x) :: r => if g = f then (g, d) :: r else (g, x) :: putD f d r
theorem VRF.put {f : Str} {d : D} {v : V} (hv : VR c θ P d v) : ∀ {ds : List (Str × D)} {vs : List (Str × V)}, VRF c θ P ds vs → VRF c θ P (putD f d ds) (putF f v vs)
  | [], _, h => by cases h; exact ⟨v, [], rfl, hv, rfl⟩
  | (g, x) :: r, _, ⟨v', r', e, a, b⟩ => by
    subst e
    simp only [putD, putF]
    by_cases q : g = f
    · rw [if_pos q, if_pos q]; exact ⟨v, r', rfl, hv, b⟩
    · rw [if_neg q, if_neg q]; exact ⟨v', _, rfl, a, VRF.put hv b⟩
end

/-- what stands at a changeable object's address -/
def MR (c : Cl) (θ : List Addr) (P H : Hp) (a : Addr) : MO → Prop
  | .lst ds => ∃ vs, H a = some (.lst vs) ∧ VRL c θ P ds vs
  | .inst n fs => ∃ C dx fv, c.adr n = some C ∧ H a = some (.ins C dx fv) ∧ VRF c θ P fs fv
  | .dead => True
structure Wo (c : Cl) (θ : List Addr) (P H : Hp) (M : MS) : Prop where
  sub : ∀ b o, P b = some o → H b = some o
  len : θ.length = M.length
  cell : ∀ (l : Nat) (a : Addr) (mo : MO), θ[l]? = some a → M[l]? = some mo → MR c θ P H a mo
  off : ∀ (l : Nat) (a : Addr) (mo : MO), θ[l]? = some a → M[l]? = some mo → mo ≠ .dead → P a = none
  inj : ∀ (l l' : Nat) (a : Addr), θ[l]? = some a → θ[l']? = some a → l = l'
  there : ∀ a ∈ θ, H a ≠ none
/-- from one state to a later one -/
structure Stp (θ : List Addr) (P H : Hp) (θ' : List Addr) (P' H' : Hp) : Prop where
  pre : ∀ (l : Nat) (a : Addr), θ[l]? = some a → θ'[l]? = some a
  keep : ∀ b o, H b = some o → b ∉ θ → H' b = some o
  pext : ∀ b o, P b = some o → P' b = some o
  new : ∀ b ∈ θ', b ∈ θ ∨ H b = none
  pnew : ∀ b o, P' b = some o → P b = some o ∨ b ∈ θ ∨ H b = none
  there : ∀ b, H b ≠ none → H' b ≠ none
theorem Stp.refl {θ : List Addr} {P H : Hp} : Stp θ P H θ P H := ⟨fun _ _ e => e, fun _ _ e _ => e, fun _ _ e => e, fun _ e => .inl e, fun _ _ e => .inl e, fun _ e => e⟩
theorem Stp.trans {θ θ1 θ2 : List Addr} {P P1 P2 H H1 H2 : Hp} (a : Stp θ P H θ1 P1 H1) (b : Stp θ1 P1 H1 θ2 P2 H2) : Stp θ P H θ2 P2 H2 where
  pre := fun l x e => b.pre l x (a.pre l x e)
  keep := fun x o e n => b.keep x o (a.keep x o e n) fun m => (a.new x m).elim n fun z => by rw [z] at e; cases e
  pext := fun x o e => b.pext x o (a.pext x o e)
  new := fun x m => by
    rcases b.new x m with z | z
    · exact a.new x z
    · refine .inr ?_
      cases q : H x with
      | none => rfl
      | some o => exact absurd z (a.there x (by rw [q]; simp))
  pnew := fun x o e => by
    rcases b.pnew x o e with z | z | z
    · exact a.pnew x o z
    · exact .inr (a.new x z)
    · refine .inr (.inr ?_)
      cases q : H x with
      | none => rfl
      | some o => exact absurd z (a.there x (by rw [q]; simp))
  there := fun x n => b.there x (a.there x n)
theorem VR.step {c : Cl} {θ θ' : List Addr} {P P' H H' : Hp} {d : D} {v : V} (h : VR c θ P d v) (s : Stp θ P H θ' P' H') : VR c θ' P' d v := VR.mono s.pre s.pext h
theorem VRL.step {c : Cl} {θ θ' : List Addr} {P P' H H' : Hp} {d : List D} {v : List V} (h : VRL c θ P d v) (s : Stp θ P H θ' P' H') : VRL c θ' P' d v := VRL.mono s.pre s.pext h

theorem mem_of_get {α : Type} {l : List α} {i : Nat} {a : α} (h : l[i]? = some a) : a ∈ l := List.mem_of_getElem? h
section
variable {c : Cl} {θ : List Addr} {P H : Hp} {M : MS}
theorem Wo.fresh (s : Wo c θ P H M) {p : Addr} (h : H p = none) : P p = none ∧ p ∉ θ := by
  refine ⟨?_, fun m => s.there p m h⟩
  cases q : P p with
  | none => rfl
  | some o => rw [s.sub p o q] at h; cases h
/-- a lasting object laid -/
theorem Wo.newP (s : Wo c θ P H M) {p : Addr} {o : HO} (h : H p = none) : Wo c θ (upd P p o) (upd H p o) M ∧ Stp θ P H θ (upd P p o) (upd H p o) := by
  obtain ⟨hP, hT⟩ := s.fresh h
  have ext : ∀ b u, P b = some u → upd P p o b = some u := fun b u e => by rw [upd_ne (fun z => by subst z; rw [hP] at e; cases e)]; exact e
  refine ⟨⟨fun b u e => ?_, s.len, fun l a mo e1 e2 => ?_, fun l a mo e1 e2 n => ?_, s.inj, fun a m => ?_⟩, ⟨fun _ _ e => e, fun b u e _ => ?_, ext, fun _ e => .inl e, fun b u e => ?_, fun b n => ?_⟩⟩
  · by_cases q : b = p
    · subst q; rw [upd_same] at e ⊢; exact e
    · rw [upd_ne q] at e ⊢; exact s.sub b u e
  · have na : a ≠ p := fun z => hT (by rw [← z]; exact mem_of_get e1)
    have k := s.cell l a mo e1 e2
    cases mo with
    | lst ds => obtain ⟨vs, k1, k2⟩ := k; exact ⟨vs, by rw [upd_ne na]; exact k1, VRL.mono (fun _ _ e => e) ext k2⟩
    | inst n fs => obtain ⟨C, dx, fv, k0, k1, k2⟩ := k; exact ⟨C, dx, fv, k0, by rw [upd_ne na]; exact k1, VRF.mono (fun _ _ e => e) ext k2⟩
    | dead => trivial
  · rw [upd_ne (fun z => hT (by rw [← z]; exact mem_of_get e1))]; exact s.off l a mo e1 e2 n
  · by_cases q : a = p
    · subst q; rw [upd_same]; simp
    · rw [upd_ne q]; exact s.there a m
  · rw [upd_ne (fun z => by subst z; rw [h] at e; cases e)]; exact e
  · by_cases q : b = p
    · subst q; exact .inr (.inr h)
    · rw [upd_ne q] at e; exact .inl e
  · by_cases q : b = p
    · subst q; rw [upd_same]; simp
    · rw [upd_ne q]; exact n
theorem get_append_some {α : Type} {l : List α} {i : Nat} {a x : α} (h : l[i]? = some a) : (l ++ [x])[i]? = some a := by
  have := (List.getElem?_eq_some_iff.mp h).1
  rw [List.getElem?_append_left this]; exact h
theorem get_snoc {α : Type} {l : List α} {i : Nat} {a x : α} (h : (l ++ [x])[i]? = some a) : l[i]? = some a ∨ (i = l.length ∧ x = a) := by
  by_cases q : i < l.length
  · rw [List.getElem?_append_left q] at h; exact .inl h
  · rw [List.getElem?_append_right (by omega)] at h
    have : i - l.length = 0 := by
      cases e : i - l.length with
      | zero => rfl
      | succ n => rw [e] at h; simp at h
    rw [this] at h
    exact .inr ⟨by omega, by simpa using h⟩
theorem get_last {α : Type} {l : List α} {x : α} : (l ++ [x])[l.length]? = some x := by simp
/-- an untracked-so-far address becomes a changeable object -/
theorem Wo.newM (s : Wo c θ P H M) {p : Addr} {o : HO} {mo : MO} (h : H p = none) (r : MR c (θ ++ [p]) P (upd H p o) p mo) : Wo c (θ ++ [p]) P (upd H p o) (M ++ [mo]) ∧ Stp θ P H (θ ++ [p]) P (upd H p o) := by
  obtain ⟨hP, hT⟩ := s.fresh h
  have pre : ∀ (l : Nat) (a : Addr), θ[l]? = some a → (θ ++ [p])[l]? = some a := fun l a e => get_append_some e
  refine ⟨⟨fun b u e => ?_, by simp [s.len], fun l a m e1 e2 => ?_, fun l a m e1 e2 n => ?_, fun l l' a e1 e2 => ?_, fun a m => ?_⟩, ⟨pre, fun b u e _ => ?_, fun _ _ e => e, fun b m => ?_, fun _ _ e => .inl e, fun b n => ?_⟩⟩
  · rw [upd_ne (fun z => by subst z; rw [hP] at e; cases e)]; exact s.sub b u e
  · rcases get_snoc e1 with e1 | ⟨el, ea⟩
    · have na : a ≠ p := fun z => hT (by rw [← z]; exact mem_of_get e1)
      have hl := (List.getElem?_eq_some_iff.mp e1).1
      rw [List.getElem?_append_left (by rw [← s.len]; exact hl)] at e2
      have k := s.cell l a m e1 e2
      cases m with
      | lst ds => obtain ⟨vs, k1, k2⟩ := k; exact ⟨vs, by rw [upd_ne na]; exact k1, VRL.mono pre (fun _ _ e => e) k2⟩
      | inst n fs => obtain ⟨C, dx, fv, k0, k1, k2⟩ := k; exact ⟨C, dx, fv, k0, by rw [upd_ne na]; exact k1, VRF.mono pre (fun _ _ e => e) k2⟩
      | dead => trivial
    · subst ea; subst el
      rw [s.len] at e2
      rw [get_last] at e2
      cases e2
      exact r
  · rcases get_snoc e1 with e1 | ⟨el, ea⟩
    · have hl := (List.getElem?_eq_some_iff.mp e1).1
      rw [List.getElem?_append_left (by rw [← s.len]; exact hl)] at e2
      exact s.off l a m e1 e2 n
    · subst ea; exact hP
  · rcases get_snoc e1 with e1 | ⟨el, ea⟩ <;> rcases get_snoc e2 with e2 | ⟨el', ea'⟩
    · exact s.inj l l' a e1 e2
    · subst ea'; exact absurd (mem_of_get e1) hT
    · subst ea; exact absurd (mem_of_get e2) hT
    · omega
  · rcases List.mem_append.mp m with m | m
    · rw [upd_ne (fun z => hT (by rw [← z]; exact m))]; exact s.there a m
    · have : a = p := by simpa using m
      subst this; rw [upd_same]; simp
  · rw [upd_ne (fun z => by subst z; rw [h] at e; cases e)]; exact e
  · rcases List.mem_append.mp m with m | m
    · exact .inl m
    · have : b = p := by simpa using m
      subst this; exact .inr h
  · by_cases q : b = p
    · subst q; rw [upd_same]; simp
    · rw [upd_ne q]; exact n
/-- a changeable object changes -/
theorem Wo.setM (s : Wo c θ P H M) {l : Nat} {a : Addr} {o : HO} {mo mo' : MO} (hl : θ[l]? = some a) (hm : M[l]? = some mo) (hd : mo ≠ .dead) (r : MR c θ P (upd H a o) a mo') : Wo c θ P (upd H a o) (M.set l mo') ∧ Stp θ P H θ P (upd H a o) := by
  have hP := s.off l a mo hl hm hd
  have hlt : l < M.length := (List.getElem?_eq_some_iff.mp hm).1
  refine ⟨⟨fun b u e => ?_, by simp [s.len], fun k b m e1 e2 => ?_, fun k b m e1 e2 n => ?_, s.inj, fun b m => ?_⟩, ⟨fun _ _ e => e, fun b u e n => ?_, fun _ _ e => e, fun _ e => .inl e, fun _ _ e => .inl e, fun b n => ?_⟩⟩
  · rw [upd_ne (fun z => by subst z; rw [hP] at e; cases e)]; exact s.sub b u e
  · by_cases q : k = l
    · subst q
      rw [hl] at e1; cases e1
      rw [List.getElem?_set_self hlt] at e2; cases e2
      exact r
    · rw [List.getElem?_set_ne (Ne.symm q)] at e2
      have nb : b ≠ a := fun z => q (s.inj k l a (by rw [← z]; exact e1) hl)
      have kk := s.cell k b m e1 e2
      cases m with
      | lst ds => obtain ⟨vs, k1, k2⟩ := kk; exact ⟨vs, by rw [upd_ne nb]; exact k1, k2⟩
      | inst n fs => obtain ⟨C, dx, fv, k0, k1, k2⟩ := kk; exact ⟨C, dx, fv, k0, by rw [upd_ne nb]; exact k1, k2⟩
      | dead => trivial
  · by_cases q : k = l
    · subst q; rw [hl] at e1; cases e1; exact hP
    · rw [List.getElem?_set_ne (Ne.symm q)] at e2; exact s.off k b m e1 e2 n
  · by_cases q : b = a
    · subst q; rw [upd_same]; simp
    · rw [upd_ne q]; exact s.there b m
  · rw [upd_ne (fun z => n (by rw [z]; exact mem_of_get hl))]; exact e
  · by_cases q : b = a
    · subst q; rw [upd_same]; simp
    · rw [upd_ne q]; exact n
end
end Q

namespace Q
open PySem PySem.Spec PyProof.Rows L2

/-! ### results -/
inductive Res (α : Type) where
  | ok (a : α) (M : MS)
  | err (n : Str) (fs : List (Str × D)) (M : MS)
  | stuck
@[simp] def Res.bind {α β : Type} : Res α → (α → MS → Res β) → Res β
  | .ok a M, f => f a M
  | .err n fs M, _ => .err n fs M
  | .stuck, _ => .stuck
abbrev Ev := List (Option D)
abbrev Rn (α : Type) := Ev → MS → Res α

structure ER (c : Cl) (θ : List Addr) (P : Hp) (ρ : Ev) (σ : L2.St) : Prop where
  len : ρ.length = σ.length
  at_ : ∀ (i : Nat) (d : D), ρ[i]? = some (some d) → ∃ v, σ[i]? = some (some v) ∧ VR c θ P d v
theorem ER.step {c : Cl} {θ θ' : List Addr} {P P' H H' : Hp} {ρ : Ev} {σ : L2.St} (h : ER c θ P ρ σ) (s : Stp θ P H θ' P' H') : ER c θ' P' ρ σ := ⟨h.len, fun i d e =>
  let ⟨v, e1, r⟩ := h.at_ i d e
  ⟨v, e1, r.step s⟩⟩
theorem ER.set {c : Cl} {θ : List Addr} {P : Hp} {ρ : Ev} {σ : L2.St} {d : D} {v : V} (h : ER c θ P ρ σ) (i : Nat) (r : VR c θ P d v) : ER c θ P (ρ.set i (some d)) (σ.set i (some v)) := ⟨by simp [h.len], fun j x e => by
  by_cases q : j = i
  · subst q
    by_cases l : j < ρ.length
    · rw [List.getElem?_set_self l] at e
      cases e
      exact ⟨v, List.getElem?_set_self (by rw [← h.len]; exact l), r⟩
    · rw [List.getElem?_eq_none (by simp; omega)] at e
      cases e
  · rw [List.getElem?_set_ne (Ne.symm q)] at e ⊢
    exact h.at_ j x e⟩
/-- an exception on its way -/
def XR (c : Cl) (θ : List Addr) (P H : Hp) (n : Str) (fs : List (Str × D)) (cv : Value) (dd : Option Addr) : Prop :=
  ∃ C d fv, c.adr n = some C ∧ cv = .ref C ∧ dd = some d ∧ H d = some (.xd fv) ∧ (∀ f x, fs.lookup f = some x → ∃ v, fv.lookup f = some v ∧ VR c θ P x v)

def Out {α β : Type} (c : Cl) (R : List Addr → Hp → Hp → α → β → Prop) (θ : List Addr) (P H : Hp) (Q : β → Hp → Prop) (Wx : Value → Option Addr → Hp → Prop) : Res α → Prop
  | .ok a M' => ∀ b H' θ' P', Wo c θ' P' H' M' → Stp θ P H θ' P' H' → R θ' P' H' a b → Q b H'
  | .err n fs M' => ∀ cv dd H' θ' P', Wo c θ' P' H' M' → Stp θ P H θ' P' H' → XR c θ' P' H' n fs cv dd → Wx cv dd H'
  | .stuck => False
abbrev RV (c : Cl) : List Addr → Hp → Hp → D → V → Prop := fun θ P _ d v => VR c θ P d v
abbrev RB : List Addr → Hp → Hp → Bool → Bool → Prop := fun _ _ _ a b => b = a
abbrev RL (c : Cl) : List Addr → Hp → Hp → List D → List V → Prop := fun θ P _ d v => VRL c θ P d v
abbrev OutE (c : Cl) := Out (α := D) (β := V) c (RV c)
abbrev OutB (c : Cl) := Out (α := Bool) (β := Bool) c RB
abbrev OutL (c : Cl) := Out (α := List D) (β := List V) c (RL c)
section
variable {α β γ δ : Type} {c : Cl} {R : List Addr → Hp → Hp → α → β → Prop} {S : List Addr → Hp → Hp → γ → δ → Prop} {θ : List Addr} {P H : Hp} {Q Q' : β → Hp → Prop} {Wx : Value → Option Addr → Hp → Prop}
theorem Out.imp {r : Res α} (h : Out c R θ P H Q Wx r) (k : ∀ b H', Q b H' → Q' b H') : Out c R θ P H Q' Wx r := by
  cases r with
  | ok a M' => exact fun b H' θ' P' w s x => k _ _ (h b H' θ' P' w s x)
  | err n fs M' => exact h
  | stuck => exact h
theorem Out.base {θ1 : List Addr} {P1 H1 : Hp} {r : Res α} (s : Stp θ P H θ1 P1 H1) (h : Out c R θ P H Q Wx r) : Out c R θ1 P1 H1 Q Wx r := by
  cases r with
  | ok a M' => exact fun b H' θ' P' w s' x => h b H' θ' P' w (s.trans s') x
  | err n fs M' => exact fun cv dd H' θ' P' w s' x => h cv dd H' θ' P' w (s.trans s') x
  | stuck => exact h
theorem Out.bind {Q2 : δ → Hp → Prop} {r : Res α} {f : α → MS → Res γ} (h : Out c S θ P H Q2 Wx (r.bind f)) (k : ∀ a M1 b H1 θ1 P1, Wo c θ1 P1 H1 M1 → Stp θ P H θ1 P1 H1 → R θ1 P1 H1 a b → Out c S θ1 P1 H1 Q2 Wx (f a M1) → Q b H1) : Out c R θ P H Q Wx r := by
  cases r with
  | ok a M1 => exact fun b H1 θ1 P1 w s x => k a M1 b H1 θ1 P1 w s x (Out.base s h)
  | err n fs M' => exact h
  | stuck => exact h
theorem Out.now {a : α} {b : β} {M : MS} (w : Wo c θ P H M) (h : Out c R θ P H Q Wx (.ok a M)) (r : R θ P H a b) : Q b H := h b H θ P w .refl r
end

/-! ### readings -/
def liftE (c : Cl) (W : WX) (run : Rn D) : TE := fun σ H Q => ∃ ρ M θ P, Wo c θ P H M ∧ ER c θ P ρ σ ∧ OutE c θ P H Q (fun cv dd H' => W cv dd σ H') (run ρ M)
def liftT (c : Cl) (W : WX) (run : Rn Bool) : TT := fun σ H Q => ∃ ρ M θ P, Wo c θ P H M ∧ ER c θ P ρ σ ∧ OutB c θ P H Q (fun cv dd H' => W cv dd σ H') (run ρ M)
def liftA (c : Cl) (W : WX) (run : Rn (List D)) : TA := fun σ H Q => ∃ ρ M θ P, Wo c θ P H M ∧ ER c θ P ρ σ ∧ OutL c θ P H Q (fun cv dd H' => W cv dd σ H') (run ρ M)
section
variable {X : Cx} {e : Expr}
theorem PE.imp {t t' : TE} (h : PE X e t) (k : ∀ σ H Q, t' σ H Q → t σ H Q) : PE X e t' := ⟨fun pins s σ H Q I q => h.run pins s σ H Q I (k _ _ _ q)⟩
theorem PT.imp {t t' : TT} (h : PT X e t) (k : ∀ σ H Q, t' σ H Q → t σ H Q) : PT X e t' := ⟨fun pins s σ H Q I q => h.run pins s σ H Q I (k _ _ _ q)⟩
theorem PA.imp {es : List Expr} {t t' : TA} (h : PA X es t) (k : ∀ σ H Q, t' σ H Q → t σ H Q) : PA X es t' := ⟨fun pos pins s σ H Q I q => h.run pos pins s σ H Q I (k _ _ _ q)⟩
theorem PE.both {t t' : TE} (h : PE X e t) (h' : PE X e t') : PE X e (fun σ H Q => t σ H Q ∨ t' σ H Q) := ⟨fun pins s σ H Q I q => q.elim (h.run pins s σ H Q I) (h'.run pins s σ H Q I)⟩
end

/-! ### names, constants -/
def rV (i : Nat) : Rn D := fun ρ M => match ρ[i]? with | some (some d) => .ok d M | _ => .stuck
def rC (d : D) : Rn D := fun _ M => .ok d M
section
variable {X : Cx} {c : Cl} {W : WX}
theorem s_var {i : Nat} {x : Str} {pos : Pos} (h : PE X (.Name x pos) (tVar i)) : PE X (.Name x pos) (liftE c W (rV i)) := PE.imp h fun σ H Q ⟨ρ, M, θ, P, w, er, o⟩ => by
  unfold rV at o
  cases e : ρ[i]? with
  | none => simp only [e] at o; exact o.elim
  | some od =>
    cases od with
    | none => simp only [e] at o; exact o.elim
    | some d =>
      simp only [e] at o
      obtain ⟨v, e1, r⟩ := er.at_ i d e
      exact ⟨v, e1, Out.now w o r⟩
theorem s_const {e : Expr} {v : V} {d : D} (h : PE X e (tC v)) (r : ∀ θ P, VR c θ P d v) : PE X e (liftE c W (rC d)) := PE.imp h fun σ H Q ⟨ρ, M, θ, P, w, er, o⟩ => Out.now w o (r θ P)
theorem s_int {i j pos} : PE X (.Constant (.int i) j pos) (liftE c W (rC (.int i))) := s_const pe_int fun _ _ => rfl
theorem s_bl {i j pos} : PE X (.Constant (.bool i) j pos) (liftE c W (rC (.bl i))) := s_const pe_bl fun _ _ => rfl
theorem s_non {j pos} : PE X (.Constant .none j pos) (liftE c W (rC .non)) := s_const pe_non fun _ _ => rfl
theorem s_str {i j pos} : PE X (.Constant (.str i) j pos) (liftE c W (rC (.str i))) := s_const pe_str fun _ _ => rfl

/-! ### argument lists, displays -/
def rNil : Rn (List D) := fun _ M => .ok [] M
def rCons (a : Rn D) (r : Rn (List D)) : Rn (List D) := fun ρ M => (a ρ M).bind fun d M1 => (r ρ M1).bind fun ds M2 => .ok (d :: ds) M2
theorem s_nil : PA X [] (liftA c W rNil) := PA.imp pa_nil fun σ H Q ⟨ρ, M, θ, P, w, er, o⟩ => Out.now (R := RL c) w o rfl
theorem s_cons {e : Expr} {es : List Expr} {a : Rn D} {r : Rn (List D)} (ha : PE X e (liftE c W a)) (hr : PA X es (liftA c W r)) (hs : starEach (e :: es) X.env = (false, eval e X.env) :: starEach es X.env := by rfl) : PA X (e :: es) (liftA c W (rCons a r)) :=
  PA.imp (pa_cons ha hr hs) fun σ H Q ⟨ρ, M, θ, P, w, er, o⟩ =>
    ⟨ρ, M, θ, P, w, er, Out.bind (R := RV c) o fun d M1 v H1 θ1 P1 w1 s1 r1 o1 => ⟨ρ, M1, θ1, P1, w1, er.step s1, Out.bind (R := RL c) o1 fun ds M2 vs H2 θ2 P2 w2 s2 r2 o2 => Out.now (R := RL c) w2 o2 ⟨v, vs, rfl, r1.step s2, r2⟩⟩⟩
def small (n : Nat) : Bool := decide (n ≤ 16777216)
theorem small_line {n : Nat} (h : small n = true) : n ≤ sizeLine := by rw [sizeLine_eq]; exact of_decide_eq_true h
def rGuard {α : Type} (b : Bool) (r : Res α) : Res α := if b = true then r else .stuck
theorem Out.guard {α β : Type} {R : List Addr → Hp → Hp → α → β → Prop} {θ : List Addr} {P H : Hp} {Q : β → Hp → Prop} {Wx : Value → Option Addr → Hp → Prop} {b : Bool} {r : Res α} (h : Out c R θ P H Q Wx (rGuard b r)) : b = true ∧ Out c R θ P H Q Wx r := by
  unfold rGuard at h
  split at h
  · exact ⟨by assumption, h⟩
  · exact h.elim
def rTup (a : Rn (List D)) : Rn D := fun ρ M => (a ρ M).bind fun ds M1 => rGuard (small ds.length) (.ok (.tup ds) M1)
def rLst (a : Rn (List D)) : Rn D := fun ρ M => (a ρ M).bind fun ds M1 => rGuard (small ds.length) (.ok (.lst ds) M1)
/-- a list that will be changed -/
def rLstM (a : Rn (List D)) : Rn D := fun ρ M => (a ρ M).bind fun ds M1 => rGuard (small ds.length) (.ok (.ref M1.length) (M1 ++ [.lst ds]))
section
variable {θ : List Addr} {P H : Hp} {M : MS} {Wx : Value → Option Addr → Hp → Prop} {Q : V → Hp → Prop} {p : Addr} {ds : List D} {vs : List V}
theorem new_tup (w : Wo c θ P H M) (hp : H p = none) (r : VRL c θ P ds vs) (o : OutE c θ P H Q Wx (.ok (.tup ds) M)) : Q (.ref p) (upd H p (.tup vs)) := by
  obtain ⟨w', s'⟩ := w.newP (o := .tup vs) hp
  exact o _ _ _ _ w' s' ⟨p, vs, rfl, .inl (.inl upd_same), r.step s'⟩
theorem new_lst (w : Wo c θ P H M) (hp : H p = none) (r : VRL c θ P ds vs) (o : OutE c θ P H Q Wx (.ok (.lst ds) M)) : Q (.ref p) (upd H p (.lst vs)) := by
  obtain ⟨w', s'⟩ := w.newP (o := .lst vs) hp
  exact o _ _ _ _ w' s' ⟨p, vs, rfl, upd_same, r.step s'⟩
theorem new_lstM (w : Wo c θ P H M) (hp : H p = none) (r : VRL c θ P ds vs) (o : OutE c θ P H Q Wx (.ok (.ref M.length) (M ++ [.lst ds]))) : Q (.ref p) (upd H p (.lst vs)) := by
  obtain ⟨w', s'⟩ := w.newM (o := .lst vs) (mo := .lst ds) hp ⟨vs, upd_same, VRL.mono (fun _ _ e => get_append_some e) (fun _ _ e => e) r⟩
  exact o _ _ _ _ w' s' ⟨p, by rw [← w.len]; exact get_last, rfl⟩
end
theorem s_tup {es : List Expr} {k pos} {a : Rn (List D)} (h : PA X es (liftA c W a)) : PE X (.Tuple es k pos) (liftE c W (rTup a)) :=
  PE.imp (pe_tup h) fun σ H Q ⟨ρ, M, θ, P, w, er, o⟩ => ⟨ρ, M, θ, P, w, er, Out.bind (R := RL c) o fun ds M1 vs H1 θ1 P1 w1 s1 r1 o1 => by
    obtain ⟨g, o1⟩ := o1.guard
    exact ⟨by rw [r1.length]; exact small_line g, fun p hp => new_tup w1 hp r1 o1⟩⟩
theorem s_lst {es : List Expr} {pos} {a : Rn (List D)} (h : PA X es (liftA c W a)) : PE X (.List es pos) (liftE c W (rLst a)) :=
  PE.imp (pe_lst h) fun σ H Q ⟨ρ, M, θ, P, w, er, o⟩ => ⟨ρ, M, θ, P, w, er, Out.bind (R := RL c) o fun ds M1 vs H1 θ1 P1 w1 s1 r1 o1 => by
    obtain ⟨g, o1⟩ := o1.guard
    exact ⟨by rw [r1.length]; exact small_line g, fun p hp => new_lst w1 hp r1 o1⟩⟩
theorem s_lstM {es : List Expr} {pos} {a : Rn (List D)} (h : PA X es (liftA c W a)) : PE X (.List es pos) (liftE c W (rLstM a)) :=
  PE.imp (pe_lst h) fun σ H Q ⟨ρ, M, θ, P, w, er, o⟩ => ⟨ρ, M, θ, P, w, er, Out.bind (R := RL c) o fun ds M1 vs H1 θ1 P1 w1 s1 r1 o1 => by
    obtain ⟨g, o1⟩ := o1.guard
    exact ⟨by rw [r1.length]; exact small_line g, fun p hp => new_lstM w1 hp r1 o1⟩⟩

/-! ### operators -/
/-- what an operator does to data, by what it does to values -/
def Op2 (c : Cl) (r : R2) (f : D → D → MS → Res D) : Prop := ∀ θ P H M d e x y Q Wx, Wo c θ P H M → VR c θ P d x → VR c θ P e y → OutE c θ P H Q Wx (f d e M) → r x y H Q
def rOp2 (f : D → D → MS → Res D) (a b : Rn D) : Rn D := fun ρ M => (a ρ M).bind fun x M1 => (b ρ M1).bind fun y M2 => f x y M2
theorem two {a b : Rn D} {f : D → D → MS → Res D} {r : R2} (hf : Op2 c r f) {σ : L2.St} {H : Hp} {Q : V → Hp → Prop} (h : liftE c W (rOp2 f a b) σ H Q) : tOp r (liftE c W a) (liftE c W b) σ H Q := by
  obtain ⟨ρ, M, θ, P, w, er, o⟩ := h
  exact ⟨ρ, M, θ, P, w, er, Out.bind (R := RV c) o fun d M1 x H1 θ1 P1 w1 s1 r1 o1 => ⟨ρ, M1, θ1, P1, w1, er.step s1, Out.bind (R := RV c) o1 fun e M2 y H2 θ2 P2 w2 s2 r2 o2 => hf _ _ _ _ _ _ _ _ _ _ w2 (r1.step s2) r2 o2⟩⟩
theorem s_bin {e1 e2 : Expr} {op : Operator} {pos : Pos} {a b : Rn D} {f : D → D → MS → Res D} {r : R2} (ho : OpR X (binaryOp op) r) (hf : Op2 c r f) (ha : PE X e1 (liftE c W a)) (hb : PE X e2 (liftE c W b)) : PE X (.BinOp e1 op e2 pos) (liftE c W (rOp2 f a b)) :=
  PE.imp (pe_op ho ha hb) fun σ H Q h => two hf h
theorem s_cmp {e1 e2 : Expr} {op : CmpOp} {pos : Pos} {a b : Rn D} {f : D → D → MS → Res D} {r : R2} (ho : OpR X (compareOp op) r) (hf : Op2 c r f) (ha : PE X e1 (liftE c W a)) (hb : PE X e2 (liftE c W b)) (hm : behindInMarks op e2 = false := by rfl) : PE X (.Compare e1 [op] [e2] pos) (liftE c W (rOp2 f a b)) :=
  PE.imp (pe_cmpR ho ha hb hm) fun σ H Q h => two hf h
def toB (d : D) (M : MS) : Res Bool := match d with | .bl b => .ok b M | _ => .stuck
def rB (a : Rn D) : Rn Bool := fun ρ M => (a ρ M).bind toB
/-- a value that is a truth value, as a test -/
theorem t_of {e : Expr} {t : TE} {a : Rn D} (h : PT X e (fun σ H Q => t σ H fun x H1 => ∃ k, x = .bl k ∧ Q k H1)) (k : ∀ σ H Q, liftE c W a σ H Q → t σ H Q) : PT X e (liftT c W (rB a)) :=
  PT.imp h fun σ H Q ⟨ρ, M, θ, P, w, er, o⟩ => k _ _ _ ⟨ρ, M, θ, P, w, er, Out.bind (R := RV c) o fun d M1 v H1 θ1 P1 w1 s1 r1 o1 => by
    cases d with
    | bl b => exact ⟨b, r1, Out.now (R := RB) w1 o1 rfl⟩
    | _ => exact o1.elim⟩
theorem t_cmp {e1 e2 : Expr} {op : CmpOp} {pos : Pos} {a b : Rn D} {f : D → D → MS → Res D} {r : R2} (ho : OpR X (compareOp op) r) (hf : Op2 c r f) (ha : PE X e1 (liftE c W a)) (hb : PE X e2 (liftE c W b)) (hm : behindInMarks op e2 = false := by rfl) : PT X (.Compare e1 [op] [e2] pos) (liftT c W (rB (rOp2 f a b))) :=
  t_of (pt_cmpR ho ha hb hm) fun σ H Q h => two hf h
theorem t_val {e : Expr} {a : Rn D} (h : PE X e (liftE c W a)) (he : ∀ whole, isTrue e X.env whole = (do let v ← whole; standAt e.pos; holding [v] (truthy v)) := by intro _; rfl) : PT X e (liftT c W (rB a)) :=
  t_of (t := liftE c W a) (pt_val h he) fun _ _ _ q => q
def rNotT (a : Rn Bool) : Rn Bool := fun ρ M => (a ρ M).bind fun b M1 => .ok (!b) M1
def rAndT (a b : Rn Bool) : Rn Bool := fun ρ M => (a ρ M).bind fun k M1 => if k = true then b ρ M1 else .ok false M1
def rOrT (a b : Rn Bool) : Rn Bool := fun ρ M => (a ρ M).bind fun k M1 => if k = true then .ok true M1 else b ρ M1
theorem t_not {e : Expr} {pos : Pos} {a : Rn Bool} (h : PT X e (liftT c W a)) : PT X (.UnaryOp .Not e pos) (liftT c W (rNotT a)) :=
  PT.imp (pt_not h) fun σ H Q ⟨ρ, M, θ, P, w, er, o⟩ => ⟨ρ, M, θ, P, w, er, Out.bind (R := RB) o fun d M1 v H1 θ1 P1 w1 s1 r1 o1 => by subst r1; exact Out.now (R := RB) w1 o1 rfl⟩
theorem w_and1 {e : Expr} {pos : Pos} {a : Rn Bool} (h : PT X e (liftT c W a)) : PW X (.BoolOp .And [e] pos) (liftT c W a) := pw_and1 h
theorem w_or1 {e : Expr} {pos : Pos} {a : Rn Bool} (h : PT X e (liftT c W a)) : PW X (.BoolOp .Or [e] pos) (liftT c W a) := pw_or1 h
theorem PW.imp {e : Expr} {t t' : TT} (h : PW X e t) (k : ∀ σ H Q, t' σ H Q → t σ H Q) : PW X e t' := ⟨fun wh pins s σ H Q I q => h.run wh pins s σ H Q I (k _ _ _ q)⟩
theorem w_and {e e2 : Expr} {rest : List Expr} {pos : Pos} {a b : Rn Bool} (h : PT X e (liftT c W a)) (h2 : PW X (.BoolOp .And (e2 :: rest) pos) (liftT c W b)) : PW X (.BoolOp .And (e :: e2 :: rest) pos) (liftT c W (rAndT a b)) :=
  PW.imp (pw_and h h2) fun σ H Q ⟨ρ, M, θ, P, w, er, o⟩ => ⟨ρ, M, θ, P, w, er, Out.bind (R := RB) o fun d M1 v H1 θ1 P1 w1 s1 r1 o1 => by
    subst r1
    cases v with
    | true => exact (if_pos rfl).mpr ⟨ρ, M1, θ1, P1, w1, er.step s1, o1⟩
    | false => exact (if_neg Bool.false_ne_true).mpr (Out.now (R := RB) w1 o1 rfl)⟩
theorem w_or {e e2 : Expr} {rest : List Expr} {pos : Pos} {a b : Rn Bool} (h : PT X e (liftT c W a)) (h2 : PW X (.BoolOp .Or (e2 :: rest) pos) (liftT c W b)) : PW X (.BoolOp .Or (e :: e2 :: rest) pos) (liftT c W (rOrT a b)) :=
  PW.imp (pw_or h h2) fun σ H Q ⟨ρ, M, θ, P, w, er, o⟩ => ⟨ρ, M, θ, P, w, er, Out.bind (R := RB) o fun d M1 v H1 θ1 P1 w1 s1 r1 o1 => by
    subst r1
    cases v with
    | true => exact (if_pos rfl).mpr (Out.now (R := RB) w1 o1 rfl)
    | false => exact (if_neg Bool.false_ne_true).mpr ⟨ρ, M1, θ1, P1, w1, er.step s1, o1⟩⟩
/-- and, or, not of truth values, as values -/
def rAndV (a b : Rn D) : Rn D := fun ρ M => (a ρ M).bind fun x M1 => (toB x M1).bind fun k M2 => if k = true then b ρ M2 else .ok (.bl false) M2
def rOrV (a b : Rn D) : Rn D := fun ρ M => (a ρ M).bind fun x M1 => (toB x M1).bind fun k M2 => if k = true then .ok (.bl true) M2 else b ρ M2
def rNotV (a : Rn D) : Rn D := fun ρ M => (a ρ M).bind fun x M1 => (toB x M1).bind fun k M2 => .ok (.bl (!k)) M2
theorem s_one {op} {e : Expr} {pos : Pos} {a : Rn D} (h : PE X e (liftE c W a)) : PE X (.BoolOp op [e] pos) (liftE c W a) := pe_one h
theorem s_and {e e2 : Expr} {rest : List Expr} {pos : Pos} {a b : Rn D} (h : PE X e (liftE c W a)) (h2 : PE X (.BoolOp .And (e2 :: rest) pos) (liftE c W b)) : PE X (.BoolOp .And (e :: e2 :: rest) pos) (liftE c W (rAndV a b)) :=
  PE.imp (pe_and h h2) fun σ H Q ⟨ρ, M, θ, P, w, er, o⟩ => ⟨ρ, M, θ, P, w, er, Out.bind (R := RV c) o fun d M1 v H1 θ1 P1 w1 s1 r1 o1 => by
    cases d with
    | bl k =>
      refine ⟨k, r1, ?_⟩
      cases k with
      | true => exact (if_pos rfl).mpr ⟨ρ, M1, θ1, P1, w1, er.step s1, o1⟩
      | false => exact (if_neg Bool.false_ne_true).mpr (Out.now (R := RV c) w1 o1 rfl)
    | _ => exact o1.elim⟩
theorem s_or {e e2 : Expr} {rest : List Expr} {pos : Pos} {a b : Rn D} (h : PE X e (liftE c W a)) (h2 : PE X (.BoolOp .Or (e2 :: rest) pos) (liftE c W b)) : PE X (.BoolOp .Or (e :: e2 :: rest) pos) (liftE c W (rOrV a b)) :=
  PE.imp (pe_or h h2) fun σ H Q ⟨ρ, M, θ, P, w, er, o⟩ => ⟨ρ, M, θ, P, w, er, Out.bind (R := RV c) o fun d M1 v H1 θ1 P1 w1 s1 r1 o1 => by
    cases d with
    | bl k =>
      refine ⟨k, r1, ?_⟩
      cases k with
      | true => exact (if_pos rfl).mpr (Out.now (R := RV c) w1 o1 rfl)
      | false => exact (if_neg Bool.false_ne_true).mpr ⟨ρ, M1, θ1, P1, w1, er.step s1, o1⟩
    | _ => exact o1.elim⟩
theorem s_not {e : Expr} {pos : Pos} {a : Rn D} (h : PE X e (liftE c W a)) : PE X (.UnaryOp .Not e pos) (liftE c W (rNotV a)) :=
  PE.imp (pe_not h) fun σ H Q ⟨ρ, M, θ, P, w, er, o⟩ => ⟨ρ, M, θ, P, w, er, Out.bind (R := RV c) o fun d M1 v H1 θ1 P1 w1 s1 r1 o1 => by
    cases d with
    | bl k => exact ⟨k, r1, Out.now (R := RV c) w1 o1 rfl⟩
    | _ => exact o1.elim⟩
def rIf (t : Rn Bool) (a b : Rn D) : Rn D := fun ρ M => (t ρ M).bind fun k M1 => if k = true then a ρ M1 else b ρ M1
theorem s_if {e0 e1 e2 : Expr} {pos : Pos} {t : Rn Bool} {a b : Rn D} (h : PT X e0 (liftT c W t)) (h1 : PE X e1 (liftE c W a)) (h2 : PE X e2 (liftE c W b)) : PE X (.IfExp e0 e1 e2 pos) (liftE c W (rIf t a b)) :=
  PE.imp (pe_ifExp h h1 h2) fun σ H Q ⟨ρ, M, θ, P, w, er, o⟩ => ⟨ρ, M, θ, P, w, er, Out.bind (R := RB) o fun d M1 v H1 θ1 P1 w1 s1 r1 o1 => by
    subst r1
    cases v with
    | true => exact (if_pos rfl).mpr ⟨ρ, M1, θ1, P1, w1, er.step s1, o1⟩
    | false => exact (if_neg Bool.false_ne_true).mpr ⟨ρ, M1, θ1, P1, w1, er.step s1, o1⟩⟩
end
end Q

namespace Q
open PySem PySem.Spec PyProof.Rows L2

/-! ### statements -/
inductive SR where
  | nx (ρ : Ev) (M : MS)
  | rt (d : D) (M : MS)
  | bk (ρ : Ev) (M : MS)
  | ct (ρ : Ev) (M : MS)
  | err (n : Str) (fs : List (Str × D)) (ρ : Ev) (M : MS)
  | stuck
abbrev Sn := Ev → MS → SR
def OutS (c : Cl) (θ : List Addr) (P H : Hp) (E : Ends) (W : WX) : SR → Prop
  | .nx ρ' M' => ∀ σ' H' θ' P', Wo c θ' P' H' M' → Stp θ P H θ' P' H' → ER c θ' P' ρ' σ' → E.nx σ' H'
  | .rt d M' => ∀ v H' θ' P', Wo c θ' P' H' M' → Stp θ P H θ' P' H' → VR c θ' P' d v → E.rt v H'
  | .bk ρ' M' => ∀ σ' H' θ' P', Wo c θ' P' H' M' → Stp θ P H θ' P' H' → ER c θ' P' ρ' σ' → E.bk σ' H'
  | .ct ρ' M' => ∀ σ' H' θ' P', Wo c θ' P' H' M' → Stp θ P H θ' P' H' → ER c θ' P' ρ' σ' → E.ct σ' H'
  | .err n fs ρ' M' => ∀ cv dd σ' H' θ' P', Wo c θ' P' H' M' → Stp θ P H θ' P' H' → ER c θ' P' ρ' σ' → XR c θ' P' H' n fs cv dd → W cv dd σ' H'
  | .stuck => False
section
variable {c : Cl} {θ : List Addr} {P H : Hp} {E E' : Ends} {W : WX}
theorem OutS.base {θ1 : List Addr} {P1 H1 : Hp} {r : SR} (s : Stp θ P H θ1 P1 H1) (h : OutS c θ P H E W r) : OutS c θ1 P1 H1 E W r := by
  cases r with
  | nx ρ M => exact fun a b e f w s' x => h a b e f w (s.trans s') x
  | rt ρ M => exact fun a b e f w s' x => h a b e f w (s.trans s') x
  | bk ρ M => exact fun a b e f w s' x => h a b e f w (s.trans s') x
  | ct ρ M => exact fun a b e f w s' x => h a b e f w (s.trans s') x
  | err n fs ρ M => exact fun a b e f g i w s' x => h a b e f g i w (s.trans s') x
  | stuck => exact h
/-- an expression's run within a statement's -/
def bindS {α : Type} (r : Res α) (ρ : Ev) (f : α → MS → SR) : SR := match r with
  | .ok a M => f a M
  | .err n fs M => .err n fs ρ M
  | .stuck => .stuck
theorem OutS.bind {α β : Type} {R : List Addr → Hp → Hp → α → β → Prop} {Q : β → Hp → Prop} {ρ : Ev} {σ : L2.St} {r : Res α} {f : α → MS → SR} (er : ER c θ P ρ σ) (h : OutS c θ P H E W (bindS r ρ f))
    (k : ∀ a M1 b H1 θ1 P1, Wo c θ1 P1 H1 M1 → Stp θ P H θ1 P1 H1 → R θ1 P1 H1 a b → ER c θ1 P1 ρ σ → OutS c θ1 P1 H1 E W (f a M1) → Q b H1) : Out c R θ P H Q (fun cv dd H' => W cv dd σ H') r := by
  cases r with
  | ok a M1 => exact fun b H1 θ1 P1 w s x => k a M1 b H1 θ1 P1 w s x (er.step s) (OutS.base s h)
  | err n fs M' => exact fun cv dd H' θ' P' w s x => h cv dd σ H' θ' P' w s (er.step s) x
  | stuck => exact h
end
def liftS (c : Cl) (W : WX) (run : Sn) : TS := fun E σ H => ∃ ρ M θ P, Wo c θ P H M ∧ ER c θ P ρ σ ∧ OutS c θ P H E W (run ρ M)
theorem PS.imp {X : Cx} {st : Stmt} {t t' : TS} (h : PS X st t) (k : ∀ E σ H, t' E σ H → t E σ H) : PS X st t' := ⟨fun pins s σ H E I q => h.run pins s σ H E I (k _ _ _ q)⟩
theorem PSs.imp {X : Cx} {st : List Stmt} {t t' : TS} (h : PSs X st t) (k : ∀ E σ H, t' E σ H → t E σ H) : PSs X st t' := ⟨fun pins s σ H E I q => h.run pins s σ H E I (k _ _ _ q)⟩

section
variable {X : Cx} {c : Cl} {W : WX}
def rNx : Sn := fun ρ M => .nx ρ M
def rThen (a b : Sn) : Sn := fun ρ M => match a ρ M with
  | .nx ρ' M' => b ρ' M'
  | r => r
theorem OutS.seq {θ : List Addr} {P H : Hp} {E : Ends} {a b : Sn} {ρ : Ev} {M : MS} (h : OutS c θ P H E W (rThen a b ρ M)) : OutS c θ P H { E with nx := liftS c W b E } W (a ρ M) := by
  unfold rThen at h
  cases q : a ρ M with
  | nx ρ' M' => simp only [q] at h; exact fun σ' H' θ' P' w s x => ⟨ρ', M', θ', P', w, x, OutS.base s h⟩
  | rt d M' => simp only [q] at h; exact h
  | bk d M' => simp only [q] at h; exact h
  | ct d M' => simp only [q] at h; exact h
  | err n fs d M' => simp only [q] at h; exact h
  | stuck => simp only [q] at h; exact h
theorem ss_nil : PSs X [] (liftS c W rNx) := PSs.imp pss_nil fun E σ H ⟨ρ, M, θ, P, w, er, o⟩ => o _ _ _ _ w .refl er
theorem ss_one {st : Stmt} {a : Sn} (h : PS X st (liftS c W a)) : PSs X [st] (liftS c W a) := pss_one h
theorem ss_cons {st : Stmt} {rest : List Stmt} {a b : Sn} (h1 : PS X st (liftS c W a)) (h2 : PSs X rest (liftS c W b)) : PSs X (st :: rest) (liftS c W (rThen a b)) :=
  PSs.imp (pss_cons h1 h2) fun E σ H ⟨ρ, M, θ, P, w, er, o⟩ => ⟨ρ, M, θ, P, w, er, OutS.seq o⟩
theorem st_pass {pos : Pos} : PS X (.Pass pos) (liftS c W rNx) := PS.imp ps_pass fun E σ H ⟨ρ, M, θ, P, w, er, o⟩ => o _ _ _ _ w .refl er
def rBk : Sn := fun ρ M => .bk ρ M
def rCt : Sn := fun ρ M => .ct ρ M
theorem st_break {pos : Pos} : PS X (.Break pos) (liftS c W rBk) := PS.imp ps_break fun E σ H ⟨ρ, M, θ, P, w, er, o⟩ => o _ _ _ _ w .refl er
theorem st_cont {pos : Pos} : PS X (.Continue pos) (liftS c W rCt) := PS.imp ps_continue fun E σ H ⟨ρ, M, θ, P, w, er, o⟩ => o _ _ _ _ w .refl er
def rRet (a : Rn D) : Sn := fun ρ M => bindS (a ρ M) ρ fun d M1 => .rt d M1
theorem st_ret {e : Expr} {pos : Pos} {a : Rn D} (h : PE X e (liftE c W a)) : PS X (.Return (some e) pos) (liftS c W (rRet a)) :=
  PS.imp (ps_ret h) fun E σ H ⟨ρ, M, θ, P, w, er, o⟩ => ⟨ρ, M, θ, P, w, er, OutS.bind (R := RV c) er o fun d M1 v H1 θ1 P1 w1 s1 r1 er1 o1 => o1 _ _ _ _ w1 .refl r1⟩
def rDrop (a : Rn D) : Sn := fun ρ M => bindS (a ρ M) ρ fun _ M1 => .nx ρ M1
theorem st_expr {e : Expr} {pos : Pos} {a : Rn D} (h : PE X e (liftE c W a)) (hs : swapsWith e none pos.line X.env = pure false := by rfl) : PS X (.Expr e pos) (liftS c W (rDrop a)) :=
  PS.imp (ps_expr h hs) fun E σ H ⟨ρ, M, θ, P, w, er, o⟩ => ⟨ρ, M, θ, P, w, er, OutS.bind (R := RV c) er o fun d M1 v H1 θ1 P1 w1 s1 r1 er1 o1 => o1 _ _ _ _ w1 .refl er1⟩
def rIfS (t : Rn Bool) (a b : Sn) : Sn := fun ρ M => bindS (t ρ M) ρ fun k M1 => if k = true then a ρ M1 else b ρ M1
theorem st_if {e : Expr} {s1 s2 : List Stmt} {pos : Pos} {t : Rn Bool} {a b : Sn} (h : PT X e (liftT c W t)) (h1 : PSs X s1 (liftS c W a)) (h2 : PSs X s2 (liftS c W b)) : PS X (.If e s1 s2 pos) (liftS c W (rIfS t a b)) :=
  PS.imp (ps_if h h1 h2) fun E σ H ⟨ρ, M, θ, P, w, er, o⟩ => ⟨ρ, M, θ, P, w, er, OutS.bind (R := RB) er o fun d M1 v H1 θ1 P1 w1 s1 r1 er1 o1 => by
    subst r1
    cases v with
    | true => exact (if_pos rfl).mpr ⟨ρ, M1, θ1, P1, w1, er1, o1⟩
    | false => exact (if_neg Bool.false_ne_true).mpr ⟨ρ, M1, θ1, P1, w1, er1, o1⟩⟩
/-! ### stores in names -/
/-- what a target does with a value: bd is its work on the data, vs the slots that it stores -/
structure TgOk (c : Cl) (g : TG) (vs : List Nat) (bd : D → Ev → Option Ev) : Prop where
  run : ∀ θ P H d v ρ (σ : L2.St) ρ' (Q : L2.St → Hp → Prop), VR c θ P d v → ER c θ P ρ σ → (∀ b o, P b = some o → H b = some o) → bd d ρ = some ρ' →
    (∀ σ', ER c θ P ρ' σ' → σ'.length = σ.length → (∀ j, j ∉ vs → σ'[j]? = σ[j]?) → Q σ' H) → g v σ H Q
def bName (i : Nat) : D → Ev → Option Ev := fun d ρ => some (ρ.set i (some d))
theorem tg_name {i : Nat} : TgOk c (gName i) [i] (bName i) := ⟨fun θ P H d v ρ σ ρ' Q r er _ e h => by
  cases e
  exact h _ (er.set i r) (by simp) fun j hj => List.getElem?_set_ne (fun q => hj (by simp [q]))⟩
def bNames : List Nat → List D → Ev → Option Ev
  | [], [], ρ => some ρ
  | i :: is, d :: ds, ρ => bNames is ds (ρ.set i (some d))
  | _, _, _ => none
def bTup (is : List Nat) : D → Ev → Option Ev
  | .tup ds, ρ => bNames is ds ρ
  | _, _ => none
def gNames : List Nat → TGs
  | [] => gNil
  | i :: is => gCons (gName i) (gNames is)
theorem bNames_len : ∀ {is : List Nat} {ds : List D} {ρ ρ' : Ev}, bNames is ds ρ = some ρ' → ds.length = is.length
  | [], [], _, _, _ => rfl
  | [], _ :: _, _, _, h => by simp [bNames] at h
  | _ :: _, [], _, _, h => by simp [bNames] at h
  | _ :: is, _ :: ds, ρ, ρ', h => by simp only [bNames] at h; simp [bNames_len h]
theorem names_run {θ : List Addr} {P H : Hp} {Q : L2.St → Hp → Prop} : ∀ {is : List Nat} {ds : List D} {vs : List V} {ρ ρ' : Ev} {σ : L2.St}, VRL c θ P ds vs → ER c θ P ρ σ → bNames is ds ρ = some ρ' →
    (∀ σ', ER c θ P ρ' σ' → σ'.length = σ.length → (∀ j, j ∉ is → σ'[j]? = σ[j]?) → Q σ' H) → gNames is vs σ H Q
  | [], [], _, ρ, ρ', σ, r, er, e, h => by
    cases e
    cases r
    exact ⟨rfl, h _ er rfl fun _ _ => rfl⟩
  | [], _ :: _, _, _, _, _, _, _, h, _ => by simp [bNames] at h
  | _ :: _, [], _, _, _, _, _, _, h, _ => by simp [bNames] at h
  | i :: is, d :: ds, _, ρ, ρ', σ, ⟨v, r, e, a, b⟩, er, q, h => by
    subst e
    exact ⟨v, r, rfl, names_run b (er.set i a) q fun σ' er' l' k' => h σ' er' (by rw [l', List.length_set]) fun j hj => by
      rw [k' j (fun m => hj (List.mem_cons_of_mem _ m)), List.getElem?_set_ne (fun q => hj (by simp [q]))]⟩
theorem tg_tup {K : PySem.W.Frag} {n : Nat} {is : List Nat} (hK : c.K = K) (hn : is.length = n) : TgOk c (gTup K n (gNames is)) is (bTup is) := ⟨fun θ P H d v ρ σ ρ' Q r er sub e h => by
  subst hK
  cases d with
  | tup ds =>
    obtain ⟨a, vs, rfl, sq, rl⟩ := r
    exact ⟨a, vs, rfl, sqT_mono sub sq, by rw [rl.length, bNames_len e, hn], names_run rl er e h⟩
  | _ => simp [bTup] at e⟩
def rAsg (a : Rn D) (bd : D → Ev → Option Ev) : Sn := fun ρ M => bindS (a ρ M) ρ fun d M1 => match bd d ρ with
  | some ρ' => .nx ρ' M1
  | none => .stuck
theorem asg_run {te : TE} {a : Rn D} {g : TG} {vs : List Nat} {bd : D → Ev → Option Ev} (hg : TgOk c g vs bd) {E : Ends} {σ : L2.St} {H : Hp} (h : liftS c W (rAsg a bd) E σ H) (k : ∀ Q, liftE c W a σ H Q → te σ H Q) : tAsg te g E σ H := by
  obtain ⟨ρ, M, θ, P, w, er, o⟩ := h
  refine k _ ⟨ρ, M, θ, P, w, er, OutS.bind (R := RV c) er o fun d M1 v H1 θ1 P1 w1 s1 r1 er1 o1 => ?_⟩
  cases q : bd d ρ with
  | none => simp only [q] at o1; exact o1.elim
  | some ρ' =>
    simp only [q] at o1
    exact hg.run θ1 P1 H1 d v ρ σ ρ' E.nx r1 er1 w1.sub q fun σ' er' _ _ => o1 _ _ _ _ w1 .refl er'
theorem st_set {i : Nat} {x : Str} {e : Expr} {pos pos' : Pos} {a : Rn D} (hN : X.N.Nodup) (hi : X.N[i]? = some x) (hx : Loc X.env.scope x) (h : PE X e (liftE c W a)) (hs : swapsWith e (some (.Name x pos')) pos.line X.env = pure false := by rfl) (hf : X.fn x = true ∨ X.env.scope.names.lookup x = some .local := by first | exact .inl rfl | exact .inr rfl | assumption) :
    PS X (.Assign [.Name x pos'] e pos) (liftS c W (rAsg a (bName i))) :=
  PS.imp (ps_set hN hi hx h hs hf) fun E σ H q => asg_run tg_name q fun _ z => z
theorem st_asg {tg e : Expr} {pos : Pos} {g : TG} {vs : List Nat} {bd : D → Ev → Option Ev} {a : Rn D} (hg : PG X tg g) (ok : TgOk c g vs bd) (h : PE X e (liftE c W a)) (hs : swapsWithSole [tg] e pos.line X.env = pure false := by rfl) (hw : swappedStores [tg] e X.env = pure none := by rfl)
    (h1 : (assignEach [tg] X.env).map (·.2) = [assign tg X.env] := by rfl) : PS X (.Assign [tg] e pos) (liftS c W (rAsg a bd)) :=
  PS.imp (ps_asg h hg hs hw h1) fun E σ H q => asg_run ok q fun _ z => z
/-- a, b = x, y -/
def rPar (i j : Nat) (a : Rn (List D)) : Sn := fun ρ M => bindS (a ρ M) ρ fun ds M1 => match ds with
  | [d, e] => .nx ((ρ.set i (some d)).set j (some e)) M1
  | _ => .stuck
theorem st_par {i j : Nat} {x y : Str} {a b : Expr} {px py pt pos : Pos} {kt k2 pt2} {ra : Rn (List D)} (hc : X.calm = true) (hN : X.N.Nodup) (hi : X.N[i]? = some x) (hj : X.N[j]? = some y) (hij : i ≠ j)
    (hx : X.env.scope.names.lookup x = some .local) (hy : X.env.scope.names.lookup y = some .local) (ha : PA X [a, b] (liftA c W ra)) (h : PS X (.Assign [.Tuple [.Name x px, .Name y py] kt pt] (.Tuple [a, b] k2 pt2) pos) (tPar i j (liftA c W ra))) :
    PS X (.Assign [.Tuple [.Name x px, .Name y py] kt pt] (.Tuple [a, b] k2 pt2) pos) (liftS c W (rPar i j ra)) :=
  PS.imp h fun E σ H ⟨ρ, M, θ, P, w, er, o⟩ => ⟨ρ, M, θ, P, w, er, OutS.bind (R := RL c) er o fun ds M1 vs H1 θ1 P1 w1 s1 r1 er1 o1 => by
    match ds, o1 with
    | [d, e], o1 =>
      obtain ⟨v, r, rfl, r2, v2, r3, rfl, r4, rfl⟩ := r1
      exact ⟨v, v2, rfl, o1 _ _ _ _ w1 .refl ((er1.set i r2).set j r4)⟩
    | [], o1 => exact o1.elim
    | [_], o1 => exact o1.elim
    | _ :: _ :: _ :: _, o1 => exact o1.elim⟩

/-! ### what a for walks -/
def SrcOk (c : Cl) (θ0 : List Addr) (P0 H0 : Hp) (ds : List D) (J : It) : Prop := ∀ (i : Nat) θ P H M, Wo c θ P H M → Stp θ0 P0 H0 θ P H →
  (∀ d, ds[i]? = some d → J.go i H ∧ ∀ x H', J.yld i H x H' → ∃ P', Wo c θ P' H' M ∧ Stp θ P H θ P' H' ∧ VR c θ P' d x) ∧ (ds.length ≤ i → J.stop i H)
theorem SrcOk.step {θ0 θ1 : List Addr} {P0 H0 P1 H1 : Hp} {J : It} {ds : List D} (h : SrcOk c θ0 P0 H0 ds J) (s : Stp θ0 P0 H0 θ1 P1 H1) : SrcOk c θ1 P1 H1 ds J := fun i θ P H M w s' => h i θ P H M w (s.trans s')
abbrev RI (c : Cl) : List Addr → Hp → Hp → List D → It → Prop := fun θ P H ds J => SrcOk c θ P H ds J
def liftI (c : Cl) (W : WX) (run : Rn (List D)) : TI := fun σ H R => ∃ ρ M θ P, Wo c θ P H M ∧ ER c θ P ρ σ ∧ Out c (RI c) θ P H R (fun cv dd H' => W cv dd σ H') (run ρ M)
theorem PI.imp {tg iter : Expr} {t t' : TI} (h : PI X tg iter t) (k : ∀ σ H R, t' σ H R → t σ H R) : PI X tg iter t' := ⟨fun pins s σ H R I q => h.run pins s σ H R I (k _ _ _ q)⟩
theorem PI.both {tg iter : Expr} {t t' : TI} (h : PI X tg iter t) (h' : PI X tg iter t') : PI X tg iter (fun σ H R => t σ H R ∨ t' σ H R) := ⟨fun pins s σ H R I q => q.elim (h.run pins s σ H R I) (h'.run pins s σ H R I)⟩
def chars (s : Str) : List D := s.cps.toList.map fun k => .str ⟨#[k]⟩
def itemsOf : D → Option (List D)
  | .lst ds => some ds
  | .scr ds => some ds
  | .tup ds => some ds
  | .str s => some (chars s)
  | _ => none
def rItems (a : Rn D) : Rn (List D) := fun ρ M => (a ρ M).bind fun d M1 => match itemsOf d with
  | some ds => .ok ds M1
  | none => .stuck
section
variable {θ0 : List Addr} {P0 H0 : Hp} {ds : List D} {vs : List V} {a : Addr}
theorem src_list (K : PySem.W.Frag) (hK : c.K = K) (r : VRL c θ0 P0 ds vs) (sq : SqL K P0 a vs) : SrcOk c θ0 P0 H0 ds (Itl K a) := fun i θ P H M w s => by
  have sq' : SqL K H a vs := sqL_mono (fun b o e => w.sub b o (s.pext b o e)) sq
  refine ⟨fun d e => ?_, fun hl => ⟨vs, sq', by rw [r.length]; exact hl⟩⟩
  obtain ⟨v, e1, rv⟩ := r.get e
  exact ⟨⟨vs, v, sq', e1⟩, fun x H' ⟨e2, e3⟩ => ⟨P, by rw [e2]; exact w, by rw [e2]; exact .refl, by have := e3 vs sq'; rw [e1] at this; cases this; exact rv.step s⟩⟩
theorem src_tup (K : PySem.W.Frag) (hK : c.K = K) (r : VRL c θ0 P0 ds vs) (sq : SqT K P0 a vs) : SrcOk c θ0 P0 H0 ds (Itt K a) := fun i θ P H M w s => by
  have sq' : SqT K H a vs := sqT_mono (fun b o e => w.sub b o (s.pext b o e)) sq
  refine ⟨fun d e => ?_, fun hl => ⟨vs, sq', by rw [r.length]; exact hl⟩⟩
  obtain ⟨v, e1, rv⟩ := r.get e
  exact ⟨⟨vs, v, sq', e1⟩, fun x H' ⟨e2, e3⟩ => ⟨P, by rw [e2]; exact w, by rw [e2]; exact .refl, by have := e3 vs sq'; rw [e1] at this; cases this; exact rv.step s⟩⟩
theorem src_str {s : Str} : SrcOk c θ0 P0 H0 (chars s) (Its s) := fun i θ P H M w st => by
  refine ⟨fun d e => ?_, fun hl => ?_⟩
  · unfold chars at e
    rw [List.getElem?_map] at e
    cases q : s.cps.toList[i]? with
    | none => rw [q] at e; cases e
    | some k =>
      rw [q] at e
      cases e
      have q' : s.cps[i]? = some k := by simpa using q
      refine ⟨(Array.getElem?_eq_some_iff.mp q').1, fun x H' ⟨e2, k', e3, e4⟩ => ⟨P, by rw [e2]; exact w, by rw [e2]; exact .refl, ?_⟩⟩
      rw [q'] at e3; cases e3
      exact e4
  · unfold chars at hl
    show s.cps.size ≤ i
    simpa using hl
end
theorem i_items {tg e : Expr} {ra : Rn D} (hK : c.K = X.K) (h : PE X e (liftE c W ra)) : PI X tg e (liftI c W (rItems ra)) :=
  PI.imp (PI.both (pi_list h) (PI.both (pi_tup h) (pi_str h))) fun σ H R ⟨ρ, M, θ, P, w, er, o⟩ => by
    unfold rItems at o
    cases q : ra ρ M with
    | stuck => rw [q] at o; exact o.elim
    | err n fs M1 =>
      rw [q] at o
      exact .inl ⟨ρ, M, θ, P, w, er, by rw [q]; exact o⟩
    | ok d M1 =>
      rw [q] at o
      have o' : Out c (RI c) θ P H R (fun cv dd H' => W cv dd σ H') (match itemsOf d with | some ds => .ok ds M1 | none => .stuck) := o
      cases d with
      | lst ds =>
        refine .inl ⟨ρ, M, θ, P, w, er, ?_⟩
        rw [q]
        exact fun v H1 θ1 P1 w1 s1 r1 => by
          obtain ⟨a, vs, rfl, sq, rl⟩ := r1
          have sq : SqL X.K P1 a vs := .inl (.inl sq)
          exact ⟨a, rfl, ⟨vs, sqL_mono w1.sub sq⟩, o' _ H1 θ1 P1 w1 s1 (src_list X.K hK rl sq)⟩
      | scr ds =>
        refine .inl ⟨ρ, M, θ, P, w, er, ?_⟩
        rw [q]
        exact fun v H1 θ1 P1 w1 s1 r1 => by
          obtain ⟨a, vs, rfl, sq, rl⟩ := r1
          rw [hK] at sq
          exact ⟨a, rfl, ⟨vs, sqL_mono w1.sub sq⟩, o' _ H1 θ1 P1 w1 s1 (src_list X.K hK rl sq)⟩
      | tup ds =>
        refine .inr (.inl ⟨ρ, M, θ, P, w, er, ?_⟩)
        rw [q]
        exact fun v H1 θ1 P1 w1 s1 r1 => by
          obtain ⟨a, vs, rfl, sq, rl⟩ := r1
          rw [hK] at sq
          exact ⟨a, rfl, ⟨vs, sqT_mono w1.sub sq⟩, o' _ H1 θ1 P1 w1 s1 (src_tup X.K hK rl sq)⟩
      | str s =>
        refine .inr (.inr ⟨ρ, M, θ, P, w, er, ?_⟩)
        rw [q]
        exact fun v H1 θ1 P1 w1 s1 r1 => ⟨s, r1, o' _ H1 θ1 P1 w1 s1 src_str⟩
      | _ => exact o'.elim
/-- range(..) -/
def upto (lo : Int) (n : Nat) : List D := (List.range n).map fun (k : Nat) => .int (lo + (k : Int))
theorem upto_get {lo : Int} {n i : Nat} {d : D} (h : (upto lo n)[i]? = some d) : i < n ∧ d = .int (lo + (i : Int)) := by
  unfold upto at h
  rw [List.getElem?_map] at h
  by_cases q : i < n
  · rw [List.getElem?_range q] at h
    cases h
    exact ⟨q, rfl⟩
  · rw [List.getElem?_eq_none (by simpa using q)] at h
    cases h
theorem src_range {θ0 : List Addr} {P0 H0 : Hp} {lo : Int} {n : Nat} : SrcOk c θ0 P0 H0 (upto lo n) (Itr lo n) := fun i θ P H M w st => by
  refine ⟨fun d e => ?_, fun hl => by unfold upto at hl; simpa [Itr] using hl⟩
  obtain ⟨hi, rfl⟩ := upto_get e
  exact ⟨hi, fun x H' ⟨e2, e3⟩ => ⟨P, by rw [e2]; exact w, by rw [e2]; exact .refl, e3⟩⟩
def near (i : Int) : Bool := decide (-4611686018427387904 ≤ i ∧ i < 4611686018427387904)
def rRange1 (a : Rn (List D)) : Rn (List D) := fun ρ M => (a ρ M).bind fun ds M1 => match ds with
  | [.int j] => rGuard (near j) (.ok (upto 0 j.toNat) M1)
  | _ => .stuck
def rRange2 (a : Rn (List D)) : Rn (List D) := fun ρ M => (a ρ M).bind fun ds M1 => match ds with
  | [.int i, .int j] => rGuard (near i && near j) (.ok (upto i (j - i).toNat) M1)
  | _ => .stuck
theorem i_range1 {tg a : Expr} {p pos : Pos} {ra : Rn (List D)} (hm : X.mg "range" = none) (h : PA X [a] (liftA c W ra)) (hg : Gl X "range" := by rfl) (hs : starEach [a] X.env = [(false, eval a X.env)] := by rfl) : PI X tg (.Call (.Name "range" p) [a] [] pos) (liftI c W (rRange1 ra)) :=
  PI.imp (pi_range1 hg hm h hs) fun σ H R ⟨ρ, M, θ, P, w, er, o⟩ => ⟨ρ, M, θ, P, w, er, Out.bind (R := RL c) o fun ds M1 vs H1 θ1 P1 w1 s1 r1 o1 => by
    match ds, o1 with
    | [.int j], o1 =>
      obtain ⟨v, r, rfl, r2, rfl⟩ := r1
      cases r2
      obtain ⟨g, o1⟩ := Out.guard (R := RI c) o1
      obtain ⟨g1, g2⟩ := of_decide_eq_true g
      exact ⟨j, rfl, g1, g2, Out.now (R := RI c) w1 o1 src_range⟩⟩
theorem i_range2 {tg a b : Expr} {p pos : Pos} {ra : Rn (List D)} (hm : X.mg "range" = none) (h : PA X [a, b] (liftA c W ra)) (hp : PI X tg (.Call (.Name "range" p) [a, b] [] pos) (iRng2 (liftA c W ra))) : PI X tg (.Call (.Name "range" p) [a, b] [] pos) (liftI c W (rRange2 ra)) :=
  PI.imp hp fun σ H R ⟨ρ, M, θ, P, w, er, o⟩ => ⟨ρ, M, θ, P, w, er, Out.bind (R := RL c) o fun ds M1 vs H1 θ1 P1 w1 s1 r1 o1 => by
    match ds, o1 with
    | [.int i, .int j], o1 =>
      obtain ⟨v, r, rfl, r2, v', r', rfl, r2', rfl⟩ := r1
      cases r2
      cases r2'
      obtain ⟨g, o1⟩ := Out.guard (R := RI c) o1
      obtain ⟨ga, gb⟩ := Bool.and_eq_true_iff.mp g
      obtain ⟨g1, g2⟩ := of_decide_eq_true ga
      obtain ⟨g3, g4⟩ := of_decide_eq_true gb
      exact ⟨i, j, rfl, ⟨g1, g2, g3, g4⟩, Out.now (R := RI c) w1 o1 src_range⟩⟩
/-- enumerate, zip -/
def paired (ds : List D) (es : List D) : List D := (ds.zip es).map fun p => .tup [p.1, p.2]
def numbered (ds : List D) : List D := paired (upto 0 ds.length) ds
theorem paired_get {ds es : List D} {i : Nat} {d : D} (h : (paired ds es)[i]? = some d) : ∃ x y, ds[i]? = some x ∧ es[i]? = some y ∧ d = .tup [x, y] := by
  unfold paired at h
  rw [List.getElem?_map] at h
  cases q : (ds.zip es)[i]? with
  | none => rw [q] at h; cases h
  | some p =>
    rw [q] at h
    cases h
    rw [List.getElem?_zip_eq_some] at q
    exact ⟨p.1, p.2, q.1, q.2, rfl⟩
section
variable {θ0 : List Addr} {P0 H0 : Hp} {ds es : List D} {vs us : List V} {a b : Addr}
theorem src_enum (K : PySem.W.Frag) (hK : c.K = K) (r : VRL c θ0 P0 ds vs) (sq : SqL K P0 a vs) : SrcOk c θ0 P0 H0 (numbered ds) (Ite K a) := fun i θ P H M w s => by
  have sq' : SqL K H a vs := sqL_mono (fun b o e => w.sub b o (s.pext b o e)) sq
  refine ⟨fun d e => ?_, fun hl => ⟨vs, sq', by rw [r.length]; simpa [numbered, paired, upto] using hl⟩⟩
  obtain ⟨x, y, e1, e2, rfl⟩ := paired_get e
  obtain ⟨_, rfl⟩ := upto_get e1
  obtain ⟨v, e3, rv⟩ := r.get e2
  refine ⟨⟨vs, v, sq', e3⟩, fun x H' ⟨T, z, hx, hT, hH, hz⟩ => ?_⟩
  have := hz vs sq'
  rw [e3] at this; cases this
  obtain ⟨w', s'⟩ := w.newP (o := .tup [.int (i : Nat), v]) hT
  refine ⟨_, by rw [hH]; exact w', by rw [hH]; exact s', T, _, hx, .inl (.inl upd_same), ⟨.int (i : Nat), [v], rfl, by show V.int _ = V.int _; rw [Int.zero_add], v, [], rfl, (rv.step s).step s', rfl⟩⟩
theorem src_zip (K : PySem.W.Frag) (hK : c.K = K) (r : VRL c θ0 P0 ds vs) (sq : SqL K P0 a vs) (r2 : VRL c θ0 P0 es us) (sq2 : SqL K P0 b us) : SrcOk c θ0 P0 H0 (paired ds es) (Itz K a b) := fun i θ P H M w s => by
  have sq' : SqL K H a vs := sqL_mono (fun b o e => w.sub b o (s.pext b o e)) sq
  have sq2' : SqL K H b us := sqL_mono (fun b o e => w.sub b o (s.pext b o e)) sq2
  refine ⟨fun d e => ?_, fun hl => ⟨vs, us, sq', sq2', by rw [r.length, r2.length]; simp [paired] at hl; omega⟩⟩
  obtain ⟨x, y, e1, e2, rfl⟩ := paired_get e
  obtain ⟨v, e3, rv⟩ := r.get e1
  obtain ⟨u, e4, ru⟩ := r2.get e2
  refine ⟨⟨vs, us, v, u, sq', sq2', e3, e4⟩, fun x H' ⟨T, z, z', hx, hT, hH, hz, hz'⟩ => ?_⟩
  have t1 := hz vs sq'
  have t2 := hz' us sq2'
  rw [e3] at t1; cases t1
  rw [e4] at t2; cases t2
  obtain ⟨w', s'⟩ := w.newP (o := .tup [v, u]) hT
  exact ⟨_, by rw [hH]; exact w', by rw [hH]; exact s', T, _, hx, .inl (.inl upd_same), ⟨v, [u], rfl, (rv.step s).step s', u, [], rfl, (ru.step s).step s', rfl⟩⟩
end
def rEnum (a : Rn (List D)) : Rn (List D) := fun ρ M => (a ρ M).bind fun ds M1 => match ds with
  | [.lst xs] => .ok (numbered xs) M1
  | _ => .stuck
def rZip (a : Rn (List D)) : Rn (List D) := fun ρ M => (a ρ M).bind fun ds M1 => match ds with
  | [.lst xs, .lst ys] => .ok (paired xs ys) M1
  | _ => .stuck
theorem i_enum {tg e : Expr} {ra : Rn (List D)} (hK : c.K = X.K) (hp : PI X tg e (iEnum X.K (liftA c W ra))) : PI X tg e (liftI c W (rEnum ra)) :=
  PI.imp hp fun σ H R ⟨ρ, M, θ, P, w, er, o⟩ => ⟨ρ, M, θ, P, w, er, Out.bind (R := RL c) o fun ds M1 vs H1 θ1 P1 w1 s1 r1 o1 => by
    match ds, o1 with
    | [.lst xs], o1 =>
      obtain ⟨v, r, rfl, ⟨a, ws, rfl, sq, rl⟩, rfl⟩ := r1
      have sq : SqL X.K P1 a ws := .inl (.inl sq)
      exact ⟨a, ws, rfl, sqL_mono w1.sub sq, Out.now (R := RI c) w1 o1 (src_enum X.K hK rl sq)⟩⟩
theorem i_zip {tg e : Expr} {ra : Rn (List D)} (hK : c.K = X.K) (hp : PI X tg e (iZip X.K (liftA c W ra))) : PI X tg e (liftI c W (rZip ra)) :=
  PI.imp hp fun σ H R ⟨ρ, M, θ, P, w, er, o⟩ => ⟨ρ, M, θ, P, w, er, Out.bind (R := RL c) o fun ds M1 vs H1 θ1 P1 w1 s1 r1 o1 => by
    match ds, o1 with
    | [.lst xs, .lst ys], o1 =>
      obtain ⟨v, r, rfl, ⟨a, ws, rfl, sq, rl⟩, v', r', rfl, ⟨a', ws', rfl, sq', rl'⟩, rfl⟩ := r1
      have sq : SqL X.K P1 a ws := .inl (.inl sq)
      have sq' : SqL X.K P1 a' ws' := .inl (.inl sq')
      exact ⟨a, a', ws, ws', rfl, sqL_mono w1.sub sq, sqL_mono w1.sub sq', Out.now (R := RI c) w1 o1 (src_zip X.K hK rl sq rl' sq')⟩⟩

/-! ### for, while -/
def loopF (bd : D → Ev → Option Ev) (body : Sn) : List D → Sn
  | [], ρ, M => .nx ρ M
  | d :: ds, ρ, M => match bd d ρ with
    | none => .stuck
    | some ρ1 => match body ρ1 M with
      | .nx ρ2 M2 => loopF bd body ds ρ2 M2
      | .ct ρ2 M2 => loopF bd body ds ρ2 M2
      | .bk ρ2 M2 => .nx ρ2 M2
      | r => r
def rFor (it : Rn (List D)) (bd : D → Ev → Option Ev) (body : Sn) : Sn := fun ρ M => bindS (it ρ M) ρ fun ds M1 => loopF bd body ds ρ M1
theorem st_for {tg iter : Expr} {body : List Stmt} {pos : Pos} {g : TG} {vs : List Nat} {bd : D → Ev → Option Ev} {it : Rn (List D)} {b : Sn} (hp : PassesOwn (model X.prog X.w) X.A X.env X.xe) (hc : X.calm = true) (hi : PI X tg iter (liftI c W it)) (hg : PG X tg g) (ok : TgOk c g vs bd) (hb : PSs X body (liftS c W b))
    (hs : ∀ x, foldedSetIterable iter X.env x = pure x := by intro _; rfl) : PS X (.For tg iter body [] pos) (liftS c W (rFor it bd b)) :=
  PS.imp (ps_for hp hc hi hg hb hs) fun E σ H ⟨ρ, M, θ, P, w, er, o⟩ => ⟨ρ, M, θ, P, w, er, OutS.bind (R := RI c) er o fun ds M1 J H1 θ1 P1 w1 s1 r1 er1 o1 => by
    refine ⟨fun i m σ H => m = ds.length - i ∧ i ≤ ds.length ∧ ∃ ρ M θ P, Wo c θ P H M ∧ Stp θ1 P1 H1 θ P H ∧ ER c θ P ρ σ ∧ OutS c θ P H E W (loopF bd b (ds.drop i) ρ M), ⟨_, rfl, Nat.zero_le _, ρ, M1, θ1, P1, w1, .refl, er1, by simpa using o1⟩, ?_⟩
    rintro i m σ2 H2 ⟨rfl, hi, ρ2, M2, θ2, P2, w2, s2, er2, o2⟩
    obtain ⟨k1, k2⟩ := r1 i θ2 P2 H2 M2 w2 s2
    rcases Nat.lt_or_ge i ds.length with hl | hl
    · have e : ds[i]? = some ds[i] := List.getElem?_eq_getElem hl
      obtain ⟨g1, g2⟩ := k1 _ e
      refine .inr ⟨g1, fun σ' H' => ∃ ρ M θ P, Wo c θ P H' M ∧ Stp θ1 P1 H1 θ P H' ∧ ER c θ P ρ σ' ∧ OutS c θ P H' E W (loopF bd b (ds.drop (i + 1)) ρ M), fun σ' H' q => ⟨ds.length - (i + 1), by omega, rfl, hl, q⟩, fun x H' y => ?_⟩
      obtain ⟨P', w', s', rx⟩ := g2 x H' y
      rw [List.drop_eq_getElem_cons hl] at o2
      unfold loopF at o2
      cases q : bd ds[i] ρ2 with
      | none => simp only [q] at o2; exact o2.elim
      | some ρ3 =>
        simp only [q] at o2
        refine ok.run θ2 P' H' _ x ρ2 σ2 ρ3 _ rx (er2.step s') w'.sub q fun σ3 er3 _ _ => ⟨ρ3, M2, θ2, P', w', er3, ?_⟩
        have o2 := OutS.base s' o2
        cases qb : b ρ3 M2 with
        | nx ρ4 M4 => simp only [qb] at o2; exact fun σ' H4 θ' P'' w4 s4 er4 => ⟨ρ4, M4, θ', P'', w4, (s2.trans s').trans s4, er4, OutS.base s4 o2⟩
        | ct ρ4 M4 => simp only [qb] at o2; exact fun σ' H4 θ' P'' w4 s4 er4 => ⟨ρ4, M4, θ', P'', w4, (s2.trans s').trans s4, er4, OutS.base s4 o2⟩
        | bk ρ4 M4 => simp only [qb] at o2; exact o2
        | rt d M4 => simp only [qb] at o2; exact o2
        | err n fs ρ4 M4 => simp only [qb] at o2; exact o2
        | stuck => simp only [qb] at o2; exact o2
    · refine .inl ⟨k2 hl, ?_⟩
      rw [List.drop_eq_nil_of_le hl] at o2
      exact o2 _ _ _ _ w2 .refl er2⟩
/-- while, at most n turns -/
def loopW (t : Rn Bool) (body : Sn) : Nat → Sn
  | 0, _, _ => .stuck
  | n + 1, ρ, M => bindS (t ρ M) ρ fun k M1 => if k = true then (match body ρ M1 with
      | .nx ρ2 M2 => loopW t body n ρ2 M2
      | .ct ρ2 M2 => loopW t body n ρ2 M2
      | .bk ρ2 M2 => .nx ρ2 M2
      | r => r) else .nx ρ M1
theorem st_while {e : Expr} {body : List Stmt} {pos : Pos} {t : Rn Bool} {b : Sn} (n : Nat) (hp : PassesOwn (model X.prog X.w) X.A X.env X.xe) (ht : PT X e (liftT c W t)) (hb : PSs X body (liftS c W b)) : PS X (.While e body [] pos) (liftS c W (loopW t b n)) :=
  PS.imp (ps_while hp ht hb) fun E σ H ⟨ρ, M, θ, P, w, er, o⟩ => by
    refine ⟨fun m σ H => ∃ ρ M θ P, Wo c θ P H M ∧ ER c θ P ρ σ ∧ OutS c θ P H E W (loopW t b m ρ M), ⟨n, ρ, M, θ, P, w, er, o⟩, ?_⟩
    rintro m σ1 H1 ⟨ρ1, M1, θ1, P1, w1, er1, o1⟩
    cases m with
    | zero => exact o1.elim
    | succ m =>
      unfold loopW at o1
      refine ⟨ρ1, M1, θ1, P1, w1, er1, OutS.bind (R := RB) er1 o1 fun k M2 k' H2 θ2 P2 w2 s2 r2 er2 o2 => ?_⟩
      subst r2
      cases k' with
      | false => exact (if_neg Bool.false_ne_true).mpr (o2 _ _ _ _ w2 .refl er2)
      | true =>
        refine (if_pos rfl).mpr ⟨fun σ' H' => ∃ ρ M θ P, Wo c θ P H' M ∧ ER c θ P ρ σ' ∧ OutS c θ P H' E W (loopW t b m ρ M), fun σ' H' q => ⟨m, Nat.lt_succ_self m, q⟩, ρ1, M2, θ2, P2, w2, er2, ?_⟩
        rw [if_pos rfl] at o2
        cases qb : b ρ1 M2 with
        | nx ρ4 M4 => simp only [qb] at o2; exact fun σ' H4 θ' P'' w4 s4 er4 => ⟨ρ4, M4, θ', P'', w4, er4, OutS.base s4 o2⟩
        | ct ρ4 M4 => simp only [qb] at o2; exact fun σ' H4 θ' P'' w4 s4 er4 => ⟨ρ4, M4, θ', P'', w4, er4, OutS.base s4 o2⟩
        | bk ρ4 M4 => simp only [qb] at o2; exact o2
        | rt d M4 => simp only [qb] at o2; exact o2
        | err n fs ρ4 M4 => simp only [qb] at o2; exact o2
        | stuck => simp only [qb] at o2; exact o2
end
end Q

namespace Q
open PySem PySem.Spec PyProof.Rows L2

/-! ### comprehensions -/
def wipeE (ρ : Ev) : List Nat → Ev
  | [] => ρ
  | v :: vs => (wipeE ρ vs).set v none
theorem wipeE_len (ρ : Ev) : ∀ vs : List Nat, (wipeE ρ vs).length = ρ.length
  | [] => rfl
  | v :: vs => by simp [wipeE, wipeE_len ρ vs]
theorem wipeE_some {ρ : Ev} {i : Nat} {x : D} : ∀ {vs : List Nat}, (wipeE ρ vs)[i]? = some (some x) → ρ[i]? = some (some x) ∧ i ∉ vs
  | [], h => ⟨h, by simp⟩
  | v :: vs, h => by
    unfold wipeE at h
    by_cases q : i = v
    · subst q
      by_cases l : i < (wipeE ρ vs).length
      · rw [List.getElem?_set_self l] at h; cases h
      · rw [List.getElem?_eq_none (by simp; omega)] at h; cases h
    · rw [List.getElem?_set_ne (Ne.symm q)] at h
      obtain ⟨a, b⟩ := wipeE_some h
      exact ⟨a, by simp [q, b]⟩
theorem wipe_get (σ : L2.St) (j : Nat) : ∀ vs : List Nat, j ∉ vs → (wipe σ vs)[j]? = σ[j]?
  | [], _ => rfl
  | v :: vs, h => by
    unfold wipe
    rw [List.getElem?_set_ne (fun q => h (by simp [q])), wipe_get σ j vs fun m => h (List.mem_cons_of_mem _ m)]
theorem wipe_in (σ : L2.St) (j : Nat) : ∀ vs : List Nat, j ∈ vs → j < σ.length → (wipe σ vs)[j]? = some none
  | [], h, _ => by simp at h
  | v :: vs, h, l => by
    unfold wipe
    by_cases q : j = v
    · subst q; rw [List.getElem?_set_self (by rw [wipe_length]; exact l)]
    · rw [List.getElem?_set_ne (Ne.symm q)]
      exact wipe_in σ j vs (by simpa [q] using h) l
theorem wipe_same {σ σ' : L2.St} {vs : List Nat} (hl : σ'.length = σ.length) (h : ∀ j, j ∉ vs → σ'[j]? = σ[j]?) : wipe σ' vs = wipe σ vs := by
  apply List.ext_getElem?
  intro j
  by_cases m : j ∈ vs
  · by_cases l : j < σ.length
    · rw [wipe_in σ' j vs m (by rw [hl]; exact l), wipe_in σ j vs m l]
    · rw [List.getElem?_eq_none (by rw [wipe_length, hl]; omega), List.getElem?_eq_none (by rw [wipe_length]; omega)]
  · rw [wipe_get σ' j vs m, wipe_get σ j vs m, h j m]
theorem ER.wiped {c : Cl} {θ : List Addr} {P : Hp} {ρ : Ev} {σ : L2.St} (h : ER c θ P ρ σ) (vs : List Nat) : ER c θ P (wipeE ρ vs) (wipe σ vs) := ⟨by rw [wipeE_len, wipe_length, h.len], fun i d e => by
  obtain ⟨a, b⟩ := wipeE_some e
  obtain ⟨v, e1, r⟩ := h.at_ i d a
  exact ⟨v, by rw [wipe_get σ i vs b]; exact e1, r⟩⟩
/-- what may not raise -/
def calmly {α : Type} : Res α → Res α
  | .ok a M => .ok a M
  | _ => .stuck
abbrev W0 : WX := fun _ _ _ _ => False
theorem Out.calm {α β : Type} {c : Cl} {R : List Addr → Hp → Hp → α → β → Prop} {θ : List Addr} {P H : Hp} {Q : β → Hp → Prop} {Wx Wy : Value → Option Addr → Hp → Prop} {r : Res α} (h : Out c R θ P H Q Wx (calmly r)) : Out c R θ P H Q Wy r := by
  cases r with
  | ok a M => exact h
  | err n fs M => exact h.elim
  | stuck => exact h
def loopC (ρ : Ev) (bd : D → Ev → Option Ev) (t : Rn Bool) (e : Rn D) : List D → MS → Res (List D)
  | [], M => .ok [] M
  | d :: ds, M => match bd d ρ with
    | none => .stuck
    | some ρ1 => (calmly (t ρ1 M)).bind fun b M1 => if b = true then (calmly (e ρ1 M1)).bind fun y M2 => (loopC ρ bd t e ds M2).bind fun ys M3 => .ok (y :: ys) M3 else loopC ρ bd t e ds M1
def rTrue : Rn Bool := fun _ M => .ok true M
def rComp (it : Rn (List D)) (vs : List Nat) (bd : D → Ev → Option Ev) (t : Rn Bool) (e : Rn D) : Rn (List D) := fun ρ M => (it ρ M).bind fun ds M1 => rGuard (small ds.length) (loopC (wipeE ρ vs) bd t e ds M1)
/-- a list: lasting, or to be changed -/
def rLc (it : Rn (List D)) (vs : List Nat) (bd : D → Ev → Option Ev) (t : Rn Bool) (e : Rn D) : Rn D := fun ρ M => (rComp it vs bd t e ρ M).bind fun ys M1 => .ok (.lst ys) M1
def rLcM (it : Rn (List D)) (vs : List Nat) (bd : D → Ev → Option Ev) (t : Rn Bool) (e : Rn D) : Rn D := fun ρ M => (rComp it vs bd t e ρ M).bind fun ys M1 => .ok (.ref M1.length) (M1 ++ [.lst ys])
section
variable {X : Cx} {c : Cl} {W : WX}
theorem Wo.adopt {θ : List Addr} {P H : Hp} {M : MS} {p : Addr} {o : HO} (w : Wo c θ P H M) (h : H p = some o) (hP : P p = none) (hT : p ∉ θ) : Wo c θ (upd P p o) H M := by
  have ext : ∀ b u, P b = some u → upd P p o b = some u := fun b u e => by rw [upd_ne (fun z => by subst z; rw [hP] at e; cases e)]; exact e
  refine ⟨fun b u e => ?_, w.len, fun l a mo e1 e2 => ?_, fun l a mo e1 e2 n => ?_, w.inj, w.there⟩
  · by_cases q : b = p
    · subst q; rw [upd_same] at e; cases e; exact h
    · rw [upd_ne q] at e; exact w.sub b u e
  · have k := w.cell l a mo e1 e2
    cases mo with
    | lst ds => obtain ⟨vs, k1, k2⟩ := k; exact ⟨vs, k1, VRL.mono (fun _ _ e => e) ext k2⟩
    | inst n fs => obtain ⟨C, dx, fv, k0, k1, k2⟩ := k; exact ⟨C, dx, fv, k0, k1, VRF.mono (fun _ _ e => e) ext k2⟩
    | dead => trivial
  · rw [upd_ne (fun z => hT (by rw [← z]; exact mem_of_get e1))]; exact w.off l a mo e1 e2 n
theorem Wo.own {θ : List Addr} {P H : Hp} {M : MS} {p : Addr} {o : HO} {mo : MO} (w : Wo c θ P H M) (h : H p = some o) (hP : P p = none) (hT : p ∉ θ) (r : MR c (θ ++ [p]) P H p mo) : Wo c (θ ++ [p]) P H (M ++ [mo]) := by
  have pre : ∀ (l : Nat) (a : Addr), θ[l]? = some a → (θ ++ [p])[l]? = some a := fun l a e => get_append_some e
  refine ⟨w.sub, by simp [w.len], fun l a m e1 e2 => ?_, fun l a m e1 e2 n => ?_, fun l l' a e1 e2 => ?_, fun a m => ?_⟩
  · rcases get_snoc e1 with e1 | ⟨el, ea⟩
    · have hl := (List.getElem?_eq_some_iff.mp e1).1
      rw [List.getElem?_append_left (by rw [← w.len]; exact hl)] at e2
      have k := w.cell l a m e1 e2
      cases m with
      | lst ds => obtain ⟨vs, k1, k2⟩ := k; exact ⟨vs, k1, VRL.mono pre (fun _ _ e => e) k2⟩
      | inst n fs => obtain ⟨C, dx, fv, k0, k1, k2⟩ := k; exact ⟨C, dx, fv, k0, k1, VRF.mono pre (fun _ _ e => e) k2⟩
      | dead => trivial
    · subst ea; subst el
      rw [w.len] at e2
      rw [get_last] at e2
      cases e2
      exact r
  · rcases get_snoc e1 with e1 | ⟨el, ea⟩
    · have hl := (List.getElem?_eq_some_iff.mp e1).1
      rw [List.getElem?_append_left (by rw [← w.len]; exact hl)] at e2
      exact w.off l a m e1 e2 n
    · subst ea; exact hP
  · rcases get_snoc e1 with e1 | ⟨el, ea⟩ <;> rcases get_snoc e2 with e2 | ⟨el', ea'⟩
    · exact w.inj l l' a e1 e2
    · subst ea'; exact absurd (mem_of_get e1) hT
    · subst ea; exact absurd (mem_of_get e2) hT
    · omega
  · rcases List.mem_append.mp m with m | m
    · exact w.there a m
    · have : a = p := by simpa using m
      subst this; rw [h]; simp
theorem Stp.off {θa θb : List Addr} {Pa Pb Ha Hb : Hp} {p : Addr} {o : HO} (st : Stp θa Pa Ha θb Pb Hb) (h1 : Ha p = some o) (h2 : p ∉ θa) (h3 : Pa p = none) : p ∉ θb ∧ Pb p = none := by
  constructor
  · intro m
    rcases st.new p m with z | z
    · exact h2 z
    · rw [h1] at z; cases z
  · cases q : Pb p with
    | none => rfl
    | some u =>
      rcases st.pnew p u q with z | z | z
      · rw [h3] at z; cases z
      · exact absurd z h2
      · rw [h1] at z; cases z
/-- the loop's reading, for any wish of the made list at p -/
theorem lc_run {it : Rn (List D)} {vs : List Nat} {g : TG} {gs : List Nat} {bd : D → Ev → Option Ev} {t : Rn Bool} {e : Rn D} (ok : TgOk c g gs bd) (hsub : ∀ i ∈ gs, i ∈ vs) {σ : L2.St} {H : Hp} {Q : V → Hp → Prop} {Wx : Value → Option Addr → Hp → Prop}
    {ρ : Ev} {M : MS} {θ : List Addr} {P : Hp} (w : Wo c θ P H M) (er : ER c θ P ρ σ) {fin : List D → MS → Res D} (o : OutE c θ P H Q (fun cv dd H' => W cv dd σ H') ((rComp it vs bd t e ρ M).bind fin))
    (last : ∀ (ys : List D) (ws : List V) (θ1 θ2 : List Addr) (P1 P2 H1 H2 : Hp) (M2 : MS) (p : Addr), H1 p = none → H2 p = some (.lst ws) → P2 p = none → p ∉ θ2 → VRL c θ2 P2 ys ws → Wo c θ2 P2 H2 M2 → Stp θ1 P1 H1 θ2 P2 H2 → OutE c θ1 P1 H1 Q (fun cv dd H' => W cv dd σ H') (fin ys M2) → Q (.ref p) H2) :
    tLc (liftI c W it) g (liftT c W0 t) (liftE c W0 e) vs σ H Q := by
  refine ⟨ρ, M, θ, P, w, er, ?_⟩
  unfold rComp at o
  cases qi : it ρ M with
  | stuck => rw [qi] at o; exact o.elim
  | err n fs M1 => rw [qi] at o; exact o
  | ok ds M1 =>
    rw [qi] at o
    intro J H1 θ1 P1 w1 s1 src p hp
    by_cases hsm : small ds.length = true
    case neg =>
      have o' : OutE c θ P H Q (fun cv dd H' => W cv dd σ H') ((rGuard (small ds.length) (loopC (wipeE ρ vs) bd t e ds M1)).bind fin) := o
      unfold rGuard at o'
      rw [if_neg hsm] at o'
      exact o'.elim
    have o1 : OutE c θ1 P1 H1 Q (fun cv dd H' => W cv dd σ H') ((loopC (wipeE ρ vs) bd t e ds M1).bind fin) := by
      have o' : OutE c θ P H Q (fun cv dd H' => W cv dd σ H') ((rGuard (small ds.length) (loopC (wipeE ρ vs) bd t e ds M1)).bind fin) := o
      unfold rGuard at o'
      rw [if_pos hsm] at o'
      exact Out.base s1 o'
    have er1 := er.step s1
    obtain ⟨hpP, hpT⟩ := w1.fresh hp
    -- the new list is tracked, and nobody's
    have w1' : Wo c θ1 P1 (upd H1 p (.lst [])) M1 := by
      refine ⟨fun b u e => by rw [upd_ne (fun z => by subst z; rw [hpP] at e; cases e)]; exact w1.sub b u e, w1.len, fun l a mo e1 e2 => ?_, w1.off, w1.inj, fun a m => by rw [upd_ne (fun z => hpT (by rw [← z]; exact m))]; exact w1.there a m⟩
      have na : a ≠ p := fun z => hpT (by rw [← z]; exact mem_of_get e1)
      have k := w1.cell l a mo e1 e2
      cases mo with
      | lst ds => obtain ⟨vs, k1, k2⟩ := k; exact ⟨vs, by rw [upd_ne na]; exact k1, k2⟩
      | inst n fs => obtain ⟨C, dx, fv, k0, k1, k2⟩ := k; exact ⟨C, dx, fv, k0, by rw [upd_ne na]; exact k1, k2⟩
      | dead => trivial
    have s1' : Stp θ1 P1 H1 θ1 P1 (upd H1 p (.lst [])) := ⟨fun _ _ e => e, fun b u e _ => by rw [upd_ne (fun z => by subst z; rw [hp] at e; cases e)]; exact e, fun _ _ e => e, fun _ e => .inl e, fun _ _ e => .inl e, fun b n => by
      by_cases q : b = p
      · subst q; rw [upd_same]; simp
      · rw [upd_ne q]; exact n⟩
    refine ⟨fun i m H => m = ds.length - i ∧ i ≤ ds.length ∧ ∃ M θ P acc ws, Wo c θ P H M ∧ Stp θ1 P1 H1 θ P H ∧ H p = some (.lst ws) ∧ p ∉ θ ∧ P p = none ∧ VRL c θ P acc ws ∧ acc.length ≤ i ∧
      OutE c θ1 P1 H1 Q (fun cv dd H' => W cv dd σ H') ((loopC (wipeE ρ vs) bd t e (ds.drop i) M).bind fun ys M' => fin (acc ++ ys) M'), ⟨_, rfl, Nat.zero_le _, M1, θ1, P1, [], [], w1', s1', upd_same, hpT, hpP, rfl, Nat.le_refl _, by simpa using o1⟩, ?_⟩
    rintro i m H2 ⟨rfl, hi, M2, θ2, P2, acc, ws, w2, s2, hp2, hpT2, hpP2, ra, hacc, o2⟩
    have src2 := src.step s2
    obtain ⟨k1, k2⟩ := src2 i θ2 P2 H2 M2 w2 .refl
    rcases Nat.lt_or_ge i ds.length with hl | hl
    · have ge : ds[i]? = some ds[i] := List.getElem?_eq_getElem hl
      obtain ⟨g1, g2⟩ := k1 _ ge
      refine .inr ⟨g1, fun H' => ∃ M θ P acc ws, Wo c θ P H' M ∧ Stp θ1 P1 H1 θ P H' ∧ H' p = some (.lst ws) ∧ p ∉ θ ∧ P p = none ∧ VRL c θ P acc ws ∧ acc.length ≤ i + 1 ∧
        OutE c θ1 P1 H1 Q (fun cv dd H' => W cv dd σ H') ((loopC (wipeE ρ vs) bd t e (ds.drop (i + 1)) M).bind fun ys M' => fin (acc ++ ys) M'), fun H' q => ⟨ds.length - (i + 1), by omega, rfl, hl, q⟩, fun x H' y => ?_⟩
      obtain ⟨P3, w3, s3, rx⟩ := g2 x H' y
      rw [List.drop_eq_getElem_cons hl] at o2
      unfold loopC at o2
      have er3 : ER c θ2 P3 (wipeE ρ vs) (wipe σ vs) := ((er1.wiped vs).step s2).step s3
      cases qb : bd ds[i] (wipeE ρ vs) with
      | none => simp only [qb] at o2; exact o2.elim
      | some ρ3 =>
        simp only [qb] at o2
        refine ok.run θ2 P3 H' _ x (wipeE ρ vs) (wipe σ vs) ρ3 _ rx er3 w3.sub qb fun σ3 er4 l4 k4 => ⟨?_, ?_⟩
        · have q1 : wipe σ3 vs = wipe (wipe σ vs) vs := wipe_same l4 fun j hj => k4 j fun m => hj (hsub j m)
          rw [q1]
          exact wipe_same (wipe_length σ vs) fun j hj => wipe_get σ j vs hj
        · have hp3 : H' p = some (.lst ws) := s3.keep p _ hp2 hpT2
          have hpP3 : P3 p = none := (s3.off hp2 hpT2 hpP2).2
          have s23 := s2.trans s3
          refine ⟨ρ3, M2, θ2, P3, w3, er4, ?_⟩
          cases qt : t ρ3 M2 with
          | stuck => rw [qt] at o2; exact o2.elim
          | err n fs M4 => rw [qt] at o2; exact o2.elim
          | ok b M4 =>
            rw [qt] at o2
            intro b' H4 θ4 P4 w4 s4 rb
            subst rb
            have hp4 : H4 p = some (.lst ws) := s4.keep p _ hp3 hpT2
            obtain ⟨hpT4, hpP4⟩ := s4.off hp3 hpT2 hpP3
            cases b' with
            | false =>
              refine (if_neg Bool.false_ne_true).mpr ⟨M4, θ4, P4, acc, ws, w4, s23.trans s4, hp4, hpT4, hpP4, (ra.step s3).step s4, by omega, ?_⟩
              exact o2
            | true =>
              refine (if_pos rfl).mpr ⟨ρ3, M4, θ4, P4, w4, er4.step s4, ?_⟩
              cases qe : e ρ3 M4 with
              | stuck => simp only [calmly, Res.bind, qe] at o2; exact o2.elim
              | err n fs M5 => simp only [calmly, Res.bind, qe] at o2; exact o2.elim
              | ok y M5 =>
                intro v H5 θ5 P5 w5 s5 rv
                have hp5 : H5 p = some (.lst ws) := s5.keep p _ hp4 hpT4
                obtain ⟨hpT5, hpP5⟩ := s5.off hp4 hpT4 hpP4
                refine ⟨ws, hp5, ?_, M5, θ5, P5, acc ++ [y], ws ++ [v], ?_, ?_, upd_same, hpT5, hpP5, VRL.append (((ra.step s3).step s4).step s5) (VRL.one rv), by simp; omega, ?_⟩
                · rw [ra.length]
                  have := small_line hsm
                  omega
                · refine ⟨fun b u z => by rw [upd_ne (fun q => by subst q; rw [hpP5] at z; cases z)]; exact w5.sub b u z, w5.len, fun l a mo e1 e2 => ?_, w5.off, w5.inj, fun a m => by rw [upd_ne (fun z => hpT5 (by rw [← z]; exact m))]; exact w5.there a m⟩
                  have na : a ≠ p := fun z => hpT5 (by rw [← z]; exact mem_of_get e1)
                  have k := w5.cell l a mo e1 e2
                  cases mo with
                  | lst ds => obtain ⟨vs, k1, k2⟩ := k; exact ⟨vs, by rw [upd_ne na]; exact k1, k2⟩
                  | inst n fs => obtain ⟨C, dx, fv, k0, k1, k2⟩ := k; exact ⟨C, dx, fv, k0, by rw [upd_ne na]; exact k1, k2⟩
                  | dead => trivial
                · have sa := (s23.trans s4).trans s5
                  refine ⟨sa.pre, fun b u z n => ?_, sa.pext, sa.new, sa.pnew, fun b n => ?_⟩
                  · rw [upd_ne (fun q => by subst q; rw [hp] at z; cases z)]; exact sa.keep b u z n
                  · by_cases q : b = p
                    · subst q; rw [upd_same]; simp
                    · rw [upd_ne q]; exact sa.there b n
                · simp only [calmly, Res.bind, qe, if_pos] at o2
                  cases ql : loopC (wipeE ρ vs) bd t e (ds.drop (i + 1)) M5 with
                  | stuck => rw [ql] at o2; exact o2
                  | err n fs M6 => rw [ql] at o2; exact o2
                  | ok ys M6 => rw [ql] at o2; simpa using o2
    · refine .inl ⟨k2 hl, ?_⟩
      rw [List.drop_eq_nil_of_le hl] at o2
      exact last acc ws θ1 θ2 P1 P2 H1 H2 M2 p hp hp2 hpP2 hpT2 ra w2 s2 (by simpa [loopC] using o2)
theorem lc_keep {it : Rn (List D)} {vs : List Nat} {g : TG} {gs : List Nat} {bd : D → Ev → Option Ev} {t : Rn Bool} {e : Rn D} (ok : TgOk c g gs bd) (hsub : ∀ i ∈ gs, i ∈ vs) {σ : L2.St} {H : Hp} {Q : V → Hp → Prop} (h : liftE c W (rLc it vs bd t e) σ H Q) : tLc (liftI c W it) g (liftT c W0 t) (liftE c W0 e) vs σ H Q := by
  obtain ⟨ρ, M, θ, P, w, er, o⟩ := h
  refine lc_run (Wx := fun _ _ _ => True) ok hsub w er o fun ys ws θ1 θ2 P1 P2 H1 H2 M2 p hp h2 hP hT r w2 s2 o2 => ?_
  have w3 := w2.adopt h2 hP hT
  have ext : ∀ b u, P2 b = some u → upd P2 p (.lst ws) b = some u := fun b u e => by rw [upd_ne (fun z => by subst z; rw [hP] at e; cases e)]; exact e
  refine o2 (.ref p) H2 θ2 (upd P2 p (.lst ws)) w3 ⟨s2.pre, s2.keep, fun b u e => ext b u (s2.pext b u e), s2.new, fun b u e => ?_, s2.there⟩ ⟨p, ws, rfl, upd_same, VRL.mono (fun _ _ e => e) ext r⟩
  by_cases q : b = p
  · subst q; exact .inr (.inr hp)
  · rw [upd_ne q] at e; exact s2.pnew b u e
theorem lc_keepM {it : Rn (List D)} {vs : List Nat} {g : TG} {gs : List Nat} {bd : D → Ev → Option Ev} {t : Rn Bool} {e : Rn D} (ok : TgOk c g gs bd) (hsub : ∀ i ∈ gs, i ∈ vs) {σ : L2.St} {H : Hp} {Q : V → Hp → Prop} (h : liftE c W (rLcM it vs bd t e) σ H Q) : tLc (liftI c W it) g (liftT c W0 t) (liftE c W0 e) vs σ H Q := by
  obtain ⟨ρ, M, θ, P, w, er, o⟩ := h
  refine lc_run (Wx := fun _ _ _ => True) ok hsub w er o fun ys ws θ1 θ2 P1 P2 H1 H2 M2 p hp h2 hP hT r w2 s2 o2 => ?_
  have pre : ∀ (l : Nat) (a : Addr), θ2[l]? = some a → (θ2 ++ [p])[l]? = some a := fun l a e => get_append_some e
  have w3 := w2.own h2 hP hT (mo := .lst ys) ⟨ws, h2, VRL.mono pre (fun _ _ e => e) r⟩
  refine o2 (.ref p) H2 (θ2 ++ [p]) P2 w3 ⟨fun l a e => pre l a (s2.pre l a e), s2.keep, s2.pext, fun b m => ?_, s2.pnew, s2.there⟩ ⟨p, by rw [← w2.len]; exact get_last, rfl⟩
  rcases List.mem_append.mp m with m | m
  · exact s2.new b m
  · have : b = p := by simpa using m
    subst this; exact .inr hp
end
end Q

namespace Q
open PySem PySem.Spec PyProof.Rows L2

/-! ### what data refers to -/
mutual
def below (n : Nat) : D → Prop
  | .ref l => l < n
  | .tup l => belowL n l
  | .lst l => belowL n l
  | .scr l => belowL n l
  | .obj _ fs => belowF n fs
  | .exn _ fs => belowF n fs
  | _ => True
def belowL (n : Nat) : List D → Prop
  | [] => True
  | d :: ds => below n d ∧ belowL n ds
def belowF (n : Nat) : List (Str × D) → Prop
  | [] => True
  | (_, d) :: ds => below n d ∧ belowF n ds
end
section
variable {c : Cl} {θ θ' : List Addr} {P P' : Hp}
mutual
theorem VR.below : ∀ {d : D} {v : V}, VR c θ P d v → Q.below θ.length d
  | .non, _, _ => trivial
  | .bl _, _, _ => trivial
  | .int _, _, _ => trivial
  | .str _, _, _ => trivial
  | .ty _, _, _ => trivial
  | .cls _, _, _ => trivial
  | .ref _, _, ⟨a, e, _⟩ => (List.getElem?_eq_some_iff.mp e).1
  | .tup _, _, ⟨_, _, _, _, q⟩ => VRL.below q
  | .lst _, _, ⟨_, _, _, _, q⟩ => VRL.below q
  | .scr _, _, ⟨_, _, _, _, q⟩ => VRL.below q
  | .obj _ _, _, ⟨_, _, _, _, _, _, _, q⟩ => VRF.below q
  | .exn _ _, _, ⟨_, _, _, _, _, _, _, _, q⟩ => VRF.below q
theorem VRL.below : ∀ {d : List D} {v : List V}, VRL c θ P d v → belowL θ.length d
  | [], _, _ => trivial
  | _ :: _, _, ⟨_, _, _, a, b⟩ => ⟨VR.below a, VRL.below b⟩
theorem VRF.below : ∀ {d : List (Str × D)} {v : List (Str × V)}, VRF c θ P d v → belowF θ.length d
  | [], _, _ => trivial
  | (_, _) :: _, _, ⟨_, _, _, a, b⟩ => ⟨VR.below a, VRF.below b⟩
end
variable {n : Nat} (hs : ∀ l : Nat, l < n → θ[l]? = θ'[l]?)
include hs
mutual
theorem VR.cut : ∀ {d : D} {v : V}, VR c θ' P d v → Q.below n d → VR c θ P d v
  | .non, _, h, _ => h
  | .bl _, _, h, _ => h
  | .int _, _, h, _ => h
  | .str _, _, h, _ => h
  | .ty _, _, h, _ => h
  | .cls _, _, h, _ => h
  | .ref _, _, ⟨a, e, r⟩, b => ⟨a, by rw [hs _ b]; exact e, r⟩
  | .tup _, _, ⟨a, vs, e, r, q⟩, b => ⟨a, vs, e, r, VRL.cut q b⟩
  | .lst _, _, ⟨a, vs, e, r, q⟩, b => ⟨a, vs, e, r, VRL.cut q b⟩
  | .scr _, _, ⟨a, vs, e, r, q⟩, b => ⟨a, vs, e, r, VRL.cut q b⟩
  | .obj _ _, _, ⟨a, C, dx, fv, e, k, r, q⟩, b => ⟨a, C, dx, fv, e, k, r, VRF.cut q b⟩
  | .exn _ _, _, ⟨a, C, dx, fv, e, k, r, r', q⟩, b => ⟨a, C, dx, fv, e, k, r, r', VRF.cut q b⟩
theorem VRL.cut : ∀ {d : List D} {v : List V}, VRL c θ' P d v → belowL n d → VRL c θ P d v
  | [], _, h, _ => h
  | _ :: _, _, ⟨v, r, e, a, b⟩, k => ⟨v, r, e, VR.cut a k.1, VRL.cut b k.2⟩
theorem VRF.cut : ∀ {d : List (Str × D)} {v : List (Str × V)}, VRF c θ' P d v → belowF n d → VRF c θ P d v
  | [], _, h, _ => h
  | (_, _) :: _, _, ⟨v, r, e, a, b⟩, k => ⟨v, r, e, VR.cut a k.1, VRF.cut b k.2⟩
end
end
def belowM (n : Nat) : MO → Prop
  | .lst ds => belowL n ds
  | .inst _ fs => belowF n fs
  | .dead => True
/-- what a def made for itself may be forgotten -/
structure Tr (M M' : MS) : Prop where
  old : ∀ (l : Nat) (mo : MO), l < M.length → M'[l]? = some mo → M[l]? = some mo ∨ belowM M.length mo
open Classical in
noncomputable def trim (M : MS) : Res D → Res D
  | .ok d M' => if M'.length = M.length then .ok d M' else if Tr M M' ∧ below M.length d then .ok d (M'.take M.length) else .stuck
  | .err n fs M' => if M'.length = M.length then .err n fs M' else if Tr M M' ∧ belowF M.length fs then .err n fs (M'.take M.length) else .stuck
  | .stuck => .stuck
section
variable {c : Cl} {θ θ' : List Addr} {P P' H H' : Hp} {M M' : MS}
theorem Stp.same (w : Wo c θ P H M) (w' : Wo c θ' P' H' M') (s : Stp θ P H θ' P' H') : ∀ l : Nat, l < M.length → θ[l]? = θ'[l]? := fun l hl => by
  have e : θ[l]? = some (θ[l]'(by rw [w.len]; exact hl)) := List.getElem?_eq_getElem _
  rw [e, s.pre l _ e]
theorem Wo.cut (w : Wo c θ P H M) (w' : Wo c θ' P' H' M') (s : Stp θ P H θ' P' H') (t : Tr M M') : Wo c θ P' H' (M'.take M.length) ∧ Stp θ P H θ P' H' := by
  have hs := Stp.same w w' s
  have le : M.length ≤ M'.length := by
    rw [← w.len, ← w'.len]
    by_cases z : θ.length = 0
    · omega
    · have e : θ[θ.length - 1]? = some (θ[θ.length - 1]'(by omega)) := List.getElem?_eq_getElem _
      have := (List.getElem?_eq_some_iff.mp (s.pre _ _ e)).1
      omega
  refine ⟨⟨w'.sub, by simp [w.len]; omega, fun l a mo e1 e2 => ?_, fun l a mo e1 e2 n => ?_, w.inj, fun a m => s.there a (w.there a m)⟩, ⟨fun _ _ e => e, s.keep, s.pext, fun _ m => .inl m, s.pnew, s.there⟩⟩
  · have hl : l < M.length := by rw [← w.len]; exact (List.getElem?_eq_some_iff.mp e1).1
    rw [List.getElem?_take_of_lt hl] at e2
    have k := w'.cell l a mo (s.pre l a e1) e2
    have bl : belowM M.length mo := by
      rcases t.old l mo hl e2 with z | z
      · have k0 := w.cell l a mo e1 z
        rw [← w.len]
        cases mo with
        | lst ds => obtain ⟨_, _, r⟩ := k0; exact r.below
        | inst n fs => obtain ⟨_, _, _, _, _, r⟩ := k0; exact r.below
        | dead => trivial
      · exact z
    cases mo with
    | lst ds => obtain ⟨vs, k1, k2⟩ := k; exact ⟨vs, k1, VRL.cut hs k2 bl⟩
    | inst n fs => obtain ⟨C, dx, fv, k0, k1, k2⟩ := k; exact ⟨C, dx, fv, k0, k1, VRF.cut hs k2 bl⟩
    | dead => trivial
  · have hl : l < M.length := by rw [← w.len]; exact (List.getElem?_eq_some_iff.mp e1).1
    rw [List.getElem?_take_of_lt hl] at e2
    exact w'.off l a mo (s.pre l a e1) e2 n
theorem XR.cut {n : Nat} (hs : ∀ l : Nat, l < n → θ[l]? = θ'[l]?) {m : Str} {fs : List (Str × D)} {cv : Value} {dd : Option Addr} (h : XR c θ' P' H' m fs cv dd) (b : belowF n fs) : XR c θ P' H' m fs cv dd := by
  obtain ⟨C, d, fv, h1, h2, h3, h4, h5⟩ := h
  refine ⟨C, d, fv, h1, h2, h3, h4, fun f x e => ?_⟩
  obtain ⟨v, e1, r⟩ := h5 f x e
  refine ⟨v, e1, VR.cut hs r ?_⟩
  clear h5 h4
  induction fs with
  | nil => simp at e
  | cons p fs ih =>
    obtain ⟨g, y⟩ := p
    by_cases q : (f == g) = true
    · simp only [List.lookup, q] at e; cases e; exact b.1
    · have q' : (f == g) = false := by simpa using q
      simp only [List.lookup, q'] at e
      exact ih b.2 e
theorem Out.trim {Q : V → Hp → Prop} {Wx : Value → Option Addr → Hp → Prop} {r : Res D} (w : Wo c θ P H M) (o : OutE c θ P H Q Wx (_root_.Q.trim M r)) : OutE c θ P H Q Wx r := by
  cases r with
  | stuck => exact o
  | ok d M' =>
    intro v H' θ' P' w' s r
    by_cases h1 : M'.length = M.length
    · have e : _root_.Q.trim M (.ok d M') = .ok d M' := if_pos h1
      rw [e] at o
      exact o v H' θ' P' w' s r
    · by_cases h : Tr M M' ∧ _root_.Q.below M.length d
      · have e : _root_.Q.trim M (.ok d M') = .ok d (M'.take M.length) := (if_neg h1).trans (if_pos h)
        rw [e] at o
        obtain ⟨w2, s2⟩ := Wo.cut w w' s h.1
        exact o v H' θ P' w2 s2 (VR.cut (Stp.same w w' s) r h.2)
      · have e : _root_.Q.trim M (.ok d M') = .stuck := (if_neg h1).trans (if_neg h)
        rw [e] at o
        exact o.elim
  | err n fs M' =>
    intro cv dd H' θ' P' w' s r
    by_cases h1 : M'.length = M.length
    · have e : _root_.Q.trim M (.err n fs M') = .err n fs M' := if_pos h1
      rw [e] at o
      exact o cv dd H' θ' P' w' s r
    · by_cases h : Tr M M' ∧ belowF M.length fs
      · have e : _root_.Q.trim M (.err n fs M') = .err n fs (M'.take M.length) := (if_neg h1).trans (if_pos h)
        rw [e] at o
        obtain ⟨w2, s2⟩ := Wo.cut w w' s h.1
        exact o cv dd H' θ P' w2 s2 (XR.cut (Stp.same w w' s) r h.2)
      · have e : _root_.Q.trim M (.err n fs M') = .stuck := (if_neg h1).trans (if_neg h)
        rw [e] at o
        exact o.elim
/-- an object of no further interest laid -/
theorem Wo.junk (w : Wo c θ P H M) {p : Addr} {o : HO} (h : H p = none) : Wo c θ P (upd H p o) M ∧ Stp θ P H θ P (upd H p o) := by
  obtain ⟨hP, hT⟩ := w.fresh h
  refine ⟨⟨fun b u e => by rw [upd_ne (fun z => by subst z; rw [hP] at e; cases e)]; exact w.sub b u e, w.len, fun l a mo e1 e2 => ?_, w.off, w.inj, fun a m => by rw [upd_ne (fun z => hT (by rw [← z]; exact m))]; exact w.there a m⟩, ⟨fun _ _ e => e, fun b u e _ => ?_, fun _ _ e => e, fun _ e => .inl e, fun _ _ e => .inl e, fun b n => ?_⟩⟩
  · have na : a ≠ p := fun z => hT (by rw [← z]; exact mem_of_get e1)
    have k := w.cell l a mo e1 e2
    cases mo with
    | lst ds => obtain ⟨vs, k1, k2⟩ := k; exact ⟨vs, by rw [upd_ne na]; exact k1, k2⟩
    | inst n fs => obtain ⟨C, dx, fv, k0, k1, k2⟩ := k; exact ⟨C, dx, fv, k0, by rw [upd_ne na]; exact k1, k2⟩
    | dead => trivial
  · rw [upd_ne (fun z => by subst z; rw [h] at e; cases e)]; exact e
  · by_cases q : b = p
    · subst q; rw [upd_same]; simp
    · rw [upd_ne q]; exact n
/-- a changeable object becomes a lasting one -/
theorem Wo.freeze (w : Wo c θ P H M) {l : Nat} {a : Addr} {mo : MO} {o : HO} (hl : θ[l]? = some a) (hm : M[l]? = some mo) (hd : mo ≠ .dead) (ho : H a = some o) : Wo c θ (upd P a o) H (M.set l .dead) ∧ Stp θ P H θ (upd P a o) H := by
  have hP := w.off l a mo hl hm hd
  have hlt : l < M.length := (List.getElem?_eq_some_iff.mp hm).1
  have ext : ∀ b u, P b = some u → upd P a o b = some u := fun b u e => by rw [upd_ne (fun z => by subst z; rw [hP] at e; cases e)]; exact e
  refine ⟨⟨fun b u e => ?_, by simp [w.len], fun k b m e1 e2 => ?_, fun k b m e1 e2 n => ?_, w.inj, w.there⟩, ⟨fun _ _ e => e, fun _ _ e _ => e, ext, fun _ e => .inl e, fun b u e => ?_, fun _ n => n⟩⟩
  · by_cases q : b = a
    · subst q; rw [upd_same] at e; cases e; exact ho
    · rw [upd_ne q] at e; exact w.sub b u e
  · by_cases q : k = l
    · subst q; rw [List.getElem?_set_self hlt] at e2; cases e2; trivial
    · rw [List.getElem?_set_ne (Ne.symm q)] at e2
      have kk := w.cell k b m e1 e2
      cases m with
      | lst ds => obtain ⟨vs, k1, k2⟩ := kk; exact ⟨vs, k1, VRL.mono (fun _ _ e => e) ext k2⟩
      | inst n fs => obtain ⟨C, dx, fv, k0, k1, k2⟩ := kk; exact ⟨C, dx, fv, k0, k1, VRF.mono (fun _ _ e => e) ext k2⟩
      | dead => trivial
  · by_cases q : k = l
    · subst q; rw [List.getElem?_set_self hlt] at e2; cases e2; exact absurd rfl n
    · rw [List.getElem?_set_ne (Ne.symm q)] at e2
      rw [upd_ne (fun z => q (w.inj k l a (by rw [← z]; exact e1) hl))]
      exact w.off k b m e1 e2 n
  · by_cases q : b = a
    · subst q; exact .inr (.inl (mem_of_get hl))
    · rw [upd_ne q] at e; exact .inl e
end
/-- freezing: a changeable list or instance, as lasting data -/
def frz (d : D) (M : MS) : Res D := match d with
  | .ref l => match M[l]? with
    | some (.lst ds) => .ok (.lst ds) (M.set l .dead)
    | some (.inst n fs) => .ok (.obj n fs) (M.set l .dead)
    | _ => .stuck
  | d => .ok d M
def rFrz (a : Rn D) : Rn D := fun ρ M => (a ρ M).bind frz
section
variable {X : Cx} {c : Cl} {W : WX}
theorem frz_now {θ : List Addr} {P H : Hp} {M : MS} {d : D} {v : V} {Q : V → Hp → Prop} {Wx : Value → Option Addr → Hp → Prop} (w : Wo c θ P H M) (r : VR c θ P d v) (o : OutE c θ P H Q Wx (frz d M)) : Q v H := by
  unfold frz at o
  split at o
  · rename_i l
    obtain ⟨a, e, rfl⟩ := r
    split at o
    · rename_i ds q
      obtain ⟨vs, k1, k2⟩ := w.cell l a _ e q
      obtain ⟨w', s'⟩ := w.freeze e q (by simp) k1
      exact o _ _ _ _ w' s' ⟨a, vs, rfl, upd_same, k2.step s'⟩
    · rename_i n fs q
      obtain ⟨C, dx, fv, k0, k1, k2⟩ := w.cell l a _ e q
      obtain ⟨w', s'⟩ := w.freeze e q (by simp) k1
      exact o _ _ _ _ w' s' ⟨a, C, dx, fv, rfl, k0, upd_same, VRF.mono s'.pre s'.pext k2⟩
    · exact o.elim
  · exact Out.now w o r
theorem s_frz {e : Expr} {a : Rn D} (h : PE X e (liftE c W a)) : PE X e (liftE c W (rFrz a)) :=
  PE.imp h fun σ H Q ⟨ρ, M, θ, P, w, er, o⟩ => ⟨ρ, M, θ, P, w, er, Out.bind (R := RV c) o fun d M1 v H1 θ1 P1 w1 s1 r1 o1 => frz_now w1 r1 o1⟩

/-! ### where one stands -/
structure Md (X : Cx) (c : Cl) (W : WX) (E : XK) : Prop where
  k : c.K = X.K
  calm : X.calm = true
  tk : Takes X W
  we : ∀ cls d σ H, W cls d σ H → E cls d H
  ew : ∀ cls d σ H, E cls d H → W cls d σ H
abbrev E0 : XK := fun _ _ _ => False
theorem Md.pass {E : XK} (m : Md X c W E) : Passes (L2.CX X.prog X.w) X E := passes_call m.tk m.ew
theorem no_takes {X : Cx} : Takes X W0 := fun _ _ x => by
  obtain ⟨_, _, _, _, _, _, _, _, _, _, _, _, _, _, _, _, w⟩ := x
  exact w.elim
theorem Md.blk {E : XK} (m : Md X c W E) {s : Shared} {H : Hp} {scope : Scope} {cenv : Env} {fp : List Addr} : Md (X.blk s H scope cenv fp) c W0 E0 := ⟨m.k, m.calm, no_takes, fun _ _ _ _ h => h, fun _ _ _ _ h => h⟩
theorem md_body {E : XK} {P : Program} {w : World} {mg : Str → Option Value} {base : Heap} {N : List Str} {qual : Str} {scope : Scope} {f : Addr} {cd : Value} {A : Around} {outer : List Env} {s : Shared} {H : Hp} :
    Md (cxOf (L2.CX P w) P w c.K mg base N qual scope f cd A outer s H E) c (fun cls d _ H => E cls d H) E := ⟨rfl, rfl, takes_of rfl rfl rfl rfl, fun _ _ _ _ h => h, fun _ _ _ _ h => h⟩

/-! ### defs -/
abbrev Fn := List D → MS → Res D
def spF (c : Cl) (n : Nat) (run : Fn) : Sp := fun vs H Q E => ∃ ds M θ P, Wo c θ P H M ∧ VRL c θ P ds vs ∧ ds.length = n ∧ OutE c θ P H Q (fun cv dd H' => E cv dd H') (run ds M)
def endF : SR → Res D
  | .rt d M => .ok d M
  | .nx _ M => .ok .non M
  | .err n fs _ M => .err n fs M
  | _ => .stuck
/-- the def with k slots: what it changes of its own is forgotten -/
noncomputable def fn (k : Nat) (body : Sn) : Fn := fun ds M => trim M (endF (body (ds.map some ++ List.replicate (k - ds.length) none) M))
/-- .. what it made stays -/
def fnM (k : Nat) (body : Sn) : Fn := fun ds M => endF (body (ds.map some ++ List.replicate (k - ds.length) none) M)
theorem er_start {θ : List Addr} {P : Hp} {ds : List D} {vs : List V} {N : List Str} (r : VRL c θ P ds vs) : ER c θ P (ds.map some ++ List.replicate (N.length - ds.length) none) (L2.start N vs) := by
  have hl := r.length
  unfold L2.start
  refine ⟨by simp [hl], fun i d e => ?_⟩
  by_cases q : i < ds.length
  · rw [List.getElem?_append_left (by simpa using q), List.getElem?_map] at e
    cases z : ds[i]? with
    | none => rw [z] at e; cases e
    | some x =>
      rw [z] at e
      cases e
      obtain ⟨v, e1, rv⟩ := r.get z
      exact ⟨v, by rw [List.getElem?_append_left (by simp [hl, q]), List.getElem?_map, e1]; rfl, rv⟩
  · rw [List.getElem?_append_right (by simpa using q), List.getElem?_replicate] at e
    split at e <;> cases e
theorem body_run {body : List Stmt} {N : List Str} {run : Sn} {E : XK} {Q : VK} {vs : List V} {H : Hp} {ds : List D} {M : MS} {θ : List Addr} {P : Hp} (w : Wo c θ P H M) (r : VRL c θ P ds vs)
    (o : OutE c θ P H Q (fun cv dd H' => E cv dd H') (endF (run (ds.map some ++ List.replicate (N.length - ds.length) none) M))) :
    liftS c (fun cls d _ H => E cls d H) run { nx := fun _ H' => Q .non H', rt := Q } (L2.start N vs) H := by
  refine ⟨_, M, θ, P, w, er_start r, ?_⟩
  cases q : run (ds.map some ++ List.replicate (N.length - ds.length) none) M with
  | nx ρ M' => rw [q] at o; exact fun σ' H' θ' P' w' s' _ => o .non H' θ' P' w' s' rfl
  | rt d M' => rw [q] at o; exact o
  | err n fs ρ M' => rw [q] at o; exact fun cv dd σ' H' θ' P' w' s' _ x => o cv dd H' θ' P' w' s' x
  | bk ρ M' => rw [q] at o; exact o.elim
  | ct ρ M' => rw [q] at o; exact o.elim
  | stuck => rw [q] at o; exact o.elim
section
variable {P : Program} {w : World} {mg : Str → Option Value} {base : Heap} {x qual : Str} {params : Arguments} {body : List Stmt} {scope : Scope} {dvs : List V} {kws : List (Str × V)} {f : Addr} {fd : FuncData} {N ps : List Str} {k n : Nat} {run : Sn}
theorem fn_ok (F : FunD c.K x qual params body scope dvs kws f fd) (S : FnScope N ps scope) (hn : ps.length = n)
    (hb : ∀ (cdv : Value) (A : Around) (outer : List Env) (s : Shared) (H : Hp) (E : XK), Room k (A.deeper (envOfC qual scope s.heap.objs.size f cdv)) → PSs (cxOf (L2.CX P w) P w c.K mg base N qual scope f cdv A outer s H E) body (liftS c (fun cls d _ H => E cls d H) run)) :
    FnOk P w c.K mg base (L2.CX P w) (k + 1) f fd ps (spF c n (fn N.length run)) := by
  refine F.ok S (fun vs H Q E h => ?_) (fun cdv A outer s H vs Q E hr h => ⟨_, hb cdv A outer s H E hr, ?_⟩)
  · obtain ⟨ds, M, θ, P, w, r, e, _⟩ := h
    rw [r.length, e, hn]
  · obtain ⟨ds, M, θ, P, w, r, e, o⟩ := h
    exact body_run (body := body) w r (Out.trim w o)
theorem fnM_ok (F : FunD c.K x qual params body scope dvs kws f fd) (S : FnScope N ps scope) (hn : ps.length = n)
    (hb : ∀ (cdv : Value) (A : Around) (outer : List Env) (s : Shared) (H : Hp) (E : XK), Room k (A.deeper (envOfC qual scope s.heap.objs.size f cdv)) → PSs (cxOf (L2.CX P w) P w c.K mg base N qual scope f cdv A outer s H E) body (liftS c (fun cls d _ H => E cls d H) run)) :
    FnOk P w c.K mg base (L2.CX P w) (k + 1) f fd ps (spF c n (fnM N.length run)) := by
  refine F.ok S (fun vs H Q E h => ?_) (fun cdv A outer s H vs Q E hr h => ⟨_, hb cdv A outer s H E hr, ?_⟩)
  · obtain ⟨ds, M, θ, P, w, r, e, _⟩ := h
    rw [r.length, e, hn]
  · obtain ⟨ds, M, θ, P, w, r, e, o⟩ := h
    exact body_run (body := body) w r o
end
/-! ### calls -/
/-- the promise of a def, of a call with values that stand -/
theorem sp_now {θ : List Addr} {P H : Hp} {M : MS} {ds : List D} {vs : List V} {Q : VK} {E : XK} {σ : L2.St} {n : Nat} {run : Fn} (we : ∀ cls d σ H, W cls d σ H → E cls d H) (w : Wo c θ P H M) (r : VRL c θ P ds vs) (hn : ds.length = n)
    (o : OutE c θ P H Q (fun cv dd H' => W cv dd σ H') (run ds M)) : spF c n run vs H Q E := by
  refine ⟨ds, M, θ, P, w, r, hn, ?_⟩
  cases q : run ds M with
  | ok d M' => rw [q] at o; exact o
  | err m fs M' => rw [q] at o; exact fun cv dd H' θ' P' w' s' x => we _ _ _ _ (o cv dd H' θ' P' w' s' x)
  | stuck => rw [q] at o; exact o
/-- a call: n values, the defaults es behind them -/
def rCall (n : Nat) (run : Fn) (es : List D) (a : Rn (List D)) : Rn D := fun ρ M => (a ρ M).bind fun ds M1 => rGuard (decide ((ds ++ es).length = n)) (run (ds ++ es) M1)
theorem call_read {E : XK} (m : Md X c W E) {n : Nat} {run : Fn} {es : List D} {dvs : List V} (hd : ∀ θ P, VRL c θ P es dvs) {a : Rn (List D)} {σ : L2.St} {H : Hp} {Q : VK} (h : liftE c W (rCall n run es a) σ H Q) : tCall (spF c n run) dvs E (liftA c W a) σ H Q := by
  obtain ⟨ρ, M, θ, P, w, er, o⟩ := h
  exact ⟨ρ, M, θ, P, w, er, Out.bind (R := RL c) o fun ds M1 vs H1 θ1 P1 w1 s1 r1 o1 => by
    obtain ⟨g, o1⟩ := Out.guard (R := RV c) o1
    exact sp_now m.we w1 (r1.append (hd θ1 P1)) (of_decide_eq_true g) o1⟩
end
end Q

namespace Q
open PySem PySem.Spec PyProof.Rows L2

/-! ### reading a list, a tuple -/
def lstOf (d : D) (M : MS) : Option (List D) := match d with
  | .lst ds => some ds
  | .scr ds => some ds
  | .ref l => match M[l]? with
    | some (.lst ds) => some ds
    | _ => none
  | _ => none
section
variable {c : Cl} {θ : List Addr} {P H : Hp} {M : MS}
theorem lst_read (w : Wo c θ P H M) {d : D} {v : V} {ds : List D} (r : VR c θ P d v) (h : lstOf d M = some ds) : ∃ a vs, v = .ref a ∧ SqL c.K H a vs ∧ VRL c θ P ds vs := by
  cases d with
  | lst l => cases h; obtain ⟨a, vs, e, k, q⟩ := r; exact ⟨a, vs, e, .inl (.inl (w.sub _ _ k)), q⟩
  | scr l => cases h; obtain ⟨a, vs, e, k, q⟩ := r; exact ⟨a, vs, e, sqL_mono w.sub k, q⟩
  | ref l =>
    obtain ⟨a, e, rfl⟩ := r
    unfold lstOf at h
    cases q : M[l]? with
    | none => simp only [q] at h; cases h
    | some mo =>
      cases mo with
      | lst l' =>
        simp only [q] at h
        cases h
        obtain ⟨vs, k1, k2⟩ := w.cell l a _ e q
        exact ⟨a, vs, rfl, .inl (.inl k1), k2⟩
      | inst n fs => simp only [q] at h; cases h
      | dead => simp only [q] at h; cases h
  | _ => cases h
theorem tup_read (w : Wo c θ P H M) {v : V} {ds : List D} (r : VR c θ P (.tup ds) v) : ∃ a vs, v = .ref a ∧ SqT c.K H a vs ∧ VRL c θ P ds vs := by
  obtain ⟨a, vs, e, k, q⟩ := r
  exact ⟨a, vs, e, sqT_mono w.sub k, q⟩
/-- a list that may be joined with another one -/
def ownL (d : D) (M : MS) : Option (List D) := match d with
  | .scr _ => none
  | d => lstOf d M
theorem own_read (w : Wo c θ P H M) {d : D} {v : V} {ds : List D} (r : VR c θ P d v) (h : ownL d M = some ds) : ∃ a vs, v = .ref a ∧ H a = some (.lst vs) ∧ VRL c θ P ds vs := by
  cases d with
  | lst l => cases h; obtain ⟨a, vs, e, k, q⟩ := r; exact ⟨a, vs, e, w.sub _ _ k, q⟩
  | ref l =>
    obtain ⟨a, e, rfl⟩ := r
    unfold ownL lstOf at h
    cases q : M[l]? with
    | none => simp only [q] at h; cases h
    | some mo =>
      cases mo with
      | lst l' =>
        simp only [q] at h
        cases h
        obtain ⟨vs, k1, k2⟩ := w.cell l a _ e q
        exact ⟨a, vs, rfl, k1, k2⟩
      | inst n fs => simp only [q] at h; cases h
      | dead => simp only [q] at h; cases h
  | _ => cases h
end

/-! ### operators -/
def opAdd (d e : D) (M : MS) : Res D := match d, e with
  | .int i, .int j => .ok (.int (i + j)) M
  | .str a, .str b => rGuard (small (a.length + b.length)) (.ok (.str (a ++ b)) M)
  | .tup xs, .tup ys => rGuard (small (xs.length + ys.length)) (.ok (.tup (xs ++ ys)) M)
  | d, e => match ownL d M, ownL e M with
    | some xs, some ys => rGuard (small (xs.length + ys.length)) (.ok (.lst (xs ++ ys)) M)
    | _, _ => .stuck
def rAddAll (K : PySem.W.Frag) : R2 := fun x y H Q => (rI0 (fun i j => .int (i + j))) x y H Q ∨ (∃ i j, x = .str i ∧ y = .str j ∧ i.length + j.length ≤ sizeLine ∧ Q (.str (i ++ j)) H) ∨ rCatA K x y H Q ∨ rCat x y H Q
theorem op_addAll {X : Cx} : OpR X (binaryOp .Add) (rAddAll X.K) := OpR.or op_add (OpR.or op_add_str (OpR.or op_catA op_cat))
theorem o_add {c : Cl} : Op2 c (rAddAll c.K) opAdd := fun θ P H M d e x y Q Wx w rd re o => by
  unfold opAdd at o
  split at o
  · cases rd; cases re; exact .inl ⟨_, _, rfl, rfl, Out.now (R := RV c) w o rfl⟩
  · cases rd; cases re
    obtain ⟨g, o⟩ := Out.guard (R := RV c) o
    exact .inr (.inl ⟨_, _, rfl, rfl, small_line g, Out.now (R := RV c) w o rfl⟩)
  · rename_i xs ys
    obtain ⟨g, o⟩ := Out.guard (R := RV c) o
    obtain ⟨a, vs, rfl, k1, r1⟩ := rd
    obtain ⟨b, us, rfl, k2, r2⟩ := re
    refine .inr (.inr (.inl ⟨a, b, vs, us, rfl, rfl, sqT_mono w.sub k1, sqT_mono w.sub k2, by rw [r1.length, r2.length]; exact small_line g, fun e => ?_, fun e1 e2 => ?_, fun e1 e2 p hp => ?_⟩))
    · subst e
      have hx : xs = [] := by cases xs with | nil => rfl | cons _ _ => have := r1.length; simp at this
      subst hx
      exact Out.now (R := RV c) w o ⟨b, us, rfl, k2, r2⟩
    · subst e2
      have hy : ys = [] := by cases ys with | nil => rfl | cons _ _ => have := r2.length; simp at this
      subst hy
      rw [List.append_nil] at o
      exact Out.now (R := RV c) w o ⟨a, vs, rfl, k1, r1⟩
    · exact new_tup w hp (r1.append r2) o
  · split at o
    · rename_i xs ys h1 h2
      obtain ⟨g, o⟩ := Out.guard (R := RV c) o
      obtain ⟨a, vs, rfl, k1, r1⟩ := own_read w rd h1
      obtain ⟨b, us, rfl, k2, r2⟩ := own_read w re h2
      exact .inr (.inr (.inr ⟨a, b, vs, us, rfl, rfl, k1, k2, by rw [r1.length, r2.length]; exact small_line g, fun p hp => new_lst w hp (r1.append r2) o⟩))
    · exact o.elim
def opSub (d e : D) (M : MS) : Res D := match d, e with
  | .int i, .int j => .ok (.int (i - j)) M
  | _, _ => .stuck
theorem o_sub {c : Cl} : Op2 c (rI0 fun i j => .int (i - j)) opSub := fun θ P H M d e x y Q Wx w rd re o => by
  unfold opSub at o
  split at o
  · cases rd; cases re; exact ⟨_, _, rfl, rfl, Out.now (R := RV c) w o rfl⟩
  · exact o.elim
def low64 (i : Int) : Bool := decide (-18446744073709551616 < i ∧ i < 18446744073709551616)
theorem low64_ok {i : Int} (h : low64 i = true) : -(2 ^ 64) < i ∧ i < 2 ^ 64 := by
  have := of_decide_eq_true h
  omega
def opMul (d e : D) (M : MS) : Res D := match d, e with
  | .int i, .int j => rGuard (low64 i || low64 j) (.ok (.int (i * j)) M)
  | _, _ => .stuck
theorem o_mul {c : Cl} : Op2 c (rI CMul fun i j => .int (i * j)) opMul := fun θ P H M d e x y Q Wx w rd re o => by
  unfold opMul at o
  split at o
  · obtain ⟨g, o⟩ := Out.guard (R := RV c) o
    cases rd; cases re
    refine ⟨_, _, rfl, rfl, ?_, Out.now (R := RV c) w o rfl⟩
    rcases Bool.or_eq_true_iff.mp g with g | g
    · exact .inl (low64_ok g)
    · exact .inr (low64_ok g)
  · exact o.elim
def opDiv (d e : D) (M : MS) : Res D := match d, e with
  | .int i, .int j => rGuard (decide (0 < j ∧ j < 1073741824)) (.ok (.int (i / j)) M)
  | _, _ => .stuck
theorem o_div {c : Cl} : Op2 c (rI CDiv fun i j => .int (i / j)) opDiv := fun θ P H M d e x y Q Wx w rd re o => by
  unfold opDiv at o
  split at o
  · obtain ⟨g, o⟩ := Out.guard (R := RV c) o
    cases rd; cases re
    have g' : _ ∧ _ := of_decide_eq_true g
    exact ⟨_, _, rfl, rfl, g', Out.now (R := RV c) w o rfl⟩
  · exact o.elim
def opMod (d e : D) (M : MS) : Res D := match d, e with
  | .int i, .int j => rGuard (decide (0 < j)) (.ok (.int (i % j)) M)
  | _, _ => .stuck
theorem o_mod {c : Cl} : Op2 c (rI (fun _ j => 0 < j) fun i j => .int (i % j)) opMod := fun θ P H M d e x y Q Wx w rd re o => by
  unfold opMod at o
  split at o
  · obtain ⟨g, o⟩ := Out.guard (R := RV c) o
    cases rd; cases re
    exact ⟨_, _, rfl, rfl, of_decide_eq_true g, Out.now (R := RV c) w o rfl⟩
  · exact o.elim
def opPow (d e : D) (M : MS) : Res D := match d, e with
  | .int i, .int j => rGuard (decide (0 ≤ j ∧ j ≤ 100 ∧ 0 ≤ i ∧ i ≤ 100)) (.ok (.int (i ^ j.toNat)) M)
  | _, _ => .stuck
theorem o_pow {c : Cl} : Op2 c (rI CPow fun i j => .int (i ^ j.toNat)) opPow := fun θ P H M d e x y Q Wx w rd re o => by
  unfold opPow at o
  split at o
  · obtain ⟨g, o⟩ := Out.guard (R := RV c) o
    cases rd; cases re
    obtain ⟨g1, g2, g3, g4⟩ := of_decide_eq_true g
    exact ⟨_, _, rfl, rfl, ⟨g1, by omega, by omega⟩, Out.now (R := RV c) w o rfl⟩
  · exact o.elim

/-! ### comparisons -/
def opI (f : Int → Int → Bool) (d e : D) (M : MS) : Res D := match d, e with
  | .int i, .int j => .ok (.bl (f i j)) M
  | _, _ => .stuck
theorem o_int {c : Cl} {f : Int → Int → Bool} : Op2 c (rI0 fun i j => .bl (f i j)) (opI f) := fun θ P H M d e x y Q Wx w rd re o => by
  unfold opI at o
  split at o
  · cases rd; cases re; exact ⟨_, _, rfl, rfl, Out.now (R := RV c) w o rfl⟩
  · exact o.elim
def isNon : D → Bool
  | .non => true
  | _ => false
def opIsN (neg : Bool) (d e : D) (M : MS) : Res D := match e with
  | .non => .ok (.bl (if neg then !isNon d else isNon d)) M
  | _ => .stuck
theorem vr_non {c : Cl} {θ : List Addr} {P : Hp} {d : D} {v : V} (r : VR c θ P d v) : decide (v = .non) = isNon d := by
  cases d with
  | non => cases r; rfl
  | bl b => cases r; rfl
  | int b => cases r; rfl
  | str b => cases r; rfl
  | ty b => cases r; rfl
  | cls b => obtain ⟨a, _, rfl⟩ := r; rfl
  | ref b => obtain ⟨a, _, rfl⟩ := r; rfl
  | tup b => obtain ⟨a, _, rfl, _⟩ := r; rfl
  | lst b => obtain ⟨a, _, rfl, _⟩ := r; rfl
  | scr b => obtain ⟨a, _, rfl, _⟩ := r; rfl
  | obj n b => obtain ⟨a, _, _, _, rfl, _⟩ := r; rfl
  | exn n b => obtain ⟨a, _, _, _, rfl, _⟩ := r; rfl
theorem o_isN {c : Cl} : Op2 c (fun x y H Q => y = .non ∧ Q (.bl (decide (x = .non))) H) (opIsN false) := fun θ P H M d e x y Q Wx w rd re o => by
  unfold opIsN at o
  split at o
  · exact ⟨re, Out.now (R := RV c) w o (by rw [vr_non rd]; rfl)⟩
  · exact o.elim
theorem o_notN {c : Cl} : Op2 c (fun x y H Q => y = .non ∧ Q (.bl (!decide (x = .non))) H) (opIsN true) := fun θ P H M d e x y Q Wx w rd re o => by
  unfold opIsN at o
  split at o
  · exact ⟨re, Out.now (R := RV c) w o (by rw [vr_non rd]; rfl)⟩
  · exact o.elim
/-! plain data -/
mutual
def toPy : D → Option PyData
  | .non => some .none
  | .bl b => some (.bool b)
  | .int i => some (.int i)
  | .str s => some (.str s)
  | .tup l => (toPyL l).map .tuple
  | .lst l => (toPyL l).map .list
  | _ => none
def toPyL : List D → Option (List PyData)
  | [] => some []
  | d :: ds => match toPy d, toPyL ds with
    | some x, some xs => some (x :: xs)
    | _, _ => none
end
section
variable {c : Cl} {θ : List Addr} {P H : Hp}
theorem toPy_tup {l : List D} {p : PyData} (h : toPy (.tup l) = some p) : ∃ ps, toPyL l = some ps ∧ p = .tuple ps := by
  unfold toPy at h
  cases z : toPyL l with
  | none => rw [z] at h; cases h
  | some ps => rw [z] at h; cases h; exact ⟨ps, rfl, rfl⟩
theorem toPy_lst {l : List D} {p : PyData} (h : toPy (.lst l) = some p) : ∃ ps, toPyL l = some ps ∧ p = .list ps := by
  unfold toPy at h
  cases z : toPyL l with
  | none => rw [z] at h; cases h
  | some ps => rw [z] at h; cases h; exact ⟨ps, rfl, rfl⟩
theorem toPyL_cons {d : D} {l : List D} {p : List PyData} (h : toPyL (d :: l) = some p) : ∃ x xs, toPy d = some x ∧ toPyL l = some xs ∧ p = x :: xs := by
  unfold toPyL at h
  cases z : toPy d with
  | none => rw [z] at h; cases h
  | some x =>
    cases z2 : toPyL l with
    | none => rw [z, z2] at h; cases h
    | some xs => rw [z, z2] at h; cases h; exact ⟨x, xs, rfl, rfl, rfl⟩
mutual
theorem VR.dp (sub : ∀ b o, P b = some o → H b = some o) : ∀ (d : D) (v : V) (p : PyData), VR c θ P d v → toPy d = some p → Dp c.K H v p
  | .non, _, _, r, h => by cases r; cases h; exact .non
  | .bl _, _, _, r, h => by cases r; cases h; exact .bl _
  | .int _, _, _, r, h => by cases r; cases h; exact .int _
  | .str _, _, _, r, h => by cases r; cases h; exact .str _
  | .tup l, v, p, r, h => by
    obtain ⟨ps, h1, h2⟩ := toPy_tup h
    obtain ⟨a, vs, e, k, q⟩ := r
    rw [e, h2]
    exact .tup (sqT_mono sub k) (VRL.dp sub l vs ps q h1)
  | .lst l, v, p, r, h => by
    obtain ⟨ps, h1, h2⟩ := toPy_lst h
    obtain ⟨a, vs, e, k, q⟩ := r
    rw [e, h2]
    exact .lst (.inl (.inl (sub _ _ k))) (VRL.dp sub l vs ps q h1)
  | .ty _, _, _, _, h => by simp [toPy] at h
  | .cls _, _, _, _, h => by simp [toPy] at h
  | .ref _, _, _, _, h => by simp [toPy] at h
  | .scr _, _, _, _, h => by simp [toPy] at h
  | .obj _ _, _, _, _, h => by simp [toPy] at h
  | .exn _ _, _, _, _, h => by simp [toPy] at h
theorem VRL.dp (sub : ∀ b o, P b = some o → H b = some o) : ∀ (ds : List D) (vs : List V) (ps : List PyData), VRL c θ P ds vs → toPyL ds = some ps → DpAll c.K H vs ps
  | [], _, _, r, h => by cases r; cases h; exact .nil
  | d :: ds, vs, ps, r, h => by
    obtain ⟨x, xs, h1, h2, h3⟩ := toPyL_cons h
    obtain ⟨v, q, e, a, b⟩ := r
    rw [e, h3]
    exact .cons (VR.dp sub d v x a h1) (VRL.dp sub ds q xs b h2)
end
end
def opEq (neg : Bool) (d e : D) (M : MS) : Res D := match toPy d, toPy e with
  | some a, some b => rGuard (SeqAt.shaped a && SeqAt.shaped b) (.ok (.bl (if neg then !PyData.eqv a b else PyData.eqv a b)) M)
  | _, _ => .stuck
theorem o_eq {c : Cl} : Op2 c (rEqD c.K) (opEq false) := fun θ P H M d e x y Q Wx w rd re o => by
  unfold opEq at o
  split at o
  · rename_i a b h1 h2
    obtain ⟨g, o⟩ := Out.guard (R := RV c) o
    obtain ⟨g1, g2⟩ := Bool.and_eq_true_iff.mp g
    exact ⟨a, b, VR.dp w.sub _ _ _ rd h1, VR.dp w.sub _ _ _ re h2, g1, g2, Out.now (R := RV c) w o rfl⟩
  · exact o.elim
theorem o_ne {c : Cl} : Op2 c (rNeD c.K) (opEq true) := fun θ P H M d e x y Q Wx w rd re o => by
  unfold opEq at o
  split at o
  · rename_i a b h1 h2
    obtain ⟨g, o⟩ := Out.guard (R := RV c) o
    obtain ⟨g1, g2⟩ := Bool.and_eq_true_iff.mp g
    exact ⟨a, b, VR.dp w.sub _ _ _ rd h1, VR.dp w.sub _ _ _ re h2, g1, g2, Out.now (R := RV c) w o rfl⟩
  · exact o.elim
/-- one sign in a text -/
def opInS (neg : Bool) (d e : D) (M : MS) : Res D := match d, e with
  | .str ⟨a⟩, .str z => match a.toList with
    | [k] => .ok (.bl (if neg then !decide (k ∈ z.cps.toList) else decide (k ∈ z.cps.toList))) M
    | _ => .stuck
  | _, _ => .stuck
theorem o_inS {c : Cl} : Op2 c (fun x y H Q => ∃ (k : Nat) (z : Str), x = .str ⟨#[k]⟩ ∧ y = .str z ∧ Q (.bl (decide (k ∈ z.cps.toList))) H) (opInS false) := fun θ P H M d e x y Q Wx w rd re o => by
  unfold opInS at o
  split at o
  · rename_i a z
    split at o
    · rename_i k hk
      cases rd; cases re
      have : a = #[k] := by cases a; simpa using hk
      subst this
      exact ⟨k, z, rfl, rfl, Out.now (R := RV c) w o rfl⟩
    · exact o.elim
  · exact o.elim

/-! ### chained comparisons -/
def rChain (f g : D → D → MS → Res D) (a b e : Rn D) : Rn D := fun ρ M => (a ρ M).bind fun x M1 => (b ρ M1).bind fun y M2 => (f x y M2).bind fun z M3 => (toB z M3).bind fun k M4 => if k = true then (e ρ M4).bind fun u M5 => g y u M5 else .ok (.bl false) M4
section
variable {X : Cx} {c : Cl} {W : WX}
theorem chain_read {f g : D → D → MS → Res D} {r r' : R2} (hf : Op2 c r f) (hg : Op2 c r' g) {a b e : Rn D} {σ : L2.St} {H : Hp} {Q : VK} (h : liftE c W (rChain f g a b e) σ H Q) : tChain r r' (liftE c W a) (liftE c W b) (liftE c W e) σ H Q := by
  obtain ⟨ρ, M, θ, P, w, er, o⟩ := h
  refine ⟨ρ, M, θ, P, w, er, Out.bind (R := RV c) o fun d M1 x H1 θ1 P1 w1 s1 r1 o1 => ⟨ρ, M1, θ1, P1, w1, er.step s1, Out.bind (R := RV c) o1 fun d2 M2 y H2 θ2 P2 w2 s2 r2 o2 => ?_⟩⟩
  refine hf _ _ _ _ _ _ _ _ _ _ w2 (r1.step s2) r2 (Out.bind (R := RV c) o2 fun z M3 v H3 θ3 P3 w3 s3 r3 o3 => ?_)
  cases z with
  | bl k =>
    refine ⟨k, r3, ?_⟩
    cases k with
    | true => exact (if_pos rfl).mpr ⟨ρ, M3, θ3, P3, w3, ((er.step s1).step s2).step s3, Out.bind (R := RV c) o3 fun u M5 x5 H5 θ5 P5 w5 s5 r5 o5 => hg _ _ _ _ _ _ _ _ _ _ w5 ((r2.step s3).step s5) r5 o5⟩
    | false => exact (if_neg Bool.false_ne_true).mpr (Out.now (R := RV c) w3 o3 rfl)
  | _ => exact o3.elim
end
end Q

namespace Q
open PySem PySem.Spec PyProof.Rows L2

/-! ### subscripts, slices -/
section
variable {X : Cx} {c : Cl} {W : WX}
theorem VRL.atI {θ : List Addr} {P : Hp} {ds : List D} {vs : List V} {i : Int} {d : D} (r : VRL c θ P ds vs) (h : atI ds i = some d) : ∃ v, L2.atI vs i = some v ∧ VR c θ P d v := by
  unfold L2.atI at h ⊢
  rw [r.length]
  cases q : ixN ds.length i with
  | none => rw [q] at h; cases h
  | some j => rw [q] at h; exact r.get h
def opIx (d e : D) (M : MS) : Res D := match e with
  | .int i => match d with
    | .tup ds => match atI ds i with
      | some x => .ok x M
      | none => .stuck
    | .str z => match atI z.cps.toList i with
      | some k => rGuard (small z.length) (.ok (.str ⟨#[k]⟩) M)
      | none => .stuck
    | d => match lstOf d M with
      | some ds => match atI ds i with
        | some x => .ok x M
        | none => .stuck
      | none => .stuck
  | _ => .stuck
theorem o_ix : Op2 c (rIx c.K) opIx := fun θ P H M d e x y Q Wx w rd re o => by
  unfold opIx at o
  split at o
  · rename_i i
    cases re
    split at o
    · rename_i ds
      split at o
      · rename_i z hz
        obtain ⟨a, vs, rfl, k, r⟩ := tup_read w rd
        obtain ⟨v, e1, rv⟩ := r.atI hz
        exact .inr (.inl ⟨a, vs, i, v, rfl, rfl, k, e1, Out.now (R := RV c) w o rv⟩)
      · exact o.elim
    · rename_i z
      cases rd
      split at o
      · rename_i k hk
        obtain ⟨g, o⟩ := Out.guard (R := RV c) o
        exact .inr (.inr ⟨z, i, k, rfl, rfl, small_line g, hk, Out.now (R := RV c) w o rfl⟩)
      · exact o.elim
    · split at o
      · rename_i ds hl
        split at o
        · rename_i z hz
          obtain ⟨a, vs, rfl, k, r⟩ := lst_read w rd hl
          obtain ⟨v, e1, rv⟩ := r.atI hz
          exact .inl ⟨a, vs, i, v, rfl, rfl, k, e1, Out.now (R := RV c) w o rv⟩
        · exact o.elim
      · exact o.elim
  · exact o.elim
theorem s_ix {a b : Expr} {pos : Pos} {ra rb : Rn D} (hK : c.K = X.K) (ha : PE X a (liftE c W ra)) (hb : PE X b (liftE c W rb)) (hs : PlainIx b := by exact fun _ _ => rfl) : PE X (.Subscript a b pos) (liftE c W (rOp2 opIx ra rb)) :=
  PE.imp (pe_ix (ix_seq (X := X)) ha hb hs) fun σ H Q h => by
    rw [← hK]
    exact two o_ix h
/-- the ends of a slice -/
def rOpt (a : Option (Rn D)) : Rn (Option Int) := fun ρ M => match a with
  | none => .ok none M
  | some a => (a ρ M).bind fun d M1 => match d with
    | .int i => .ok (some i) M1
    | _ => .stuck
def liftO (c : Cl) (W : WX) (run : Rn (Option Int)) : TO := fun σ H Q => ∃ ρ M θ P, Wo c θ P H M ∧ ER c θ P ρ σ ∧ Out c (fun _ _ _ a b => b = a) θ P H Q (fun cv dd H' => W cv dd σ H') (run ρ M)
theorem PO.imp {e : Option Expr} {t t' : TO} (h : PO X e t) (k : ∀ σ H Q, t' σ H Q → t σ H Q) : PO X e t' := ⟨fun pins s σ H Q I q => h.run pins s σ H Q I (k _ _ _ q)⟩
theorem so_none : PO X none (liftO c W (rOpt none)) := PO.imp po_none fun σ H Q ⟨ρ, M, θ, P, w, er, o⟩ => Out.now (R := fun _ _ _ a b => b = a) w o rfl
theorem so_some {e : Expr} {a : Rn D} (h : PE X e (liftE c W a)) : PO X (some e) (liftO c W (rOpt (some a))) :=
  PO.imp (po_some h) fun σ H Q ⟨ρ, M, θ, P, w, er, o⟩ => ⟨ρ, M, θ, P, w, er, Out.bind (R := RV c) o fun d M1 v H1 θ1 P1 w1 s1 r1 o1 => by
    cases d with
    | int i => exact ⟨i, r1, Out.now (R := fun _ _ _ a b => b = a) w1 o1 rfl⟩
    | _ => exact o1.elim⟩
def cutD {α : Type} (xs : List α) (lo hi : Option Int) : List α := (xs.drop (HT.sIx xs.length 0 lo)).take (HT.sIx xs.length xs.length hi - HT.sIx xs.length 0 lo)
theorem VRL.cutD {θ : List Addr} {P : Hp} {ds : List D} {vs : List V} {lo hi : Option Int} (r : VRL c θ P ds vs) : VRL c θ P (_root_.Q.cutD ds lo hi) (cutV vs lo hi) := by
  unfold cutV _root_.Q.cutD
  rw [r.length]
  exact (r.drop _).take _
def opSl (d : D) (lo hi : Option Int) (M : MS) : Res D := match d with
  | .tup ds => .ok (.tup (cutD ds lo hi)) M
  | .str z => rGuard (small z.length) (.ok (.str (cutS z lo hi)) M)
  | d => match lstOf d M with
    | some ds => .ok (.lst (cutD ds lo hi)) M
    | none => .stuck
def rSl (a : Rn D) (l h : Rn (Option Int)) : Rn D := fun ρ M => (a ρ M).bind fun d M1 => (l ρ M1).bind fun lo M2 => (h ρ M2).bind fun hi M3 => opSl d lo hi M3
def rSlAll (K : PySem.W.Frag) : V → Option Int → Option Int → Hp → VK → Prop := fun x lo hi H Q => rSlL K x lo hi H Q ∨ rSlA K x lo hi H Q ∨ rSlS x lo hi H Q
theorem cut_whole {α : Type} {xs : List α} {lo hi : Option Int} (h : HT.sIx xs.length 0 lo = 0 ∧ HT.sIx xs.length xs.length hi = xs.length) : cutD xs lo hi = xs := by
  unfold cutD
  rw [h.1, h.2]
  simp
theorem o_sl {θ : List Addr} {P H : Hp} {M : MS} {d : D} {x : V} {lo hi : Option Int} {Q : VK} {Wx : Value → Option Addr → Hp → Prop} (w : Wo c θ P H M) (rd : VR c θ P d x) (o : OutE c θ P H Q Wx (opSl d lo hi M)) : rSlAll c.K x lo hi H Q := by
  unfold opSl at o
  split at o
  · rename_i ds
    obtain ⟨a, vs, rfl, k, r⟩ := tup_read w rd
    refine .inr (.inl ⟨a, vs, rfl, k, fun e => ?_, fun e p hp => new_tup w hp r.cutD o⟩)
    rw [r.length] at e
    rw [cut_whole e] at o
    exact Out.now (R := RV c) w o rd
  · rename_i z
    cases rd
    obtain ⟨g, o⟩ := Out.guard (R := RV c) o
    exact .inr (.inr ⟨z, rfl, small_line g, Out.now (R := RV c) w o rfl⟩)
  · split at o
    · rename_i ds hl
      obtain ⟨a, vs, rfl, k, r⟩ := lst_read w rd hl
      exact .inl ⟨a, vs, rfl, k, fun p hp => new_lst w hp r.cutD o⟩
    · exact o.elim
theorem s_sl {e : Expr} {lo hi : Option Expr} {pos p2 : Pos} {ra : Rn D} {rl rh : Rn (Option Int)} (hK : c.K = X.K) (h : PE X e (liftE c W ra)) (hl : PO X lo (liftO c W rl)) (hh : PO X hi (liftO c W rh)) : PE X (.Subscript e (.Slice lo hi none p2) pos) (liftE c W (rSl ra rl rh)) :=
  PE.imp (pe_slice (SlR.or (sl_list (X := X)) (SlR.or sl_tupA sl_str)) h hl hh) fun σ H Q ⟨ρ, M, θ, P, w, er, o⟩ => ⟨ρ, M, θ, P, w, er, Out.bind (R := RV c) o fun d M1 x H1 θ1 P1 w1 s1 r1 o1 =>
    ⟨ρ, M1, θ1, P1, w1, er.step s1, Out.bind (R := fun _ _ _ a b => b = a) o1 fun lo M2 lo' H2 θ2 P2 w2 s2 r2 o2 =>
      ⟨ρ, M2, θ2, P2, w2, (er.step s1).step s2, Out.bind (R := fun _ _ _ a b => b = a) o2 fun hi M3 hi' H3 θ3 P3 w3 s3 r3 o3 => by
        subst r2; subst r3
        rw [← hK]
        exact o_sl w3 ((r1.step s2).step s3) o3⟩⟩⟩
/-- xs[i] = e, of a changeable list -/
def rPut (v a b : Rn D) : Sn := fun ρ M => bindS (v ρ M) ρ fun y M1 => bindS (a ρ M1) ρ fun d M2 => bindS (b ρ M2) ρ fun e M3 => match d, e with
  | .ref l, .int i => match M3[l]? with
    | some (.lst ds) => match ixN ds.length i with
      | some j => .nx ρ (M3.set l (.lst (ds.set j y)))
      | none => .stuck
    | _ => .stuck
  | _, _ => .stuck
theorem st_put {o i e : Expr} {spos pos : Pos} {rv ra rb : Rn D} (hv : PE X e (liftE c W rv)) (ha : PE X o (liftE c W ra)) (hb : PE X i (liftE c W rb)) (h : PS X (.Assign [.Subscript o i spos] e pos) (tAsg (liftE c W rv) (gSub (liftE c W ra) (liftE c W rb) rSetL))) : PS X (.Assign [.Subscript o i spos] e pos) (liftS c W (rPut rv ra rb)) :=
  PS.imp h fun E σ H ⟨ρ, M, θ, P, w, er, o⟩ => ⟨ρ, M, θ, P, w, er, OutS.bind (R := RV c) er o fun y M1 v H1 θ1 P1 w1 s1 r1 er1 o1 =>
    ⟨ρ, M1, θ1, P1, w1, er1, OutS.bind (R := RV c) er1 o1 fun d M2 x H2 θ2 P2 w2 s2 r2 er2 o2 =>
      ⟨ρ, M2, θ2, P2, w2, er2, OutS.bind (R := RV c) er2 o2 fun k M3 z H3 θ3 P3 w3 s3 r3 er3 o3 => by
        have r1 := (r1.step s2).step s3
        have r2 := r2.step s3
        cases d with
        | ref l =>
          cases k with
          | int i =>
            cases r3
            obtain ⟨a, e, rfl⟩ := r2
            cases q : M3[l]? with
            | none => simp only [q] at o3; exact o3.elim
            | some mo =>
              cases mo with
              | lst ds =>
                simp only [q] at o3
                cases qi : ixN ds.length i with
                | none => simp only [qi] at o3; exact o3.elim
                | some j =>
                  simp only [qi] at o3
                  obtain ⟨vs, k1, k2⟩ := w3.cell l a _ e q
                  obtain ⟨w4, s4⟩ := w3.setM (o := .lst (vs.set j v)) (mo' := .lst (ds.set j y)) e q (by simp) ⟨_, upd_same, VRL.set r1 j k2⟩
                  exact ⟨a, vs, i, j, rfl, rfl, k1, by rw [k2.length]; exact qi, o3 _ _ _ _ w4 s4 (er3.step s4)⟩
              | inst n fs => simp only [q] at o3; exact o3.elim
              | dead => simp only [q] at o3; exact o3.elim
          | _ => exact o3.elim
        | _ => exact o3.elim⟩⟩⟩

/-! ### built-ins called by name -/
def CallD (c : Cl) (r : List V → Hp → VK → Prop) (f : Fn) : Prop := ∀ θ P H M ds vs Q Wx, Wo c θ P H M → VRL c θ P ds vs → OutE c θ P H Q Wx (f ds M) → r vs H Q
def rFun (f : Fn) (a : Rn (List D)) : Rn D := fun ρ M => (a ρ M).bind f
theorem fun_read {f : Fn} {r : List V → Hp → VK → Prop} (hf : CallD c r f) {a : Rn (List D)} {σ : L2.St} {H : Hp} {Q : VK} (h : liftE c W (rFun f a) σ H Q) : tCB r (liftA c W a) σ H Q := by
  obtain ⟨ρ, M, θ, P, w, er, o⟩ := h
  exact ⟨ρ, M, θ, P, w, er, Out.bind (R := RL c) o fun ds M1 vs H1 θ1 P1 w1 s1 r1 o1 => hf _ _ _ _ _ _ _ _ w1 r1 o1⟩
theorem s_fun {e : Expr} {r : List V → Hp → VK → Prop} {f : Fn} {a : Rn (List D)} (hf : CallD c r f) (h : PE X e (tCB r (liftA c W a))) : PE X e (liftE c W (rFun f a)) := PE.imp h fun σ H Q q => fun_read hf q
theorem CallR.or {f : Value} {r r' : List V → Hp → VK → Prop} (h : CallR X f r) (h' : CallR X f r') : CallR X f (fun vs H Q => r vs H Q ∨ r' vs H Q) := fun pins s σ H xs us Q I rr q => q.elim (h pins s σ H xs us Q I rr) (h' pins s σ H xs us Q I rr)
theorem VRL.inv1 {θ : List Addr} {P : Hp} {d : D} {vs : List V} (r : VRL c θ P [d] vs) : ∃ v, vs = [v] ∧ VR c θ P d v := by
  obtain ⟨v, q, e, a, b⟩ := r
  cases b
  exact ⟨v, e, a⟩
theorem VRL.inv2 {θ : List Addr} {P : Hp} {d d' : D} {vs : List V} (r : VRL c θ P [d, d'] vs) : ∃ v v', vs = [v, v'] ∧ VR c θ P d v ∧ VR c θ P d' v' := by
  obtain ⟨v, q, e, a, b⟩ := r
  obtain ⟨v', rfl, a'⟩ := VRL.inv1 b
  exact ⟨v, v', e, a, a'⟩
def fLen : Fn := fun ds M => match ds with
  | [.str s] => rGuard (small s.length) (.ok (.int s.length) M)
  | [.tup xs] => .ok (.int xs.length) M
  | [d] => match lstOf d M with
    | some xs => .ok (.int xs.length) M
    | none => .stuck
  | _ => .stuck
theorem c_len : CallD c (fun xs H Q => ∃ x n, xs = [x] ∧ LenV c.K x H n ∧ Q (.int n) H) fLen := fun θ P H M ds vs Q Wx w r o => by
  unfold fLen at o
  split at o
  · rename_i s
    obtain ⟨v, rfl, r1⟩ := r.inv1
    cases r1
    obtain ⟨g, o⟩ := Out.guard (R := RV c) o
    exact ⟨.str s, s.length, rfl, ⟨small_line g, rfl⟩, Out.now (R := RV c) w o rfl⟩
  · rename_i xs
    obtain ⟨v, rfl, r1⟩ := r.inv1
    obtain ⟨a, ws, rfl, k, q⟩ := tup_read w r1
    exact ⟨_, ws.length, rfl, .inr ⟨ws, k, rfl⟩, Out.now (R := RV c) w o (by rw [q.length]; rfl)⟩
  · rename_i d _ _
    obtain ⟨v, rfl, r1⟩ := r.inv1
    split at o
    · rename_i xs hl
      obtain ⟨a, ws, rfl, k, q⟩ := lst_read w r1 hl
      exact ⟨_, ws.length, rfl, .inl ⟨ws, k, rfl⟩, Out.now (R := RV c) w o (by rw [q.length]; rfl)⟩
    · exact o.elim
  · exact o.elim
/-- a list of truth values, of whole numbers, of textsOf -/
def boolsOf : List D → Option (List Bool)
  | [] => some []
  | .bl b :: r => (boolsOf r).map (b :: ·)
  | _ => none
def numsOf : List D → Option (List Int)
  | [] => some []
  | .int b :: r => (numsOf r).map (b :: ·)
  | _ => none
def textsOf : List D → Option (List Str)
  | [] => some []
  | .str b :: r => (textsOf r).map (b :: ·)
  | _ => none
theorem bools_vals {θ : List Addr} {P : Hp} : ∀ {ds : List D} {bs : List Bool} {vs : List V}, boolsOf ds = some bs → VRL c θ P ds vs → vs = bs.map V.bl
  | [], _, _, h, r => by cases h; cases r; rfl
  | .bl b :: ds, bs, _, h, ⟨v, q, e, a, k⟩ => by
    unfold boolsOf at h
    cases z : boolsOf ds with
    | none => rw [z] at h; cases h
    | some xs => rw [z] at h; cases h; subst e; cases a; rw [bools_vals z k]; rfl
theorem ints_vals {θ : List Addr} {P : Hp} : ∀ {ds : List D} {bs : List Int} {vs : List V}, numsOf ds = some bs → VRL c θ P ds vs → vs = bs.map V.int
  | [], _, _, h, r => by cases h; cases r; rfl
  | .int b :: ds, bs, _, h, ⟨v, q, e, a, k⟩ => by
    unfold numsOf at h
    cases z : numsOf ds with
    | none => rw [z] at h; cases h
    | some xs => rw [z] at h; cases h; subst e; cases a; rw [ints_vals z k]; rfl
theorem texts_vals {θ : List Addr} {P : Hp} : ∀ {ds : List D} {bs : List Str} {vs : List V}, textsOf ds = some bs → VRL c θ P ds vs → vs = bs.map V.str
  | [], _, _, h, r => by cases h; cases r; rfl
  | .str b :: ds, bs, _, h, ⟨v, q, e, a, k⟩ => by
    unfold textsOf at h
    cases z : textsOf ds with
    | none => rw [z] at h; cases h
    | some xs => rw [z] at h; cases h; subst e; cases a; rw [texts_vals z k]; rfl
def fAll (any : Bool) : Fn := fun ds M => match ds with
  | [d] => match (lstOf d M).bind boolsOf with
    | some bs => .ok (.bl (if any then bs.any id else bs.all id)) M
    | none => .stuck
  | _ => .stuck
theorem all_core {θ : List Addr} {P H : Hp} {M : MS} {d : D} {v : V} {bs : List Bool} (w : Wo c θ P H M) (r : VR c θ P d v) (h : (lstOf d M).bind boolsOf = some bs) : ∃ a, v = .ref a ∧ SqL c.K H a (bs.map V.bl) := by
  cases q : lstOf d M with
  | none => rw [q] at h; cases h
  | some xs =>
    rw [q] at h
    obtain ⟨a, ws, rfl, k, q⟩ := lst_read w r q
    rw [bools_vals h q] at k
    exact ⟨a, rfl, k⟩
theorem c_all : CallD c (rAll c.K) (fAll false) := fun θ P H M ds vs Q Wx w r o => by
  unfold fAll at o
  split at o
  · obtain ⟨v, rfl, r1⟩ := r.inv1
    split at o
    · rename_i bs hb
      obtain ⟨a, rfl, k⟩ := all_core w r1 hb
      exact ⟨a, bs, rfl, k, Out.now (R := RV c) w o rfl⟩
    · exact o.elim
  · exact o.elim
theorem c_any : CallD c (rAny c.K) (fAll true) := fun θ P H M ds vs Q Wx w r o => by
  unfold fAll at o
  split at o
  · obtain ⟨v, rfl, r1⟩ := r.inv1
    split at o
    · rename_i bs hb
      obtain ⟨a, rfl, k⟩ := all_core w r1 hb
      exact ⟨a, bs, rfl, k, Out.now (R := RV c) w o rfl⟩
    · exact o.elim
  · exact o.elim
def fSum : Fn := fun ds M => match ds with
  | [d] => match (lstOf d M).bind numsOf with
    | some bs => .ok (.int bs.sum) M
    | none => .stuck
  | _ => .stuck
theorem ints_core {θ : List Addr} {P H : Hp} {M : MS} {d : D} {v : V} {bs : List Int} (w : Wo c θ P H M) (r : VR c θ P d v) (h : (lstOf d M).bind numsOf = some bs) : ∃ a, v = .ref a ∧ SqL c.K H a (bs.map V.int) := by
  cases q : lstOf d M with
  | none => rw [q] at h; cases h
  | some xs =>
    rw [q] at h
    obtain ⟨a, ws, rfl, k, q⟩ := lst_read w r q
    rw [ints_vals h q] at k
    exact ⟨a, rfl, k⟩
theorem c_sum : CallD c (rSum c.K) fSum := fun θ P H M ds vs Q Wx w r o => by
  unfold fSum at o
  split at o
  · obtain ⟨v, rfl, r1⟩ := r.inv1
    split at o
    · rename_i bs hb
      obtain ⟨a, rfl, k⟩ := ints_core w r1 hb
      exact ⟨a, bs, rfl, k, Out.now (R := RV c) w o rfl⟩
    · exact o.elim
  · exact o.elim
/-- int(..) -/
def fInt : Fn := fun ds M => match ds with
  | [.int i] => .ok (.int i) M
  | [.str a] => match PySem.intText? a with
    | some n => rGuard (decide (a.length ≤ 640)) (.ok (.int n) M)
    | none => .stuck
  | _ => .stuck
def rIntAll : List V → Hp → VK → Prop := fun xs H Q => ((∃ i, xs = [.int i] ∧ Q (.int i) H) ∨ ∃ k, xs = [.bl k] ∧ Q (.int (if k then 1 else 0)) H) ∨ (∃ a n, xs = [.str a] ∧ PySem.intText? a = some n ∧ a.length ≤ 640 ∧ Q (.int n) H)
theorem call_intAll : CallR X (.type "int") rIntAll := CallR.or call_int1 call_int_str
theorem c_int : CallD c rIntAll fInt := fun θ P H M ds vs Q Wx w r o => by
  unfold fInt at o
  split at o
  · obtain ⟨v, rfl, r1⟩ := r.inv1
    cases r1
    exact .inl (.inl ⟨_, rfl, Out.now (R := RV c) w o rfl⟩)
  · obtain ⟨v, rfl, r1⟩ := r.inv1
    cases r1
    split at o
    · rename_i n hn
      obtain ⟨g, o⟩ := Out.guard (R := RV c) o
      exact .inr ⟨_, n, rfl, hn, of_decide_eq_true g, Out.now (R := RV c) w o rfl⟩
    · exact o.elim
  · exact o.elim
/-- str(..) of a whole number -/
def fStr : Fn := fun ds M => match ds with
  | [.int i] => rGuard (decide (i.natAbs.log2 < 1920)) (.ok (.str (toString i)) M)
  | _ => .stuck
theorem c_str : CallD c (fun xs H Q => ∃ i, xs = [.int i] ∧ i.natAbs.log2 < 1920 ∧ Q (.str (toString i)) H) fStr := fun θ P H M ds vs Q Wx w r o => by
  unfold fStr at o
  split at o
  · obtain ⟨v, rfl, r1⟩ := r.inv1
    cases r1
    obtain ⟨g, o⟩ := Out.guard (R := RV c) o
    exact ⟨_, rfl, of_decide_eq_true g, Out.now (R := RV c) w o rfl⟩
  · exact o.elim

/-! ### methods of built-in types -/
def tyD (T : String) (d : D) (M : MS) : Bool := match d with
  | .str _ => T == "str"
  | d => T == "list" && (lstOf d M).isSome
theorem ty_read {T : String} {θ : List Addr} {P H : Hp} {M : MS} {d : D} {v : V} (w : Wo c θ P H M) (r : VR c θ P d v) (h : tyD T d M = true) : tyV c.K T v H := by
  unfold tyD at h
  split at h
  · cases r
    exact beq_iff_eq.mp h
  · obtain ⟨h1, h2⟩ := Bool.and_eq_true_iff.mp h
    obtain ⟨ds, q⟩ := Option.isSome_iff_exists.mp h2
    obtain ⟨a, vs, rfl, k, _⟩ := lst_read w r q
    exact .inl ⟨beq_iff_eq.mp h1, vs, k⟩
def MtD (c : Cl) (r : V → List V → Hp → VK → Prop) (f : D → Fn) : Prop := ∀ θ P H M d x ds vs Q Wx, Wo c θ P H M → VR c θ P d x → VRL c θ P ds vs → OutE c θ P H Q Wx (f d ds M) → r x vs H Q
def rMt (T : String) (f : D → Fn) (o : Rn D) (a : Rn (List D)) : Rn D := fun ρ M => (o ρ M).bind fun d M1 => rGuard (tyD T d M1) ((a ρ M1).bind fun ds M2 => f d ds M2)
theorem mt_read {T : String} {f : D → Fn} {r : V → List V → Hp → VK → Prop} (hf : MtD c r f) {o : Rn D} {a : Rn (List D)} {σ : L2.St} {H : Hp} {Q : VK} (h : liftE c W (rMt T f o a) σ H Q) : tBM c.K T r (liftE c W o) (liftA c W a) σ H Q := by
  obtain ⟨ρ, M, θ, P, w, er, o⟩ := h
  exact ⟨ρ, M, θ, P, w, er, Out.bind (R := RV c) o fun d M1 x H1 θ1 P1 w1 s1 r1 o1 => by
    obtain ⟨g, o1⟩ := Out.guard (R := RV c) o1
    exact ⟨ty_read w1 r1 g, ρ, M1, θ1, P1, w1, er.step s1, Out.bind (R := RL c) o1 fun ds M2 vs H2 θ2 P2 w2 s2 r2 o2 => hf _ _ _ _ _ _ _ _ _ _ w2 (r1.step s2) r2 o2⟩⟩
theorem s_mt {e : Expr} {T : String} {r : V → List V → Hp → VK → Prop} {f : D → Fn} {o : Rn D} {a : Rn (List D)} (hK : c.K = X.K) (hf : MtD c r f) (h : PE X e (tBM X.K T r (liftE c W o) (liftA c W a))) : PE X e (liftE c W (rMt T f o a)) := PE.imp h fun σ H Q q => by
  rw [← hK]
  exact mt_read hf q
/-- sep.join(..) -/
def fJoin (d : D) : Fn := fun ds M => match d, ds with
  | .str a, [.tup l] => match textsOf l with
    | some ys => rGuard (small ((ys.map (·.length)).sum + ys.length * a.length)) (.ok (.str (Txt.join a ys)) M)
    | none => .stuck
  | .str a, [x] => match (lstOf x M).bind textsOf with
    | some ys => rGuard (small ((ys.map (·.length)).sum + ys.length * a.length)) (.ok (.str (Txt.join a ys)) M)
    | none => .stuck
  | _, _ => .stuck
theorem m_join : MtD c (fun x xs H Q => ∃ a p, ∃ ys : List Str, x = .str a ∧ xs = [.ref p] ∧ (SqL c.K H p (ys.map V.str) ∨ SqT c.K H p (ys.map V.str)) ∧ (ys.map (·.length)).sum + ys.length * a.length ≤ 16777216 ∧ Q (.str (Txt.join a ys)) H) fJoin := fun θ P H M d x ds vs Q Wx w rd r o => by
  unfold fJoin at o
  split at o
  · rename_i a l
    cases rd
    obtain ⟨v, rfl, r1⟩ := r.inv1
    split at o
    · rename_i ys hy
      obtain ⟨g, o⟩ := Out.guard (R := RV c) o
      obtain ⟨p, ws, rfl, k, q⟩ := tup_read w r1
      rw [texts_vals hy q] at k
      exact ⟨a, p, ys, rfl, rfl, .inr k, of_decide_eq_true g, Out.now (R := RV c) w o rfl⟩
    · exact o.elim
  · rename_i a z hz
    cases rd
    obtain ⟨v, rfl, r1⟩ := r.inv1
    split at o
    · rename_i ys hy
      obtain ⟨g, o⟩ := Out.guard (R := RV c) o
      cases q : lstOf z M with
      | none => rw [q] at hy; cases hy
      | some xs =>
        rw [q] at hy
        obtain ⟨p, ws, rfl, k, q⟩ := lst_read w r1 q
        rw [texts_vals hy q] at k
        exact ⟨a, p, ys, rfl, rfl, .inl k, of_decide_eq_true g, Out.now (R := RV c) w o rfl⟩
    · exact o.elim
  · exact o.elim
end
end Q

namespace Q
open PySem PySem.Spec PyProof.Rows L2

section
variable {X : Cx} {c : Cl} {W : WX} {E : XK} {k n : Nat} {f : Addr} {fd : FuncData} {ps : List Str} {run : Fn} {x : Str} {p pos : Pos} {e : Expr} {es : List Expr} {ra : Rn (List D)}
/-- f(e, ..) -/
theorem s_call (m : Md X c W E) (F : FnOk X.prog X.w X.K X.mg X.base (L2.CX X.prog X.w) k f fd ps (spF c n run)) (hr : Room k X.A) (hm : X.mg x = some (.ref f)) (hk : PySem.W.keepIn X.K (.ref f) = true) (hb : Binds X.K fd ps []) (ha : PA X (e :: es) (liftA c W ra))
    (hg : Gl X x := by rfl) (hdb : (x == ("__debug__" : Str)) = false := by decide) (he : starEach (e :: es) X.env = (false, eval e X.env) :: starEach es X.env := by rfl) (hpl : (backTo pos (starEach es X.env)).any (·.1) = false := by rfl) :
    PE X (.Call (.Name x p) (e :: es) [] pos) (liftE c W (rCall n run [] ra)) :=
  PE.imp (pe_call F hr hg hm hk hb .nil m.pass ha hdb he hpl) fun σ H Q h => call_read m (es := []) (dvs := []) (fun _ _ => rfl) h
theorem s_call0 (m : Md X c W E) (F : FnOk X.prog X.w X.K X.mg X.base (L2.CX X.prog X.w) k f fd ps (spF c n run)) (hr : Room k X.A) (hm : X.mg x = some (.ref f)) (hk : PySem.W.keepIn X.K (.ref f) = true) (hb : Binds X.K fd ps [])
    (hg : Gl X x := by rfl) (hdb : (x == ("__debug__" : Str)) = false := by decide) :
    PE X (.Call (.Name x p) [] [] pos) (liftE c W (rCall n run [] rNil)) :=
  PE.imp (pe_call0 F hr hg hm hk hb .nil m.pass hdb) fun σ H Q h => by
    obtain ⟨ρ, M, θ, P, w, er, o⟩ := call_read m (es := []) (dvs := []) (fun _ _ => rfl) h
    exact Out.now (R := RL c) w o rfl
end
/-- a def that is never reached -/
theorem fn_never {P : Program} {w : World} {c : Cl} {mg : Str → Option Value} {base : Heap} {CX : CXT} {k n : Nat} {f : Addr} {fd : FuncData} {ps : List Str} : FnOk P w c.K mg base CX k f fd ps (spF c n (fun _ _ => .stuck)) :=
  ⟨fun vs H Q E h => by obtain ⟨_, _, _, _, _, _, _, o⟩ := h; exact o.elim, fun A outer s H args us vs Q E _ _ _ _ h => by obtain ⟨_, _, _, _, _, _, _, o⟩ := h; exact o.elim⟩

/-! ### the end -/
theorem scr_ints {c : Cl} {P : Hp} : ∀ ns : List Int, VRL c [] P (ns.map D.int) (ns.map V.int)
  | [] => rfl
  | n :: ns => ⟨_, _, rfl, rfl, scr_ints ns⟩
theorem law_sp {c : Cl} {run : Fn} {H : Hp} {a : Addr} {ns : List Int} (hS : SqL c.K H a (ns.map V.int)) (h : ∃ M', run [.scr (ns.map D.int)] [] = .ok (.bl true) M') : spF c 1 run [.ref a] H (fun v _ => v = .bl true) fun _ _ _ => False := by
  obtain ⟨M', e⟩ := h
  refine ⟨[.scr (ns.map D.int)], [], [], H, ⟨fun _ _ e => e, rfl, fun _ _ _ e => by simp at e, fun _ _ _ e => by simp at e, fun _ _ _ e => by simp at e, fun _ m => by simp at m⟩, ⟨_, _, rfl, ⟨a, _, rfl, hS, scr_ints ns⟩, rfl⟩, rfl, ?_⟩
  rw [e]
  exact fun v H' θ' P' w s r => r
theorem cx_end {P : Program} {w : World} {H : Hp} {s : Shared} {e : Value} {s' : Shared} (h : L2.CX P w [] H s (fun _ _ _ => False) e s') : False := by
  obtain ⟨_, _, _, _, _, _, _, _, _, _, _, _, h⟩ := h
  exact h
end Q

namespace Q
open PySem PySem.Spec PyProof.Rows L2

/-! ### how arguments come to parameters -/
/-- a parameter's value: a positional one, a keyword's, a default -/
inductive Ar where
  | p (i : Nat)
  | k (i : Nat)
  | d (i : Nat)
def pick1 {α : Type} (us ws ds : List α) : Ar → Option α
  | .p i => us[i]?
  | .k i => ws[i]?
  | .d i => ds[i]?
def arr {α : Type} (ix : List Ar) (us ws ds : List α) : List α := ix.filterMap (pick1 us ws ds)
/-- F binds n positional values and the keywords ks as ix says; ds: the defaults' values -/
structure Bnd (K : PySem.W.Frag) (fd : FuncData) (ps : List Str) (n : Nat) (ks : List Str) (ix : List Ar) (ds : List Value) : Prop where
  to : ∀ (s : Shared) (us ws : List Value), K.In s.heap → us.length = n → ws.length = ks.length → BindsTo s fd ⟨us, ks.zip ws⟩ (ps.zip (arr ix us ws ds))
theorem vals_opt {vs : List V} {us : List Value} (r : Vals vs us) (i : Nat) : (vs[i]? = none ∧ us[i]? = none) ∨ ∃ v u, vs[i]? = some v ∧ us[i]? = some u ∧ RelV v u := by
  cases e : vs[i]? with
  | none => exact .inl ⟨rfl, r.none_of e⟩
  | some v => obtain ⟨u, h1, h2⟩ := r.get e; exact .inr ⟨v, u, rfl, h1, h2⟩
theorem vrl_opt {c : Cl} {θ : List Addr} {P : Hp} {ds : List D} {vs : List V} (r : VRL c θ P ds vs) (i : Nat) : (ds[i]? = none ∧ vs[i]? = none) ∨ ∃ d v, ds[i]? = some d ∧ vs[i]? = some v ∧ VR c θ P d v := by
  cases e : ds[i]? with
  | none => exact .inl ⟨rfl, by rw [List.getElem?_eq_none_iff] at e ⊢; rw [r.length]; exact e⟩
  | some d => obtain ⟨v, h1, h2⟩ := r.get e; exact .inr ⟨d, v, rfl, h1, h2⟩
theorem vals_arr {vs zs es : List V} {us ws ds : List Value} (r : Vals vs us) (rz : Vals zs ws) (rd : Vals es ds) : ∀ ix : List Ar, Vals (arr ix vs zs es) (arr ix us ws ds)
  | [] => .nil
  | x :: ix => by
    have ih := vals_arr r rz rd ix
    unfold arr at ih ⊢
    have key : (pick1 vs zs es x = none ∧ pick1 us ws ds x = none) ∨ ∃ v u, pick1 vs zs es x = some v ∧ pick1 us ws ds x = some u ∧ RelV v u := by
      cases x with
      | p i => exact vals_opt r i
      | k i => exact vals_opt rz i
      | d i => exact vals_opt rd i
    rcases key with ⟨h1, h2⟩ | ⟨v, u, h1, h2, h3⟩
    · rw [List.filterMap_cons, List.filterMap_cons, h1, h2]; exact ih
    · rw [List.filterMap_cons, List.filterMap_cons, h1, h2]; exact .cons h3 ih
theorem vrl_arr {c : Cl} {θ : List Addr} {P : Hp} {as bs es : List D} {vs zs dv : List V} (r : VRL c θ P as vs) (rz : VRL c θ P bs zs) (rd : VRL c θ P es dv) : ∀ ix : List Ar, VRL c θ P (arr ix as bs es) (arr ix vs zs dv)
  | [] => rfl
  | x :: ix => by
    have ih := vrl_arr r rz rd ix
    unfold arr at ih ⊢
    have key : (pick1 as bs es x = none ∧ pick1 vs zs dv x = none) ∨ ∃ v u, pick1 as bs es x = some v ∧ pick1 vs zs dv x = some u ∧ VR c θ P v u := by
      cases x with
      | p i => exact vrl_opt r i
      | k i => exact vrl_opt rz i
      | d i => exact vrl_opt rd i
    rcases key with ⟨h1, h2⟩ | ⟨v, u, h1, h2, h3⟩
    · rw [List.filterMap_cons, List.filterMap_cons, h1, h2]; exact ih
    · rw [List.filterMap_cons, List.filterMap_cons, h1, h2]; exact ⟨u, _, rfl, h3, ih⟩
section
variable {X : Cx} {c : Cl} {W : WX} {E : XK} {k n np : Nat} {f : Addr} {fd : FuncData} {ps ks : List Str} {ix : List Ar} {ds : List Value} {dvs : List V} {es : List D} {run : Fn} {x : Str} {p pos : Pos} {e : Expr} {args : List Expr} {kws : List Keyword} {ra rk : Rn (List D)}
theorem call_core {pins : List (Addr × Obj)} {σ : L2.St} {H : Hp} {s : Shared} {Q : VK} {us ws : List Value} {vs zs : List V} (m : Md X c W E) (F : FnOk X.prog X.w X.K X.mg X.base (L2.CX X.prog X.w) k f fd ps (spF c n run)) (hr : Room k X.A) (B : Bnd X.K fd ps np ks ix ds) (hd : Vals dvs ds)
    (I : Inv X pins σ H s) (r : Vals vs us) (rz : Vals zs ws) (l1 : vs.length = np) (l2 : zs.length = ks.length) (h : spF c n run (arr ix vs zs dvs) H Q E) : wpAny (model X.prog X.w) X.A (call (.ref f) us (ks.zip ws)) (EP X pins σ Q) X.xe s := by
  refine wpAny_call (codeAny_mono (F.run X.A X.stack s H ⟨us, ks.zip ws⟩ (arr ix us ws ds) (arr ix vs zs dvs) Q E hr I.env0 (B.to s us ws I.kIn (r.length.symm.trans l1) (rz.length.symm.trans l2)) (vals_arr r rz hd ix) h) fun r s' hq => ?_)
  cases r with
  | error e => exact m.pass pins σ H s e s' I hq
  | ok fl =>
    cases fl with
    | ret u => exact I.after hq
    | next => exact False.elim hq
    | brk => exact False.elim hq
    | cont => exact False.elim hq
/-- the keywords' values -/
theorem PK.imp {kws : List Keyword} {t t' : TA} (h : PK X kws t) (k : ∀ σ H Q, t' σ H Q → t σ H Q) : PK X kws t' := ⟨fun pos pins s σ H Q I q => h.run pos pins s σ H Q I (k _ _ _ q)⟩
theorem sk_nil : PK X [] (liftA c W rNil) := PK.imp pk_nil fun σ H Q ⟨ρ, M, θ, P, w, er, o⟩ => Out.now (R := RL c) w o rfl
theorem sk_cons {nm : Option Str} {kpos : Pos} {a : Rn D} {r : Rn (List D)} (ha : PE X e (liftE c W a)) (hr : PK X kws (liftA c W r)) : PK X (⟨nm, e, kpos⟩ :: kws) (liftA c W (rCons a r)) :=
  PK.imp (pk_cons ha hr) fun σ H Q ⟨ρ, M, θ, P, w, er, o⟩ =>
    ⟨ρ, M, θ, P, w, er, Out.bind (R := RV c) o fun d M1 v H1 θ1 P1 w1 s1 r1 o1 => ⟨ρ, M1, θ1, P1, w1, er.step s1, Out.bind (R := RL c) o1 fun ds M2 vs H2 θ2 P2 w2 s2 r2 o2 => Out.now (R := RL c) w2 o2 ⟨v, vs, rfl, r1.step s2, r2⟩⟩⟩
/-- np positional values, nk keywords' values, arranged as ix says -/
def rArgs (np nk n : Nat) (run : Fn) (ix : List Ar) (es : List D) (a k : Rn (List D)) : Rn D := fun ρ M => (a ρ M).bind fun ds M1 => (k ρ M1).bind fun zs M2 =>
  rGuard (decide (ds.length = np ∧ zs.length = nk ∧ (arr ix ds zs es).length = n)) (run (arr ix ds zs es) M2)
/-- f(e, .., x = y, ..) -/
theorem s_callG (m : Md X c W E) (F : FnOk X.prog X.w X.K X.mg X.base (L2.CX X.prog X.w) k f fd ps (spF c n run)) (hr : Room k X.A) (hm : X.mg x = some (.ref f)) (hk : PySem.W.keepIn X.K (.ref f) = true) (B : Bnd X.K fd ps np ks ix ds) (hd : Vals dvs ds) (he0 : ∀ θ P, VRL c θ P es dvs)
    (ha : PA X (e :: args) (liftA c W ra)) (hkw : PK X kws (liftA c W rk)) (hg : Gl X x := by rfl) (hdb : (x == ("__debug__" : Str)) = false := by decide) (hall : (backToKw pos (keywordEach kws X.env)).all (·.1.isSome) = true := by rfl) (hks : (backToKw pos (keywordEach kws X.env)).filterMap (·.1) = ks := by rfl)
    (he : starEach (e :: args) X.env = (false, eval e X.env) :: starEach args X.env := by rfl) (hpl : ((backTo pos (starEach (e :: args) X.env)).any (·.1) || (backToKw pos (keywordEach kws X.env)).any (·.1.isNone)) = false := by rfl) :
    PE X (.Call (.Name x p) (e :: args) kws pos) (liftE c W (rArgs np ks.length n run ix es ra rk)) := by
  refine ⟨fun pins s σ H Q I ⟨ρ, M, θ, P, w, er, o⟩ => ?_⟩
  refine wpAny_Call_Name_kw (ld_glob I hg hm ?_ hdb)
  refine PySem.W.callWith_KW (h₀ := X.base) I.ok.mod.kin hk hall (thn (ha.run pos pins s σ H (fun vs H1 => ∃ ρ M θ P ds, Wo c θ P H1 M ∧ ER c θ P ρ σ ∧ VRL c θ P ds vs ∧ OutE c θ P H1 Q (fun cv dd H' => W cv dd σ H') ((rk ρ M).bind fun zs M2 => rGuard (decide (ds.length = np ∧ zs.length = ks.length ∧ (arr ix ds zs es).length = n)) (run (arr ix ds zs es) M2))) I ⟨ρ, M, θ, P, w, er, Out.bind (R := RL c) o fun ds M1 vs H1 θ1 P1 w1 s1 r1 o1 => ⟨ρ, M1, θ1, P1, ds, w1, er.step s1, r1, o1⟩⟩) fun us s1 ⟨vs, H1, I1, r, q⟩ => ?_) hpl he
  obtain ⟨ρ1, M1, θ1, P1, ds1, w1, er1, r1, o1⟩ := q
  refine thn (hkw.run pos pins s1 σ H1 (fun zs H2 => vs.length = np ∧ zs.length = ks.length ∧ spF c n run (arr ix vs zs dvs) H2 Q E) I1 ⟨ρ1, M1, θ1, P1, w1, er1, Out.bind (R := RL c) o1 fun zd M2 zs H2 θ2 P2 w2 s2 r2 o2 => ?_⟩) fun ws s2 ⟨zs, H2, I2, rz, l1, l2, q2⟩ => ⟨I2.kIn, ?_⟩
  · obtain ⟨g, o2⟩ := Out.guard (R := RV c) o2
    obtain ⟨g1, g2, g3⟩ := of_decide_eq_true g
    exact ⟨by rw [r1.length]; exact g1, by rw [r2.length]; exact g2, sp_now m.we w2 (vrl_arr (r1.step s2) r2 (he0 θ2 P2) ix) g3 o2⟩
  · rw [hks]
    exact call_core m F hr B hd I2 r rz l1 l2 q2
/-- f(x = y, ..) -/
theorem s_callG0 (m : Md X c W E) (F : FnOk X.prog X.w X.K X.mg X.base (L2.CX X.prog X.w) k f fd ps (spF c n run)) (hr : Room k X.A) (hm : X.mg x = some (.ref f)) (hk : PySem.W.keepIn X.K (.ref f) = true) (B : Bnd X.K fd ps 0 ks ix ds) (hd : Vals dvs ds) (he0 : ∀ θ P, VRL c θ P es dvs)
    (hkw : PK X kws (liftA c W rk)) (hg : Gl X x := by rfl) (hdb : (x == ("__debug__" : Str)) = false := by decide) (hall : (backToKw pos (keywordEach kws X.env)).all (·.1.isSome) = true := by rfl) (hks : (backToKw pos (keywordEach kws X.env)).filterMap (·.1) = ks := by rfl)
    (hpl : ((backTo pos (starEach [] X.env)).any (·.1) || (backToKw pos (keywordEach kws X.env)).any (·.1.isNone)) = false := by rfl) :
    PE X (.Call (.Name x p) [] kws pos) (liftE c W (rArgs 0 ks.length n run ix es rNil rk)) := by
  refine ⟨fun pins s σ H Q I ⟨ρ, M, θ, P, w, er, o⟩ => ?_⟩
  refine wpAny_Call_Name_kw (ld_glob I hg hm ?_ hdb)
  refine PySem.W.callWith_KW0 (h₀ := X.base) I.ok.mod.kin hk hall (thn (hkw.run pos pins s σ H (fun zs H2 => zs.length = ks.length ∧ spF c n run (arr ix [] zs dvs) H2 Q E) I ⟨ρ, M, θ, P, w, er, ?_⟩) fun ws s2 ⟨zs, H2, I2, rz, l2, q2⟩ => ⟨I2.kIn, ?_⟩) hpl
  · refine Out.bind (R := RL c) (show OutE c θ P H Q _ ((rk ρ M).bind fun zs M2 => rGuard (decide (0 = 0 ∧ zs.length = ks.length ∧ (arr ix [] zs es).length = n)) (run (arr ix [] zs es) M2)) from o) fun zd M2 zs H2 θ2 P2 w2 s2 r2 o2 => ?_
    obtain ⟨g, o2⟩ := Out.guard (R := RV c) o2
    obtain ⟨g1, g2, g3⟩ := of_decide_eq_true g
    exact ⟨by rw [r2.length]; exact g2, sp_now m.we w2 (vrl_arr (as := []) (vs := []) rfl r2 (he0 θ2 P2) ix) g3 o2⟩
  · rw [hks]
    exact call_core m F hr B hd I2 .nil rz rfl l2 q2
end
end Q

namespace Q
open PySem PySem.Spec PyProof.Rows L2

section
variable {X : Cx} {c : Cl} {W : WX} {E : XK}
theorem s_chain {e1 e2 e3 : Expr} {op op' : CmpOp} {pos : Pos} {a b e : Rn D} {f g : D → D → MS → Res D} {r r' : R2} (ho : OpR X (compareOp op) r) (hf : Op2 c r f) (ho' : OpR X (compareOp op') r') (hg : Op2 c r' g) (ha : PE X e1 (liftE c W a)) (hb : PE X e2 (liftE c W b)) (he : PE X e3 (liftE c W e))
    (hm : lastMarks [op, op'] [e2, e3] = false := by with_unfolding_all rfl) : PE X (.Compare e1 [op, op'] [e2, e3] pos) (liftE c W (rChain f g a b e)) :=
  PE.imp (pe_chain ho ho' ha hb he hm) fun σ H Q h => chain_read hf hg h
theorem t_chain {e1 e2 e3 : Expr} {op op' : CmpOp} {pos : Pos} {a b e : Rn D} {f g : D → D → MS → Res D} {r r' : R2} (ho : OpR X (compareOp op) r) (hf : Op2 c r f) (ho' : OpR X (compareOp op') r') (hg : Op2 c r' g) (ha : PE X e1 (liftE c W a)) (hb : PE X e2 (liftE c W b)) (he : PE X e3 (liftE c W e))
    (hm : lastMarks [op, op'] [e2, e3] = false := by with_unfolding_all rfl) : PT X (.Compare e1 [op, op'] [e2, e3] pos) (liftT c W (rB (rChain f g a b e))) :=
  t_of (pt_chain ho ho' ha hb he hm) fun σ H Q h => chain_read hf hg h

/-! ### isinstance -/
/-- a class: a built-in one, one of the program's -/
inductive Ty where | inl (b : String) | inr (n : Str)
  deriving DecidableEq
def tyN (d : D) (M : MS) : Option Ty := match d with
  | .non => some (.inl "NoneType")
  | .bl _ => some (.inl "bool")
  | .int _ => some (.inl "int")
  | .str _ => some (.inl "str")
  | .tup _ => some (.inl "tuple")
  | .lst _ => some (.inl "list")
  | .scr _ => some (.inl "list")
  | .obj n _ => some (.inr n)
  | .ref l => match M[l]? with
    | some (.lst _) => some (.inl "list")
    | some (.inst n _) => some (.inr n)
    | _ => none
  | _ => none
def tyOfCls : D → Option Ty
  | .ty b => some (.inl b)
  | .cls n => some (.inr n)
  | _ => none
/-- what isinstance says, by a table of all pairs that are asked -/
abbrev IsTab := List ((Ty × Ty) × Bool)
def isOne (tb : IsTab) (t u : Ty) : Option Bool := match t, u with
  | .inl a, .inl b => kitB a b
  | t, u => tb.lookup (t, u)
def valT (c : Cl) : Ty → Option Value
  | .inl b => some (.type b)
  | .inr n => (c.adr n).map .ref
structure IsOk (c : Cl) (tb : IsTab) : Prop where
  one : ∀ t u b, ((t, u), b) ∈ tb → ∃ x y, valT c t = some x ∧ valT c u = some y ∧ PySem.W.kitOne c.K x y = some b
  ins : ∀ t u b n, ((t, u), b) ∈ tb → t = .inr n → ∀ C, c.adr n = some C → ∀ (H : Hp) a dx fs, H a = some (.ins C dx fs) → TyOf c.K H (.ref a) (.ref C)
def isAny (tb : IsTab) (t : Ty) : List Ty → Option Bool
  | [] => some false
  | u :: us => match isOne tb t u with
    | some true => some true
    | some false => isAny tb t us
    | none => none
def tysOf : List D → Option (List Ty)
  | [] => some []
  | d :: ds => match tyOfCls d, tysOf ds with
    | some t, some ts => some (t :: ts)
    | _, _ => none
def isi1 (tb : IsTab) (x y : D) (M : MS) : Res D := match tyN x M, tyOfCls y with
  | some t, some u => match isOne tb t u with
    | some b => .ok (.bl b) M
    | none => .stuck
  | _, _ => .stuck
def isiN (tb : IsTab) (x : D) (cs : List D) (M : MS) : Res D := match tyN x M, tysOf cs with
  | some t, some (u :: us) => match isAny tb t (u :: us) with
    | some b => .ok (.bl b) M
    | none => .stuck
  | _, _ => .stuck
def isi (tb : IsTab) (x y : D) (M : MS) : Res D := match y with
  | .tup cs => isiN tb x cs M
  | y => isi1 tb x y M
def fIsi (tb : IsTab) : Fn := fun ds M => match ds with
  | [x, y] => isi tb x y M
  | _ => .stuck
theorem lookup_mem {α β : Type} [BEq α] [LawfulBEq α] {a : α} {b : β} : ∀ {l : List (α × β)}, l.lookup a = some b → (a, b) ∈ l
  | [], h => by simp at h
  | (x, y) :: l, h => by
    by_cases q : (a == x) = true
    · simp only [List.lookup, q] at h
      cases h
      rw [beq_iff_eq.mp q]
      exact List.mem_cons_self
    · have q' : (a == x) = false := by simpa using q
      simp only [List.lookup, q'] at h
      exact List.mem_cons_of_mem _ (lookup_mem h)
theorem isOne_kit {tb : IsTab} (T : IsOk c tb) {t u : Ty} {b : Bool} (h : isOne tb t u = some b) : ∃ x y, valT c t = some x ∧ valT c u = some y ∧ PySem.W.kitOne c.K x y = some b := by
  cases t with
  | inl a =>
    cases u with
    | inl d => exact ⟨_, _, rfl, rfl, kit_ty h⟩
    | inr d => exact T.one _ _ _ (lookup_mem h)
  | inr a => cases u <;> exact T.one _ _ _ (lookup_mem h)
theorem clsV_of {θ : List Addr} {P : Hp} {d : D} {v : V} {u : Ty} (r : VR c θ P d v) (h : tyOfCls d = some u) : ∃ y, valT c u = some y ∧ ClsV v y := by
  cases d with
  | ty b => cases h; cases r; exact ⟨_, rfl, .ty b⟩
  | cls n => cases h; obtain ⟨a, e, rfl⟩ := r; exact ⟨.ref a, by simp [valT, e], .own a⟩
  | _ => cases h
theorem tyX_of {tb : IsTab} (T : IsOk c tb) {θ : List Addr} {P H : Hp} {M : MS} (w : Wo c θ P H M) {d : D} {v : V} {t u : Ty} {b : Bool} (r : VR c θ P d v) (h : tyN d M = some t) (k : isOne tb t u = some b) : ∃ x, valT c t = some x ∧ TyX c.K H v x := by
  have own : ∀ {n : Str} {C a dx : Addr} {fv : List (Str × V)}, t = .inr n → c.adr n = some C → H a = some (.ins C dx fv) → ∃ x, valT c t = some x ∧ TyX c.K H (.ref a) x := fun {n C a dx fv} e1 e2 e3 => by
    subst e1
    have k' : tb.lookup (.inr n, u) = some b := by cases u <;> exact k
    exact ⟨.ref C, by simp [valT, e2], .base (T.ins _ _ _ n (lookup_mem k') rfl C e2 H a dx fv e3)⟩
  cases d with
  | non => cases h; cases r; exact ⟨_, rfl, .base .non⟩
  | bl b => cases h; cases r; exact ⟨_, rfl, .base (.bl b)⟩
  | int b => cases h; cases r; exact ⟨_, rfl, .base (.int b)⟩
  | str b => cases h; cases r; exact ⟨_, rfl, .base (.str b)⟩
  | tup b =>
    cases h
    obtain ⟨a, vs, rfl, k, q⟩ := r
    rcases k with (k | ⟨o, k⟩) | ⟨o, its, n, k1, k2, _⟩
    · exact ⟨_, rfl, .base (.tup (w.sub _ _ k))⟩
    · exact ⟨_, rfl, .fTuple (w.sub _ _ k)⟩
    · exact ⟨_, rfl, .kTuple k1 k2⟩
  | lst b =>
    cases h
    obtain ⟨a, vs, rfl, k, q⟩ := r
    exact ⟨_, rfl, .base (.lst (w.sub _ _ k))⟩
  | scr b =>
    cases h
    obtain ⟨a, vs, rfl, k, q⟩ := r
    rcases k with (k | ⟨o, k⟩) | ⟨o, its, n, k1, k2, _⟩
    · exact ⟨_, rfl, .base (.lst (w.sub _ _ k))⟩
    · exact ⟨_, rfl, .base (.frz (w.sub _ _ k))⟩
    · exact ⟨_, rfl, .kList k1 k2⟩
  | obj n fs =>
    obtain ⟨a, C, dx, fv, rfl, k1, k2, _⟩ := r
    exact own (by simpa [tyN] using h.symm) k1 (w.sub _ _ k2)
  | ref l =>
    obtain ⟨a, e, rfl⟩ := r
    unfold tyN at h
    cases q : M[l]? with
    | none => simp only [q] at h; cases h
    | some mo =>
      have cell := w.cell l a mo e q
      cases mo with
      | lst ds => simp only [q] at h; cases h; obtain ⟨vs, k1, _⟩ := cell; exact ⟨_, rfl, .base (.lst k1)⟩
      | inst n fs =>
        simp only [q] at h
        obtain ⟨C, dx, fv, k0, k1, _⟩ := cell
        exact own (Option.some.inj h).symm k0 k1
      | dead => simp only [q] at h; cases h
  | _ => cases h
theorem isAny_kit {tb : IsTab} (T : IsOk c tb) {θ : List Addr} {P : Hp} {t : Ty} {x : Value} (hx : valT c t = some x) : ∀ {us : List Ty} {ds : List D} {vs : List V} {b : Bool}, tysOf ds = some us → VRL c θ P ds vs → isAny tb t us = some b → ∃ ys, Paired ClsV vs ys ∧ PySem.W.kitAny c.K x ys = some b
  | us, [], _, b, h, r, k => by
    cases h
    cases r
    cases k
    exact ⟨[], .nil, kitAny_nil⟩
  | us, d :: ds, _, b, h, ⟨v, q, e, ra, rb⟩, k => by
    subst e
    unfold tysOf at h
    cases z : tyOfCls d with
    | none => rw [z] at h; cases h
    | some u =>
      cases z2 : tysOf ds with
      | none => rw [z, z2] at h; cases h
      | some us' =>
        rw [z, z2] at h
        cases h
        obtain ⟨y, hy, cv⟩ := clsV_of ra z
        unfold isAny at k
        cases z3 : isOne tb t u with
        | none => rw [z3] at k; cases k
        | some b1 =>
          rw [z3] at k
          obtain ⟨x', y', e1, e2, e3⟩ := isOne_kit T z3
          rw [hx] at e1; cases e1
          rw [hy] at e2; cases e2
          cases b1 with
          | true =>
            have hk : some true = some b := k
            cases hk
            obtain ⟨ys, p⟩ : ∃ ys, Paired ClsV q ys := by
              clear k z3 e3
              have all : ∀ {ds : List D} {us : List Ty} {q : List V}, tysOf ds = some us → VRL c θ P ds q → ∃ ys, Paired ClsV q ys := by
                intro ds
                induction ds with
                | nil => intro us q _ r; cases r; exact ⟨[], .nil⟩
                | cons d ds ih =>
                  intro us q h r
                  obtain ⟨v, q', e, ra, rb⟩ := r
                  subst e
                  unfold tysOf at h
                  cases z : tyOfCls d with
                  | none => rw [z] at h; cases h
                  | some u =>
                    cases z2 : tysOf ds with
                    | none => rw [z, z2] at h; cases h
                    | some us' =>
                      obtain ⟨y, _, cv⟩ := clsV_of ra z
                      obtain ⟨ys, p⟩ := ih z2 rb
                      exact ⟨y :: ys, .cons cv p⟩
              exact all z2 rb
            exact ⟨y :: ys, .cons cv p, kitAny_cons e3 (fun z => by cases z) fun _ => rfl⟩
          | false =>
            obtain ⟨ys, p, kk⟩ := isAny_kit T hx z2 rb k
            exact ⟨y :: ys, .cons cv p, kitAny_cons e3 (fun _ => kk) fun z => by cases z⟩
/-- a tuple of classes, wherever it lies -/
def rIsiS (K : PySem.W.Frag) : List V → Hp → VK → Prop := fun vs H Q => ∃ (x : V) (a : Addr) (qs : List V) (t : Value) (ws : List Value) (b : Bool), vs = [x, .ref a] ∧ SqT K H a qs ∧ Paired ClsV qs ws ∧ TyX K H x t ∧ PySem.W.kitAny K t ws = some b ∧ Q (.bl b) H
theorem call_isiS : CallR X (.builtin "isinstance") (rIsiS X.K) := by
  intro pins s σ H vs us Q I r h
  obtain ⟨x, a, qs, t, ws, b, rfl, hT, k, ty, e, q⟩ := h
  obtain ⟨u1, u2, rfl, r1, r2⟩ := vals2 r
  have r2' : u2 = Value.ref a := r2
  subst r2'
  obtain ⟨F, Z, p, hx⟩ := kit_of I r1 ty
  rcases hT with hT | ⟨o, its, n, h1, h2, h3, _, rv⟩
  · obtain ⟨_, its, rv, o, h1, h2, n, h3⟩ := hT.ok I.hok
    have e3 := ClsV.all k rv
    subst e3
    obtain ⟨oc, od, dt, sl⟩ := o
    simp only at h2 h3
    subst h2 h3
    exact PySem.W.kia_tup Z I.kIn p h1 e hx fun y => ⟨.bl b, H, I.tok y, rfl, q⟩
  · have e3 := ClsV.all k rv
    subst e3
    obtain ⟨oc, od, dt, sl⟩ := o
    simp only at h2 h3
    subst h2 h3
    exact PySem.W.kia_tup Z I.kIn p (I.kIn _ _ h1) e hx fun y => ⟨.bl b, H, I.tok y, rfl, q⟩
def rIsiA (K : PySem.W.Frag) : List V → Hp → VK → Prop := fun vs H Q => rIsi K vs H Q ∨ rIsiS K vs H Q
theorem call_isiA : CallR X (.builtin "isinstance") (rIsiA X.K) := CallR.or call_isi call_isiS
theorem isi1_read {tb : IsTab} (T : IsOk c tb) {θ : List Addr} {P H : Hp} {M : MS} {d e : D} {v v' : V} {Q : VK} {Wx : Value → Option Addr → Hp → Prop} (w : Wo c θ P H M) (r1 : VR c θ P d v) (r2 : VR c θ P e v') (o : OutE c θ P H Q Wx (isi1 tb d e M)) : rIsiA c.K [v, v'] H Q := by
  unfold isi1 at o
  cases h1 : tyN d M with
  | none => rw [h1] at o; exact o.elim
  | some t =>
    cases h2 : tyOfCls e with
    | none => rw [h1, h2] at o; exact o.elim
    | some u =>
      rw [h1, h2] at o
      cases h3 : isOne tb t u with
      | none => simp only [h3] at o; exact o.elim
      | some b =>
        simp only [h3] at o
        obtain ⟨x, k1, k2⟩ := tyX_of T w r1 h1 h3
        obtain ⟨y, k3, k4⟩ := clsV_of r2 h2
        obtain ⟨x', y', e1, e2, e3⟩ := isOne_kit T h3
        rw [k1] at e1; cases e1
        rw [k3] at e2; cases e2
        exact .inl ⟨v, v', x, y, b, rfl, k4, k2, e3, Out.now (R := RV c) w o rfl⟩
theorem isiN_read {tb : IsTab} (T : IsOk c tb) {θ : List Addr} {P H : Hp} {M : MS} {d : D} {cs : List D} {v v' : V} {Q : VK} {Wx : Value → Option Addr → Hp → Prop} (w : Wo c θ P H M) (r1 : VR c θ P d v) (r2 : VR c θ P (.tup cs) v') (o : OutE c θ P H Q Wx (isiN tb d cs M)) : rIsiA c.K [v, v'] H Q := by
  unfold isiN at o
  obtain ⟨a, qs, rfl, hq, rq⟩ := tup_read w r2
  cases h1 : tyN d M with
  | none => rw [h1] at o; exact o.elim
  | some t =>
    cases h2 : tysOf cs with
    | none => rw [h1, h2] at o; exact o.elim
    | some us =>
      cases us with
      | nil => rw [h1, h2] at o; exact o.elim
      | cons u us =>
        rw [h1, h2] at o
        cases h3 : isAny tb t (u :: us) with
        | none => simp only [h3] at o; exact o.elim
        | some b =>
          simp only [h3] at o
          obtain ⟨b1, hb1⟩ : ∃ b1, isOne tb t u = some b1 := by
            unfold isAny at h3
            cases z : isOne tb t u with
            | none => rw [z] at h3; cases h3
            | some b1 => exact ⟨b1, rfl⟩
          obtain ⟨x, k1, k2⟩ := tyX_of T w r1 h1 hb1
          obtain ⟨ys, p1, p2⟩ := isAny_kit T k1 h2 rq h3
          exact .inr ⟨v, a, qs, x, ys, b, rfl, hq, p1, k2, p2, Out.now (R := RV c) w o rfl⟩
theorem c_isi {tb : IsTab} (T : IsOk c tb) : CallD c (rIsiA c.K) (fIsi tb) := fun θ P H M ds vs Q Wx w r o => by
  cases ds with
  | nil => exact o.elim
  | cons d ds =>
    cases ds with
    | nil => exact o.elim
    | cons e ds =>
      cases ds with
      | cons _ _ => exact o.elim
      | nil =>
        obtain ⟨v, v', rfl, r1, r2⟩ := r.inv2
        have o' : OutE c θ P H Q Wx (isi tb d e M) := o
        cases e with
        | tup cs => exact isiN_read T w r1 r2 o'
        | _ => exact isi1_read T w r1 r2 o'
end
end Q

namespace Q
open PySem PySem.Spec PyProof.Rows L2

section
variable {X : Cx} {c : Cl} {W : WX} {E : XK} {elt tg iter : Expr} {ifs : List Expr} {scope : Scope} {own : List (Str × Nat)} {pos spos py : Pos} {g : TG} {gs : List Nat} {bd : D → Ev → Option Ev} {it : Rn (List D)} {t : Rn Bool} {e : Rn D} {i : Nat} {y : Str}
theorem s_lc (h : PE X (.ListComp elt [⟨tg, iter, ifs, 0⟩] scope pos) (tLc (liftI c W it) g (liftT c W0 t) (liftE c W0 e) (own.map (·.2)))) (ok : TgOk c g gs bd) (hsub : ∀ i ∈ gs, i ∈ own.map (·.2) := by decide) : PE X (.ListComp elt [⟨tg, iter, ifs, 0⟩] scope pos) (liftE c W (rLc it (own.map (·.2)) bd t e)) :=
  PE.imp h fun σ H Q q => lc_keep ok hsub q
theorem s_lcM (h : PE X (.ListComp elt [⟨tg, iter, ifs, 0⟩] scope pos) (tLc (liftI c W it) g (liftT c W0 t) (liftE c W0 e) (own.map (·.2)))) (ok : TgOk c g gs bd) (hsub : ∀ i ∈ gs, i ∈ own.map (·.2) := by decide) : PE X (.ListComp elt [⟨tg, iter, ifs, 0⟩] scope pos) (liftE c W (rLcM it (own.map (·.2)) bd t e)) :=
  PE.imp h fun σ H Q q => lc_keepM ok hsub q
theorem st_setLc (h : PS X (.Assign [.Name y py] (.ListComp elt [⟨tg, iter, ifs, 0⟩] scope pos) spos) (tAsg (tLc (liftI c W it) g (liftT c W0 t) (liftE c W0 e) (own.map (·.2))) (gName i))) (ok : TgOk c g gs bd) (hsub : ∀ i ∈ gs, i ∈ own.map (·.2) := by decide) :
    PS X (.Assign [.Name y py] (.ListComp elt [⟨tg, iter, ifs, 0⟩] scope pos) spos) (liftS c W (rAsg (rLc it (own.map (·.2)) bd t e) (bName i))) :=
  PS.imp h fun E σ H q => asg_run tg_name q fun _ z => lc_keep ok hsub z
theorem st_setLcM (h : PS X (.Assign [.Name y py] (.ListComp elt [⟨tg, iter, ifs, 0⟩] scope pos) spos) (tAsg (tLc (liftI c W it) g (liftT c W0 t) (liftE c W0 e) (own.map (·.2))) (gName i))) (ok : TgOk c g gs bd) (hsub : ∀ i ∈ gs, i ∈ own.map (·.2) := by decide) :
    PS X (.Assign [.Name y py] (.ListComp elt [⟨tg, iter, ifs, 0⟩] scope pos) spos) (liftS c W (rAsg (rLcM it (own.map (·.2)) bd t e) (bName i))) :=
  PS.imp h fun E σ H q => asg_run tg_name q fun _ z => lc_keepM ok hsub z
/-- no test, one test -/
theorem ts_nil : PTs X [] (liftT c W rTrue) := ⟨fun pins s σ H Q I ⟨ρ, M, θ, P, w, er, o⟩ => pts_nil.run pins s σ H Q I (Out.now (R := RB) w o rfl)⟩
end
end Q

namespace Q
open PySem PySem.Spec PyProof.Rows L2

/-! ### what the head tells -/
structure Kn (fa : List He.Fa) (fn : List He.DefD) (c : Cl) (mg : Str → Option Value) : Prop where
  fact : ∀ (i : Nat) (f : He.Fa), fa[i]? = some f → f.ok c.K = true
  defd : ∀ (i : Nat) (d : He.DefD), fn[i]? = some d → ∃ fd, FunD c.K d.name d.qual d.params d.body d.scope (d.dvs c.K) (d.kws c.K) (He.fAd c.K d.at_) fd
  home : ∃ h : Heap, c.K.In h ∧ h.Ns mainGlobals mg
section
variable {fa : List He.Fa} {fn : List He.DefD} {c : Cl} {mg : Str → Option Value}
theorem Kn.glo (S : Kn fa fn c mg) (i : Nat) {x : Str} (h : fa[i]? = some (.glo x) := by rfl) : mg x = some (.ref (He.ga c.K x)) := by
  obtain ⟨hp, X, G⟩ := S.home
  exact He.glo_ok X G (S.fact i _ h)
theorem Kn.free (S : Kn fa fn c mg) (i : Nat) {x : Str} (h : fa[i]? = some (.free x) := by rfl) : mg x = none := by
  obtain ⟨hp, X, G⟩ := S.home
  exact He.free_ok X G (S.fact i _ h)
theorem Kn.int (S : Kn fa fn c mg) (i : Nat) {x : Str} {z : Int} (h : fa[i]? = some (.int x z) := by rfl) : ∃ t, mg x = some (.int z t) := by
  obtain ⟨hp, X, G⟩ := S.home
  exact He.int_ok X G (S.fact i _ h)
theorem Kn.str (S : Kn fa fn c mg) (i : Nat) {x z : Str} (h : fa[i]? = some (.str x z) := by rfl) : ∃ t, mg x = some (.str z t) := by
  obtain ⟨hp, X, G⟩ := S.home
  exact He.str_ok X G (S.fact i _ h)
end
/-- a def as its callers know it -/
structure Df (P : Program) (w : World) (c : Cl) (mg : Str → Option Value) (base : Heap) (d : He.DefD) (k : Nat) (ps : List Str) (run : Fn) : Prop where
  ex : ∃ fd, FnOk P w c.K mg base (L2.CX P w) k (He.fAd c.K d.at_) fd ps (spF c ps.length run) ∧ FunD c.K d.name d.qual d.params d.body d.scope (d.dvs c.K) (d.kws c.K) (He.fAd c.K d.at_) fd
section
variable {P : Program} {w : World} {c : Cl} {mg : Str → Option Value} {base : Heap} {d : He.DefD} {k : Nat} {ps : List Str} {run : Fn}
theorem Df.never {fa : List He.Fa} {fn : List He.DefD} (S : Kn fa fn c mg) (i : Nat) (h : fn[i]? = some d := by rfl) : Df P w c mg base d k ps (fun _ _ => .stuck) := by
  obtain ⟨fd, F⟩ := S.defd i d h
  exact ⟨fd, fn_never, F⟩
end
section
variable {K : PySem.W.Frag} {x qual : Str} {params : Arguments} {body : List Stmt} {scope : Scope} {dvs : List V} {f : Addr} {fd : FuncData} {ps ks : List Str} {ix : List Ar} {np : Nat}
theorem bnd_no (F : FunD K x qual params body scope [] [] f fd)
    (h : ∀ (kV doc pm : Value) (an : Option Addr) (cdv ct : Value) (us ws : List Value), us.length = np → ws.length = ks.length → bindArgs (PySem.W.fnOf x qual params body scope .none kV doc pm an cdv ct) ⟨us, ks.zip ws⟩ = pure (ps.zip (arr ix us ws []))) : Bnd K fd ps np ks ix [] := by
  obtain ⟨oc, od, dV, kV, doc, pm, an, cdv, ct, osl, rfl, lk, hcd, hD, hK⟩ := F.ex
  rcases hD with ⟨_, rfl⟩ | ⟨e, _⟩
  · exact ⟨fun s us ws _ l1 l2 => .of_eq (h kV doc pm an cdv ct us ws l1 l2)⟩
  · exact absurd rfl e
end
section
variable {X : Cx} {c : Cl} {W : WX} {E : XK} {k : Nat} {d : He.DefD} {ps ks : List Str} {ix : List Ar} {run : Fn} {x : Str} {p pos : Pos} {e : Expr} {es : List Expr} {kws : List Keyword} {ra rk : Rn (List D)}
/-- f(e, ..), every parameter given by place -/
theorem s_cD (m : Md X c W E) (F : Df X.prog X.w c X.mg X.base d k ps run) (hr : Room k X.A) (hm : X.mg x = some (.ref (He.fAd c.K d.at_))) (hd : d.dfl = []) (hk : d.kwd = [])
    (hb : ∀ (kV doc pm : Value) (an : Option Addr) (cdv ct : Value) (us : List Value), us.length = ps.length → bindArgs (PySem.W.fnOf d.name d.qual d.params d.body d.scope .none kV doc pm an cdv ct) ⟨us, []⟩ = pure (ps.zip us)) (ha : PA X (e :: es) (liftA c W ra))
    (hg : Gl X x := by rfl) (hdb : (x == ("__debug__" : Str)) = false := by decide) (he : starEach (e :: es) X.env = (false, eval e X.env) :: starEach es X.env := by rfl) (hpl : (backTo pos (starEach es X.env)).any (·.1) = false := by rfl) :
    PE X (.Call (.Name x p) (e :: es) [] pos) (liftE c W (rCall ps.length run [] ra)) := by
  obtain ⟨fd, h1, h2⟩ := F.ex
  have e1 : d.dvs c.K = [] := by unfold He.DefD.dvs; rw [hd]; rfl
  have e2 : d.kws c.K = [] := by unfold He.DefD.kws; rw [hk]; rfl
  rw [e1, e2] at h2
  rw [m.k] at h1 h2 hm
  exact s_call m h1 hr hm h2.kp (h2.bindsN hb) ha hg hdb he hpl
theorem s_cD0 (m : Md X c W E) (F : Df X.prog X.w c X.mg X.base d k [] run) (hr : Room k X.A) (hm : X.mg x = some (.ref (He.fAd c.K d.at_))) (hd : d.dfl = []) (hk : d.kwd = [])
    (hb : ∀ (kV doc pm : Value) (an : Option Addr) (cdv ct : Value) (us : List Value), us.length = 0 → bindArgs (PySem.W.fnOf d.name d.qual d.params d.body d.scope .none kV doc pm an cdv ct) ⟨us, []⟩ = pure (([] : List Str).zip us))
    (hg : Gl X x := by rfl) (hdb : (x == ("__debug__" : Str)) = false := by decide) :
    PE X (.Call (.Name x p) [] [] pos) (liftE c W (rCall 0 run [] rNil)) := by
  obtain ⟨fd, h1, h2⟩ := F.ex
  have e1 : d.dvs c.K = [] := by unfold He.DefD.dvs; rw [hd]; rfl
  have e2 : d.kws c.K = [] := by unfold He.DefD.kws; rw [hk]; rfl
  rw [e1, e2] at h2
  rw [m.k] at h1 h2 hm
  exact s_call0 (n := 0) m h1 hr hm h2.kp (h2.bindsN hb) hg hdb
/-- f(e, .., k = ..), no defaults used -/
theorem s_cK (m : Md X c W E) (F : Df X.prog X.w c X.mg X.base d k ps run) (hr : Room k X.A) (hm : X.mg x = some (.ref (He.fAd c.K d.at_))) (hd : d.dfl = []) (hk : d.kwd = [])
    (hb : ∀ (kV doc pm : Value) (an : Option Addr) (cdv ct : Value) (us ws : List Value), us.length = (e :: es).length → ws.length = ks.length → bindArgs (PySem.W.fnOf d.name d.qual d.params d.body d.scope .none kV doc pm an cdv ct) ⟨us, ks.zip ws⟩ = pure (ps.zip (arr ix us ws []))) (ha : PA X (e :: es) (liftA c W ra)) (hkw : PK X kws (liftA c W rk))
    (hg : Gl X x := by rfl) (hdb : (x == ("__debug__" : Str)) = false := by decide) (hall : (backToKw pos (keywordEach kws X.env)).all (·.1.isSome) = true := by rfl) (hks : (backToKw pos (keywordEach kws X.env)).filterMap (·.1) = ks := by rfl)
    (he : starEach (e :: es) X.env = (false, eval e X.env) :: starEach es X.env := by rfl) (hpl : ((backTo pos (starEach (e :: es) X.env)).any (·.1) || (backToKw pos (keywordEach kws X.env)).any (·.1.isNone)) = false := by rfl) :
    PE X (.Call (.Name x p) (e :: es) kws pos) (liftE c W (rArgs (e :: es).length ks.length ps.length run ix [] ra rk)) := by
  obtain ⟨fd, h1, h2⟩ := F.ex
  have e1 : d.dvs c.K = [] := by unfold He.DefD.dvs; rw [hd]; rfl
  have e2 : d.kws c.K = [] := by unfold He.DefD.kws; rw [hk]; rfl
  rw [e1, e2] at h2
  rw [m.k] at h1 h2 hm
  exact s_callG m h1 hr hm h2.kp (bnd_no h2 hb) .nil (fun _ _ => rfl) ha hkw hg hdb hall hks he hpl
theorem s_cK0 (m : Md X c W E) (F : Df X.prog X.w c X.mg X.base d k ps run) (hr : Room k X.A) (hm : X.mg x = some (.ref (He.fAd c.K d.at_))) (hd : d.dfl = []) (hk : d.kwd = [])
    (hb : ∀ (kV doc pm : Value) (an : Option Addr) (cdv ct : Value) (us ws : List Value), us.length = 0 → ws.length = ks.length → bindArgs (PySem.W.fnOf d.name d.qual d.params d.body d.scope .none kV doc pm an cdv ct) ⟨us, ks.zip ws⟩ = pure (ps.zip (arr ix us ws []))) (hkw : PK X kws (liftA c W rk))
    (hg : Gl X x := by rfl) (hdb : (x == ("__debug__" : Str)) = false := by decide) (hall : (backToKw pos (keywordEach kws X.env)).all (·.1.isSome) = true := by rfl) (hks : (backToKw pos (keywordEach kws X.env)).filterMap (·.1) = ks := by rfl)
    (hpl : ((backTo pos (starEach [] X.env)).any (·.1) || (backToKw pos (keywordEach kws X.env)).any (·.1.isNone)) = false := by rfl) :
    PE X (.Call (.Name x p) [] kws pos) (liftE c W (rArgs 0 ks.length ps.length run ix [] rNil rk)) := by
  obtain ⟨fd, h1, h2⟩ := F.ex
  have e1 : d.dvs c.K = [] := by unfold He.DefD.dvs; rw [hd]; rfl
  have e2 : d.kws c.K = [] := by unfold He.DefD.kws; rw [hk]; rfl
  rw [e1, e2] at h2
  rw [m.k] at h1 h2 hm
  exact s_callG0 m h1 hr hm h2.kp (bnd_no h2 hb) .nil (fun _ _ => rfl) hkw hg hdb hall hks hpl
/-- the module's constants -/
theorem s_gint {z : Int} (hm : ∃ t, X.mg x = some (.int z t)) (hg : Gl X x := by rfl) (hd : (x == ("__debug__" : Str)) = false := by decide) : PE X (.Name x p) (liftE c W (rC (.int z))) := by
  obtain ⟨t, e⟩ := hm
  exact s_const (v := .int z) (pe_glob hg e ⟨t, rfl⟩ hd) fun _ _ => rfl
theorem s_gstr {z : Str} (hm : ∃ t, X.mg x = some (.str z t)) (hg : Gl X x := by rfl) (hd : (x == ("__debug__" : Str)) = false := by decide) : PE X (.Name x p) (liftE c W (rC (.str z))) := by
  obtain ⟨t, e⟩ := hm
  exact s_const (v := .str z) (pe_glob hg e ⟨t, rfl⟩ hd) fun _ _ => rfl
/-- a built-in class as a value -/
theorem s_ty {n : String} (hm : X.mg x = none) (hv : bootBuiltins x = some (.type n)) (hg : Gl X x := by rfl) (hn : x ≠ "__name__" := by decide) (hd : (x == ("__debug__" : Str)) = false := by decide) : PE X (.Name x p) (liftE c W (rC (.ty n))) :=
  s_const (v := .ty n) (pe_bltn hg hm hv rfl hn hd) fun _ _ => rfl
/-- a class of the program as a value -/
theorem s_cls {n : Str} {a : Addr} (hm : X.mg x = some (.ref a)) (hc : c.adr n = some a) (hg : Gl X x := by rfl) (hd : (x == ("__debug__" : Str)) = false := by decide) : PE X (.Name x p) (liftE c W (rC (.cls n))) :=
  s_const (v := .ref a) (pe_glob hg hm rfl hd) fun _ _ => ⟨a, hc, rfl⟩
end
/-! ### the law's end, the exceptions by the world -/
theorem law_end {l : PySem.W.OpenLaw} {n k : Nat} {q : Program} {loose : List Str} {XQ : (Str → Option Value) → Heap → Prop} {YQ : World → Heap → Prop} {d : DefRec} {x : Str} (hn : l.most = some n) (hn2 : n ≤ sizeLine) (hdf : d.params.defaults = []) (hr : Room k callerA)
    (go : ∀ (w : World) (mg : Str → Option Value) (fa : Addr) (h : Heap), YQ w h → h.Ns mainGlobals mg → mg d.name = some (.ref fa) → ∃ (c : Cl) (fd : FuncData) (run : Fn), c.K.In h ∧ (∀ (s : Shared) (u : Value), BindsTo s fd ⟨[u], []⟩ [(x, u)]) ∧
      (∀ ns : List Int, ns.length ≤ n → ∃ M', run [.scr (ns.map D.int)] [] = .ok (.bl true) M') ∧ ∀ base : Heap, c.K.In base → base.Ns mainGlobals mg → FnOk l.prog w c.K mg base (L2.CX l.prog w) k fa fd [x] (spF c 1 run)) :
    PySem.W.WalkO q loose XQ YQ l.row.toRowW d [] (fun f vs => PySem.call f vs) := by
  refine Att.attach_call hn hdf fun w s₀ s₁ mg mb fa o pm cd doc a vs ns G Y ho hd hcd hmg hobj hints hlen hg => ?_
  obtain ⟨c, fd, run, KX, hb, hp, hF⟩ := go w mg fa _ Y G.T.g hmg
  exact law_call (sp := spF c 1 run) KX G.T.g G.T.b G.T.builtins G.T.nolimit hg hobj hints (Nat.le_trans hlen hn2) hr hF hb (fun H _ hS => law_sp hS (hp ns hlen)) fun H e s' => cx_end
/-- one function object -/
theorem funD_one {K : PySem.W.Frag} {x x' qual qual' : Str} {ps ps' : Arguments} {b b' : List Stmt} {sc sc' : Scope} {dv dv' : List V} {kw kw' : List (Str × V)} {f : Addr} {fd fd' : FuncData} (h : FunD K x qual ps b sc dv kw f fd) (h' : FunD K x' qual' ps' b' sc' dv' kw' f fd') : fd = fd' := by
  obtain ⟨oc, od, dV, kV, doc, pm, an, cdv, ct, osl, e3, lk3, _⟩ := h.ex
  obtain ⟨oc', od', dV', kV', doc', pm', an', cdv', ct', osl', e4, lk4, _⟩ := h'.ex
  have := lk3.symm.trans lk4
  simp only [Option.some.injEq, Obj.mk.injEq, Data.func.injEq] at this
  exact this.2.2.1
end Q

namespace Q
open PySem
/-! ### plain laws of the readings -/
theorem trim_same {M M' : MS} {d : D} (h : M'.length = M.length) : trim M (.ok d M') = .ok d M' := by
  show (if M'.length = M.length then Res.ok d M' else _) = _
  rw [if_pos h]
theorem trim_same' {M : MS} {d : D} : trim M (.ok d M) = .ok d M := trim_same rfl
theorem loopC_all {ρ : Ev} {bd : D → Ev → Option Ev} {t : Rn Bool} {e : Rn D} (I : MS → Prop) (R : D → Prop) : ∀ (ds : List D) (M : MS), I M → (∀ d ∈ ds, ∀ M, I M → ∃ ρ' y M', bd d ρ = some ρ' ∧ t ρ' M = .ok true M ∧ e ρ' M = .ok y M' ∧ I M' ∧ R y) → ∃ ys M', loopC ρ bd t e ds M = .ok ys M' ∧ I M' ∧ ys.length = ds.length ∧ ∀ y ∈ ys, R y
  | [], M, hI, _ => ⟨[], M, rfl, hI, rfl, fun _ m => nomatch m⟩
  | d :: ds, M, hI, h => by
    obtain ⟨ρ', y, M1, h1, h2, h3, h4, h5⟩ := h d List.mem_cons_self M hI
    obtain ⟨ys, M2, k1, k2, k3, k4⟩ := loopC_all I R ds M1 h4 fun d' m => h d' (List.mem_cons_of_mem _ m)
    refine ⟨y :: ys, M2, by simp only [loopC, h1, h2, h3, calmly, Res.bind, if_true, k1], k2, by simp [k3], fun z m => ?_⟩
    rcases List.mem_cons.mp m with rfl | m
    · exact h5
    · exact k4 z m
/-- the element a function of the item, the store untouched -/
theorem loopC_map {ρ : Ev} {bd : D → Ev → Option Ev} {e : Rn D} {M : MS} (f : D → D) : ∀ ds : List D, (∀ d ∈ ds, ∃ ρ', bd d ρ = some ρ' ∧ e ρ' M = .ok (f d) M) → loopC ρ bd rTrue e ds M = .ok (ds.map f) M
  | [], _ => rfl
  | d :: ds, h => by
    obtain ⟨ρ', h1, h2⟩ := h d List.mem_cons_self
    have ih := loopC_map f ds fun d' m => h d' (List.mem_cons_of_mem _ m)
    simp only [loopC, h1, rTrue, h2, calmly, Res.bind, if_true, ih, List.map_cons]
theorem loopF_all {bd : D → Ev → Option Ev} {body : Sn} (J : Ev → MS → Prop) : ∀ (ds : List D) (ρ : Ev) (M : MS), J ρ M → (∀ d ∈ ds, ∀ ρ M, J ρ M → ∃ ρ', bd d ρ = some ρ' ∧ ∃ ρ2 M2, body ρ' M = .nx ρ2 M2 ∧ J ρ2 M2) → ∃ ρ' M', loopF bd body ds ρ M = .nx ρ' M' ∧ J ρ' M'
  | [], ρ, M, hJ, _ => ⟨ρ, M, rfl, hJ⟩
  | d :: ds, ρ, M, hJ, h => by
    obtain ⟨ρ', h1, ρ2, M2, h2, h3⟩ := h d List.mem_cons_self ρ M hJ
    obtain ⟨ρ3, M3, k1, k2⟩ := loopF_all J ds ρ2 M2 h3 fun d' m => h d' (List.mem_cons_of_mem _ m)
    exact ⟨ρ3, M3, by simp only [loopF, h1, h2, k1], k2⟩
theorem opMod_pos {i j : Int} {M : MS} (h : 0 < j) : opMod (.int i) (.int j) M = .ok (.int (i % j)) M := by
  simp only [opMod, rGuard, h, decide_true, if_true]
theorem opDiv_pos {i j : Int} {M : MS} (h : 0 < j) (h2 : j < 1073741824) : opDiv (.int i) (.int j) M = .ok (.int (i / j)) M := by
  simp only [opDiv, rGuard, h, h2, and_self, decide_true, if_true]
theorem opMul_r {i j : Int} {M : MS} (h : low64 j = true) : opMul (.int i) (.int j) M = .ok (.int (i * j)) M := by
  simp only [opMul, rGuard, h, Bool.or_true, if_true]
theorem opMul_l {i j : Int} {M : MS} (h : low64 i = true) : opMul (.int i) (.int j) M = .ok (.int (i * j)) M := by
  simp only [opMul, rGuard, h, Bool.true_or, if_true]
theorem cut_head {α : Type} {l : List α} {n : Nat} (h : l.length ≤ n) : cutD l none (some (n : Int)) = l := by
  unfold cutD
  have e1 : HT.sIx l.length 0 none = 0 := rfl
  have e2 : HT.sIx l.length l.length (some (n : Int)) = l.length := by
    unfold HT.sIx
    simp only
    rw [if_neg (by omega)]
    simp [h]
  rw [e1, e2]
  simp
end Q
namespace Q
open PySem
theorem bools_map {α : Type} (g : α → Bool) : ∀ l : List α, boolsOf (l.map fun x => D.bl (g x)) = some (l.map g)
  | [] => rfl
  | a :: l => by
    have ih := bools_map g l
    simp only [List.map_cons, boolsOf, ih]
    rfl
theorem lstOf_lst {ds : List D} {M : MS} : lstOf (.lst ds) M = some ds := rfl
def letterIn (z : Str) : D → D
  | .str ⟨a⟩ => match a.toList with
    | [k] => .bl (decide (k ∈ z.cps.toList))
    | _ => .non
  | _ => .non
theorem letters_map (z s : Str) : (chars s).map (letterIn z) = s.cps.toList.map fun k => D.bl (decide (k ∈ z.cps.toList)) := by
  unfold chars
  rw [List.map_map]
  rfl
theorem chars_len (s : Str) : (chars s).length = s.length := by
  unfold chars
  simp [Str.length]
theorem kb1 : L2.kitB "str" "str" = some true := by decide +kernel
theorem kb2 : L2.kitB "int" "str" = some false := by decide +kernel
theorem kb3 : L2.kitB "NoneType" "str" = some false := by decide +kernel
theorem kb4 : L2.kitB "bool" "str" = some false := by decide +kernel
theorem kb5 : L2.kitB "tuple" "str" = some false := by decide +kernel
theorem kb6 : L2.kitB "list" "str" = some false := by decide +kernel
theorem kb7 : L2.kitB "bool" "bool" = some true := by decide +kernel
theorem isi_str {tb : IsTab} {d : D} {n : String} {b : Bool} {M : MS} (h : tyN d M = some (.inl n)) {m : String} (hb : L2.kitB n m = some b) : fIsi tb [d, .ty m] M = .ok (.bl b) M := by
  show isi1 tb d (.ty m) M = _
  unfold isi1
  rw [h]
  show (match isOne tb (.inl n) (.inl m) with
    | some b => Res.ok (D.bl b) M
    | none => .stuck) = _
  show (match L2.kitB n m with
    | some b => Res.ok (D.bl b) M
    | none => .stuck) = _
  rw [hb]
end Q

namespace K02
open PySem PySem.Spec PyProof.Rows L2 Q
def top (i : Nat) : Stmt := PySem.Challenge.pw_queuecut_k02_names.main.body.getD i (.Pass ⟨0, 0, 0, 0⟩)
theorem bt_str : bootBuiltins "str" = some (.type "str") := by decide +kernel
theorem bt_isinstance : bootBuiltins "isinstance" = some (.builtin "isinstance") := by decide +kernel
theorem bt_len : bootBuiltins "len" = some (.builtin "len") := by decide +kernel
theorem bt_all : bootBuiltins "all" = some (.builtin "all") := by decide +kernel
theorem bt_int : bootBuiltins "int" = some (.type "int") := by decide +kernel
theorem bt_bool : bootBuiltins "bool" = some (.type "bool") := by decide +kernel
theorem bt_list : bootBuiltins "list" = some (.type "list") := by decide +kernel
theorem bt_tuple : bootBuiltins "tuple" = some (.type "tuple") := by decide +kernel
abbrev s_is_name : Stmt := top 3
abbrev N_is_name : List Str := ["value", "letter"]
theorem sc_is_name : FnScope N_is_name ["value"] (defScope s_is_name) := ⟨rfl, rfl, rfl, by decide +kernel, rfl, by decide +kernel, by decide +kernel⟩
def d_is_name : He.DefD := ⟨("is_name", none), "is_name", "is_name", defArgs s_is_name, defBody s_is_name, defScope s_is_name, [], []⟩
abbrev s__law_deal : Stmt := top 5
abbrev N__law_deal : List Str := ["_law_script", "_law_cells", "_law_mark", "_law_cell"]
theorem sc__law_deal : FnScope N__law_deal ["_law_script"] (defScope s__law_deal) := ⟨rfl, rfl, rfl, by decide +kernel, rfl, by decide +kernel, by decide +kernel⟩
def d__law_deal : He.DefD := ⟨("_law_deal", none), "_law_deal", "_law_deal", defArgs s__law_deal, defBody s__law_deal, defScope s__law_deal, [], []⟩
abbrev s__law_pick : Stmt := top 6
abbrev N__law_pick : List Str := ["_law_deal_here", "_law_many", "_law_drawn", "_law_cell", "_law_first", "_law_second"]
theorem sc__law_pick : FnScope N__law_pick ["_law_deal_here", "_law_many"] (defScope s__law_pick) := ⟨rfl, rfl, rfl, by decide +kernel, rfl, by decide +kernel, by decide +kernel⟩
def d__law_pick : He.DefD := ⟨("_law_pick", none), "_law_pick", "_law_pick", defArgs s__law_pick, defBody s__law_pick, defScope s__law_pick, [], []⟩
abbrev s__law_of : Stmt := top 7
abbrev N__law_of : List Str := ["_law_deal_here", "_law_items"]
theorem sc__law_of : FnScope N__law_of ["_law_deal_here", "_law_items"] (defScope s__law_of) := ⟨rfl, rfl, rfl, by decide +kernel, rfl, by decide +kernel, by decide +kernel⟩
def d__law_of : He.DefD := ⟨("_law_of", none), "_law_of", "_law_of", defArgs s__law_of, defBody s__law_of, defScope s__law_of, [], []⟩
abbrev s__law_same : Stmt := top 8
abbrev N__law_same : List Str := ["_law_found", "_law_due", "_law_one", "_law_two"]
theorem sc__law_same : FnScope N__law_same ["_law_found", "_law_due"] (defScope s__law_same) := ⟨rfl, rfl, rfl, by decide +kernel, rfl, by decide +kernel, by decide +kernel⟩
def d__law_same : He.DefD := ⟨("_law_same", none), "_law_same", "_law_same", defArgs s__law_same, defBody s__law_same, defScope s__law_same, [], []⟩
abbrev s__law_is_name : Stmt := top 9
abbrev N__law_is_name : List Str := ["_law_value_z", "_law_letter"]
theorem sc__law_is_name : FnScope N__law_is_name ["_law_value_z"] (defScope s__law_is_name) := ⟨rfl, rfl, rfl, by decide +kernel, rfl, by decide +kernel, by decide +kernel⟩
def d__law_is_name : He.DefD := ⟨("_law_is_name", none), "_law_is_name", "_law_is_name", defArgs s__law_is_name, defBody s__law_is_name, defScope s__law_is_name, [], []⟩
abbrev s_law : Stmt := top 10
abbrev N_law : List Str := ["_law_script", "_law_deal_here", "_law_turn", "_law_text", "_law_spot", "_law_odd", "_law_k"]
theorem sc_law : FnScope N_law ["_law_script"] (defScope s_law) := ⟨rfl, rfl, rfl, by decide +kernel, rfl, by decide +kernel, by decide +kernel⟩
def d_law : He.DefD := ⟨("law", none), "law", "law", defArgs s_law, defBody s_law, defScope s_law, [], []⟩
def fns : List He.DefD := [d_is_name, d__law_deal, d__law_pick, d__law_of, d__law_same, d__law_is_name, d_law]
def fas : List He.Fa := [.free "str", .free "isinstance", .free "len", .int "MOST_LETTERS" 6, .str "LETTERS" "abcdefghijklmnopqrstuvwxyz", .free "all", .free "int", .glo "_law_pick", .free "bool", .free "list", .free "tuple", .free "zip", .glo "_law_same", .glo "_law_deal", .free "range", .glo "_law_of", .glo "_law_is_name", .glo "is_name", .glo "law"]
def tb : IsTab := []
noncomputable def r_is_name : Sn :=
  (rThen (rIfS (rOrT (rNotT (rB (rFun (fIsi tb) (rCons (rV 0) (rCons (rC (.ty "str")) rNil))))) (rNotT (rB (rChain (opI fun i j => decide (i ≤ j)) (opI fun i j => decide (i ≤ j)) (rC (.int 1)) (rFun fLen (rCons (rV 0) rNil)) (rC (.int 6)))))) (rRet (rC (.bl false))) rNx)
  (rRet (rFun (fAll false) (rCons (rLc (rItems (rV 0)) [1] (bName 1) rTrue (rOp2 (opInS false) (rV 1) (rC (.str "abcdefghijklmnopqrstuvwxyz")))) rNil))))
noncomputable def f_is_name : Fn := fn 2 r_is_name
noncomputable def r__law_deal : Sn :=
  (rThen (rAsg (rLc (rItems (rSl (rV 0) (rOpt none) (rOpt (some (rC (.int 63)))))) [3] (bName 3) rTrue (rFun fInt (rCons (rV 3) rNil))) (bName 1))
  (rThen (rAsg (rOp2 opAdd (rC (.int 5760)) (rOp2 opMul (rC (.int 83)) (rFun fLen (rCons (rV 1) rNil)))) (bName 2))
  (rThen (rFor (rItems (rV 1)) (bName 3) (rAsg (rOp2 opMod (rFun fInt (rCons (rOp2 opAdd (rOp2 opMul (rV 2) (rC (.int 6521))) (rV 3)) rNil)) (rC (.int 2147483543))) (bName 2)))
  (rRet (rLstM (rCons (rV 1) (rCons (rC (.int 0)) (rCons (rC (.int 0)) (rCons (rV 2) rNil)))))))))
noncomputable def f__law_deal : Fn := fnM 4 r__law_deal
noncomputable def r__law_pick : Sn :=
  (rThen (rIfS (rB (rOp2 (opI fun i j => decide (i < j)) (rOp2 opIx (rV 0) (rC (.int 2))) (rC (.int 2)))) (rThen (rPut (rOp2 opAdd (rOp2 opIx (rV 0) (rC (.int 1))) (rC (.int 1))) (rV 0) (rC (.int 1)))
  (rThen (rAsg (rOp2 opAdd (rOp2 opIx (rV 0) (rC (.int 3))) (rOp2 opMul (rOp2 opIx (rV 0) (rC (.int 1))) (rC (.int 9157)))) (bName 3))
  (rThen (rIfS (rB (rOp2 (opI fun i j => decide (i ≤ j)) (rOp2 opIx (rV 0) (rC (.int 1))) (rFun fLen (rCons (rOp2 opIx (rV 0) (rC (.int 0))) rNil)))) (rAsg (rOp2 opIx (rOp2 opIx (rV 0) (rC (.int 0))) (rOp2 opSub (rOp2 opIx (rV 0) (rC (.int 1))) (rC (.int 1)))) (bName 3)) rNx)
  (rThen (rIfS (rOrT (rB (rOp2 (opI fun i j => decide (j < i)) (rOp2 opIx (rV 0) (rC (.int 1))) (rFun fLen (rCons (rOp2 opIx (rV 0) (rC (.int 0))) rNil)))) (rB (rOp2 (opI fun i j => decide (i < j)) (rV 3) (rOp2 opPow (rC (.int 10)) (rC (.int 18)))))) (rThen (rAsg (rOp2 opMod (rFun fInt (rCons (rOp2 opAdd (rOp2 opAdd (rOp2 opMul (rV 3) (rC (.int 41039))) (rOp2 opMul (rOp2 opIx (rV 0) (rC (.int 1))) (rC (.int 38561)))) (rOp2 opIx (rV 0) (rC (.int 3)))) rNil)) (rC (.int 2147483647))) (bName 4))
  (rThen (rAsg (rOp2 opMod (rFun fInt (rCons (rOp2 opAdd (rOp2 opMul (rV 4) (rV 4)) (rOp2 opMul (rOp2 opIx (rV 0) (rC (.int 1))) (rC (.int 51551)))) rNil)) (rC (.int 998244353))) (bName 5))
  (rRet (rOp2 opMod (rOp2 opDiv (rOp2 opMod (rFun fInt (rCons (rOp2 opAdd (rOp2 opMul (rV 5) (rC (.int 47917))) (rV 4)) rNil)) (rC (.int 2147483629))) (rC (.int 19))) (rV 1))))) rNx)
  (rPut (rV 3) (rV 0) (rC (.int 2))))))) rNx)
  (rThen (rAsg (rOp2 opMod (rFun fInt (rCons (rOp2 opIx (rV 0) (rC (.int 2))) rNil)) (rV 1)) (bName 2))
  (rThen (rPut (rOp2 opDiv (rFun fInt (rCons (rOp2 opIx (rV 0) (rC (.int 2))) rNil)) (rV 1)) (rV 0) (rC (.int 2)))
  (rRet (rV 2)))))
noncomputable def f__law_pick : Fn := fnM 6 r__law_pick
noncomputable def r__law_of : Sn :=
  (rRet (rOp2 opIx (rV 1) (rCall 2 f__law_pick [] (rCons (rV 0) (rCons (rFun fLen (rCons (rV 1) rNil)) rNil)))))
noncomputable def f__law_of : Fn := fn 2 r__law_of
noncomputable def r__law_same (g : Fn) : Sn :=
  (rThen (rIfS (rB (rOp2 (opIsN false) (rV 1) (rC .non))) (rRet (rOp2 (opIsN false) (rV 0) (rC .non))) rNx)
  (rThen (rIfS (rOrT (rB (rFun (fIsi tb) (rCons (rV 1) (rCons (rC (.ty "bool")) rNil)))) (rB (rFun (fIsi tb) (rCons (rV 0) (rCons (rC (.ty "bool")) rNil))))) (rRet (rAndV (rFun (fIsi tb) (rCons (rV 1) (rCons (rC (.ty "bool")) rNil))) (rAndV (rFun (fIsi tb) (rCons (rV 0) (rCons (rC (.ty "bool")) rNil))) (rOp2 (opEq false) (rV 0) (rV 1))))) rNx)
  (rThen (rIfS (rB (rFun (fIsi tb) (rCons (rV 1) (rCons (rTup (rCons (rC (.ty "int")) (rCons (rC (.ty "str")) rNil))) rNil)))) (rRet (rAndV (rFun (fIsi tb) (rCons (rV 0) (rCons (rTup (rCons (rC (.ty "int")) (rCons (rC (.ty "str")) rNil))) rNil))) (rAndV (rOp2 (opEq false) (rFun (fIsi tb) (rCons (rV 0) (rCons (rC (.ty "int")) rNil))) (rFun (fIsi tb) (rCons (rV 1) (rCons (rC (.ty "int")) rNil)))) (rOp2 (opEq false) (rV 0) (rV 1))))) rNx)
  (rThen (rIfS (rOrT (rB (rOp2 (opEq true) (rFun (fIsi tb) (rCons (rV 1) (rCons (rC (.ty "list")) rNil))) (rFun (fIsi tb) (rCons (rV 0) (rCons (rC (.ty "list")) rNil))))) (rB (rOp2 (opEq true) (rFun (fIsi tb) (rCons (rV 1) (rCons (rC (.ty "tuple")) rNil))) (rFun (fIsi tb) (rCons (rV 0) (rCons (rC (.ty "tuple")) rNil)))))) (rRet (rC (.bl false))) rNx)
  (rRet (rAndV (rOp2 (opEq false) (rFun fLen (rCons (rV 0) rNil)) (rFun fLen (rCons (rV 1) rNil))) (rFun (fAll false) (rCons (rLc (rZip (rCons (rV 0) (rCons (rV 1) rNil))) [2, 3] (bTup [2, 3]) rTrue (rCall 2 g [] (rCons (rV 2) (rCons (rV 3) rNil)))) rNil))))))))
noncomputable def f__law_same : Nat → Fn
  | 0 => fun _ _ => .stuck
  | n + 1 => fn 4 (r__law_same (f__law_same n))
noncomputable def r__law_is_name : Sn :=
  (rThen (rIfS (rOrT (rNotT (rB (rFun (fIsi tb) (rCons (rV 0) (rCons (rC (.ty "str")) rNil))))) (rNotT (rB (rChain (opI fun i j => decide (i ≤ j)) (opI fun i j => decide (i ≤ j)) (rC (.int 1)) (rFun fLen (rCons (rV 0) rNil)) (rC (.int 6)))))) (rRet (rC (.bl false))) rNx)
  (rRet (rFun (fAll false) (rCons (rLc (rItems (rV 0)) [1] (bName 1) rTrue (rOp2 (opInS false) (rV 1) (rC (.str "abcdefghijklmnopqrstuvwxyz")))) rNil))))
noncomputable def f__law_is_name : Fn := fn 2 r__law_is_name
noncomputable def r_law : Sn :=
  (rThen (rAsg (rCall 1 f__law_deal [] (rCons (rV 0) rNil)) (bName 1))
  (rThen (rFor (rRange1 (rCons (rC (.int 12)) rNil)) (bName 2) (rThen (rAsg (rMt "str" fJoin (rC (.str "")) (rCons (rLc (rRange1 (rCons (rCall 2 f__law_pick [] (rCons (rV 1) (rCons (rC (.int 9)) rNil))) rNil)) [6] (bName 6) rTrue (rCall 2 f__law_of [] (rCons (rV 1) (rCons (rC (.str "abcdefghijklmnopqrstuvwxyz")) rNil)))) rNil)) (bName 3))
  (rThen (rAsg (rCall 2 f__law_pick [] (rCons (rV 1) (rCons (rOp2 opAdd (rFun fLen (rCons (rV 3) rNil)) (rC (.int 1))) rNil))) (bName 4))
  (rThen (rAsg (rOp2 opAdd (rOp2 opAdd (rSl (rV 3) (rOpt none) (rOpt (some (rV 4)))) (rCall 2 f__law_of [] (rCons (rV 1) (rCons (rLst (rCons (rC (.str "")) (rCons (rC (.str "")) (rCons (rC (.str "")) (rCons (rC (.str "A")) (rCons (rC (.str "0")) (rCons (rC (.str " ")) (rCons (rC (.str "_")) (rCons (rC (.str "-")) (rCons (rC (.str "\n")) (rCons (rC (.str "z")) rNil))))))))))) rNil)))) (rSl (rV 3) (rOpt (some (rV 4))) (rOpt none))) (bName 3))
  (rThen (rIfS (rNotT (rB (rCall 2 (f__law_same 3) [] (rCons (rCall 1 f_is_name [] (rCons (rV 3) rNil)) (rCons (rCall 1 f__law_is_name [] (rCons (rV 3) rNil)) rNil))))) (rRet (rC (.bl false))) rNx)
  (rThen (rAsg (rCall 2 f__law_of [] (rCons (rV 1) (rCons (rLst (rCons (rC .non) (rCons (rC (.int 3)) (rCons (rC (.bl true)) (rCons (rTup rNil) (rCons (rTup (rCons (rV 3) rNil)) (rCons (rLst (rCons (rV 3) rNil)) (rCons (rLst rNil) (rCons (rTup (rCons (rC (.str "a")) (rCons (rC (.str "b")) rNil))) rNil))))))))) rNil))) (bName 5))
  (rIfS (rNotT (rB (rCall 2 (f__law_same 3) [] (rCons (rArgs 0 1 1 f_is_name [.k 0] [] rNil (rCons (rV 5) rNil)) (rCons (rC (.bl false)) rNil))))) (rRet (rC (.bl false))) rNx)))))))
  (rRet (rAndV (rCall 1 f_is_name [] (rCons (rC (.str "aaaaaa")) rNil)) (rNotV (rCall 1 f_is_name [] (rCons (rC (.str "aaaaaaa")) rNil)))))))
noncomputable def f_law : Fn := fn 7 r_law
section
variable {P : Program} {w : World} {c : Cl} {mg : Str → Option Value} {base : Heap}
theorem ok_is_name (S : Kn fas fns c mg) (T : IsOk c tb)  : Df P w c mg base d_is_name 1 ["value"] f_is_name := by
  obtain ⟨fd, F⟩ := S.defd 0 _ rfl
  refine ⟨fd, fn_ok F sc_is_name rfl (fun cdv A outer s H E hr => ?_), F⟩
  exact (ss_cons (st_if (w_or (t_not (t_val (s_fun (c_isi T) (pe_callB call_isiA (by rfl) (S.free 1) bt_isinstance (s_cons (s_var (pv 0)) (s_cons (s_ty (S.free 0) bt_str) s_nil)))))) (w_or1 (t_not (t_chain op_le (o_int (f := fun i j => decide (i ≤ j))) op_le (o_int (f := fun i j => decide (i ≤ j))) s_int (s_fun c_len (pe_callB call_len (by rfl) (S.free 2) bt_len (s_cons (s_var (pv 0)) s_nil))) (s_gint (S.int 3)))))).pt (ss_one (st_ret s_bl)) ss_nil)
    (ss_one (st_ret (s_fun c_all (pe_callB (cr_all rfl) (by rfl) (S.free 5) bt_all (s_cons (s_lc (own := [("letter", 1)]) (pe_lc (own := [("letter", 1)]) rfl sc_is_name.nd (i_items md_body.k (s_var (pv 0))) (blkOk_by (N := N_is_name) (sc := defScope s_is_name) (by decide +kernel)) (fun _ _ _ _ _ => (pg_name (i := 1) sc_is_name.nd rfl (Or.inl rfl))) (fun _ _ _ _ _ => ts_nil) (fun _ _ _ _ _ => (s_cmp op_in_sign o_inS (s_var (pv 1)) (s_gstr (S.str 4))))) tg_name) s_nil))))))
theorem ok__law_deal (S : Kn fas fns c mg) (T : IsOk c tb)  : Df P w c mg base d__law_deal 1 ["_law_script"] f__law_deal := by
  obtain ⟨fd, F⟩ := S.defd 1 _ rfl
  refine ⟨fd, fnM_ok F sc__law_deal rfl (fun cdv A outer s H E hr => ?_), F⟩
  exact (ss_cons (st_setLc (own := [("_law_cell", 3)]) (ps_setLc (i := 1) (own := [("_law_cell", 3)]) rfl sc__law_deal.nd rfl rfl (sw_true rfl rfl rfl (by decide +kernel)) (i_items md_body.k (s_sl md_body.k (s_var (pv 0)) so_none (so_some s_int))) (blkOk_by (N := N__law_deal) (sc := defScope s__law_deal) (by decide +kernel)) (fun _ _ _ _ _ => (pg_name (i := 3) sc__law_deal.nd rfl (Or.inl rfl))) (fun _ _ _ _ _ => ts_nil) (fun _ _ _ _ _ => (s_fun c_int (pe_callTy call_intAll (by rfl) (S.free 6) bt_int (s_cons (s_var (pv 3)) s_nil))))) tg_name)
    (ss_cons (st_set (i := 2) sc__law_deal.nd rfl (Or.inl rfl) (s_bin op_addAll o_add s_int (s_bin op_mul o_mul s_int (s_fun c_len (pe_callB call_len (by rfl) (S.free 2) bt_len (s_cons (s_var (pv 1)) s_nil))))))
    (ss_cons (st_for (passes_of rfl) rfl (i_items md_body.k (s_var (pv 1))) (pg_name (i := 3) sc__law_deal.nd rfl (Or.inl rfl)) tg_name (ss_one (st_set (i := 2) sc__law_deal.nd rfl (Or.inl rfl) (s_bin op_mod o_mod (s_fun c_int (pe_callTy call_intAll (by rfl) (S.free 6) bt_int (s_cons (s_bin op_addAll o_add (s_bin op_mul o_mul (s_var (pv 2)) s_int) (s_var (pv 3))) s_nil))) s_int))))
    (ss_one (st_ret (s_lstM (s_cons (s_var (pv 1)) (s_cons s_int (s_cons s_int (s_cons (s_var (pv 2)) s_nil))))))))))
theorem ok__law_pick (S : Kn fas fns c mg) (T : IsOk c tb)  : Df P w c mg base d__law_pick 1 ["_law_deal_here", "_law_many"] f__law_pick := by
  obtain ⟨fd, F⟩ := S.defd 2 _ rfl
  refine ⟨fd, fnM_ok F sc__law_pick rfl (fun cdv A outer s H E hr => ?_), F⟩
  exact (ss_cons (st_if (t_cmp op_lt (o_int (f := fun i j => decide (i < j))) (s_ix md_body.k (s_var (pv 0)) s_int) s_int) (ss_cons (st_put (s_bin op_addAll o_add (s_ix md_body.k (s_var (pv 0)) s_int) s_int) (s_var (pv 0)) s_int (ps_asg (s_bin op_addAll o_add (s_ix md_body.k (s_var (pv 0)) s_int) s_int) (pg_sub (s_var (pv 0)) s_int set_list)))
    (ss_cons (st_set (i := 3) sc__law_pick.nd rfl (Or.inl rfl) (s_bin op_addAll o_add (s_ix md_body.k (s_var (pv 0)) s_int) (s_bin op_mul o_mul (s_ix md_body.k (s_var (pv 0)) s_int) s_int)))
    (ss_cons (st_if (t_cmp op_le (o_int (f := fun i j => decide (i ≤ j))) (s_ix md_body.k (s_var (pv 0)) s_int) (s_fun c_len (pe_callB call_len (by rfl) (S.free 2) bt_len (s_cons (s_ix md_body.k (s_var (pv 0)) s_int) s_nil)))) (ss_one (st_set (i := 3) sc__law_pick.nd rfl (Or.inl rfl) (s_ix md_body.k (s_ix md_body.k (s_var (pv 0)) s_int) (s_bin op_sub o_sub (s_ix md_body.k (s_var (pv 0)) s_int) s_int)))) ss_nil)
    (ss_cons (st_if (w_or (t_cmp op_gt (o_int (f := fun i j => decide (j < i))) (s_ix md_body.k (s_var (pv 0)) s_int) (s_fun c_len (pe_callB call_len (by rfl) (S.free 2) bt_len (s_cons (s_ix md_body.k (s_var (pv 0)) s_int) s_nil)))) (w_or1 (t_cmp op_lt (o_int (f := fun i j => decide (i < j))) (s_var (pv 3)) (s_bin op_pow o_pow s_int s_int)))).pt (ss_cons (st_set (i := 4) sc__law_pick.nd rfl (Or.inl rfl) (s_bin op_mod o_mod (s_fun c_int (pe_callTy call_intAll (by rfl) (S.free 6) bt_int (s_cons (s_bin op_addAll o_add (s_bin op_addAll o_add (s_bin op_mul o_mul (s_var (pv 3)) s_int) (s_bin op_mul o_mul (s_ix md_body.k (s_var (pv 0)) s_int) s_int)) (s_ix md_body.k (s_var (pv 0)) s_int)) s_nil))) s_int))
    (ss_cons (st_set (i := 5) sc__law_pick.nd rfl (Or.inl rfl) (s_bin op_mod o_mod (s_fun c_int (pe_callTy call_intAll (by rfl) (S.free 6) bt_int (s_cons (s_bin op_addAll o_add (s_bin op_mul o_mul (s_var (pv 4)) (s_var (pv 4))) (s_bin op_mul o_mul (s_ix md_body.k (s_var (pv 0)) s_int) s_int)) s_nil))) s_int))
    (ss_one (st_ret (s_bin op_mod o_mod (s_bin op_fdiv o_div (s_bin op_mod o_mod (s_fun c_int (pe_callTy call_intAll (by rfl) (S.free 6) bt_int (s_cons (s_bin op_addAll o_add (s_bin op_mul o_mul (s_var (pv 5)) s_int) (s_var (pv 4))) s_nil))) s_int) s_int) (s_var (pv 1))))))) ss_nil)
    (ss_one (st_put (s_var (pv 3)) (s_var (pv 0)) s_int (ps_asg (s_var (pv 3)) (pg_sub (s_var (pv 0)) s_int set_list)))))))) ss_nil)
    (ss_cons (st_set (i := 2) sc__law_pick.nd rfl (Or.inl rfl) (s_bin op_mod o_mod (s_fun c_int (pe_callTy call_intAll (by rfl) (S.free 6) bt_int (s_cons (s_ix md_body.k (s_var (pv 0)) s_int) s_nil))) (s_var (pv 1))))
    (ss_cons (st_put (s_bin op_fdiv o_div (s_fun c_int (pe_callTy call_intAll (by rfl) (S.free 6) bt_int (s_cons (s_ix md_body.k (s_var (pv 0)) s_int) s_nil))) (s_var (pv 1))) (s_var (pv 0)) s_int (ps_asg (s_bin op_fdiv o_div (s_fun c_int (pe_callTy call_intAll (by rfl) (S.free 6) bt_int (s_cons (s_ix md_body.k (s_var (pv 0)) s_int) s_nil))) (s_var (pv 1))) (pg_sub (s_var (pv 0)) s_int set_list)))
    (ss_one (st_ret (s_var (pv 2)))))))
theorem ok__law_of (S : Kn fas fns c mg) (T : IsOk c tb) (D__law_pick : Df P w c mg base d__law_pick 1 ["_law_deal_here", "_law_many"] f__law_pick) : Df P w c mg base d__law_of 2 ["_law_deal_here", "_law_items"] f__law_of := by
  obtain ⟨fd, F⟩ := S.defd 3 _ rfl
  refine ⟨fd, fn_ok F sc__law_of rfl (fun cdv A outer s H E hr => ?_), F⟩
  exact (ss_one (st_ret (s_ix md_body.k (s_var (pv 1)) (s_cD md_body D__law_pick (hr.mono (by decide)) (S.glo 7) rfl rfl (fun _ _ _ _ _ _ us hl => match us, hl with | [_, _], _ => rfl) (s_cons (s_var (pv 0)) (s_cons (s_fun c_len (pe_callB call_len (by rfl) (S.free 2) bt_len (s_cons (s_var (pv 1)) s_nil))) s_nil))))))
theorem ok1__law_same {k : Nat} {g : Fn} (S : Kn fas fns c mg) (T : IsOk c tb)  (Dg : Df P w c mg base d__law_same k ["_law_found", "_law_due"] g) : Df P w c mg base d__law_same (k + 1) ["_law_found", "_law_due"] (fn 4 (r__law_same g)) := by
  obtain ⟨fd, F⟩ := S.defd 4 _ rfl
  refine ⟨fd, fn_ok F sc__law_same rfl (fun cdv A outer s H E hr => ?_), F⟩
  exact (ss_cons (st_if (t_cmp op_isN o_isN (s_var (pv 1)) s_non) (ss_one (st_ret (s_cmp op_isN o_isN (s_var (pv 0)) s_non))) ss_nil)
    (ss_cons (st_if (w_or (t_val (s_fun (c_isi T) (pe_callB call_isiA (by rfl) (S.free 1) bt_isinstance (s_cons (s_var (pv 1)) (s_cons (s_ty (S.free 8) bt_bool) s_nil))))) (w_or1 (t_val (s_fun (c_isi T) (pe_callB call_isiA (by rfl) (S.free 1) bt_isinstance (s_cons (s_var (pv 0)) (s_cons (s_ty (S.free 8) bt_bool) s_nil))))))).pt (ss_one (st_ret (s_and (s_fun (c_isi T) (pe_callB call_isiA (by rfl) (S.free 1) bt_isinstance (s_cons (s_var (pv 1)) (s_cons (s_ty (S.free 8) bt_bool) s_nil)))) (s_and (s_fun (c_isi T) (pe_callB call_isiA (by rfl) (S.free 1) bt_isinstance (s_cons (s_var (pv 0)) (s_cons (s_ty (S.free 8) bt_bool) s_nil)))) (s_one (s_cmp (op_eqD hr.units) o_eq (s_var (pv 0)) (s_var (pv 1)))))))) ss_nil)
    (ss_cons (st_if (t_val (s_fun (c_isi T) (pe_callB call_isiA (by rfl) (S.free 1) bt_isinstance (s_cons (s_var (pv 1)) (s_cons (s_tup (s_cons (s_ty (S.free 6) bt_int) (s_cons (s_ty (S.free 0) bt_str) s_nil))) s_nil))))) (ss_one (st_ret (s_and (s_fun (c_isi T) (pe_callB call_isiA (by rfl) (S.free 1) bt_isinstance (s_cons (s_var (pv 0)) (s_cons (s_tup (s_cons (s_ty (S.free 6) bt_int) (s_cons (s_ty (S.free 0) bt_str) s_nil))) s_nil)))) (s_and (s_cmp (op_eqD hr.units) o_eq (s_fun (c_isi T) (pe_callB call_isiA (by rfl) (S.free 1) bt_isinstance (s_cons (s_var (pv 0)) (s_cons (s_ty (S.free 6) bt_int) s_nil)))) (s_fun (c_isi T) (pe_callB call_isiA (by rfl) (S.free 1) bt_isinstance (s_cons (s_var (pv 1)) (s_cons (s_ty (S.free 6) bt_int) s_nil))))) (s_one (s_cmp (op_eqD hr.units) o_eq (s_var (pv 0)) (s_var (pv 1)))))))) ss_nil)
    (ss_cons (st_if (w_or (t_cmp (op_neD hr.units) o_ne (s_fun (c_isi T) (pe_callB call_isiA (by rfl) (S.free 1) bt_isinstance (s_cons (s_var (pv 1)) (s_cons (s_ty (S.free 9) bt_list) s_nil)))) (s_fun (c_isi T) (pe_callB call_isiA (by rfl) (S.free 1) bt_isinstance (s_cons (s_var (pv 0)) (s_cons (s_ty (S.free 9) bt_list) s_nil))))) (w_or1 (t_cmp (op_neD hr.units) o_ne (s_fun (c_isi T) (pe_callB call_isiA (by rfl) (S.free 1) bt_isinstance (s_cons (s_var (pv 1)) (s_cons (s_ty (S.free 10) bt_tuple) s_nil)))) (s_fun (c_isi T) (pe_callB call_isiA (by rfl) (S.free 1) bt_isinstance (s_cons (s_var (pv 0)) (s_cons (s_ty (S.free 10) bt_tuple) s_nil))))))).pt (ss_one (st_ret s_bl)) ss_nil)
    (ss_one (st_ret (s_and (s_cmp (op_eqD hr.units) o_eq (s_fun c_len (pe_callB call_len (by rfl) (S.free 2) bt_len (s_cons (s_var (pv 0)) s_nil))) (s_fun c_len (pe_callB call_len (by rfl) (S.free 2) bt_len (s_cons (s_var (pv 1)) s_nil)))) (s_one (s_fun c_all (pe_callB (cr_all rfl) (by rfl) (S.free 5) bt_all (s_cons (s_lc (own := [("_law_one", 2), ("_law_two", 3)]) (pe_lc (own := [("_law_one", 2), ("_law_two", 3)]) rfl sc__law_same.nd (i_zip md_body.k (pi_zip rfl (S.free 11) (s_cons (s_var (pv 0)) (s_cons (s_var (pv 1)) s_nil)))) (blkOk_by (N := N__law_same) (sc := defScope s__law_same) (by decide +kernel)) (fun _ _ _ _ _ => (pg_tup md_body.blk.calm (pgs_cons (pg_name (i := 2) sc__law_same.nd rfl (Or.inl rfl)) (pgs_cons (pg_name (i := 3) sc__law_same.nd rfl (Or.inl rfl)) pgs_nil)))) (fun _ _ _ _ _ => ts_nil) (fun _ _ _ _ _ => (s_cD md_body.blk Dg hr (S.glo 12) rfl rfl (fun _ _ _ _ _ _ us hl => match us, hl with | [_, _], _ => rfl) (s_cons (s_var (pv 2)) (s_cons (s_var (pv 3)) s_nil))))) (tg_tup (is := [2, 3]) rfl rfl)) s_nil)))))))))))
theorem ok__law_same (S : Kn fas fns c mg) (T : IsOk c tb)  : ∀ n, Df P w c mg base d__law_same (1 + n) ["_law_found", "_law_due"] (f__law_same n)
  | 0 => Df.never S 4
  | n + 1 => ok1__law_same S T  (ok__law_same S T  n)
theorem ok__law_is_name (S : Kn fas fns c mg) (T : IsOk c tb)  : Df P w c mg base d__law_is_name 1 ["_law_value_z"] f__law_is_name := by
  obtain ⟨fd, F⟩ := S.defd 5 _ rfl
  refine ⟨fd, fn_ok F sc__law_is_name rfl (fun cdv A outer s H E hr => ?_), F⟩
  exact (ss_cons (st_if (w_or (t_not (t_val (s_fun (c_isi T) (pe_callB call_isiA (by rfl) (S.free 1) bt_isinstance (s_cons (s_var (pv 0)) (s_cons (s_ty (S.free 0) bt_str) s_nil)))))) (w_or1 (t_not (t_chain op_le (o_int (f := fun i j => decide (i ≤ j))) op_le (o_int (f := fun i j => decide (i ≤ j))) s_int (s_fun c_len (pe_callB call_len (by rfl) (S.free 2) bt_len (s_cons (s_var (pv 0)) s_nil))) s_int)))).pt (ss_one (st_ret s_bl)) ss_nil)
    (ss_one (st_ret (s_fun c_all (pe_callB (cr_all rfl) (by rfl) (S.free 5) bt_all (s_cons (s_lc (own := [("_law_letter", 1)]) (pe_lc (own := [("_law_letter", 1)]) rfl sc__law_is_name.nd (i_items md_body.k (s_var (pv 0))) (blkOk_by (N := N__law_is_name) (sc := defScope s__law_is_name) (by decide +kernel)) (fun _ _ _ _ _ => (pg_name (i := 1) sc__law_is_name.nd rfl (Or.inl rfl))) (fun _ _ _ _ _ => ts_nil) (fun _ _ _ _ _ => (s_cmp op_in_sign o_inS (s_var (pv 1)) s_str))) tg_name) s_nil))))))
theorem ok_law (S : Kn fas fns c mg) (T : IsOk c tb) (D__law_deal : Df P w c mg base d__law_deal 1 ["_law_script"] f__law_deal) (D__law_pick : Df P w c mg base d__law_pick 1 ["_law_deal_here", "_law_many"] f__law_pick) (D__law_of : Df P w c mg base d__law_of 2 ["_law_deal_here", "_law_items"] f__law_of) (D__law_same : Df P w c mg base d__law_same 4 ["_law_found", "_law_due"] (f__law_same 3)) (D__law_is_name : Df P w c mg base d__law_is_name 1 ["_law_value_z"] f__law_is_name) (D_is_name : Df P w c mg base d_is_name 1 ["value"] f_is_name) : Df P w c mg base d_law 5 ["_law_script"] f_law := by
  obtain ⟨fd, F⟩ := S.defd 6 _ rfl
  refine ⟨fd, fn_ok F sc_law rfl (fun cdv A outer s H E hr => ?_), F⟩
  exact (ss_cons (st_set (i := 1) sc_law.nd rfl (Or.inr rfl) (s_cD md_body D__law_deal (hr.mono (by decide)) (S.glo 13) rfl rfl (fun _ _ _ _ _ _ us hl => match us, hl with | [_], _ => rfl) (s_cons (s_var (pv 0)) s_nil)))
    (ss_cons (st_for (passes_of rfl) rfl (i_range1 (S.free 14) (s_cons s_int s_nil)) (pg_name (i := 2) sc_law.nd rfl (Or.inl rfl)) tg_name (ss_cons (st_set (i := 3) sc_law.nd rfl (Or.inl rfl) (s_mt md_body.k m_join (pe_bm PySem.F.plainAttrs_str PySem.F.slot_str_join PySem.F.type_str_join mt_join s_str (s_cons (s_lc (own := [("_law_k", 6)]) (pe_lc (own := [("_law_k", 6)]) rfl sc_law.nd (i_range1 (S.free 14) (s_cons (s_cD md_body D__law_pick (hr.mono (by decide)) (S.glo 7) rfl rfl (fun _ _ _ _ _ _ us hl => match us, hl with | [_, _], _ => rfl) (s_cons (s_var (pv 1)) (s_cons s_int s_nil))) s_nil)) (blkOk_by (N := N_law) (sc := defScope s_law) (by decide +kernel)) (fun _ _ _ _ _ => (pg_name (i := 6) sc_law.nd rfl (Or.inl rfl))) (fun _ _ _ _ _ => ts_nil) (fun _ _ _ _ _ => (s_cD md_body.blk D__law_of (hr.mono (by decide)) (S.glo 15) rfl rfl (fun _ _ _ _ _ _ us hl => match us, hl with | [_, _], _ => rfl) (s_cons (s_var (pv 1)) (s_cons s_str s_nil))))) tg_name) s_nil))))
    (ss_cons (st_set (i := 4) sc_law.nd rfl (Or.inl rfl) (s_cD md_body D__law_pick (hr.mono (by decide)) (S.glo 7) rfl rfl (fun _ _ _ _ _ _ us hl => match us, hl with | [_, _], _ => rfl) (s_cons (s_var (pv 1)) (s_cons (s_bin op_addAll o_add (s_fun c_len (pe_callB call_len (by rfl) (S.free 2) bt_len (s_cons (s_var (pv 3)) s_nil))) s_int) s_nil))))
    (ss_cons (st_set (i := 3) sc_law.nd rfl (Or.inl rfl) (s_bin op_addAll o_add (s_bin op_addAll o_add (s_sl md_body.k (s_var (pv 3)) so_none (so_some (s_var (pv 4)))) (s_cD md_body D__law_of (hr.mono (by decide)) (S.glo 15) rfl rfl (fun _ _ _ _ _ _ us hl => match us, hl with | [_, _], _ => rfl) (s_cons (s_var (pv 1)) (s_cons (s_lst (s_cons s_str (s_cons s_str (s_cons s_str (s_cons s_str (s_cons s_str (s_cons s_str (s_cons s_str (s_cons s_str (s_cons s_str (s_cons s_str s_nil))))))))))) s_nil)))) (s_sl md_body.k (s_var (pv 3)) (so_some (s_var (pv 4))) so_none)))
    (ss_cons (st_if (t_not (t_val (s_cD md_body D__law_same (hr.mono (by decide)) (S.glo 12) rfl rfl (fun _ _ _ _ _ _ us hl => match us, hl with | [_, _], _ => rfl) (s_cons (s_cD md_body D_is_name (hr.mono (by decide)) (S.glo 17) rfl rfl (fun _ _ _ _ _ _ us hl => match us, hl with | [_], _ => rfl) (s_cons (s_var (pv 3)) s_nil)) (s_cons (s_cD md_body D__law_is_name (hr.mono (by decide)) (S.glo 16) rfl rfl (fun _ _ _ _ _ _ us hl => match us, hl with | [_], _ => rfl) (s_cons (s_var (pv 3)) s_nil)) s_nil))))) (ss_one (st_ret s_bl)) ss_nil)
    (ss_cons (st_set (i := 5) sc_law.nd rfl (Or.inl rfl) (s_cD md_body D__law_of (hr.mono (by decide)) (S.glo 15) rfl rfl (fun _ _ _ _ _ _ us hl => match us, hl with | [_, _], _ => rfl) (s_cons (s_var (pv 1)) (s_cons (s_lst (s_cons s_non (s_cons s_int (s_cons s_bl (s_cons (s_tup s_nil) (s_cons (s_tup (s_cons (s_var (pv 3)) s_nil)) (s_cons (s_lst (s_cons (s_var (pv 3)) s_nil)) (s_cons (s_lst s_nil) (s_cons (s_tup (s_cons s_str (s_cons s_str s_nil))) s_nil))))))))) s_nil))))
    (ss_one (st_if (t_not (t_val (s_cD md_body D__law_same (hr.mono (by decide)) (S.glo 12) rfl rfl (fun _ _ _ _ _ _ us hl => match us, hl with | [_, _], _ => rfl) (s_cons (s_cK0 (ks := ["value"]) (ix := [.k 0]) md_body D_is_name (hr.mono (by decide)) (S.glo 17) rfl rfl (fun _ _ _ _ _ _ us ws h1 h2 => match us, ws, h1, h2 with | [], [_], _, _ => rfl) (sk_cons (s_var (pv 5)) sk_nil)) (s_cons s_bl s_nil))))) (ss_one (st_ret s_bl)) ss_nil))))))))
    (ss_one (st_ret (s_and (s_cD md_body D_is_name (hr.mono (by decide)) (S.glo 17) rfl rfl (fun _ _ _ _ _ _ us hl => match us, hl with | [_], _ => rfl) (s_cons s_str s_nil)) (s_one (s_not (s_cD md_body D_is_name (hr.mono (by decide)) (S.glo 17) rfl rfl (fun _ _ _ _ _ _ us hl => match us, hl with | [_], _ => rfl) (s_cons s_str s_nil)))))))))
theorem ok_all (S : Kn fas fns c mg) (T : IsOk c tb) : Df P w c mg base d_law 5 ["_law_script"] f_law := by
  have D_is_name := ok_is_name (P := P) (w := w) (base := base) S T 
  have D__law_deal := ok__law_deal (P := P) (w := w) (base := base) S T 
  have D__law_pick := ok__law_pick (P := P) (w := w) (base := base) S T 
  have D__law_of := ok__law_of (P := P) (w := w) (base := base) S T D__law_pick
  have D__law_same := ok__law_same (P := P) (w := w) (base := base) S T  3
  have D__law_is_name := ok__law_is_name (P := P) (w := w) (base := base) S T 
  have D_law := ok_law (P := P) (w := w) (base := base) S T D__law_deal D__law_pick D__law_of D__law_same D__law_is_name D_is_name
  exact D_law
end
end K02

namespace K02
open PySem Q
def IsDeal (l : Nat) (M : MS) : Prop := ∃ (cs : List Int) (k z m : Int), 0 ≤ k ∧ M[l]? = some (.lst [.lst (cs.map D.int), .int k, .int z, .int m])
theorem at0 {α : Type} {a b c d : α} : L2.atI [a, b, c, d] 0 = some a := rfl
theorem at1 {α : Type} {a b c d : α} : L2.atI [a, b, c, d] 1 = some b := rfl
theorem at2 {α : Type} {a b c d : α} : L2.atI [a, b, c, d] 2 = some c := rfl
theorem at3 {α : Type} {a b c d : α} : L2.atI [a, b, c, d] 3 = some d := rfl
theorem ix41 : L2.ixN (0 + 1 + 1 + 1 + 1) 1 = some 1 := rfl
theorem ix42 : L2.ixN (0 + 1 + 1 + 1 + 1) 2 = some 2 := rfl
theorem opPow18 {M : MS} : opPow (.int 10) (.int 18) M = .ok (.int 1000000000000000000) M := rfl
theorem lw1 : low64 9157 = true := by decide
theorem lw2 : low64 41039 = true := by decide
theorem lw3 : low64 38561 = true := by decide
theorem lw4 : low64 51551 = true := by decide
theorem lw5 : low64 47917 = true := by decide
theorem lw6 (x : Int) : low64 (x % 2147483647) = true := by
  unfold low64
  have := Int.emod_nonneg x (show (2147483647 : Int) ≠ 0 by decide)
  have := Int.emod_lt_of_pos x (show (0 : Int) < 2147483647 by decide)
  exact decide_eq_true ⟨by omega, by omega⟩
theorem ps1 : (0 : Int) < 2147483647 := by decide
theorem ps2 : (0 : Int) < 998244353 := by decide
theorem ps3 : (0 : Int) < 2147483629 := by decide
theorem ps4 : (0 : Int) < 19 := by decide
theorem ps5 : (19 : Int) < 1073741824 := by decide
theorem pick_ok {l : Nat} {M : MS} {many : Int} (h : IsDeal l M) (h1 : 1 ≤ many) (h2 : many < 1073741824) : ∃ v mo, f__law_pick [.ref l, .int many] M = .ok (.int v) (M.set l mo) ∧ 0 ≤ v ∧ v < many ∧ IsDeal l (M.set l mo) := by
  obtain ⟨cs, k, z, m, hk, hM⟩ := h
  have hl : l < M.length := by
    rcases Nat.lt_or_ge l M.length with q | q
    · exact q
    · rw [List.getElem?_eq_none q] at hM; cases hM
  have st : ∀ x : MO, (M.set l x)[l]? = some x := fun x => List.getElem?_set_self hl
  have ss : ∀ x y : MO, (M.set l x).set l y = M.set l y := fun x y => List.set_set ..
  have hm0 : (0 < many) := by omega
  have last : ∀ x : Int, 0 ≤ x % many ∧ x % many < many := fun x => ⟨Int.emod_nonneg _ (by omega), Int.emod_lt_of_pos _ hm0⟩
  have fin : ∀ (k' z' : Int), 0 ≤ k' → (∃ x, f__law_pick [.ref l, .int many] M = .ok (.int (x % many)) (M.set l (.lst [.lst (cs.map D.int), .int k', .int z', .int m]))) → ∃ v mo, f__law_pick [.ref l, .int many] M = .ok (.int v) (M.set l mo) ∧ 0 ≤ v ∧ v < many ∧ IsDeal l (M.set l mo) :=
    fun k' z' hk' ⟨x, e⟩ => ⟨_, _, e, (last x).1, (last x).2, cs, k', z', m, hk', st _⟩
  by_cases hz : z < 2
  · by_cases hc : k + 1 ≤ (cs.length : Int)
    · have hc' : ¬ (cs.length : Int) < k + 1 := by omega
      obtain ⟨c0, h0⟩ : ∃ c0, L2.atI (cs.map D.int) (k + 1 - 1) = some (.int c0) := by
        unfold L2.atI L2.ixN
        have hx : k.toNat < cs.length := by omega
        rw [if_pos (by omega), if_pos (by simp; omega)]
        refine ⟨cs[k.toNat], ?_⟩
        show (cs.map D.int)[(k + 1 - 1).toNat]? = _
        have : (k + 1 - 1).toNat = k.toNat := by omega
        rw [this, List.getElem?_map, List.getElem?_eq_getElem hx]
        rfl
      by_cases hb : c0 < 1000000000000000000
      · exact fin (k + 1) z (by omega) ⟨_, by simp (config := {decide := false}) only [f__law_pick, fnM, r__law_pick, rThen, rIfS, rB, rOp2, rV, rC, rPut, rAsg, rRet, rFun, rCons, rNil, rNx, rOrT, Res.bind, bindS, toB, opIx, lstOf, opI, opAdd, opSub, opMul_r, opMod_pos, opDiv_pos, opPow18, ps1, ps2, ps3, ps4, ps5, lw1, lw2, lw3, lw4, lw5, lw6, fLen, fInt, bName, endF, ix41, ix42, List.length_map, gt_iff_lt, List.map_cons, List.map_nil, List.length_cons, List.length_nil, at0, at1, at2, at3, List.getElem?_cons_zero, List.getElem?_cons_succ, List.cons_append, List.nil_append, List.replicate, List.set, decide_true, decide_false, if_true, if_false, ite_true, ite_false, Bool.false_eq_true, Bool.or_true, Bool.true_or, Bool.or_false, hM, st, ss, hz, hc, hc', hm0, h0, hb]; rfl⟩
      · exact fin (k + 1) (c0 / many) (by omega) ⟨c0, by simp (config := {decide := false}) only [f__law_pick, fnM, r__law_pick, rThen, rIfS, rB, rOp2, rV, rC, rPut, rAsg, rRet, rFun, rCons, rNil, rNx, rOrT, Res.bind, bindS, toB, opIx, lstOf, opI, opAdd, opSub, opMul_r, opMod_pos, opDiv_pos, opPow18, ps1, ps2, ps3, ps4, ps5, lw1, lw2, lw3, lw4, lw5, lw6, fLen, fInt, bName, endF, ix41, ix42, List.length_map, gt_iff_lt, List.map_cons, List.map_nil, List.length_cons, List.length_nil, at0, at1, at2, at3, List.getElem?_cons_zero, List.getElem?_cons_succ, List.cons_append, List.nil_append, List.replicate, List.set, decide_true, decide_false, if_true, if_false, ite_true, ite_false, Bool.false_eq_true, Bool.or_true, Bool.true_or, Bool.or_false, hM, st, ss, hz, hc, hc', hm0, h2, h0, hb]⟩
    · have hc' : (cs.length : Int) < k + 1 := by omega
      exact fin (k + 1) z (by omega) ⟨_, by simp (config := {decide := false}) only [f__law_pick, fnM, r__law_pick, rThen, rIfS, rB, rOp2, rV, rC, rPut, rAsg, rRet, rFun, rCons, rNil, rNx, rOrT, Res.bind, bindS, toB, opIx, lstOf, opI, opAdd, opSub, opMul_r, opMod_pos, opDiv_pos, opPow18, ps1, ps2, ps3, ps4, ps5, lw1, lw2, lw3, lw4, lw5, lw6, fLen, fInt, bName, endF, ix41, ix42, List.length_map, gt_iff_lt, List.map_cons, List.map_nil, List.length_cons, List.length_nil, at0, at1, at2, at3, List.getElem?_cons_zero, List.getElem?_cons_succ, List.cons_append, List.nil_append, List.replicate, List.set, decide_true, decide_false, if_true, if_false, ite_true, ite_false, Bool.false_eq_true, Bool.or_true, Bool.true_or, Bool.or_false, hM, st, ss, hz, hc, hc', hm0]; rfl⟩
  · exact fin k (z / many) hk ⟨z, by simp (config := {decide := false}) only [f__law_pick, fnM, r__law_pick, rThen, rIfS, rB, rOp2, rV, rC, rPut, rAsg, rRet, rFun, rCons, rNil, rNx, rOrT, Res.bind, bindS, toB, opIx, lstOf, opI, opAdd, opSub, opMul_r, opMod_pos, opDiv_pos, opPow18, ps1, ps2, ps3, ps4, ps5, lw1, lw2, lw3, lw4, lw5, lw6, fLen, fInt, bName, endF, ix41, ix42, List.length_map, gt_iff_lt, List.map_cons, List.map_nil, List.length_cons, List.length_nil, at0, at1, at2, at3, List.getElem?_cons_zero, List.getElem?_cons_succ, List.cons_append, List.nil_append, List.replicate, List.set, decide_true, decide_false, if_true, if_false, ite_true, ite_false, Bool.false_eq_true, Bool.or_true, Bool.true_or, Bool.or_false, hM, st, ss, hz, hm0, h2]⟩
theorem lw7 : low64 83 = true := by decide
theorem lw8 : low64 6521 = true := by decide
theorem ps6 : (0 : Int) < 2147483543 := by decide
theorem deal_ok {ns : List Int} (hl : ns.length ≤ 63) : ∃ M', f__law_deal [.scr (ns.map D.int)] [] = .ok (.ref 0) M' ∧ IsDeal 0 M' ∧ M'.length = 1 := by
  have h1 : ∀ ρ : Ev, loopC ρ (bName 3) rTrue (rFun fInt (rCons (rV 3) rNil)) (ns.map D.int) [] = .ok (ns.map D.int) [] ∨ ρ.length ≠ 4 := fun ρ => by
    by_cases q : ρ.length = 4
    · refine .inl ((loopC_map (fun d => d) _ fun d m => ?_).trans (by rw [List.map_id']))
      obtain ⟨n, _, rfl⟩ := List.mem_map.mp m
      refine ⟨ρ.set 3 (some (.int n)), rfl, ?_⟩
      have e : (ρ.set 3 (some (D.int n)))[3]? = some (some (D.int n)) := List.getElem?_set_self (by omega)
      simp only [rFun, rCons, rV, rNil, e, Res.bind, fInt]
    · exact .inr q
  have h2 : ∀ (ms : List Int) (x3 : Option D) (m : Int), ∃ ρ' M', loopF (bName 3) (rAsg (rOp2 opMod (rFun fInt (rCons (rOp2 opAdd (rOp2 opMul (rV 2) (rC (.int 6521))) (rV 3)) rNil)) (rC (.int 2147483543))) (bName 2)) (ms.map D.int) [some (.scr (ns.map D.int)), some (.lst (ns.map D.int)), some (.int m), x3] [] = .nx ρ' M' ∧ (M' = [] ∧ ∃ (m : Int) (y : Option D), ρ' = [some (.scr (ns.map D.int)), some (.lst (ns.map D.int)), some (.int m), y]) := fun ms x3 m => by
    refine loopF_all (fun ρ M => M = [] ∧ ∃ (m : Int) (y : Option D), ρ = [some (.scr (ns.map D.int)), some (.lst (ns.map D.int)), some (.int m), y]) _ _ _ ⟨rfl, m, x3, rfl⟩ ?_
    rintro d hd ρ M ⟨rfl, m, y, rfl⟩
    obtain ⟨n, _, rfl⟩ := List.mem_map.mp hd
    refine ⟨_, rfl, [some (.scr (ns.map D.int)), some (.lst (ns.map D.int)), some (.int ((m * 6521 + n) % 2147483543)), some (.int n)], [], ?_, rfl, _, _, rfl⟩
    simp only [bName, rAsg, rOp2, rFun, rCons, rV, rC, rNil, Res.bind, bindS, fInt, opAdd, opMul_r lw8, opMod_pos ps6, List.set, List.getElem?_cons_zero, List.getElem?_cons_succ]
  obtain ⟨ρ', M', e1, rfl, m, y, rfl⟩ := h2 ns none (5760 + 83 * (ns.length : Int))
  have l4 : loopC [some (D.scr (ns.map D.int)), none, none, none] (bName 3) rTrue (rFun fInt (rCons (rV 3) rNil)) (ns.map D.int) [] = .ok (ns.map D.int) [] := (h1 _).resolve_right (by simp)
  have sm : small ns.length = true := by unfold small; simp; omega
  have cut : cutD (ns.map D.int) none (some 63) = ns.map D.int := cut_head (n := 63) (by simpa using hl)
  refine ⟨[.lst [.lst (ns.map D.int), .int 0, .int 0, .int m]], ?_, ⟨ns, 0, 0, m, by omega, rfl⟩, rfl⟩
  simp only [f__law_deal, fnM, r__law_deal, rThen, rAsg, rLc, rComp, rItems, rSl, rOpt, rV, rC, Res.bind, opSl, lstOf, cut, itemsOf, rGuard, sm, wipeE, List.map_cons, List.map_nil, List.cons_append, List.nil_append, List.replicate, List.length_cons, List.length_nil, List.getElem?_cons_zero, List.getElem?_cons_succ, List.set, l4, bindS, bName, rOp2, rFun, rCons, rNil, fLen, List.length_map, opMul_l lw7, opAdd, if_true, e1, rFor, rRet, rLstM, endF]
  rfl
end K02

namespace K02
open PySem Q
def letters : Str := "abcdefghijklmnopqrstuvwxyz"
def nm (s : Str) : Bool := decide (1 ≤ s.length) && (decide (s.length ≤ 6) && s.cps.toList.all fun k => decide (k ∈ letters.cps.toList))
theorem sign_loop {x y : Option D} {s : Str} {M : MS} : loopC [x, y] (bName 1) rTrue (rOp2 (opInS false) (rV 1) (rC (.str "abcdefghijklmnopqrstuvwxyz"))) (chars s) M = .ok ((chars s).map (letterIn letters)) M := by
  refine loopC_map _ _ fun d m => ?_
  obtain ⟨k, _, rfl⟩ := List.mem_map.mp m
  refine ⟨_, rfl, ?_⟩
  rfl
theorem is_name_str {s : Str} {M : MS} (hs : s.length ≤ 1000) : f_is_name [.str s] M = .ok (.bl (nm s)) M := by
  have sm : small s.length = true := by unfold small; simp; omega
  have i1 : fIsi tb [.str s, .ty "str"] M = .ok (.bl true) M := isi_str rfl kb1
  have ll : fLen [.str s] M = .ok (.int s.length) M := by simp only [fLen, rGuard, sm, if_true]
  by_cases h1 : 1 ≤ (s.length : Int)
  · have h1' : 1 ≤ s.length := by omega
    by_cases h2 : (s.length : Int) ≤ 6
    · have h2' : s.length ≤ 6 := by omega
      simp (config := {decide := false}) only [fnM, fn, rThen, rIfS, rB, rOp2, rV, rC, rPut, rAsg, rRet, rFun, rCons, rNil, rNx, rOrT, rAndT, rNotT, rAndV, rOrV, rNotV, rChain, rTup, rLst, rLc, rComp, rItems, rRange1, rSl, rOpt, rMt, rFor, rCall, Res.bind, bindS, toB, lstOf, opI, bName, endF, itemsOf, wipeE, rGuard, gt_iff_lt, List.map_cons, List.map_nil, List.length_cons, List.length_nil, List.getElem?_cons_zero, List.getElem?_cons_succ, List.cons_append, List.nil_append, List.append_nil, List.replicate, List.set, decide_true, decide_false, if_true, if_false, ite_true, ite_false, Bool.false_eq_true, Bool.or_true, Bool.true_or, Bool.or_false, Bool.not_true, Bool.not_false, Bool.and_true, Bool.true_and, Bool.and_false, Bool.false_and, trim_same', f_is_name, r_is_name, i1, ll, h1, h2, sign_loop, chars_len, sm, fAll, letters_map, bools_map, Option.bind_some, nm, h1', h2']
      rw [List.all_map]
      rfl
    · have h2' : ¬ s.length ≤ 6 := by omega
      simp (config := {decide := false}) only [fnM, fn, rThen, rIfS, rB, rOp2, rV, rC, rPut, rAsg, rRet, rFun, rCons, rNil, rNx, rOrT, rAndT, rNotT, rAndV, rOrV, rNotV, rChain, rTup, rLst, rLc, rComp, rItems, rRange1, rSl, rOpt, rMt, rFor, rCall, Res.bind, bindS, toB, lstOf, opI, bName, endF, itemsOf, wipeE, rGuard, gt_iff_lt, List.map_cons, List.map_nil, List.length_cons, List.length_nil, List.getElem?_cons_zero, List.getElem?_cons_succ, List.cons_append, List.nil_append, List.append_nil, List.replicate, List.set, decide_true, decide_false, if_true, if_false, ite_true, ite_false, Bool.false_eq_true, Bool.or_true, Bool.true_or, Bool.or_false, Bool.not_true, Bool.not_false, Bool.and_true, Bool.true_and, Bool.and_false, Bool.false_and, trim_same', f_is_name, r_is_name, i1, ll, h1, h2, nm, h1', h2']
  · have h1' : ¬ 1 ≤ s.length := by omega
    simp (config := {decide := false}) only [fnM, fn, rThen, rIfS, rB, rOp2, rV, rC, rPut, rAsg, rRet, rFun, rCons, rNil, rNx, rOrT, rAndT, rNotT, rAndV, rOrV, rNotV, rChain, rTup, rLst, rLc, rComp, rItems, rRange1, rSl, rOpt, rMt, rFor, rCall, Res.bind, bindS, toB, lstOf, opI, bName, endF, itemsOf, wipeE, rGuard, gt_iff_lt, List.map_cons, List.map_nil, List.length_cons, List.length_nil, List.getElem?_cons_zero, List.getElem?_cons_succ, List.cons_append, List.nil_append, List.append_nil, List.replicate, List.set, decide_true, decide_false, if_true, if_false, ite_true, ite_false, Bool.false_eq_true, Bool.or_true, Bool.true_or, Bool.or_false, Bool.not_true, Bool.not_false, Bool.and_true, Bool.true_and, Bool.and_false, Bool.false_and, trim_same', f_is_name, r_is_name, i1, ll, h1, nm, h1']
theorem law_is_name_str {s : Str} {M : MS} (hs : s.length ≤ 1000) : f__law_is_name [.str s] M = .ok (.bl (nm s)) M := by
  have sm : small s.length = true := by unfold small; simp; omega
  have i1 : fIsi tb [.str s, .ty "str"] M = .ok (.bl true) M := isi_str rfl kb1
  have ll : fLen [.str s] M = .ok (.int s.length) M := by simp only [fLen, rGuard, sm, if_true]
  by_cases h1 : 1 ≤ (s.length : Int)
  · have h1' : 1 ≤ s.length := by omega
    by_cases h2 : (s.length : Int) ≤ 6
    · have h2' : s.length ≤ 6 := by omega
      simp (config := {decide := false}) only [fnM, fn, rThen, rIfS, rB, rOp2, rV, rC, rPut, rAsg, rRet, rFun, rCons, rNil, rNx, rOrT, rAndT, rNotT, rAndV, rOrV, rNotV, rChain, rTup, rLst, rLc, rComp, rItems, rRange1, rSl, rOpt, rMt, rFor, rCall, Res.bind, bindS, toB, lstOf, opI, bName, endF, itemsOf, wipeE, rGuard, gt_iff_lt, List.map_cons, List.map_nil, List.length_cons, List.length_nil, List.getElem?_cons_zero, List.getElem?_cons_succ, List.cons_append, List.nil_append, List.append_nil, List.replicate, List.set, decide_true, decide_false, if_true, if_false, ite_true, ite_false, Bool.false_eq_true, Bool.or_true, Bool.true_or, Bool.or_false, Bool.not_true, Bool.not_false, Bool.and_true, Bool.true_and, Bool.and_false, Bool.false_and, trim_same', f__law_is_name, r__law_is_name, i1, ll, h1, h2, sign_loop, chars_len, sm, fAll, letters_map, bools_map, Option.bind_some, nm, h1', h2']
      rw [List.all_map]
      rfl
    · have h2' : ¬ s.length ≤ 6 := by omega
      simp (config := {decide := false}) only [fnM, fn, rThen, rIfS, rB, rOp2, rV, rC, rPut, rAsg, rRet, rFun, rCons, rNil, rNx, rOrT, rAndT, rNotT, rAndV, rOrV, rNotV, rChain, rTup, rLst, rLc, rComp, rItems, rRange1, rSl, rOpt, rMt, rFor, rCall, Res.bind, bindS, toB, lstOf, opI, bName, endF, itemsOf, wipeE, rGuard, gt_iff_lt, List.map_cons, List.map_nil, List.length_cons, List.length_nil, List.getElem?_cons_zero, List.getElem?_cons_succ, List.cons_append, List.nil_append, List.append_nil, List.replicate, List.set, decide_true, decide_false, if_true, if_false, ite_true, ite_false, Bool.false_eq_true, Bool.or_true, Bool.true_or, Bool.or_false, Bool.not_true, Bool.not_false, Bool.and_true, Bool.true_and, Bool.and_false, Bool.false_and, trim_same', f__law_is_name, r__law_is_name, i1, ll, h1, h2, nm, h1', h2']
  · have h1' : ¬ 1 ≤ s.length := by omega
    simp (config := {decide := false}) only [fnM, fn, rThen, rIfS, rB, rOp2, rV, rC, rPut, rAsg, rRet, rFun, rCons, rNil, rNx, rOrT, rAndT, rNotT, rAndV, rOrV, rNotV, rChain, rTup, rLst, rLc, rComp, rItems, rRange1, rSl, rOpt, rMt, rFor, rCall, Res.bind, bindS, toB, lstOf, opI, bName, endF, itemsOf, wipeE, rGuard, gt_iff_lt, List.map_cons, List.map_nil, List.length_cons, List.length_nil, List.getElem?_cons_zero, List.getElem?_cons_succ, List.cons_append, List.nil_append, List.append_nil, List.replicate, List.set, decide_true, decide_false, if_true, if_false, ite_true, ite_false, Bool.false_eq_true, Bool.or_true, Bool.true_or, Bool.or_false, Bool.not_true, Bool.not_false, Bool.and_true, Bool.true_and, Bool.and_false, Bool.false_and, trim_same', f__law_is_name, r__law_is_name, i1, ll, h1, nm, h1']

theorem is_name_other {d : D} {M : MS} {n : String} (h : tyN d M = some (.inl n)) (hb : L2.kitB n "str" = some false) : f_is_name [d] M = .ok (.bl false) M := by
  have i1 : fIsi tb [d, .ty "str"] M = .ok (.bl false) M := isi_str h hb
  simp (config := {decide := false}) only [fnM, fn, rThen, rIfS, rB, rOp2, rV, rC, rPut, rAsg, rRet, rFun, rCons, rNil, rNx, rOrT, rAndT, rNotT, rAndV, rOrV, rNotV, rChain, rTup, rLst, rLc, rComp, rItems, rRange1, rSl, rOpt, rMt, rFor, rCall, Res.bind, bindS, toB, lstOf, opI, bName, endF, itemsOf, wipeE, rGuard, gt_iff_lt, List.map_cons, List.map_nil, List.length_cons, List.length_nil, List.getElem?_cons_zero, List.getElem?_cons_succ, List.cons_append, List.nil_append, List.append_nil, List.replicate, List.set, decide_true, decide_false, if_true, if_false, ite_true, ite_false, Bool.false_eq_true, Bool.or_true, Bool.true_or, Bool.or_false, Bool.not_true, Bool.not_false, Bool.and_true, Bool.true_and, Bool.and_false, Bool.false_and, trim_same', f_is_name, r_is_name, i1]
theorem same_bl {a b : Bool} {M : MS} : f__law_same 3 [.bl a, .bl b] M = .ok (.bl (a == b)) M := by
  have i1 : ∀ b : Bool, fIsi tb [.bl b, .ty "bool"] M = .ok (.bl true) M := fun b => isi_str rfl kb7
  have e1 : opEq false (.bl a) (.bl b) M = .ok (.bl (a == b)) M := by cases a <;> cases b <;> rfl
  have e2 : opIsN false (.bl b) .non M = .ok (.bl false) M := rfl
  simp (config := {decide := false}) only [fnM, fn, rThen, rIfS, rB, rOp2, rV, rC, rPut, rAsg, rRet, rFun, rCons, rNil, rNx, rOrT, rAndT, rNotT, rAndV, rOrV, rNotV, rChain, rTup, rLst, rLc, rComp, rItems, rRange1, rSl, rOpt, rMt, rFor, rCall, Res.bind, bindS, toB, lstOf, opI, bName, endF, itemsOf, wipeE, rGuard, gt_iff_lt, List.map_cons, List.map_nil, List.length_cons, List.length_nil, List.getElem?_cons_zero, List.getElem?_cons_succ, List.cons_append, List.nil_append, List.append_nil, List.replicate, List.set, decide_true, decide_false, if_true, if_false, ite_true, ite_false, Bool.false_eq_true, Bool.or_true, Bool.true_or, Bool.or_false, Bool.not_true, Bool.not_false, Bool.and_true, Bool.true_and, Bool.and_false, Bool.false_and, trim_same', f__law_same, r__law_same, i1, e1, e2]
theorem len_str {s : Str} {M : MS} (hs : s.length ≤ 1000) : fLen [.str s] M = .ok (.int s.length) M := by
  have sm : small s.length = true := by unfold small; simp; omega
  simp only [fLen, rGuard, sm, if_true]
theorem atI_in {α : Type} {l : List α} {v : Int} (h0 : 0 ≤ v) (h : v < l.length) : ∃ d, d ∈ l ∧ L2.atI l v = some d := by
  unfold L2.atI L2.ixN
  rw [if_pos h0, if_pos h]
  have hx : v.toNat < l.length := by omega
  exact ⟨l[v.toNat], List.getElem_mem hx, List.getElem?_eq_getElem hx⟩
theorem of_str {l : Nat} {M : MS} {s : Str} (h : IsDeal l M) (h1 : 1 ≤ s.length) (h2 : s.length ≤ 1000) : ∃ k mo, f__law_of [.ref l, .str s] M = .ok (.str ⟨#[k]⟩) (M.set l mo) ∧ IsDeal l (M.set l mo) := by
  obtain ⟨v, mo, e, h3, h4, h5⟩ := pick_ok (many := (s.length : Int)) h (by omega) (by omega)
  obtain ⟨k, _, e2⟩ := atI_in (l := s.cps.toList) h3 (by simpa [Str.length] using h4)
  have sm : small s.length = true := by unfold small; simp; omega
  refine ⟨k, mo, ?_, h5⟩
  simp (config := {decide := false}) only [fnM, fn, rThen, rIfS, rB, rOp2, rV, rC, rPut, rAsg, rRet, rFun, rCons, rNil, rNx, rOrT, rAndT, rNotT, rAndV, rOrV, rNotV, rChain, rTup, rLst, rLc, rComp, rItems, rRange1, rSl, rOpt, rMt, rFor, rCall, Res.bind, bindS, toB, lstOf, opI, bName, endF, itemsOf, wipeE, rGuard, gt_iff_lt, List.map_cons, List.map_nil, List.length_cons, List.length_nil, List.getElem?_cons_zero, List.getElem?_cons_succ, List.cons_append, List.nil_append, List.append_nil, List.replicate, List.set, decide_true, decide_false, if_true, if_false, ite_true, ite_false, Bool.false_eq_true, Bool.or_true, Bool.true_or, Bool.or_false, Bool.not_true, Bool.not_false, Bool.and_true, Bool.true_and, Bool.and_false, Bool.false_and, trim_same', f__law_of, r__law_of, len_str h2, and_self, e, opIx, e2, sm]
  exact trim_same (by simp)
theorem of_lst {l : Nat} {M : MS} {ds : List D} (h : IsDeal l M) (h1 : 1 ≤ ds.length) (h2 : ds.length ≤ 1000) : ∃ d mo, d ∈ ds ∧ f__law_of [.ref l, .lst ds] M = .ok d (M.set l mo) ∧ IsDeal l (M.set l mo) := by
  obtain ⟨v, mo, e, h3, h4, h5⟩ := pick_ok (many := (ds.length : Int)) h (by omega) (by omega)
  obtain ⟨d, m, e2⟩ := atI_in (l := ds) h3 h4
  refine ⟨d, mo, m, ?_, h5⟩
  simp (config := {decide := false}) only [fnM, fn, rThen, rIfS, rB, rOp2, rV, rC, rPut, rAsg, rRet, rFun, rCons, rNil, rNx, rOrT, rAndT, rNotT, rAndV, rOrV, rNotV, rChain, rTup, rLst, rLc, rComp, rItems, rRange1, rSl, rOpt, rMt, rFor, rCall, Res.bind, bindS, toB, lstOf, opI, bName, endF, itemsOf, wipeE, rGuard, gt_iff_lt, List.map_cons, List.map_nil, List.length_cons, List.length_nil, List.getElem?_cons_zero, List.getElem?_cons_succ, List.cons_append, List.nil_append, List.append_nil, List.replicate, List.set, decide_true, decide_false, if_true, if_false, ite_true, ite_false, Bool.false_eq_true, Bool.or_true, Bool.true_or, Bool.or_false, Bool.not_true, Bool.not_false, Bool.and_true, Bool.true_and, Bool.and_false, Bool.false_and, trim_same', f__law_of, r__law_of, fLen, and_self, e, opIx, e2]
  exact trim_same (by simp)
end K02

namespace K02
open PySem Q
theorem texts_one : ∀ {ys : List D}, (∀ y ∈ ys, ∃ k, y = D.str ⟨#[k]⟩) → ∃ ts, textsOf ys = some ts ∧ (ts.map (·.length)).sum = ys.length ∧ ts.length = ys.length
  | [], _ => ⟨[], rfl, rfl, rfl⟩
  | y :: ys, h => by
    obtain ⟨k, rfl⟩ := h y List.mem_cons_self
    obtain ⟨ts, h1, h2, h3⟩ := texts_one fun z m => h z (List.mem_cons_of_mem _ m)
    refine ⟨⟨#[k]⟩ :: ts, by simp only [textsOf, h1]; rfl, ?_, by simp [h3]⟩
    have : (⟨#[k]⟩ : Str).length = 1 := rfl
    simp only [List.map_cons, List.sum_cons, h2, this, List.length_cons]
    omega
theorem cut_le (z : Str) (lo hi : Option Int) : (L2.cutS z lo hi).length ≤ z.length := by
  unfold L2.cutS
  simp only [Str.length, List.size_toArray, List.length_take, List.length_drop, Array.length_toList]
  omega
theorem small_of {n : Nat} (h : n ≤ 1000) : small n = true := by unfold small; simp; omega
theorem near_of {n : Int} (h : 0 ≤ n) (h2 : n ≤ 1000) : near n = true := by unfold near; simp; omega
abbrev Env7 (ρ : Ev) : Prop := ∃ x0 x2 x3 x4 x5 x6 : Option D, ρ = [x0, some (.ref 0), x2, x3, x4, x5, x6]
theorem text_ok {x0 x2 x3 x4 x5 x6 : Option D} {M : MS} (h : IsDeal 0 M) : ∃ s M', rMt "str" fJoin (rC (.str "")) (rCons (rLc (rRange1 (rCons (rCall 2 f__law_pick [] (rCons (rV 1) (rCons (rC (.int 9)) rNil))) rNil)) [6] (bName 6) rTrue (rCall 2 f__law_of [] (rCons (rV 1) (rCons (rC (.str "abcdefghijklmnopqrstuvwxyz")) rNil)))) rNil) [x0, some (.ref 0), x2, x3, x4, x5, x6] M = .ok (.str s) M' ∧ IsDeal 0 M' ∧ s.length ≤ 9 := by
  obtain ⟨v, mo, e, h3, h4, h5⟩ := pick_ok (many := 9) h (by omega) (by omega)
  obtain ⟨ys, M2, e2, h6, h7, h8⟩ := loopC_all (ρ := [x0, some (.ref 0), x2, x3, x4, x5, none]) (bd := bName 6) (t := rTrue) (e := rCall 2 f__law_of [] (rCons (rV 1) (rCons (rC (.str "abcdefghijklmnopqrstuvwxyz")) rNil))) (IsDeal 0) (fun y => ∃ k, y = D.str ⟨#[k]⟩) (upto 0 v.toNat) (M.set 0 mo) h5 fun d _ M3 i3 => by
    obtain ⟨k, mo3, e3, i4⟩ := of_str i3 (s := "abcdefghijklmnopqrstuvwxyz") (by decide) (by decide)
    refine ⟨_, _, _, rfl, rfl, ?_, i4, k, rfl⟩
    simp only [rCall, rCons, rV, rC, rNil, Res.bind, List.set, List.getElem?_cons_zero, List.getElem?_cons_succ, List.append_nil, rGuard, List.length_cons, List.length_nil, e3]
    rfl
  obtain ⟨ts, t1, t2, t3⟩ := texts_one h8
  have hlen : (upto 0 v.toNat).length = v.toNat := by unfold upto; simp
  have hs : (Txt.join "" ts).length ≤ 9 := by
    rw [TL.join_eq]
    have := StrLaws.join_length_le "" ts
    have z : ("" : Str).length = 0 := rfl
    rw [z, Nat.mul_zero, t2, h7, hlen] at this
    omega
  refine ⟨Txt.join "" ts, M2, ?_, h6, hs⟩
  have n1 : near v = true := near_of h3 (by omega)
  have s1 : small v.toNat = true := small_of (by omega)
  have s2 : small ((ts.map (·.length)).sum + ts.length * ("" : Str).length) = true := by
    have z : ("" : Str).length = 0 := rfl
    rw [z, Nat.mul_zero, t2, h7, hlen]
    exact small_of (by omega)
  have ty : ∀ M : MS, tyD "str" (.str "") M = true := fun _ => rfl
  simp (config := {decide := false}) only [fnM, fn, rThen, rIfS, rB, rOp2, rV, rC, rPut, rAsg, rRet, rFun, rCons, rNil, rNx, rOrT, rAndT, rNotT, rAndV, rOrV, rNotV, rChain, rTup, rLst, rLc, rComp, rItems, rRange1, rSl, rOpt, rMt, rFor, rCall, Res.bind, bindS, toB, lstOf, opI, bName, endF, itemsOf, wipeE, rGuard, gt_iff_lt, List.map_cons, List.map_nil, List.length_cons, List.length_nil, List.getElem?_cons_zero, List.getElem?_cons_succ, List.cons_append, List.nil_append, List.append_nil, List.replicate, List.set, decide_true, decide_false, if_true, if_false, ite_true, ite_false, Bool.false_eq_true, Bool.or_true, Bool.true_or, Bool.or_false, Bool.not_true, Bool.not_false, Bool.and_true, Bool.true_and, Bool.and_false, Bool.false_and, trim_same', e, e2, n1, s1, hlen, ty, fJoin, t1, s2, Option.bind_some, and_self]

abbrev tens : List D := [.str "", .str "", .str "", .str "A", .str "0", .str " ", .str "_", .str "-", .str "\n", .str "z"]
theorem tens_short {d : D} (h : d ∈ tens) : ∃ t, d = .str t ∧ t.length ≤ 1 := by
  simp only [tens, List.mem_cons, List.not_mem_nil, or_false] at h
  rcases h with rfl | rfl | rfl | rfl | rfl | rfl | rfl | rfl | rfl | rfl <;> exact ⟨_, rfl, by decide⟩
abbrev odds (s : Str) : List D := [.non, .int 3, .bl true, .tup [], .tup [.str s], .lst [.str s], .lst [], .tup [.str "a", .str "b"]]
theorem odds_no {s : Str} {d : D} {M : MS} (h : d ∈ odds s) : f_is_name [d] M = .ok (.bl false) M := by
  simp only [odds, List.mem_cons, List.not_mem_nil, or_false] at h
  rcases h with rfl | rfl | rfl | rfl | rfl | rfl | rfl | rfl
  · exact is_name_other rfl kb3
  · exact is_name_other rfl kb2
  · exact is_name_other rfl kb4
  · exact is_name_other rfl kb5
  · exact is_name_other rfl kb5
  · exact is_name_other rfl kb6
  · exact is_name_other rfl kb6
  · exact is_name_other rfl kb5
noncomputable def rText : Rn D := rMt "str" fJoin (rC (.str "")) (rCons (rLc (rRange1 (rCons (rCall 2 f__law_pick [] (rCons (rV 1) (rCons (rC (.int 9)) rNil))) rNil)) [6] (bName 6) rTrue (rCall 2 f__law_of [] (rCons (rV 1) (rCons (rC (.str "abcdefghijklmnopqrstuvwxyz")) rNil)))) rNil)
theorem add_int {i j : Int} {M : MS} : opAdd (.int i) (.int j) M = .ok (.int (i + j)) M := rfl
theorem sl_str {z : Str} {lo hi : Option Int} {M : MS} (h : small z.length = true) : opSl (.str z) lo hi M = .ok (.str (L2.cutS z lo hi)) M := by
  simp only [opSl, rGuard, h, if_true]
noncomputable def rTurn : Sn := (rThen (rAsg rText (bName 3))
  (rThen (rAsg (rCall 2 f__law_pick [] (rCons (rV 1) (rCons (rOp2 opAdd (rFun fLen (rCons (rV 3) rNil)) (rC (.int 1))) rNil))) (bName 4))
  (rThen (rAsg (rOp2 opAdd (rOp2 opAdd (rSl (rV 3) (rOpt none) (rOpt (some (rV 4)))) (rCall 2 f__law_of [] (rCons (rV 1) (rCons (rLst (rCons (rC (.str "")) (rCons (rC (.str "")) (rCons (rC (.str "")) (rCons (rC (.str "A")) (rCons (rC (.str "0")) (rCons (rC (.str " ")) (rCons (rC (.str "_")) (rCons (rC (.str "-")) (rCons (rC (.str "\n")) (rCons (rC (.str "z")) rNil))))))))))) rNil)))) (rSl (rV 3) (rOpt (some (rV 4))) (rOpt none))) (bName 3))
  (rThen (rIfS (rNotT (rB (rCall 2 (f__law_same 3) [] (rCons (rCall 1 f_is_name [] (rCons (rV 3) rNil)) (rCons (rCall 1 f__law_is_name [] (rCons (rV 3) rNil)) rNil))))) (rRet (rC (.bl false))) rNx)
  (rThen (rAsg (rCall 2 f__law_of [] (rCons (rV 1) (rCons (rLst (rCons (rC .non) (rCons (rC (.int 3)) (rCons (rC (.bl true)) (rCons (rTup rNil) (rCons (rTup (rCons (rV 3) rNil)) (rCons (rLst (rCons (rV 3) rNil)) (rCons (rLst rNil) (rCons (rTup (rCons (rC (.str "a")) (rCons (rC (.str "b")) rNil))) rNil))))))))) rNil))) (bName 5))
  (rIfS (rNotT (rB (rCall 2 (f__law_same 3) [] (rCons (rArgs 0 1 1 f_is_name [.k 0] [] rNil (rCons (rV 5) rNil)) (rCons (rC (.bl false)) rNil))))) (rRet (rC (.bl false))) rNx))))))
theorem turn_ok {x0 x2 x3 x4 x5 x6 : Option D} {M : MS} (h : IsDeal 0 M) : ∃ ρ' M', rTurn [x0, some (.ref 0), x2, x3, x4, x5, x6] M = .nx ρ' M' ∧ Env7 ρ' ∧ IsDeal 0 M' := by
  obtain ⟨s, M1, e1, i1, l1⟩ := text_ok (x0 := x0) (x2 := x2) (x3 := x3) (x4 := x4) (x5 := x5) (x6 := x6) h
  have e1' : rText [x0, some (.ref 0), x2, x3, x4, x5, x6] M = .ok (.str s) M1 := e1
  have ll : ∀ M, fLen [.str s] M = .ok (.int s.length) M := fun M => len_str (by omega)
  obtain ⟨v, mo, e2, h3, h4, i2⟩ := pick_ok (many := (s.length : Int) + 1) i1 (by omega) (by omega)
  obtain ⟨d, mo3, hd, e3, i3⟩ := of_lst (ds := tens) i2 (by decide) (by decide)
  obtain ⟨t, rfl, ht⟩ := tens_short hd
  have c1 := cut_le s none (some v)
  have c2 := cut_le s (some v) none
  have a1 : ∀ M, opAdd (.str (L2.cutS s none (some v))) (.str t) M = .ok (.str (L2.cutS s none (some v) ++ t)) M := fun M => by
    simp only [opAdd, rGuard, small_of (show (L2.cutS s none (some v)).length + t.length ≤ 1000 by omega), if_true]
  have a2 : ∀ M, opAdd (.str (L2.cutS s none (some v) ++ t)) (.str (L2.cutS s (some v) none)) M = .ok (.str (L2.cutS s none (some v) ++ t ++ L2.cutS s (some v) none)) M := fun M => by
    have := Str.length_append (L2.cutS s none (some v)) t
    simp only [opAdd, rGuard, small_of (show (L2.cutS s none (some v) ++ t).length + (L2.cutS s (some v) none).length ≤ 1000 by omega), if_true]
  have lw : (L2.cutS s none (some v) ++ t ++ L2.cutS s (some v) none).length ≤ 1000 := by
    rw [Str.length_append, Str.length_append]
    omega
  generalize hw : L2.cutS s none (some v) ++ t ++ L2.cutS s (some v) none = w at a2 lw
  have n1 : ∀ M, f_is_name [.str w] M = .ok (.bl (nm w)) M := fun M => is_name_str lw
  have n2 : ∀ M, f__law_is_name [.str w] M = .ok (.bl (nm w)) M := fun M => law_is_name_str lw
  have s1 : ∀ (b : Bool) M, f__law_same 3 [.bl b, .bl b] M = .ok (.bl true) M := fun b M => by
    have := same_bl (a := b) (b := b) (M := M)
    rwa [beq_self_eq_true] at this
  obtain ⟨o, mo4, ho, e4, i4⟩ := of_lst (ds := odds w) i3 (by simp) (by simp)
  have n3 : ∀ M, f_is_name [o] M = .ok (.bl false) M := fun M => odds_no ho
  have sm1 : small s.length = true := small_of (by omega)
  have sq : ∀ n : Nat, n ≤ 1000 → small n = true := fun n hn => small_of hn
  refine ⟨[x0, some (.ref 0), x2, some (.str w), some (.int v), some o, x6], _, ?_, ⟨_, _, _, _, _, _, rfl⟩, i4⟩
  have bd : ∀ n : Nat, n ≤ 20 → small n = true := fun n hn => small_of (by omega)
  have z8 : small (0 + 1 + 1 + 1 + 1 + 1 + 1 + 1 + 1) = true := rfl
  have z10 : small (0 + 1 + 1 + 1 + 1 + 1 + 1 + 1 + 1 + 1 + 1) = true := rfl
  have z0 : small 0 = true := rfl
  have z1 : small (0 + 1) = true := rfl
  have z2 : small (0 + 1 + 1) = true := rfl
  simp (config := {decide := false}) only [fnM, fn, rThen, rIfS, rB, rOp2, rV, rC, rPut, rAsg, rRet, rFun, rCons, rNil, rNx, rOrT, rAndT, rNotT, rAndV, rOrV, rNotV, rChain, rTup, rLst, rLc, rComp, rItems, rRange1, rSl, rOpt, rMt, rFor, rCall, Res.bind, bindS, toB, lstOf, opI, bName, endF, itemsOf, wipeE, rGuard, gt_iff_lt, List.map_cons, List.map_nil, List.length_cons, List.length_nil, List.getElem?_cons_zero, List.getElem?_cons_succ, List.cons_append, List.nil_append, List.append_nil, List.replicate, List.set, decide_true, decide_false, if_true, if_false, ite_true, ite_false, Bool.false_eq_true, Bool.or_true, Bool.true_or, Bool.or_false, Bool.not_true, Bool.not_false, Bool.and_true, Bool.true_and, Bool.and_false, Bool.false_and, trim_same', rTurn, e1', ll, add_int, e2, sl_str sm1, e3, a1, a2, n1, n2, s1, e4, n3, z0, z1, z2, z8, z10, and_self, rArgs, arr, pick1, List.filterMap]
theorem trim_nil {b : Bool} {M : MS} : trim [] (.ok (.bl b) M) = .ok (.bl b) (M.take 0) := by
  simp only [trim]
  by_cases q : M.length = ([] : MS).length
  · rw [if_pos q, List.length_eq_zero_iff.mp q]; rfl
  · rw [if_neg q, if_pos ⟨⟨fun l mo hl _ => absurd hl (Nat.not_lt_zero l)⟩, by simp [below]⟩]
    rfl
theorem law_pure (ns : List Int) (hl : ns.length ≤ 63) : ∃ M', f_law [.scr (ns.map D.int)] [] = .ok (.bl true) M' := by
  obtain ⟨M1, e1, i1, _⟩ := deal_ok hl
  obtain ⟨ρ', M2, e2, ⟨x0, x2, x3, x4, x5, x6, rfl⟩, i2⟩ := loopF_all (bd := bName 2) (body := rTurn) (fun ρ M => Env7 ρ ∧ IsDeal 0 M) (upto 0 12) [some (.scr (ns.map D.int)), some (.ref 0), none, none, none, none, none] M1 ⟨⟨_, _, _, _, _, _, rfl⟩, i1⟩ (by
    rintro d _ ρ M ⟨⟨x0, x2, x3, x4, x5, x6, rfl⟩, h⟩
    obtain ⟨ρ', M', h1, h2, h3⟩ := turn_ok (x0 := x0) (x2 := some d) (x3 := x3) (x4 := x4) (x5 := x5) (x6 := x6) h
    exact ⟨_, rfl, ρ', M', h1, h2, h3⟩)
  have a1 : f_is_name [.str "aaaaaa"] M2 = .ok (.bl true) M2 := (is_name_str (by decide)).trans (by rw [show nm "aaaaaa" = true by decide])
  have a2 : f_is_name [.str "aaaaaaa"] M2 = .ok (.bl false) M2 := (is_name_str (by decide)).trans (by rw [show nm "aaaaaaa" = false by decide])
  have n1 : near 12 = true := rfl
  have e2' : loopF (bName 2) rTurn (upto 0 (Int.toNat 12)) [some (.scr (ns.map D.int)), some (.ref 0), none, none, none, none, none] M1 = _ := e2
  refine ⟨M2.take 0, ?_⟩
  show trim [] (endF ((rThen (rAsg (rCall 1 f__law_deal [] (rCons (rV 0) rNil)) (bName 1))
  (rThen (rFor (rRange1 (rCons (rC (.int 12)) rNil)) (bName 2) rTurn)
  (rRet (rAndV (rCall 1 f_is_name [] (rCons (rC (.str "aaaaaa")) rNil)) (rNotV (rCall 1 f_is_name [] (rCons (rC (.str "aaaaaaa")) rNil))))))) [some (.scr (ns.map D.int)), none, none, none, none, none, none] [])) = _
  simp (config := {decide := false}) only [fnM, fn, rThen, rIfS, rB, rOp2, rV, rC, rPut, rAsg, rRet, rFun, rCons, rNil, rNx, rOrT, rAndT, rNotT, rAndV, rOrV, rNotV, rChain, rTup, rLst, rLc, rComp, rItems, rRange1, rSl, rOpt, rMt, rFor, rCall, Res.bind, bindS, toB, lstOf, opI, bName, endF, itemsOf, wipeE, rGuard, gt_iff_lt, List.map_cons, List.map_nil, List.length_cons, List.length_nil, List.getElem?_cons_zero, List.getElem?_cons_succ, List.cons_append, List.nil_append, List.append_nil, List.replicate, List.set, decide_true, decide_false, if_true, if_false, ite_true, ite_false, Bool.false_eq_true, Bool.or_true, Bool.true_or, Bool.or_false, Bool.not_true, Bool.not_false, Bool.and_true, Bool.true_and, Bool.and_false, Bool.false_and, trim_same', e1, n1, e2', a1, a2, and_self]
  exact trim_nil
end K02

namespace K02
open PySem PySem.Spec PyProof.Rows L2 Q
/-! ### the head -/
abbrev R : PySem.W.OpenRow := PySem.W.OpenLaw.row PySem.Challenge.rw_queuecut_k02_names
abbrev hk : PySem.W.Hook := He.hookD 4 fas fns
def ob (s : PySem.W.SharedT) : He.AlD := He.obsDG 4 fas fns (HandSHeadRun.getT s)
theorem ob_is (s : PySem.W.SharedT) : ob s = hk.obs s.abs := He.obsDG_eq (HandSHeadRun.getT_eq s)
theorem top_run (w : World) : HandSHeadRun.RunEq R (PySem.W.view R.prog [10]) hk ob 2000 ["LETTERS", "MOST_LETTERS", "is_name", "_law_deal", "_law_pick", "_law_of", "_law_same", "_law_is_name"] w := by
  intro os
  kernel_rfl
theorem pure_law (ns : List Int) (hl : ns.length ≤ 63) : ∃ M', f_law [.scr (ns.map D.int)] [] = .ok (.bl true) M' := law_pure ns hl
def clOf (K : PySem.W.Frag) : Cl := ⟨K, fun _ => none⟩
theorem law_facts {P : Program} {w : World} {K : PySem.W.Frag} {h : Heap} {mg : Str → Option Value} {f : Addr} (X : K.In h) (G : h.Ns mainGlobals mg) (hf : mg ("law" : Str) = some (.ref f)) (says : He.SaysD fas fns K) :
    ∃ fd : FuncData, (∀ (s : Shared) (v : Value), BindsTo s fd ⟨[v], []⟩ [("_law_script", v)]) ∧ ∀ base : Heap, K.In base → base.Ns mainGlobals mg → FnOk P w K mg base (L2.CX P w) 5 f fd ["_law_script"] (spF (clOf K) 1 f_law) := by
  have S : Kn fas fns (clOf K) mg := ⟨fun i f e => says.fact i e, fun i d e => says.def_ i e, ⟨h, X, G⟩⟩
  have T : IsOk (clOf K) tb := ⟨fun _ _ _ m => absurd m (by simp [tb]), fun _ _ _ _ m => absurd m (by simp [tb])⟩
  have e := hf.symm.trans (S.glo 18)
  cases e
  obtain ⟨fd, F⟩ := says.def_ 6 (d := d_law) rfl
  have b := FunD.bindsA (ps := ["_law_script"]) (x := "law") (qual := "law") (params := defArgs s_law) (body := defBody s_law) (scope := defScope s_law) F fun _ _ _ _ _ _ us hl => match us, hl with | [_], _ => rfl
  refine ⟨fd, fun s v => b s [v] rfl, fun base _ _ => ?_⟩
  obtain ⟨fd3, h3, h4⟩ := (ok_all (P := P) (w := w) (base := base) S T).ex
  have := funD_one F h4
  subst this
  exact h3
end K02
open PySem PySem.W PySem.Calls PyProof.Rows
theorem PySem.Challenge.cw_queuecut_k02_names_holds : PySem.Challenge.rw_queuecut_k02_names.Holds := by
  w_on; o_law
  refine HandSHeadRun.head_any (r := OpenLaw.row PySem.Challenge.rw_queuecut_k02_names) (q := view (OpenLaw.row PySem.Challenge.rw_queuecut_k02_names).prog [10]) (H := K02.hk) (ob := K02.ob) (M := 2000) (loose := ["LETTERS", "MOST_LETTERS", "is_name", "_law_deal", "_law_pick", "_law_of", "_law_same", "_law_is_name"]) (d := HandSHeadRun.topDef (OpenLaw.row PySem.Challenge.rw_queuecut_k02_names).prog 10) (kwd := []) K02.ob_is
    (by kernel_rfl) (fun s => by kernel_rfl) K02.top_run (by kernel_rfl) (by kernel_rfl) (by kernel_rfl) (by rfl) (by first | assumption | decide +kernel) (by decide +kernel) ⟨rfl, rfl, rfl, rfl, rfl, by decide +kernel⟩ ?hw ?hc
  case hw => w_witness2
  case hc =>
    refine Q.law_end (l := PySem.Challenge.rw_queuecut_k02_names) (n := 63) (k := 5) (x := "_law_script") rfl (by decide) (by kernel_rfl) ⟨rfl, by decide, by decide⟩ ?_
    intro w mg fa h Y G hmg0
    obtain ⟨K, KX, says⟩ := Y
    have hmg : mg ("law" : PySem.Str) = some (.ref fa) := by
      have e : (HandSHeadRun.topDef (OpenLaw.row PySem.Challenge.rw_queuecut_k02_names).prog 10).name = ("law" : PySem.Str) := by kernel_rfl
      rw [← e]
      exact hmg0
    obtain ⟨fd, hb, hF⟩ := K02.law_facts (P := (PySem.Challenge.rw_queuecut_k02_names).prog) (w := w) KX G hmg says
    exact ⟨K02.clOf K, fd, K02.f_law, KX, hb, K02.pure_law, hF⟩

